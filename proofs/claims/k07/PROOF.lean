import PyProof.Rows.All
import Wide.All
import OpenK.AllK
import Wide.FinOn
import HandS.ForMost
import HandS.Wide
import HandS.Style
import HandS.IsInst
import HandS.Conv
import HandS.Walk
import HandS.Codes
import HandS.TupAny
import HandS.RaiseMore
import HandS.Flt
import HandS.Flow
import KE.GoesMore
import HandS.Ends
import HandS.ExcInit
import HandS.ExcField
import HandS.ExcOwn
import HandS.TryMany
import HandS.TryOnly
import PySem.Challenge.RW_spoiltways_k07_distances
set_option Elab.async false
set_option linter.all false
set_option maxRecDepth 100000
set_option maxHeartbeats 4000000
namespace Lev
/-- the fewest changes between two lists of signs -/
def lev : List Nat → List Nat → Nat
  | [], ys => ys.length
  | _ :: xs, [] => xs.length + 1
  | x :: xs, y :: ys => min (lev xs ys + if x = y then 0 else 1) (min (lev xs (y :: ys) + 1) (lev (x :: xs) ys + 1))
termination_by xs ys => xs.length + ys.length

/-- some changes, told by their number -/
inductive Ed : List Nat → List Nat → Nat → Prop
  | nil : Ed [] [] 0
  | keep {a xs ys n} : Ed xs ys n → Ed (a :: xs) (a :: ys) n
  | swap {a b xs ys n} : Ed xs ys n → Ed (a :: xs) (b :: ys) (n + 1)
  | drop {a xs ys n} : Ed xs ys n → Ed (a :: xs) ys (n + 1)
  | add {b xs ys n} : Ed xs ys n → Ed xs (b :: ys) (n + 1)

theorem Ed.adds : ∀ ys : List Nat, Ed [] ys ys.length
  | [] => .nil
  | _ :: ys => .add (Ed.adds ys)
theorem Ed.drops : ∀ xs : List Nat, Ed xs [] xs.length
  | [] => .nil
  | _ :: xs => .drop (Ed.drops xs)
theorem Ed.refl : ∀ xs : List Nat, Ed xs xs 0
  | [] => .nil
  | _ :: xs => .keep (Ed.refl xs)
theorem Ed.symm {xs ys n} (h : Ed xs ys n) : Ed ys xs n := by
  induction h with
  | nil => exact .nil
  | keep _ ih => exact .keep ih
  | swap _ ih => exact .swap ih
  | drop _ ih => exact .add ih
  | add _ ih => exact .drop ih
theorem Ed.app {xs ys n} (h : Ed xs ys n) {us vs m} (k : Ed us vs m) : Ed (xs ++ us) (ys ++ vs) (n + m) := by
  induction h with
  | nil => simpa using k
  | keep _ ih => exact .keep ih
  | swap _ ih => have := Ed.swap (a := ‹_›) (b := ‹_›) ih; simp only [List.cons_append]; rw [Nat.add_right_comm]; exact .swap ih
  | drop _ ih => simp only [List.cons_append]; rw [Nat.add_right_comm]; exact .drop ih
  | add _ ih => simp only [List.cons_append]; rw [Nat.add_right_comm]; exact .add ih
theorem Ed.rev {xs ys n} (h : Ed xs ys n) : Ed xs.reverse ys.reverse n := by
  induction h with
  | nil => exact .nil
  | keep _ ih => simpa using ih.app (.keep .nil)
  | swap _ ih => simpa using ih.app (.swap .nil)
  | drop _ ih => simpa using ih.app (.drop .nil)
  | add _ ih => simpa using ih.app (.add .nil)
theorem Ed.lens {xs ys n} (h : Ed xs ys n) : xs.length ≤ ys.length + n ∧ ys.length ≤ xs.length + n := by
  induction h with
  | nil => simp
  | keep _ ih => simp only [List.length_cons]; omega
  | swap _ ih => simp only [List.length_cons]; omega
  | drop _ ih => simp only [List.length_cons]; omega
  | add _ ih => simp only [List.length_cons]; omega

theorem lev_ed : ∀ xs ys : List Nat, Ed xs ys (lev xs ys) := by
  intro xs ys
  fun_induction lev xs ys with
  | case1 ys => exact Ed.adds ys
  | case2 x xs => exact Ed.drops (x :: xs)
  | case3 x xs y ys i1 i2 i3 =>
    rcases Nat.le_total (lev xs ys + if x = y then 0 else 1) (min (lev xs (y :: ys) + 1) (lev (x :: xs) ys + 1)) with h | h
    · rw [Nat.min_eq_left h]
      by_cases e : x = y
      · subst e; simpa using Ed.keep i1
      · rw [if_neg e]; exact .swap i1
    · rw [Nat.min_eq_right h]
      rcases Nat.le_total (lev xs (y :: ys) + 1) (lev (x :: xs) ys + 1) with h | h
      · rw [Nat.min_eq_left h]; exact .drop i2
      · rw [Nat.min_eq_right h]; exact .add i3
theorem lev_nil (ys : List Nat) : lev [] ys = ys.length := by rw [lev]
theorem lev_nil' : ∀ xs : List Nat, lev xs [] = xs.length
  | [] => by rw [lev_nil]
  | x :: xs => by rw [lev]; rfl
theorem lev_cons (x y : Nat) (xs ys : List Nat) : lev (x :: xs) (y :: ys) = min (lev xs ys + if x = y then 0 else 1) (min (lev xs (y :: ys) + 1) (lev (x :: xs) ys + 1)) := by rw [lev]
theorem lev_drop (x : Nat) (xs ys : List Nat) : lev (x :: xs) ys ≤ lev xs ys + 1 := by
  cases ys with
  | nil => rw [lev_nil', lev_nil']; simp
  | cons y ys => rw [lev_cons]; omega
theorem lev_add (y : Nat) (xs ys : List Nat) : lev xs (y :: ys) ≤ lev xs ys + 1 := by
  cases xs with
  | nil => rw [lev_nil, lev_nil]; simp
  | cons x xs => rw [lev_cons]; omega
theorem lev_swap (x y : Nat) (xs ys : List Nat) : lev (x :: xs) (y :: ys) ≤ lev xs ys + 1 := by
  rw [lev_cons]; split <;> omega
/-- dropping a letter on one side changes the distance by at most one -/
theorem lev_undrop (x : Nat) (xs ys : List Nat) : lev xs ys ≤ lev (x :: xs) ys + 1 := by
  induction ys generalizing xs x with
  | nil => rw [lev_nil', lev_nil']; simp; omega
  | cons y ys ih =>
    have a := lev_cons x y xs ys
    have b := lev_add y xs ys
    have c := ih x xs
    rw [a]
    split <;> omega
theorem lev_unadd (y : Nat) (xs ys : List Nat) : lev xs ys ≤ lev xs (y :: ys) + 1 := by
  induction xs generalizing ys y with
  | nil => rw [lev_nil, lev_nil]; simp; omega
  | cons x xs ih =>
    have a := lev_cons x y xs ys
    have b := lev_drop x xs ys
    have c := ih y ys
    rw [a]
    split <;> omega
theorem lev_keep (a : Nat) (xs ys : List Nat) : lev (a :: xs) (a :: ys) = lev xs ys := by
  rw [lev_cons]
  have h1 := lev_unadd a xs ys
  have h2 := lev_undrop a xs ys
  simp
  omega
theorem lev_least {xs ys n} (h : Ed xs ys n) : lev xs ys ≤ n := by
  induction h with
  | nil => rw [lev_nil]; simp
  | keep _ ih => rw [lev_keep]; exact ih
  | swap _ ih => exact Nat.le_trans (lev_swap _ _ _ _) (by omega)
  | drop _ ih => exact Nat.le_trans (lev_drop _ _ _) (by omega)
  | add _ ih => exact Nat.le_trans (lev_add _ _ _) (by omega)
theorem lev_symm (xs ys : List Nat) : lev xs ys = lev ys xs :=
  Nat.le_antisymm (lev_least (lev_ed ys xs).symm) (lev_least (lev_ed xs ys).symm)
theorem lev_rev (xs ys : List Nat) : lev xs.reverse ys.reverse = lev xs ys :=
  Nat.le_antisymm (lev_least (lev_ed xs ys).rev) (by
    have h := lev_least (lev_ed xs.reverse ys.reverse).rev
    simpa using h)
theorem lev_self (xs : List Nat) : lev xs xs = 0 := Nat.le_zero.mp (lev_least (Ed.refl xs))
theorem lev_app (xs ys us vs : List Nat) : lev (xs ++ us) (ys ++ vs) ≤ lev xs ys + lev us vs := lev_least ((lev_ed xs ys).app (lev_ed us vs))
theorem lev_lens (xs ys : List Nat) : xs.length ≤ ys.length + lev xs ys ∧ ys.length ≤ xs.length + lev xs ys := (lev_ed xs ys).lens
theorem lev_le_max (xs ys : List Nat) : lev xs ys ≤ max xs.length ys.length := by
  induction xs generalizing ys with
  | nil => rw [lev_nil]; simp
  | cons x xs ih =>
    cases ys with
    | nil => rw [lev_nil']; simp
    | cons y ys =>
      have h := lev_swap x y xs ys
      have k := ih ys
      simp only [List.length_cons]
      omega
theorem lev_pre (a xs ys : List Nat) : lev (a ++ xs) (a ++ ys) = lev xs ys := by
  induction a with
  | nil => rfl
  | cons x a ih => rw [List.cons_append, List.cons_append, lev_keep, ih]
theorem lev_suf (a xs ys : List Nat) : lev (xs ++ a) (ys ++ a) = lev xs ys := by
  rw [← lev_rev, List.reverse_append, List.reverse_append, lev_pre, lev_rev]
/-- from behind -/
theorem lev_snoc (x y : Nat) (xs ys : List Nat) : lev (xs ++ [x]) (ys ++ [y]) = min (lev xs ys + if x = y then 0 else 1) (min (lev xs (ys ++ [y]) + 1) (lev (xs ++ [x]) ys + 1)) := by
  rw [← lev_rev (xs ++ [x]), ← lev_rev xs ys, ← lev_rev xs (ys ++ [y]), ← lev_rev (xs ++ [x]) ys]
  simp only [List.reverse_append, List.reverse_cons, List.reverse_nil, List.nil_append, List.singleton_append]
  rw [lev_cons]
/-- the triangle -/
theorem Ed.trans {xs ys n} (h : Ed xs ys n) : ∀ {zs m}, Ed ys zs m → ∃ k, k ≤ n + m ∧ Ed xs zs k := by
  induction h with
  | nil => exact fun {zs m} q => ⟨m, by omega, q⟩
  | @drop a xs ys n _ ih =>
    intro zs m q
    obtain ⟨k, h1, h2⟩ := ih q
    exact ⟨k + 1, by omega, .drop h2⟩
  | @keep a xs ys n p ih =>
    intro zs m q
    generalize e : a :: ys = ws at q
    induction q with
    | nil => cases e
    | keep q _ =>
      cases e
      obtain ⟨k, h1, h2⟩ := ih q
      exact ⟨k, h1, .keep h2⟩
    | swap q _ =>
      cases e
      obtain ⟨k, h1, h2⟩ := ih q
      exact ⟨k + 1, by omega, .swap h2⟩
    | drop q _ =>
      cases e
      obtain ⟨k, h1, h2⟩ := ih q
      exact ⟨k + 1, by omega, .drop h2⟩
    | add q jh =>
      obtain ⟨k, h1, h2⟩ := jh e
      exact ⟨k + 1, by omega, .add h2⟩
  | @swap a b xs ys n p ih =>
    intro zs m q
    generalize e : b :: ys = ws at q
    induction q with
    | nil => cases e
    | keep q _ =>
      cases e
      obtain ⟨k, h1, h2⟩ := ih q
      exact ⟨k + 1, by omega, .swap h2⟩
    | swap q _ =>
      cases e
      obtain ⟨k, h1, h2⟩ := ih q
      exact ⟨k + 1, by omega, .swap h2⟩
    | drop q _ =>
      cases e
      obtain ⟨k, h1, h2⟩ := ih q
      exact ⟨k + 1, by omega, .drop h2⟩
    | add q jh =>
      obtain ⟨k, h1, h2⟩ := jh e
      exact ⟨k + 1, by omega, .add h2⟩
  | @add b xs ys n p ih =>
    intro zs m q
    generalize e : b :: ys = ws at q
    induction q with
    | nil => cases e
    | keep q _ =>
      cases e
      obtain ⟨k, h1, h2⟩ := ih q
      exact ⟨k + 1, by omega, .add h2⟩
    | swap q _ =>
      cases e
      obtain ⟨k, h1, h2⟩ := ih q
      exact ⟨k + 1, by omega, .add h2⟩
    | drop q _ =>
      cases e
      obtain ⟨k, h1, h2⟩ := ih q
      exact ⟨k, by omega, h2⟩
    | add q jh =>
      obtain ⟨k, h1, h2⟩ := jh e
      exact ⟨k + 1, by omega, .add h2⟩
theorem lev_tri (xs ys zs : List Nat) : lev xs zs ≤ lev xs ys + lev ys zs := by
  obtain ⟨k, h1, h2⟩ := (lev_ed xs ys).trans (lev_ed ys zs)
  exact Nat.le_trans (lev_least h2) h1
end Lev
namespace Lev
/-- what stands at place k of the band behind at letters -/
def cell (M : Nat) (l r : List Nat) (at' k : Nat) : Int :=
  if M ≤ at' + k ∧ at' + k ≤ M + r.length then ((min (lev (l.take at') (r.take (at' + k - M))) (M + 1) : Nat) : Int) else (M : Int) + 1
def band (M : Nat) (l r : List Nat) (at' : Nat) : List Int := (List.range (2 * M + 1)).map (cell M l r at')
theorem band_len (M : Nat) (l r : List Nat) (a : Nat) : (band M l r a).length = 2 * M + 1 := by simp [band]
theorem band_get {M : Nat} {l r : List Nat} {a k : Nat} (h : k < 2 * M + 1) : (band M l r a)[k]? = some (cell M l r a k) := by
  simp [band, List.getElem?_map, List.getElem?_range h]
theorem cell_first {M : Nat} {l r : List Nat} {k : Nat} (h : k < 2 * M + 1) : cell M l r 0 k = if M ≤ k ∧ k ≤ M + r.length then (k : Int) - M else (M : Int) + 1 := by
  unfold cell
  by_cases c : M ≤ 0 + k ∧ 0 + k ≤ M + r.length
  · rw [if_pos c, if_pos (by omega), List.take_zero, lev_nil, List.length_take]
    omega
  · rw [if_neg c, if_neg (by omega)]
/-- the ways to a place -/
def ways (M : Nat) (l r : List Nat) (a : Nat) (x : Nat) (k : Nat) : List Int :=
  let place : Int := (a : Int) + 1 + k - M
  [(M : Int) + 1] ++ (if 0 < place ∧ place ≤ r.length then [cell M l r a k + (if some x = r[(place - 1).toNat]? then 0 else 1)] else [])
    ++ (if (0 < place ∧ place ≤ r.length) ∧ 0 < k then [cell M l r (a + 1) (k - 1) + 1] else [])
    ++ (if (0 ≤ place ∧ place ≤ r.length) ∧ k < 2 * M then [cell M l r a (k + 1) + 1] else [])
theorem take_snoc {l : List Nat} {a x : Nat} (h : l[a]? = some x) : l.take (a + 1) = l.take a ++ [x] := by
  rw [List.take_add_one, h]; rfl
theorem way_least {M : Nat} {l r : List Nat} {a x k : Nat} (hx : l[a]? = some x) (hk : k < 2 * M + 1) {m : Int} (hm : m ∈ ways M l r a x k) (hl : ∀ y, y ∈ ways M l r a x k → m ≤ y) :
    m = cell M l r (a + 1) k := by
  have ha : a < l.length := (List.getElem?_eq_some_iff.mp hx).1
  have el := take_snoc hx
  unfold ways at hm hl
  simp only [List.mem_append, List.mem_singleton] at hm hl
  by_cases c0 : a + 1 + k < M
  · -- left of the text
    have n1 : ¬ (0 < (a : Int) + 1 + k - M ∧ (a : Int) + 1 + k - M ≤ r.length) := by omega
    have n2 : ¬ (0 ≤ (a : Int) + 1 + k - M ∧ (a : Int) + 1 + k - M ≤ r.length) := by omega
    rw [if_neg n1, if_neg (fun z => n1 z.1), if_neg (fun z => n2 z.1)] at hm
    simp only [List.not_mem_nil, or_false] at hm
    unfold cell
    rw [if_neg (by omega)]; exact hm
  by_cases c1 : M + r.length < a + 1 + k
  · have n1 : ¬ (0 < (a : Int) + 1 + k - M ∧ (a : Int) + 1 + k - M ≤ r.length) := by omega
    have n2 : ¬ (0 ≤ (a : Int) + 1 + k - M ∧ (a : Int) + 1 + k - M ≤ r.length) := by omega
    rw [if_neg n1, if_neg (fun z => n1 z.1), if_neg (fun z => n2 z.1)] at hm
    simp only [List.not_mem_nil, or_false] at hm
    unfold cell
    rw [if_neg (by omega)]; exact hm
  have hc : cell M l r (a + 1) k = ((min (lev (l.take (a + 1)) (r.take (a + 1 + k - M))) (M + 1) : Nat) : Int) := by
    unfold cell; rw [if_pos (by omega)]
  by_cases c2 : a + 1 + k = M
  · -- ahead of the first letter
    have n1 : ¬ (0 < (a : Int) + 1 + k - M ∧ (a : Int) + 1 + k - M ≤ r.length) := by omega
    have n2 : (0 ≤ (a : Int) + 1 + k - M ∧ (a : Int) + 1 + k - M ≤ r.length) := by omega
    have n3 : k < 2 * M := by omega
    have e1 : cell M l r a (k + 1) = (a : Int) := by
      unfold cell
      rw [if_pos (by omega), show a + (k + 1) - M = 0 by omega, List.take_zero, lev_nil', List.length_take]
      omega
    have e2 : cell M l r (a + 1) k = (a : Int) + 1 := by
      rw [hc, show a + 1 + k - M = 0 by omega, List.take_zero, lev_nil', List.length_take]
      omega
    have n5 : ¬ ((0 < (a : Int) + 1 + k - M ∧ (a : Int) + 1 + k - M ≤ r.length) ∧ 0 < k) := fun z => n1 z.1
    have n6 : ((0 ≤ (a : Int) + 1 + k - M ∧ (a : Int) + 1 + k - M ≤ r.length) ∧ k < 2 * M) := ⟨n2, n3⟩
    simp only [if_neg n1, if_neg n5, if_pos n6, List.not_mem_nil, or_false, List.mem_singleton] at hm hl
    rw [e1] at hm hl
    rw [e2]
    have := hl _ (.inr rfl)
    have := hl _ (.inl rfl)
    omega
  · obtain ⟨p, hp⟩ : ∃ p, a + k = M + p := ⟨a + k - M, by omega⟩
    have hpr : p < r.length := by omega
    obtain ⟨y, hy⟩ : ∃ y, r[p]? = some y := ⟨r[p], List.getElem?_eq_getElem hpr⟩
    have er := take_snoc hy
    have n1 : (0 < (a : Int) + 1 + k - M ∧ (a : Int) + 1 + k - M ≤ r.length) := by omega
    have n2 : (0 ≤ (a : Int) + 1 + k - M ∧ (a : Int) + 1 + k - M ≤ r.length) := by omega
    have ep : ((a : Int) + 1 + k - M - 1).toNat = p := by omega
    have hsn := lev_snoc x y (l.take a) (r.take p)
    rw [← el, ← er] at hsn
    have e0 : cell M l r (a + 1) k = ((min (lev (l.take (a + 1)) (r.take (p + 1))) (M + 1) : Nat) : Int) := by
      rw [hc, show a + 1 + k - M = p + 1 by omega]
    have eA : cell M l r a k = ((min (lev (l.take a) (r.take p)) (M + 1) : Nat) : Int) := by
      unfold cell; rw [if_pos (by omega), show a + k - M = p by omega]
    have hlA := lev_lens (l.take a) (r.take (p + 1))
    have hlC := lev_lens (l.take (a + 1)) (r.take p)
    simp only [List.length_take] at hlA hlC
    have n3 : ((0 < (a : Int) + 1 + k - M ∧ (a : Int) + 1 + k - M ≤ r.length) ∧ 0 < k) = (0 < k) := propext ⟨And.right, fun z => ⟨n1, z⟩⟩
    have n4 : ((0 ≤ (a : Int) + 1 + k - M ∧ (a : Int) + 1 + k - M ≤ r.length) ∧ k < 2 * M) = (k < 2 * M) := propext ⟨And.right, fun z => ⟨n2, z⟩⟩
    simp only [if_pos n1, n3, n4, ep, hy, Option.some.injEq, List.mem_singleton] at hm hl
    rw [e0]
    have hδ : (if x = y then (0:Int) else 1) = ((if x = y then 0 else 1 : Nat) : Int) := by split <;> rfl
    rw [hδ, eA] at hm hl
    generalize (if x = y then 0 else 1 : Nat) = δ at *
    generalize lev (l.take a) (r.take p) = A at *
    by_cases k0 : 0 < k
    · have eC : cell M l r (a + 1) (k - 1) = ((min (lev (l.take (a + 1)) (r.take p)) (M + 1) : Nat) : Int) := by
        unfold cell; rw [if_pos (by omega), show a + 1 + (k - 1) - M = p by omega]
      rw [eC] at hm hl
      by_cases k1 : k < 2 * M
      · have eB : cell M l r a (k + 1) = ((min (lev (l.take a) (r.take (p + 1))) (M + 1) : Nat) : Int) := by
          unfold cell; rw [if_pos (by omega), show a + (k + 1) - M = p + 1 by omega]
        rw [eB] at hm hl
        simp only [k0, k1, if_true, List.mem_singleton] at hm hl
        have h1 := hl _ (.inl (.inl (.inl rfl)))
        have h2 := hl _ (.inl (.inl (.inr rfl)))
        have h3 := hl _ (.inl (.inr rfl))
        have h4 := hl _ (.inr rfl)
        clear hl
        rw [hsn]
        omega
      · simp only [k0, k1, if_true, if_false, List.not_mem_nil, or_false, List.mem_singleton] at hm hl
        have h1 := hl _ (.inl (.inl rfl))
        have h2 := hl _ (.inl (.inr rfl))
        have h3 := hl _ (.inr rfl)
        clear hl
        rw [hsn]
        omega
    · by_cases k1 : k < 2 * M
      · have eB : cell M l r a (k + 1) = ((min (lev (l.take a) (r.take (p + 1))) (M + 1) : Nat) : Int) := by
          unfold cell; rw [if_pos (by omega), show a + (k + 1) - M = p + 1 by omega]
        rw [eB] at hm hl
        simp only [k0, k1, if_true, if_false, List.not_mem_nil, or_false, List.mem_singleton] at hm hl
        have h1 := hl _ (.inl (.inl rfl))
        have h2 := hl _ (.inl (.inr rfl))
        have h3 := hl _ (.inr rfl)
        clear hl
        rw [hsn]
        omega
      · simp only [k0, k1, if_false, List.not_mem_nil, or_false, List.mem_singleton] at hm hl
        have h1 := hl _ (.inl rfl)
        have h2 := hl _ (.inr rfl)
        clear hl
        rw [hsn]
        omega
theorem band_last {M : Nat} {l r : List Nat} (h : l.length ≤ r.length) (h2 : r.length ≤ M + l.length) : (band M l r l.length)[r.length - l.length + M]? = some ((min (lev l r) (M + 1) : Nat) : Int) := by
  rw [band_get (by omega)]
  unfold cell
  rw [if_pos (by omega), show l.length + (r.length - l.length + M) - M = r.length by omega, List.take_length, List.take_length]
/-- the distance within most, or none -/
def within (xs ys : List Nat) (most : Nat) : Option Nat := if lev xs ys ≤ most then some (lev xs ys) else none
end Lev
namespace Wd
/-- the text turned by p letters -/
def rot (p : Nat) (t : List Nat) : List Nat := t.drop p ++ t.take p
/-- the letter at i, round and round -/
def g (t : List Nat) (i : Nat) : Option Nat := t[i % t.length]?
def Per (t : List Nat) (p : Nat) : Prop := ∀ i, g t (i + p) = g t i
theorem g_n (t : List Nat) (i k : Nat) : g t (i + t.length * k) = g t i := by
  unfold g
  rw [Nat.add_mul_mod_self_left]
theorem g_n1 (t : List Nat) (i : Nat) : g t (i + t.length) = g t i := by
  have := g_n t i 1
  rwa [Nat.mul_one] at this
theorem g_lt {t : List Nat} {i : Nat} (h : i < t.length) : g t i = t[i]? := by
  unfold g
  rw [Nat.mod_eq_of_lt h]
theorem rot_len {p : Nat} {t : List Nat} (h : p ≤ t.length) : (rot p t).length = t.length := by
  unfold rot
  rw [List.length_append, List.length_drop, List.length_take]
  omega
theorem rot_get {p : Nat} {t : List Nat} (h : p ≤ t.length) {i : Nat} (hi : i < t.length) : (rot p t)[i]? = g t (i + p) := by
  unfold rot
  rw [List.getElem?_append, List.length_drop]
  by_cases c : i < t.length - p
  · rw [if_pos c, List.getElem?_drop, Nat.add_comm p i, g_lt (by omega)]
  · rw [if_neg c, List.getElem?_take, if_pos (by omega)]
    have e : i + p = (i - (t.length - p)) + t.length := by omega
    rw [e, g_n1, g_lt (by omega)]
theorem ext_lt {a b : List Nat} (h : a.length = b.length) (h2 : ∀ i, i < a.length → a[i]? = b[i]?) : a = b := by
  apply List.ext_getElem?
  intro i
  by_cases c : i < a.length
  · exact h2 i c
  · rw [List.getElem?_eq_none (by omega), List.getElem?_eq_none (by omega)]
theorem g_mod (t : List Nat) (i : Nat) : g t (i % t.length) = g t i := by
  unfold g
  rw [Nat.mod_mod]
theorem rot_rot {p q : Nat} {t : List Nat} (hp : p ≤ t.length) (hq : q ≤ t.length) (h0 : 0 < t.length) : rot p t = rot q t ↔ ∀ i, g t (i + p) = g t (i + q) := by
  constructor
  · intro h i
    have hm : i % t.length < t.length := Nat.mod_lt _ h0
    have e1 := rot_get hp hm
    have e2 := rot_get hq hm
    rw [h, e2] at e1
    have d := Nat.mod_add_div i t.length
    have a1 : g t (i + p) = g t (i % t.length + p) := by
      rw [← g_n t (i % t.length + p) (i / t.length)]
      congr 1
      omega
    have a2 : g t (i + q) = g t (i % t.length + q) := by
      rw [← g_n t (i % t.length + q) (i / t.length)]
      congr 1
      omega
    rw [a1, a2, e1]
  · intro h
    refine ext_lt (by rw [rot_len hp, rot_len hq]) fun i hi => ?_
    rw [rot_len hp] at hi
    rw [rot_get hp hi, rot_get hq hi]
    exact h i
theorem rot_zero (t : List Nat) : rot 0 t = t := by unfold rot; simp
theorem per_rot {p : Nat} {t : List Nat} (hp : p ≤ t.length) (h0 : 0 < t.length) : rot p t = t ↔ Per t p := by
  have := rot_rot hp (Nat.zero_le _) h0
  rw [rot_zero] at this
  exact this
theorem Per.n (t : List Nat) : Per t t.length := fun i => g_n1 t i
theorem Per.zero (t : List Nat) : Per t 0 := fun _ => rfl
theorem Per.add {t : List Nat} {p q : Nat} (hp : Per t p) (hq : Per t q) : Per t (p + q) := fun i => by
  rw [← Nat.add_assoc, hq, hp]
theorem Per.mul {t : List Nat} {p : Nat} (hp : Per t p) (k : Nat) : Per t (p * k) := by
  induction k with
  | zero => exact Per.zero t
  | succ k ih => rw [Nat.mul_succ]; exact ih.add hp
theorem Per.sub {t : List Nat} {p q : Nat} (hp : Per t p) (hq : Per t q) (h : p ≤ q) : Per t (q - p) := fun i => by
  rw [← hp (i + (q - p)), Nat.add_assoc, Nat.sub_add_cancel h, hq]
theorem Per.mod {t : List Nat} {p q : Nat} (hp : Per t p) (hq : Per t q) : Per t (q % p) := by
  have e : q % p = q - p * (q / p) := by have := Nat.mod_add_div q p; omega
  rw [e]
  exact (hp.mul _).sub hq (Nat.mul_div_le _ _)
theorem Per.at_mod {t : List Nat} {p : Nat} (hp : Per t p) (i : Nat) : g t (i % p) = g t i := by
  have d := Nat.mod_add_div i p
  rw [← (hp.mul (i / p)) (i % p), d]
/-- p is the least number above 0 that turns the text into itself -/
structure Least (t : List Nat) (p : Nat) : Prop where
  pos : 0 < p
  per : Per t p
  min : ∀ q, 0 < q → q < p → ¬ Per t q
theorem Least.dvd {t : List Nat} {p q : Nat} (h : Least t p) (hq : Per t q) : q % p = 0 := by
  rcases Nat.eq_zero_or_pos (q % p) with e | e
  · exact e
  · exact absurd (h.per.mod hq) (h.min _ e (Nat.mod_lt _ h.pos))
theorem Least.le {t : List Nat} {p q : Nat} (h : Least t p) (hq : Per t q) (h0 : 0 < q) : p ≤ q := by
  rcases Nat.lt_or_ge q p with c | c
  · exact absurd hq (h.min q h0 c)
  · exact c
theorem flat_get (w : List Nat) : ∀ (k i : Nat), i < k * w.length → ((List.replicate k w).flatten)[i]? = w[i % w.length]?
  | 0, i, h => by omega
  | k + 1, i, h => by
    rw [List.replicate_succ, List.flatten_cons, List.getElem?_append]
    by_cases c : i < w.length
    · rw [if_pos c, Nat.mod_eq_of_lt c]
    · rw [if_neg c, flat_get w k (i - w.length) (by rw [Nat.succ_mul] at h; omega)]
      have e : i % w.length = (i - w.length) % w.length := Nat.mod_eq_sub_mod (by omega)
      rw [e]
theorem flat_len (w : List Nat) (k : Nat) : ((List.replicate k w).flatten).length = k * w.length := by
  induction k with
  | zero => simp
  | succ k ih => rw [List.replicate_succ, List.flatten_cons, List.length_append, ih, Nat.succ_mul]; omega
/-- rounds of its first s letters -/
def Pow (t : List Nat) (s : Nat) : Prop := t.length % s = 0 ∧ (List.replicate (t.length / s) (t.take s)).flatten = t
theorem pow_per {t : List Nat} {s : Nat} (h0 : 0 < s) (hs : s ≤ t.length) (h : Pow t s) : Per t s := by
  have lw : (t.take s).length = s := by rw [List.length_take]; omega
  have nn : t.length / s * s = t.length := Nat.div_mul_cancel (Nat.dvd_of_mod_eq_zero h.1)
  have key : ∀ i, g t i = (t.take s)[i % s]? := by
    intro i
    unfold g
    have hm : i % t.length < t.length := Nat.mod_lt _ (by omega)
    have e := flat_get (t.take s) (t.length / s) (i % t.length) (by rw [lw, nn]; exact hm)
    rw [h.2, lw] at e
    rw [e, Nat.mod_mod_of_dvd i (Nat.dvd_of_mod_eq_zero h.1)]
  intro i
  rw [key, key, Nat.add_mod_right]
theorem per_pow {t : List Nat} {s : Nat} (h0 : 0 < s) (hs : s ≤ t.length) (hd : t.length % s = 0) (h : Per t s) : Pow t s := by
  have lw : (t.take s).length = s := by rw [List.length_take]; omega
  have nn : t.length / s * s = t.length := Nat.div_mul_cancel (Nat.dvd_of_mod_eq_zero hd)
  refine ⟨hd, ext_lt (by rw [flat_len, lw, nn]) fun i hi => ?_⟩
  rw [flat_len, lw, nn] at hi
  rw [flat_get _ _ _ (by rw [lw, nn]; exact hi), lw, ← g_lt hi, ← h.at_mod i]
  have hm : i % s < s := Nat.mod_lt _ h0
  rw [g_lt (by omega), List.getElem?_take, if_pos hm]
theorem find_range' {P : Nat → Bool} {s : Nat} : ∀ {n a : Nat}, (List.range' a n).find? P = some s → a ≤ s ∧ s < a + n ∧ P s = true ∧ ∀ q, a ≤ q → q < s → P q = false
  | 0, a, h => by simp at h
  | n + 1, a, h => by
    rw [List.range'_succ, List.find?_cons] at h
    cases e : P a with
    | true =>
      rw [e] at h
      cases h
      exact ⟨Nat.le_refl _, by omega, e, fun q h1 h2 => by omega⟩
    | false =>
      rw [e] at h
      obtain ⟨h1, h2, h3, h4⟩ := find_range' h
      refine ⟨by omega, by omega, h3, fun q q1 q2 => ?_⟩
      by_cases c : q = a
      · rw [c]; exact e
      · exact h4 q (by omega) q2
theorem find_range'_none {P : Nat → Bool} : ∀ {n a : Nat}, (List.range' a n).find? P = none → ∀ q, a ≤ q → q < a + n → P q = false := by
  intro n a h q h1 h2
  have := List.find?_eq_none.mp h q (List.mem_range'_1.mpr ⟨h1, h2⟩)
  simpa using this
theorem find_range'_is {P : Nat → Bool} {s : Nat} : ∀ {n a : Nat}, a ≤ s → s < a + n → P s = true → (∀ q, a ≤ q → q < s → P q = false) → (List.range' a n).find? P = some s
  | 0, a, h1, h2, _, _ => by omega
  | n + 1, a, h1, h2, h3, h4 => by
    rw [List.range'_succ, List.find?_cons]
    by_cases c : a = s
    · rw [c, h3]
    · rw [h4 a (Nat.le_refl _) (by omega)]
      exact find_range'_is (by omega) (by omega) h3 fun q q1 q2 => h4 q (by omega) q2
/-- the length of the root -/
def rlen (t : List Nat) : Nat := ((List.range' 1 t.length).find? fun p => decide (rot p t = t)).getD 0
def root (t : List Nat) : List Nat := t.take (rlen t)
theorem rlen_least {t : List Nat} (h0 : 0 < t.length) : Least t (rlen t) ∧ rlen t ≤ t.length := by
  unfold rlen
  cases e : (List.range' 1 t.length).find? fun p => decide (rot p t = t) with
  | none =>
    have := find_range'_none e t.length (by omega) (by omega)
    rw [decide_eq_false_iff_not] at this
    exact absurd ((per_rot (Nat.le_refl _) h0).mpr (Per.n t)) this
  | some s =>
    obtain ⟨h1, h2, h3, h4⟩ := find_range' e
    have le : s ≤ t.length := by omega
    refine ⟨⟨h1, (per_rot le h0).mp (of_decide_eq_true h3), fun q q1 q2 hq => ?_⟩, le⟩
    have q2 : q < s := q2
    have := h4 q (by omega) q2
    rw [decide_eq_false_iff_not] at this
    exact this ((per_rot (by omega) h0).mpr hq)
theorem least_uniq {t : List Nat} {p q : Nat} (hp : Least t p) (hq : Least t q) : p = q := Nat.le_antisymm (hp.le hq.per hq.pos) (hq.le hp.per hp.pos)
/-- the law's root -/
def lroot (t : List Nat) : List Nat := match (List.range' 1 t.length).find? fun s => decide (t.length % s = 0) && decide ((List.replicate (t.length / s) (t.take s)).flatten = t) with
  | some s => t.take s
  | none => []
theorem root_eq (t : List Nat) : lroot t = root t := by
  rcases Nat.eq_zero_or_pos t.length with e | h0
  · have : t = [] := List.length_eq_zero_iff.mp e
    subst this
    rfl
  · obtain ⟨L, le⟩ := rlen_least h0
    have P := per_pow L.pos le (L.dvd (Per.n t)) L.per
    unfold lroot
    rw [find_range'_is (s := rlen t) L.pos (by omega) (by rw [decide_eq_true P.1, decide_eq_true P.2]; rfl) fun q q1 q2 => ?_]
    · rfl
    · rw [Bool.and_eq_false_iff]
      by_cases c1 : t.length % q = 0
      · right
        rw [decide_eq_false_iff_not]
        exact fun c2 => L.min q (by omega) q2 (pow_per (by omega) (by omega) ⟨c1, c2⟩)
      · exact .inl (decide_eq_false c1)
theorem root_len {t : List Nat} : (root t).length = rlen t := by
  unfold root
  rw [List.length_take]
  rcases Nat.eq_zero_or_pos t.length with e | h0
  · have : t = [] := List.length_eq_zero_iff.mp e
    subst this
    rfl
  · have := (rlen_least h0).2
    omega
/-- the turn that leads to the other one -/
def turn (a b : List Nat) : Option Nat := if a.length = b.length then (List.range' 0 (a.length + 1)).find? fun j => decide (rot j a = b) else none
def turnsL (a b : List Nat) : List Nat := (turn a b).toList
def lturns (a b : List Nat) : List Nat := if a = [] ∧ b = [] then [0] else (List.range (lroot a).length).filter fun j => decide (rot j a = b)
theorem filter_one {P : Nat → Bool} {j : Nat} : ∀ {l : List Nat}, l.Nodup → j ∈ l → (∀ x ∈ l, P x = true → x = j) → P j = true → l.filter P = [j]
  | [], _, h, _, _ => by simp at h
  | a :: l, hn, h, hu, hj => by
    rw [List.nodup_cons] at hn
    rcases List.mem_cons.mp h with e | h
    · subst e
      rw [List.filter_cons_of_pos hj, List.filter_eq_nil_iff.mpr]
      intro x hx hp
      have := hu x (List.mem_cons_of_mem _ hx) hp
      subst this
      exact hn.1 hx
    · rw [List.filter_cons_of_neg, filter_one hn.2 h (fun x hx => hu x (List.mem_cons_of_mem _ hx)) hj]
      intro hp
      have := hu a List.mem_cons_self hp
      subst this
      exact hn.1 h
theorem turn_shift {t : List Nat} {p q : Nat} (hp : p ≤ t.length) (hq : q ≤ t.length) (h0 : 0 < t.length) (hpq : p ≤ q) (h : rot p t = rot q t) : Per t (q - p) := by
  have k := (rot_rot hp hq h0).mp h
  intro i
  have := k (i + (t.length - p))
  rw [show i + (t.length - p) + p = i + t.length by omega, show i + (t.length - p) + q = (i + (q - p)) + t.length by omega, g_n1, g_n1] at this
  exact this.symm
theorem turns_eq (a b : List Nat) : lturns a b = turnsL a b := by
  unfold lturns turnsL
  by_cases c0 : a = [] ∧ b = []
  · rw [if_pos c0, c0.1, c0.2]; rfl
  · rw [if_neg c0, root_eq, root_len]
    unfold turn
    by_cases cl : a.length = b.length
    · rw [if_pos cl]
      have h0 : 0 < a.length := by
        rcases Nat.eq_zero_or_pos a.length with e | e
        · exact absurd ⟨List.length_eq_zero_iff.mp e, List.length_eq_zero_iff.mp (by omega)⟩ c0
        · exact e
      obtain ⟨L, le⟩ := rlen_least h0
      cases e : (List.range' 0 (a.length + 1)).find? fun j => decide (rot j a = b) with
      | none =>
        rw [List.filter_eq_nil_iff.mpr]
        · rfl
        · intro x hx
          rw [List.mem_range] at hx
          have := find_range'_none e x (Nat.zero_le _) (by omega)
          rw [this]; simp
      | some j =>
        obtain ⟨_, h2, h3, h4⟩ := find_range' e
        have hj := of_decide_eq_true h3
        have jp : j < rlen a := by
          rcases Nat.lt_or_ge j (rlen a) with c | c
          · exact c
          · have := h4 (j - rlen a) (Nat.zero_le _) (by have := L.pos; omega)
            rw [decide_eq_false_iff_not] at this
            refine absurd ?_ this
            rw [← hj, rot_rot (by omega) (by omega) h0]
            intro i
            rw [← L.per (i + (j - rlen a)), Nat.add_assoc, Nat.sub_add_cancel c]
        refine filter_one List.nodup_range (List.mem_range.mpr jp) (fun x hx hp => ?_) h3
        have hx := List.mem_range.mp hx
        have hp := of_decide_eq_true hp
        rw [← hj] at hp
        rcases Nat.lt_trichotomy x j with c | c | c
        · exact absurd (turn_shift (by omega) (by omega) h0 (by omega) hp) (L.min _ (by omega) (by omega))
        · exact c
        · exact absurd (turn_shift (by omega) (by omega) h0 (by omega) hp.symm) (L.min _ (by omega) (by omega))
    · rw [if_neg cl, List.filter_eq_nil_iff.mpr]
      · rfl
      · intro x hx hp
        rw [List.mem_range] at hx
        have hp := of_decide_eq_true hp
        have l := congrArg List.length hp
        rcases Nat.eq_zero_or_pos a.length with e | h0
        · have : a = [] := List.length_eq_zero_iff.mp e
          subst this
          simp [rlen] at hx
        · have := (rlen_least h0).2
          rw [rot_len (by omega)] at l
          exact cl l
/-- two texts have one root just if they commute -/
theorem comm {l r : List Nat} (hl : 0 < l.length) (hr : 0 < r.length) : root l = root r ↔ l ++ r = r ++ l := by
  obtain ⟨Ll, le1⟩ := rlen_least hl
  obtain ⟨Lr, le2⟩ := rlen_least hr
  constructor
  · intro h
    have hp : rlen l = rlen r := by rw [← root_len, ← root_len, h]
    have key : ∀ i, g l i = g r i := by
      intro i
      have hm : i % rlen l < rlen l := Nat.mod_lt _ Ll.pos
      have e : (root l)[i % rlen l]? = (root r)[i % rlen l]? := by rw [h]
      unfold root at e
      rw [List.getElem?_take, if_pos hm, List.getElem?_take, if_pos (by omega)] at e
      rw [← Ll.per.at_mod i, g_lt (by omega), e, ← g_lt (by omega), hp, Lr.per.at_mod i]
    refine ext_lt (by rw [List.length_append, List.length_append]; omega) fun i hi => ?_
    rw [List.length_append] at hi
    rw [List.getElem?_append, List.getElem?_append]
    have a1 : (if i < l.length then l[i]? else r[i - l.length]?) = g l i := by
      by_cases c : i < l.length
      · rw [if_pos c, g_lt c]
      · rw [if_neg c, ← g_lt (by omega), ← key, ← g_n1 l (i - l.length), Nat.sub_add_cancel (by omega)]
    have a2 : (if i < r.length then r[i]? else l[i - r.length]?) = g r i := by
      by_cases c : i < r.length
      · rw [if_pos c, g_lt c]
      · rw [if_neg c, ← g_lt (by omega), key, ← g_n1 r (i - r.length), Nat.sub_add_cancel (by omega)]
    rw [a1, a2, key]
  · intro h
    have hn : 0 < (l ++ r).length := by rw [List.length_append]; omega
    have p1 : Per (l ++ r) l.length := by
      rw [← per_rot (by rw [List.length_append]; omega) hn]
      unfold rot
      rw [List.drop_left, List.take_left, ← h]
    have p2 : Per (l ++ r) r.length := by
      have := p1.sub (Per.n (l ++ r)) (by rw [List.length_append]; omega)
      rwa [List.length_append, Nat.add_sub_cancel_left] at this
    have k1 : ∀ i, g (l ++ r) i = g l i := by
      intro i
      have hm : i % l.length < l.length := Nat.mod_lt _ hl
      rw [← p1.at_mod i, g_lt (by rw [List.length_append]; omega), List.getElem?_append, if_pos hm]
      rfl
    have k2 : ∀ i, g (l ++ r) i = g r i := by
      intro i
      have hm : i % r.length < r.length := Nat.mod_lt _ hr
      rw [← p2.at_mod i, h, g_lt (by rw [List.length_append]; omega), List.getElem?_append, if_pos hm]
      rfl
    have key : ∀ i, g l i = g r i := fun i => by rw [← k1, k2]
    have hp : rlen l = rlen r := by
      refine Nat.le_antisymm (Ll.le (fun i => ?_) Lr.pos) (Lr.le (fun i => ?_) Ll.pos)
      · rw [key, key]; exact Lr.per i
      · rw [← key, ← key]; exact Ll.per i
    refine ext_lt (by rw [root_len, root_len, hp]) fun i hi => ?_
    rw [root_len] at hi
    unfold root
    rw [List.getElem?_take, if_pos hi, List.getElem?_take, if_pos (by omega), ← g_lt (by omega), ← g_lt (by omega), key]
end Wd
namespace Sw
open PySem PySem.Spec PyProof.Rows L2

/-! ### texts as lists of signs -/
def S (l : List Nat) : Str := ⟨l.toArray⟩
theorem S_len (l : List Nat) : (S l).length = l.length := by simp [S, Str.length]
theorem S_size (l : List Nat) : (S l).cps.size = l.length := by simp [S]
theorem S_list (l : List Nat) : (S l).cps.toList = l := by simp [S]
theorem S_app (a b : List Nat) : S a ++ S b = S (a ++ b) := by
  show Str.append _ _ = _
  simp [S, Str.append]
theorem S_get (l : List Nat) (i : Nat) : (S l).cps[i]? = l[i]? := by simp [S]
theorem S_inj {a b : List Nat} : S a = S b ↔ a = b := by
  constructor
  · intro h
    have e : (S a).cps.toList = (S b).cps.toList := by rw [h]
    rwa [S_list, S_list] at e
  · rintro rfl; rfl
theorem S_dec (a b : List Nat) : decide (V.str (S a) = V.str (S b)) = decide (a = b) := by
  by_cases h : a = b
  · subst h; simp
  · rw [decide_eq_false h, decide_eq_false]
    intro e
    exact h (S_inj.mp (V.str.inj e))

/-! ### calls of own defs -/
section
variable (P : Program) (w : World) (K : PySem.W.Frag) (mg : Str → Option Value) (base : Heap)
/-- the def x of the text st stands -/
def Def (x : Str) (st : Stmt) : Prop := ∃ (f : Addr) (fd : FuncData), Fun K x x st f fd ∧ mg x = some (.ref f)
/-- the def x keeps its promise -/
def Cal (x : Str) (ps : List Str) (k : Nat) (sp : Sp) : Prop := ∃ (f : Addr) (fd : FuncData), FnOk P w K mg base CX0 k f fd ps sp ∧ mg x = some (.ref f) ∧ PySem.W.keepIn K (.ref f) = true ∧ Binds K fd ps []
end
section
variable {P : Program} {w : World} {K : PySem.W.Frag} {mg : Str → Option Value} {base : Heap}
theorem Def.cal {x : Str} {st : Stmt} {ps : List Str} {k : Nat} {sp : Sp} (d : Def K mg x st)
    (b : ∀ (kV doc pm : Value) (an : Option Addr) (cdv ct : Value) (us : List Value), us.length = ps.length → bindArgs (PySem.W.fnOf x x (defArgs st) (defBody st) (defScope st) .none kV doc pm an cdv ct) ⟨us, []⟩ = pure (ps.zip us))
    (ok : ∀ (f : Addr) (fd : FuncData), Fun K x x st f fd → FnOk P w K mg base CX0 k f fd ps sp) : Cal P w K mg base x ps k sp := by
  obtain ⟨f, fd, F, m⟩ := d
  exact ⟨f, fd, ok f fd F, m, F.kp, F.binds b⟩
end
section
variable {X : Cx} {x : Str} {ps : List Str} {k n : Nat} {sp : Sp} {e : Expr} {es : List Expr} {t : TA} {p pos : Pos}
theorem pe_cal (c : Cal X.prog X.w X.K X.mg X.base x ps k sp) (hr : Room n X.A) (ha : PA X (e :: es) t) (hg : Gl X x := by rfl) (hk : k ≤ n := by decide)
    (hdb : (x == ("__debug__" : Str)) = false := by decide) (he : starEach (e :: es) X.env = (false, eval e X.env) :: starEach es X.env := by rfl) (hpl : (backTo pos (starEach es X.env)).any (·.1) = false := by rfl) :
    PE X (.Call (.Name x p) (e :: es) [] pos) (tCall sp [] E0 t) := by
  obtain ⟨f, fd, F, m, kp, b⟩ := c
  exact pe_call F (hr.mono hk) hg m kp b .nil pass0 ha hdb he hpl
end

/-! ### answers to readings -/
section
variable {σ : L2.St} {H : Hp} {Q : VK} {D : Ends}
theorem i_seq {t u : TS} (h : t { D with nx := u D } σ H) : tSeq t u D σ H := h
theorem i_asg {te : TE} {g : TG} (h : te σ H fun x H1 => g x σ H1 D.nx) : tAsg te g D σ H := h
theorem i_name {i : Nat} {v : V} {R : L2.St → Hp → Prop} (h : R (σ.set i (some v)) H) : gName i v σ H R := h
theorem i_ret {te : TE} (h : te σ H D.rt) : tRet te D σ H := h
theorem i_var {i : Nat} {v : V} (e : σ[i]? = some (some v)) (h : Q v H) : tVar i σ H Q := ⟨v, e, h⟩
theorem i_c {v : V} (h : Q v H) : tC v σ H Q := h
theorem i_op {r : R2} {ta tb : TE} (h : ta σ H fun x H1 => tb σ H1 fun y H2 => r x y H2 Q) : tOp r ta tb σ H Q := h
theorem i_un {r : V → Hp → VK → Prop} {ta : TE} (h : ta σ H fun x H1 => r x H1 Q) : tUn r ta σ H Q := h
theorem i_rI {C : Int → Int → Prop} {g : Int → Int → V} {a b : Int} (c : C a b) (h : Q (g a b) H) : rI C g (.int a) (.int b) H Q := ⟨a, b, rfl, rfl, c, h⟩
theorem i_rI0 {g : Int → Int → V} {a b : Int} (h : Q (g a b) H) : rI0 g (.int a) (.int b) H Q := ⟨a, b, rfl, rfl, h⟩
theorem i_cb {r : List V → Hp → VK → Prop} {t : TA} (h : t σ H fun vs H1 => r vs H1 Q) : tCB r t σ H Q := h
theorem i_cons {ta : TE} {tr : TA} {R : List V → Hp → Prop} (h : ta σ H fun x H1 => tr σ H1 fun xs H2 => R (x :: xs) H2) : tCons ta tr σ H R := h
theorem i_nil {R : List V → Hp → Prop} (h : R [] H) : tNil σ H R := h
theorem i_call {sp : Sp} {dvs : List V} {E : XK} {t : TA} (h : t σ H fun vs H1 => sp (vs ++ dvs) H1 Q E) : tCall sp dvs E t σ H Q := h
theorem i_if {c : TT} {t u : TS} (h : c σ H fun b H1 => if b = true then t D σ H1 else u D σ H1) : tIfS c t u D σ H := h
theorem i_ifE {c : TT} {t u : TE} (h : c σ H fun b H1 => if b = true then t σ H1 Q else u σ H1 Q) : tIf c t u σ H Q := h
theorem i_test {t : TE} {R : Bool → Hp → Prop} (h : t σ H fun x H1 => ∃ k, x = .bl k ∧ R k H1) : tTest t σ H R := h
theorem i_bl {k : Bool} {R : Bool → Prop} (h : R k) : ∃ k', V.bl k = .bl k' ∧ R k' := ⟨k, rfl, h⟩
theorem i_and {t u : TT} {R : Bool → Hp → Prop} (h : t σ H fun c H1 => if c = true then u σ H1 R else R false H1) : tAnd t u σ H R := h
theorem i_or {t u : TT} {R : Bool → Hp → Prop} (h : t σ H fun c H1 => if c = true then R true H1 else u σ H1 R) : tOr t u σ H R := h
theorem i_not {t : TT} {R : Bool → Hp → Prop} (h : t σ H fun c H1 => R (!c) H1) : tNot t σ H R := h
theorem i_lst {t : TA} (h : t σ H fun xs H1 => xs.length ≤ sizeLine ∧ ∀ p, H1 p = none → Q (.ref p) (upd H1 p (.lst xs))) : tLst t σ H Q := h
theorem i_tup {t : TA} (h : t σ H fun xs H1 => xs.length ≤ sizeLine ∧ ∀ p, H1 p = none → Q (.ref p) (upd H1 p (.tup xs))) : tTup t σ H Q := h
theorem iteB {p : Prop} [Decidable p] {A B : Prop} (h1 : p → A) (h2 : ¬ p → B) : if decide p = true then A else B := by
  by_cases h : p
  · rw [decide_eq_true h]; exact iteT (h1 h)
  · rw [decide_eq_false h]; exact iteF (h2 h)
theorem iteC {c : Bool} {A B : Prop} (h1 : c = true → A) (h2 : c = false → B) : if c = true then A else B := by
  cases c with
  | true => exact iteT (h1 rfl)
  | false => exact iteF (h2 rfl)
/-- xs[i], xs a list of which the item is known -/
theorem i_ixL {K : PySem.W.Frag} {p : Addr} {xs : List V} {i : Int} {v : V} (h1 : SqL K H p xs) (h2 : atI xs i = some v) (h : Q v H) : rIxL K (.ref p) (.int i) H Q := ⟨p, xs, i, v, rfl, rfl, h1, h2, h⟩
theorem i_ixT {K : PySem.W.Frag} {p : Addr} {xs : List V} {i : Int} {v : V} (h1 : SqT K H p xs) (h2 : atI xs i = some v) (h : Q v H) : rIxT K (.ref p) (.int i) H Q := ⟨p, xs, i, v, rfl, rfl, h1, h2, h⟩
end

/-! ### the box of draws -/
/-- the box at b: the rest n of a great cell, whether it is one, the seed c, the draws d so far -/
structure BoxAt (H : Hp) (b : Addr) (d : Int) : Prop where
  ex : ∃ (n : Int) (g : Bool) (c e : Int), H b = some (.lst [.int n, .bl g, .int c, .int e]) ∧ 0 ≤ n ∧ 0 ≤ c ∧ c < 2147483629 ∧ 0 ≤ e ∧ e ≤ d
/-- all but the object at b is as it was -/
def SB (b : Addr) (H H' : Hp) : Prop := ∀ a o, a ≠ b → H a = some o → H' a = some o
theorem SB.refl {b : Addr} (H : Hp) : SB b H H := fun _ _ _ h => h
theorem SB.trans {b : Addr} {H H1 H2 : Hp} (x : SB b H H1) (y : SB b H1 H2) : SB b H H2 := fun a o n h => y a o n (x a o n h)
theorem SB.of {b : Addr} {H H' : Hp} (s : Same H H') : SB b H H' := fun a o _ h => s a o h
theorem SB.upd {b : Addr} {H : Hp} {o : HO} : SB b H (upd H b o) := fun a u n h => by rw [upd_ne n]; exact h
theorem BoxAt.mono {H : Hp} {b : Addr} {d d' : Int} (x : BoxAt H b d) (h : d ≤ d') : BoxAt H b d' := by
  obtain ⟨n, g, c, e, h1, h2, h3, h4, h5, h6⟩ := x.ex
  exact ⟨n, g, c, e, h1, h2, h3, h4, h5, by omega⟩
theorem BoxAt.same {H H' : Hp} {b : Addr} {d : Int} (x : BoxAt H b d) (s : Same H H') : BoxAt H' b d := by
  obtain ⟨n, g, c, e, h1, h⟩ := x.ex
  exact ⟨n, g, c, e, s _ _ h1, h⟩
theorem same_upd {H : Hp} {p : Addr} {o : HO} (h : H p = none) : Same H (upd H p o) := fun b x e => by
  rw [upd_ne (ne_of_none e h)]
  exact e
/-- _law_take(box, many): a number below many; the box is one draw further at most -/
def spTake : Sp := fun vs H Q _ => ∃ (b : Addr) (m d : Int), vs = [.ref b, .int m] ∧ BoxAt H b d ∧ d ≤ 1000000 ∧ 0 < m ∧ m < 2 ^ 64 ∧
  ∀ (r : Int) (H' : Hp), 0 ≤ r → r < m → BoxAt H' b (d + 1) → SB b H H' → Q (.int r) H'
/-- _law_box(great) -/
def spBox : Sp := fun vs H Q _ => ∃ n : Int, vs = [.int n] ∧ ∀ (b : Addr) (H' : Hp), H b = none → Same H H' → BoxAt H' b 0 → Q (.ref b) H'
/-- _law_cell(script, k) -/
def spCell (K : PySem.W.Frag) : Sp := fun vs H Q _ => ∃ (a : Addr) (ns : List Int) (k : Int), vs = [.ref a, .int k] ∧ SqL K H a (ns.map V.int) ∧ 0 ≤ k ∧ k < 1000 ∧
  ∀ (n : Int) (H' : Hp), Same H H' → Q (.int n) H'
/-! ### more answers -/
section
variable {σ : L2.St} {H : Hp} {Q : VK} {D : Ends} {K : PySem.W.Frag}
theorem i_next (h : D.nx σ H) : tNext D σ H := h
theorem i_drop {te : TE} (h : te σ H fun _ H1 => D.nx σ H1) : tDrop te D σ H := h
theorem i_sub {to ti : TE} {t : TSet} {v : V} {R : L2.St → Hp → Prop} (h : to σ H fun o H1 => ti σ H1 fun i H2 => t o i v H2 fun H3 => R σ H3) : gSub to ti t v σ H R := h
theorem i_setL {p : Addr} {xs : List V} {k : Int} {j : Nat} {v : V} {R : Hp → Prop} (h1 : H p = some (.lst xs)) (h2 : ixN xs.length k = some j) (h : R (upd H p (.lst (xs.set j v)))) : rSetL (.ref p) (.int k) v H R := ⟨p, xs, k, j, rfl, rfl, h1, h2, h⟩
theorem i_int {i : Int} (h : Q (.int i) H) : (∃ j, [V.int i] = [.int j] ∧ Q (.int j) H) ∨ ∃ k, [V.int i] = [.bl k] ∧ Q (.int (if k = true then 1 else 0)) H := .inl ⟨i, rfl, h⟩
theorem i_intB {b : Bool} (h : Q (.int (if b = true then 1 else 0)) H) : (∃ j, [V.bl b] = [.int j] ∧ Q (.int j) H) ∨ ∃ k, [V.bl b] = [.bl k] ∧ Q (.int (if k = true then 1 else 0)) H := .inr ⟨b, rfl, h⟩
theorem i_ix1 {α : Type} {P : α → Prop} {x : α} {R : α → Prop} (h : R x) : ∃ y, x = y ∧ R y := ⟨x, rfl, h⟩
theorem i_abs {i : Int} (h : Q (.int (if i < 0 then -i else i)) H) : ∃ j, [V.int i] = [.int j] ∧ Q (.int (if j < 0 then -j else j)) H := ⟨i, rfl, h⟩
theorem i_two {R : Int → Int → Prop} {i j : Int} (h : R i j) : ∃ a b, [V.int i, V.int j] = [.int a, .int b] ∧ R a b := ⟨i, j, rfl, h⟩
theorem i_one {R : Int → Prop} {i : Int} (h : R i) : ∃ a, [V.int i] = [.int a] ∧ R a := ⟨i, rfl, h⟩
theorem i_cmod {i m : Int} (h : 0 < m) : (fun (_ j : Int) => 0 < j) i m := h
theorem i_bm {T : String} {r : V → List V → Hp → VK → Prop} {to : TE} {t : TA} (h : to σ H fun x H1 => tyV K T x H1 ∧ t σ H1 fun xs H2 => r x xs H2 Q) : tBM K T r to t σ H Q := h
theorem i_tyL {p : Addr} {xs : List V} {R : Prop} (h1 : H p = some (.lst xs)) (h : R) : tyV K "list" (.ref p) H ∧ R := ⟨.inl ⟨rfl, xs, .inl (.inl h1)⟩, h⟩
theorem i_tyS {z : Str} {R : Prop} (h : R) : tyV K "str" (.str z) H ∧ R := ⟨rfl, h⟩
theorem i_append {p : Addr} {xs : List V} {y : V} (h1 : H p = some (.lst xs)) (h2 : xs.length < sizeLine) (h : Q .non (upd H p (.lst (xs ++ [y])))) : rAppend (.ref p) [y] H Q := ⟨p, xs, y, rfl, rfl, h1, h2, h⟩
theorem i_sl {r : V → Option Int → Option Int → Hp → VK → Prop} {te : TE} {tl th : TO} (h : te σ H fun x H1 => tl σ H1 fun l H2 => th σ H2 fun u H3 => r x l u H3 Q) : L2.tSl r te tl th σ H Q := h
theorem i_part {t : TE} {R : Option Int → Hp → Prop} (h : t σ H fun x H1 => ∃ i, x = .int i ∧ R (some i) H1) : tPart t σ H R := h
theorem i_nopart {R : Option Int → Hp → Prop} (h : R none H) : tNoPart σ H R := h
theorem i_exI {R : Int → Prop} {i : Int} (h : R i) : ∃ j, V.int i = .int j ∧ R j := ⟨i, rfl, h⟩
theorem i_chain {r r' : R2} {ta tb tc : TE} (h : ta σ H fun x H1 => tb σ H1 fun y H2 => r x y H2 fun z H3 => ∃ k, z = .bl k ∧ (if k = true then tc σ H3 fun w' H4 => r' y w' H4 Q else Q (.bl false) H3)) : tChain r r' ta tb tc σ H Q := h
theorem i_aug {i : Nat} {te : TE} {ti : TIp} {x : V} (e : σ[i]? = some (some x)) (h : te σ H fun y H1 => ti x y H1 fun z H2 => D.nx (σ.set i (some z)) H2) : tAug i te ti D σ H := ⟨x, e, h⟩
theorem i_ip {g : Int → Int → Int} {a b : Int} (h : Q (.int (g a b)) H) : ipI g (.int a) (.int b) H Q := ⟨a, b, rfl, rfl, h⟩
theorem i_par {i j : Nat} {ta : TA} (h : ta σ H fun vs H1 => ∃ v w, vs = [v, w] ∧ D.nx ((σ.set i (some v)).set j (some w)) H1) : tPar i j ta D σ H := h
theorem i_pair {R : V → V → Prop} {a b : V} (h : R a b) : ∃ v w, [a, b] = [v, w] ∧ R v w := ⟨a, b, rfl, h⟩
theorem i_andV {ta tb : TE} (h : ta σ H fun x H1 => ∃ c, x = .bl c ∧ if c = true then tb σ H1 Q else Q (.bl false) H1) : tAndV ta tb σ H Q := h
theorem i_orV {ta tb : TE} (h : ta σ H fun x H1 => ∃ c, x = .bl c ∧ if c = true then Q (.bl true) H1 else tb σ H1 Q) : tOrV ta tb σ H Q := h
theorem i_notV {ta : TE} (h : ta σ H fun x H1 => ∃ c, x = .bl c ∧ Q (.bl (!c)) H1) : tNotV ta σ H Q := h
theorem i_m1 {r : V → List V → Hp → VK → Prop} {to te : TE} (h : to σ H fun x H1 => (∃ a, x = .str a) ∧ te σ H1 fun y H2 => r x [y] H2 Q) : tM1 r to te σ H Q := h
theorem i_str {z : Str} {R : Prop} (h : R) : (∃ a, V.str z = .str a) ∧ R := ⟨⟨z, rfl⟩, h⟩
theorem i_len {p : Addr} {ys : List V} (h1 : SqL K H p ys ∨ SqT K H p ys) (h : Q (.int ys.length) H) : ∃ q zs, [V.ref p] = [.ref q] ∧ (SqL K H q zs ∨ SqT K H q zs) ∧ Q (.int zs.length) H := ⟨p, ys, rfl, h1, h⟩
theorem i_lenS {l : List Nat} (h1 : l.length ≤ sizeLine) (h : Q (.int (l.length : Int)) H) : ∃ z, [V.str (S l)] = [.str z] ∧ z.length ≤ sizeLine ∧ Q (.int z.length) H := ⟨S l, rfl, by rw [S_len]; exact h1, by rw [S_len]; exact h⟩
end
theorem sqL_of {K : PySem.W.Frag} {H : Hp} {a : Addr} {xs : List V} (h : H a = some (.lst xs)) : SqL K H a xs := .inl (.inl h)
theorem sqT_of {K : PySem.W.Frag} {H : Hp} {a : Addr} {xs : List V} (h : H a = some (.tup xs)) : SqT K H a xs := .inl (.inl h)
/-- the part of a text between two places -/
def cut (l : List Nat) (lo hi : Option Int) : List Nat := (l.drop (HT.sIx l.length 0 lo)).take (HT.sIx l.length l.length hi - HT.sIx l.length 0 lo)
theorem cutS_S (l : List Nat) (lo hi : Option Int) : cutS (S l) lo hi = S (cut l lo hi) := by
  unfold cutS cut
  rw [S_list, S_len]; rfl
theorem cut_from (l : List Nat) (k : Nat) : cut l (some (k : Int)) none = l.drop k := by
  unfold cut
  rw [HT.sIx_nat, HT.sIx_none]
  rcases Nat.le_total k l.length with h | h
  · rw [Nat.min_eq_left h, List.take_of_length_le (by rw [List.length_drop]; omega)]
  · rw [Nat.min_eq_right h, List.drop_length, List.drop_of_length_le h, List.take_nil]
theorem cut_to (l : List Nat) (k : Nat) : cut l none (some (k : Int)) = l.take k := by
  unfold cut
  rw [HT.sIx_nat, HT.sIx_none, List.drop_zero, Nat.sub_zero]
  rcases Nat.le_total k l.length with h | h
  · rw [Nat.min_eq_left h]
  · rw [Nat.min_eq_right h, List.take_length, List.take_of_length_le h]
theorem i_slS {l : List Nat} {lo hi : Option Int} {H : Hp} {Q : VK} (h1 : l.length ≤ sizeLine) (h : Q (.str (S (cut l lo hi))) H) : rSlS (.str (S l)) lo hi H Q := ⟨S l, rfl, by rw [S_len]; exact h1, by rw [cutS_S]; exact h⟩
theorem i_tB {t : TE} {R : Bool → Hp → Prop} {σ : L2.St} {H : Hp} (h : t σ H fun x H1 => ∃ c, x = .bl c ∧ R c H1) : tB t σ H R := h
theorem i_retN {σ : L2.St} {H : Hp} {D : Ends} (h : D.rt .non H) : tRetN D σ H := h
theorem i_par3 {i j l : Nat} {ta : TA} {σ : L2.St} {H : Hp} {D : Ends} (h : ta σ H fun vs H1 => ∃ u v w, vs = [u, v, w] ∧ D.nx (((σ.set i (some u)).set j (some v)).set l (some w)) H1) : tPar3 i j l ta D σ H := h
theorem i_trip {R : V → V → V → Prop} {a b c : V} (h : R a b c) : ∃ u v w, [a, b, c] = [u, v, w] ∧ R u v w := ⟨a, b, c, rfl, h⟩
theorem i_gTup {K : PySem.W.Frag} {n : Nat} {t : TGs} {a : Addr} {xs : List V} {σ : L2.St} {H : Hp} {R : L2.St → Hp → Prop} (h1 : SqT K H a xs) (h2 : xs.length = n) (h : t xs σ H R) : gTup K n t (.ref a) σ H R := ⟨a, xs, rfl, h1, h2, h⟩
theorem i_gCons {t : TG} {u : TGs} {v : V} {r : List V} {σ : L2.St} {H : Hp} {R : L2.St → Hp → Prop} (h : t v σ H fun σ' H' => u r σ' H' R) : gCons t u (v :: r) σ H R := ⟨v, r, rfl, h⟩
theorem i_gNil {σ : L2.St} {H : Hp} {R : L2.St → Hp → Prop} (h : R σ H) : gNil [] σ H R := ⟨rfl, h⟩
theorem i_lstRg {te : L2.St → Hp → (Int → Int → Hp → Prop) → Prop} {σ : L2.St} {H : Hp} {Q : VK} (h : te σ H fun a b H1 => RgOk a b ∧ ∀ q, H1 q = none → Q (.ref q) (upd H1 q (.lst (rgV a b)))) : tLstRg te σ H Q := h
theorem i_rg1 {ta : TE} {σ : L2.St} {H : Hp} {R : Int → Int → Hp → Prop} (h : ta σ H fun x H1 => ∃ n, x = .int n ∧ R 0 n H1) : tRg1 ta σ H R := h
theorem i_pow {g : Int → Int → V} {a b : Int} {H : Hp} {Q : VK} (h1 : 0 ≤ b) (h2 : b ≤ 1000000) (h3 : a.natAbs < 2 ^ 64) (h : Q (g a b) H) : rI CPow g (.int a) (.int b) H Q := ⟨a, b, rfl, rfl, ⟨h1, h2, h3⟩, h⟩
theorem S_le {l : List Nat} (h : l.length ≤ 100000) : (S l).length ≤ sizeLine := Nat.le_trans h (by decide)
theorem ints_get {ns : List Int} {j : Nat} {v : V} (h : (ns.map V.int)[j]? = some v) : ∃ i, ns[j]? = some i ∧ v = .int i := by
  rw [List.getElem?_map] at h
  cases e : ns[j]? with
  | none => rw [e] at h; cases h
  | some i => rw [e] at h; exact ⟨i, rfl, (Option.some.inj h).symm⟩
theorem ints_at {ns : List Int} {j : Nat} (h : j < ns.length) : (ns.map V.int)[j]? = some (.int ns[j]) := by
  rw [List.getElem?_map, List.getElem?_eq_getElem h]; rfl
theorem atI_ints {ns : List Int} {i : Int} (h0 : 0 ≤ i) (h1 : i < ns.length) : atI (ns.map V.int) i = some (.int (ns[i.toNat]'(by omega))) := by
  have h := atI_nat (xs := ns.map V.int) (ints_at (ns := ns) (show i.toNat < ns.length by omega))
  rwa [show ((i.toNat : Nat) : Int) = i by omega] at h
end Sw
namespace Sw
open PySem PySem.Spec PyProof.Rows L2
/-! ### x[::-1] of a text -/
def tRevS (te : TE) : TE := fun σ H Q => te σ H fun x H1 => ∃ l, x = .str (S l) ∧ l.length ≤ sizeLine ∧ Q (.str (S l.reverse)) H1
theorem fmap_map {α β : Type} {f : α → Option β} {g : α → β} : ∀ {l : List α}, (∀ a ∈ l, f a = some (g a)) → l.filterMap f = l.map g
  | [], _ => rfl
  | a :: l, h => by
    rw [List.filterMap_cons, h a List.mem_cons_self, List.map_cons, fmap_map fun b hb => h b (List.mem_cons_of_mem _ hb)]
theorem rev_list (l : List Nat) : ((Builtin.Str.strSliceIndices none none (-1) l.length).filterMap (l.toArray[·]?)) = l.reverse := by
  rw [PyProof.Rows.picked_rev, List.filterMap_map]
  apply List.ext_getElem?
  intro k
  have hf : List.filterMap ((fun x => l.toArray[x]?) ∘ fun k => l.length - 1 - k) (List.range l.length) = (List.range l.length).map fun k => l.getD (l.length - 1 - k) 0 := by
    refine fmap_map fun a ha => ?_
    have ha' : a < l.length := List.mem_range.mp ha
    have hb : l.length - 1 - a < l.length := by omega
    show l.toArray[l.length - 1 - a]? = some (l.getD (l.length - 1 - a) 0)
    rw [List.getElem?_toArray, List.getD_eq_getElem?_getD, List.getElem?_eq_getElem hb]
    rfl
  rw [hf, List.getElem?_map]
  by_cases hk : k < l.length
  · have hb : l.length - 1 - k < l.length := by omega
    rw [List.getElem?_range hk, List.getElem?_reverse hk]
    show some (l.getD (l.length - 1 - k) 0) = _
    rw [List.getD_eq_getElem?_getD, List.getElem?_eq_getElem hb]
    rfl
  · rw [List.getElem?_eq_none (by rw [List.length_range]; omega), List.getElem?_eq_none (by rw [List.length_reverse]; omega)]
    rfl
theorem pe_revS {X : Cx} {e : Expr} {te : TE} {k : Nat} {p1 p2 p3 pos : Pos} (he : PE X e te) :
    PE X (.Subscript e (.Slice none none (some (.UnaryOp .USub (.Constant (.int 1) k p1) p2)) p3) pos) (tRevS te) := by
  constructor
  intro pins s σ H Q I h
  refine Subscript_ (thn (he.run pins s σ H _ I h) fun v s1 ⟨x, H1, I1, r1, l, ex, hl, q⟩ => ?_)
  subst ex
  obtain ⟨tk, rfl⟩ := r1
  have st : PO X (some (.UnaryOp .USub (.Constant (.int 1) k p1) p2)) (tPart (tUn (rU fun i => .int (-i)) (tC (.int 1)))) := po_some (pe_un un_neg pe_int)
  refine wpAny_Slice (thn (po_none.run pins s1 σ H1 (fun o G => o = none ∧ G = H1) I1 ⟨rfl, rfl⟩) fun w1 s2 ⟨o1, G1, J1, z1, a1, b1⟩ => ?_)
  subst a1 b1
  refine thn (po_none.run pins s2 σ G1 (fun o G => o = none ∧ G = G1) J1 ⟨rfl, rfl⟩) fun w2 s3 ⟨o2, G2, J2, z2, a2, b2⟩ => ?_
  subst a2 b2
  refine thn (st.run pins s3 σ G2 (fun o G => o = some (-1) ∧ G = G2) J2 ⟨1, rfl, -1, rfl, rfl, rfl⟩) fun w3 s4 ⟨o3, G3, J3, z3, a3, b3⟩ => ?_
  subst a3 b3
  have J4 : Inv X pins σ G3 { s4 with heap := s4.heap.push { cls := .type "slice", data := .fields #[w1, w2, w3] } } := J3.kept (t' := s4.toks) fun b ob q => Heap.get?_push_of_some _ q
  obtain ⟨y1, rfl, f1⟩ := IsPart.raw z1
  obtain ⟨y2, rfl, f2⟩ := IsPart.raw z2
  obtain ⟨y3, rfl, f3⟩ := IsPart.raw z3
  cases y1 with
  | some y => cases f1
  | none =>
  cases y2 with
  | some y => cases f2
  | none =>
  cases y3 with
  | none => cases f3
  | some y =>
  obtain ⟨m, u⟩ := y
  have em : m = -1 := Option.some.inj f3
  subst em
  refine tail_any (T := "str") (id := _) (ops := [.str (S l) tk, .ref s4.heap.objs.size]) (typeIs_str _ _ _) F.slot_str_getitem.lookup ?_ (by with_unfolding_all rfl)
  refine wpAny_getItem_str_slice (l := none) (u := none) (st := some (-1, u)) ⟨_, Heap.get?_push_size _ rfl, rfl, rfl⟩ rfl ?_
  show Made.post (if ((-1 : Int) == 1 && (Builtin.Str.strSliceIndices none none (-1) (S l).length).length == (S l).length) = true then Made.val (.str (S l) tk)
    else Made.str ⟨((Builtin.Str.strSliceIndices none none (-1) (S l).length).filterMap ((S l).cps[·]?)).toArray⟩) (EP X pins σ Q) _
  rw [if_neg (by rw [show ((-1 : Int) == 1) = false from rfl, Bool.false_and]; exact Bool.false_ne_true)]
  have e : ((Builtin.Str.strSliceIndices none none (-1) (S l).length).filterMap ((S l).cps[·]?)) = l.reverse := by
    rw [S_len]
    exact rev_list l
  rw [e]
  refine ⟨by show (S l.reverse).length ≤ sizeLine; rw [S_len, List.length_reverse]; exact hl, .str (S l.reverse), G3, J4.tok _, ⟨_, rfl⟩, q⟩
/-! ### enumerate(text) -/
/-- a text's signs, each in a new pair with its number -/
def ItE (x : Str) : It := ⟨fun i _ => i < x.cps.size, fun i H v H' => ∃ T c, v = .ref T ∧ H T = none ∧ x.cps[i]? = some c ∧ H' = upd H T (.tup [.int (i : Nat), .str ⟨#[c]⟩]), fun i _ => i = x.cps.size⟩
theorem turn_enumS {P : Program} {w : World} {K : PySem.W.Frag} {elts : List Expr} {kk : Nat} {tpos : Pos} (x : Str) (t : Tok) (e it : Addr) (hne : e ≠ it) :
    Turn P w K (.Tuple elts kk tpos) (ItE x) [e, it] e (fun i h => (∃ old, IsEnum h e it ((i : Nat) : Int) old) ∧ h.IsStrIter it (strIterType x) x t i) := by
  refine ⟨by simp, fun i h st b hb => ?_, fun i h h' st k => ?_, ?_, ?_, fun A i s Q E st h => ?_⟩
  · obtain ⟨⟨old, he⟩, o, ho, hc, hd⟩ := st
    have e' : b = e ∨ b = it := by simpa using hb
    rcases e' with rfl | rfl
    · exact ⟨_, he, fun v q => nomatch q⟩
    · exact ⟨o, ho, fun v q => by rw [hd] at q; cases q⟩
  · obtain ⟨⟨old, he⟩, o, ho, z⟩ := st
    exact ⟨⟨old, k e (by simp) _ he⟩, o, k it (by simp) o ho, z⟩
  · rintro X rfl rfl rfl hc i pins s σ H E I hf ⟨⟨old, he⟩, hit⟩ hg
    have hh : X.A.in1.handled = none := I.ok.hd hc
    have DD := Draws.text (prog := X.prog) (w := X.w) (A := X.A.in1) hh it x t
    have l1 : e < s.heap.objs.size := Heap.lt_size he
    have l2 : it < s.heap.objs.size := by obtain ⟨_, q, _⟩ := hit; exact Heap.lt_size q
    refine wpAny_pyNext_enum_itemD DD he hit hg hne (by simpa using hne) fun v h1 tk hv ho hit' hT hsz hk => ?_
    obtain ⟨c, u, hc', rfl⟩ := hv
    refine ⟨_, rfl, wpAny_letOwnedTupleGo_enum (s := { s with heap := h1, toks := tk + 1 }) ho fun h2 he' sb => ?_⟩
    have nT := Nat.ne_of_gt l1
    have gT : h2.get? s.heap.objs.size = some { cls := .type "tuple", data := .seq #[.int i tk, .str ⟨#[c]⟩ u] } := (sb.2 _ nT).trans hT
    have fresh : H s.heap.objs.size = none := I.hok.fresh (Nat.le_refl _)
    have new : ObjOk X.prog X.w (upd H s.heap.objs.size (.tup [.int (i : Nat), .str ⟨#[c]⟩])) h2 s.heap.objs.size (.tup [.int (i : Nat), .str ⟨#[c]⟩]) :=
      ⟨Nat.le_of_ble_eq_true rfl, [.int i tk, .str ⟨#[c]⟩ u], .cons ⟨_, rfl⟩ (.cons ⟨_, rfl⟩ .nil), _, gT, rfl, _, rfl⟩
    have J : Inv X pins σ (upd H s.heap.objs.size (.tup [.int (i : Nat), .str ⟨#[c]⟩])) { s with heap := h2, toks := tk + 1 } := by
      refine I.turnedNew (ch := [e, it]) (fun b ob hb q => ?_) hf (Nat.le_refl _) new
      have n1 : b ≠ e := fun z => hb (by simp [z])
      have n2 : b ≠ it := fun z => hb (by simp [z])
      exact (sb.2 b n1).trans (hk b ob n1 n2 q)
    refine ⟨.ref s.heap.objs.size, _, J, rfl, ⟨_, c, rfl, fresh, hc', rfl⟩, ⟨⟨.str ⟨#[c]⟩ u, ?_⟩, ?_⟩, fun b hb => ?_⟩
    · rw [show ((i + 1 : Nat) : Int) = (i : Int) + 1 by omega]
      exact he'
    · obtain ⟨o, g1, g2⟩ := hit'
      exact ⟨o, (sb.2 it (Ne.symm hne)).trans g1, g2⟩
    · have lb : b < s.heap.objs.size := by
        have e' : b = e ∨ b = it := by simpa using hb
        rcases e' with rfl | rfl <;> assumption
      rw [upd_ne (Nat.ne_of_lt lb)]
      exact (hf b hb).1
  · rintro X rfl rfl rfl hc i pins s σ H E I hf ⟨⟨old, he⟩, hit⟩ hg
    have hh : X.A.in1.handled = none := I.ok.hd hc
    have DD := Draws.text (prog := X.prog) (w := X.w) (A := X.A.in1) hh it x t
    have hi : i = x.cps.size := hg
    subst hi
    obtain ⟨f0, f1, f2, f3, f4, f5⟩ := hf it (by simp)
    exact wpAny_pyNext_enum_endD DD he hit fun h1 eb => ⟨rfl, I.turned (t' := s.toks) (fun b o hb q => eb b o hb q) f0 f1 f3 f4 f5⟩
  · obtain ⟨⟨old, he⟩, _⟩ := st
    exact wpAny_pyIter_enum he h
def iEnS (ta : TA) : TI := fun σ H R => ta σ H fun vs H1 => ∃ x, vs = [.str x] ∧ R (ItE x) H1
theorem pi_enumS {X : Cx} {e : Expr} {ta : TA} {p pos tpos : Pos} {elts : List Expr} {kk : Nat} (hg : Gl X "enumerate") (hm : X.mg "enumerate" = none) (ha : PA X [e] ta) (hs : starEach [e] X.env = [(false, eval e X.env)] := by rfl) :
    PI X (.Tuple elts kk tpos) (.Call (.Name "enumerate" p) [e] [] pos) (iEnS ta) := by
  constructor
  intro pins s σ H R I h
  refine Call_ (ld_blt I hg hm boot_enumerate (PyProof.Rows.callWith_type1 (thn (ha.run pos pins s σ H _ I h) fun us s1 q1 => ?_) hs rfl))
  obtain ⟨vs, H1, I1, r1, x, rfl, q⟩ := q1
  cases r1 with
  | cons r rr =>
    cases rr
    obtain ⟨t, rfl⟩ := r
    refine call_enumerate_str fun h1 he hit hsz hk => wpAny_pyIter_enum he ?_
    have J : Inv X pins σ H1 { s1 with heap := h1 } := I1.kept (t' := s1.toks) hk
    refine ⟨s1.heap.objs.size + 1, [s1.heap.objs.size + 1, s1.heap.objs.size], _, ItE x, H1, rfl, J, turn_enumS x t _ _ (Nat.succ_ne_self _), ⟨⟨.none, he⟩, hit⟩, fun b hb => ?_, q⟩
    have lb : s1.heap.objs.size ≤ b := by
      have e' : b = s1.heap.objs.size + 1 ∨ b = s1.heap.objs.size := by simpa using hb
      rcases e' with rfl | rfl
      · exact Nat.le_succ _
      · exact Nat.le_refl _
    exact I1.fpOk lb (I1.hok.fresh lb)
theorem walk_enumS {x : Str} : Walk (ItE x) x.cps.size (fun _ => True) (fun i H v H' => ∃ T c, v = .ref T ∧ H T = none ∧ x.cps[i]? = some c ∧ H' = upd H T (.tup [.int (i : Nat), .str ⟨#[c]⟩])) :=
  ⟨fun _ _ hi _ => hi, fun _ _ => rfl, fun _ _ _ _ _ _ y => y⟩
end Sw
namespace Sw
open PySem PySem.Spec PyProof.Rows L2
/-! ### comprehensions that leave all as it was -/
theorem lc_map {J : It} {n : Nat} {G : Hp → Prop} {Y : Nat → Hp → V → Hp → Prop} {g : TG} {te : TE} {vs : List Nat} {σ : L2.St} {H1 : Hp} {D : Addr} {Qd : Hp → Prop} (w : Walk J n G Y) (f : Nat → V)
    (hn : n ≤ 1000000) (nD : H1 D = none) (hG : ∀ H, Same H1 H → G H)
    (hs : ∀ i x H H', i < n → Same H1 H → Y i H x H' → ∀ R : V → Hp → Prop, (∀ H4, Same H H4 → R (f i) H4) → g x (wipe σ vs) H' fun σ2 H2 => wipe σ2 vs = wipe σ vs ∧ te σ2 H2 R)
    (hd : ∀ H, Same H1 H → H D = some (.lst ((List.range n).map f)) → Qd H)
    (hmono : ∀ x σ H (R R' : L2.St → Hp → Prop), (∀ σ' H', R σ' H' → R' σ' H') → g x σ H R → g x σ H R') :
    ∃ W : Nat → Nat → Hp → Prop, (∃ m, W 0 m (upd H1 D (.lst []))) ∧ ∀ i m H, W i m H →
      (J.stop i H ∧ Qd H) ∨ (J.go i H ∧ ∃ Nx : Hp → Prop, (∀ H', Nx H' → ∃ m', m' < m ∧ W (i + 1) m' H') ∧ ∀ x H', J.yld i H x H' → g x (wipe σ vs) H' fun σ2 H2 => wipe σ2 vs = wipe σ vs ∧ tYes σ2 H2 fun b H3 =>
        if b = true then te σ2 H3 fun y H4 => ∃ acc, H4 D = some (.lst acc) ∧ acc.length < sizeLine ∧ Nx (upd H4 D (.lst (acc ++ [y]))) else Nx H3) := by
  refine lc_it w (fun i H => Same H1 H ∧ H D = some (.lst ((List.range i).map f))) ⟨same_upd nD, upd_same⟩ (fun i H _ p => hG H p.1) (fun i x H H' hi p y => ?_) (fun H p => hd H p.1 p.2)
  refine hmono _ _ _ _ _ (fun σ2 H2 q => ?_) (hs i x H H' hi p.1 y (fun y H4 => ∃ acc, H4 D = some (.lst acc) ∧ acc.length < sizeLine ∧ (Same H1 (upd H4 D (.lst (acc ++ [y]))) ∧ (upd H4 D (.lst (acc ++ [y]))) D = some (.lst ((List.range (i + 1)).map f)))) (fun H4 s4 => ?_))
  · refine ⟨q.1, ?_⟩
    unfold tYes
    dsimp only
    rw [if_pos rfl]
    exact q.2
  · refine ⟨_, s4 _ _ p.2, ?_, fun b o e => ?_, ?_⟩
    · rw [List.length_map, List.length_range]
      exact Nat.lt_of_lt_of_le hi (Nat.le_trans hn (by decide))
    · rw [upd_ne (ne_of_none e nD)]
      exact s4 _ _ (p.1 _ _ e)
    · rw [upd_same, List.range_succ, List.map_append]
      rfl
theorem mono_name {i : Nat} (x : V) (σ : L2.St) (H : Hp) (R R' : L2.St → Hp → Prop) (h : ∀ σ' H', R σ' H' → R' σ' H') (q : gName i x σ H R) : gName i x σ H R' := h _ _ q
theorem range_map_get {α β : Type} (l : List α) (F : Nat → β) (g : α → β) (h : ∀ i x, l[i]? = some x → F i = g x) : (List.range l.length).map F = l.map g := by
  apply List.ext_getElem?
  intro i
  rw [List.getElem?_map, List.getElem?_map]
  by_cases hi : i < l.length
  · rw [List.getElem?_range hi, List.getElem?_eq_getElem hi]
    show some (F i) = some (g l[i])
    rw [h i _ (List.getElem?_eq_getElem hi)]
  · rw [List.getElem?_eq_none (by rw [List.length_range]; omega), List.getElem?_eq_none (by omega)]; rfl
/-! ### isinstance -/
theorem i_isi {K : PySem.W.Frag} {H : Hp} {Q : VK} {x : V} {t : Value} {n : String} (b : Bool) (h1 : TyX K H x t) (h2 : PySem.W.kitOne K t (.type n) = some b) (h : Q (.bl b) H) : rIsi K [x, .ty n] H Q := ⟨x, .ty n, t, .type n, b, rfl, .ty n, h1, h2, h⟩
/-! ### texts of letters -/
def azB (l : List Nat) : Bool := l.all fun c => decide (97 ≤ c ∧ c ≤ 122)
theorem azB_app (a b : List Nat) : azB (a ++ b) = (azB a && azB b) := by simp [azB, List.all_append]
theorem azB_take {l : List Nat} (h : azB l = true) (n : Nat) : azB (l.take n) = true := by
  unfold azB at *
  rw [List.all_eq_true] at *
  exact fun x hx => h x (List.mem_of_mem_take hx)
theorem azB_drop {l : List Nat} (h : azB l = true) (n : Nat) : azB (l.drop n) = true := by
  unfold azB at *
  rw [List.all_eq_true] at *
  exact fun x hx => h x (List.mem_of_mem_drop hx)
theorem az_letters : (("abcdefghijklmnopqrstuvwxyz" : Str)).cps.toList = List.range' 97 26 := by decide +kernel
theorem az_in (c : Nat) : decide (c ∈ (("abcdefghijklmnopqrstuvwxyz" : Str)).cps.toList) = decide (97 ≤ c ∧ c ≤ 122) := by
  rw [az_letters]
  by_cases h : 97 ≤ c ∧ c ≤ 122
  · rw [decide_eq_true h, decide_eq_true]
    exact List.mem_range'_1.mpr ⟨h.1, by omega⟩
  · rw [decide_eq_false h, decide_eq_false]
    intro q
    have := List.mem_range'_1.mp q
    omega
theorem e_empty : (("" : Str)) = S [] := by decide +kernel
theorem starts_S (a b : List Nat) : Txt.startswith (S a) (S b) = decide (a.take b.length = b) := by
  unfold Txt.startswith Builtin.Str.subAt
  rw [S_len, S_len]
  show (decide (0 + b.length ≤ a.length) && ((a.toArray.extract 0 (0 + b.length)) == b.toArray)) = _
  rw [Nat.zero_add]
  have e : (a.toArray.extract 0 b.length) = (a.take b.length).toArray := by
    rw [List.extract_toArray, List.extract_eq_take_drop]
    simp
  rw [e]
  by_cases h : a.take b.length = b
  · rw [h, decide_eq_true rfl, beq_self_eq_true, Bool.and_true, decide_eq_true]
    have := congrArg List.length h
    rw [List.length_take] at this
    omega
  · rw [decide_eq_false h]
    have : ((a.take b.length).toArray == b.toArray) = false := by
      rw [beq_eq_false_iff_ne]
      intro q
      exact h (by simpa using q)
    rw [this, Bool.and_false]
/-! ### what is known of a heap stays -/
theorem Same.at {H H' : Hp} {a : Addr} {o : HO} (s : Same H H') (h : H a = some o) : H' a = some o := s a o h
theorem Same.sqT {K : PySem.W.Frag} {H H' : Hp} {a : Addr} {xs : List V} (e : Same H H') (h : SqT K H a xs) : SqT K H' a xs := by
  rcases h with (h | ⟨o, h⟩) | h
  · exact .inl (.inl (e _ _ h))
  · exact .inl (.inr ⟨o, e _ _ h⟩)
  · exact .inr h
theorem Same.sqL {K : PySem.W.Frag} {H H' : Hp} {a : Addr} {xs : List V} (e : Same H H') (h : SqL K H a xs) : SqL K H' a xs := e.seq h
theorem Same.upd_new {H H1 : Hp} {p : Addr} {o : HO} (s : Same H H1) (n : H1 p = none) : Same H (upd H1 p o) := s.trans (same_upd n)
/-- an object that is new since H is written: what was tracked at H stays -/
theorem Same.set_new {H H1 : Hp} {p : Addr} {o : HO} (s : Same H H1) (n : H p = none) : Same H (upd H1 p o) := fun b x e => by
  rw [upd_ne (ne_of_none e n)]
  exact s _ _ e
/-! ### loops and comprehensions, their source apart -/
def LcGo (J : It) (g : TG) (tt : TT) (te : TE) (vs : List Nat) (σ : L2.St) (H : Hp) (Q : VK) : Prop := tLc (fun _ H R => R J H) g tt te vs σ H Q
def ForGo (J : It) (g : TG) (tb : TS) (D : Ends) (σ : L2.St) (H : Hp) : Prop := tFor (fun _ H R => R J H) g tb D σ H
theorem i_lc {wi : TI} {g : TG} {tt : TT} {te : TE} {vs : List Nat} {σ : L2.St} {H : Hp} {Q : VK} (h : wi σ H fun J H1 => LcGo J g tt te vs σ H1 Q) : tLc wi g tt te vs σ H Q := h
theorem i_for {wi : TI} {g : TG} {tb : TS} {D : Ends} {σ : L2.St} {H : Hp} (h : wi σ H fun J H1 => ForGo J g tb D σ H1) : tFor wi g tb D σ H := h
theorem i_iList {K : PySem.W.Frag} {tl : TE} {R : It → Hp → Prop} {σ : L2.St} {H : Hp} (h : tl σ H fun x H1 => ∃ a, x = .ref a ∧ (∃ xs, SqL K H1 a xs) ∧ R (Itl K a) H1) : iList K tl σ H R := h
theorem i_iTup {K : PySem.W.Frag} {tl : TE} {R : It → Hp → Prop} {σ : L2.St} {H : Hp} (h : tl σ H fun x H1 => ∃ a, x = .ref a ∧ (∃ xs, SqT K H1 a xs) ∧ R (Itt K a) H1) : iTup K tl σ H R := h
theorem i_iStr {te : TE} {R : It → Hp → Prop} {σ : L2.St} {H : Hp} (h : te σ H fun v H1 => ∃ x, v = .str x ∧ R (Its x) H1) : iStr te σ H R := h
theorem i_iRng1 {ta : TA} {R : It → Hp → Prop} {σ : L2.St} {H : Hp} (h : ta σ H fun vs H1 => ∃ j : Int, vs = [.int j] ∧ -(2 ^ 62) ≤ j ∧ j < 2 ^ 62 ∧ R (Itr 0 j.toNat) H1) : iRng1 ta σ H R := h
theorem i_iEnS {ta : TA} {R : It → Hp → Prop} {σ : L2.St} {H : Hp} (h : ta σ H fun vs H1 => ∃ x, vs = [.str x] ∧ R (ItE x) H1) : iEnS ta σ H R := h
theorem i_rng {j : Int} {A : Prop} (h0 : 0 ≤ j) (h1 : j ≤ 1000000) (h : A) : -(2 ^ 62) ≤ j ∧ j < 2 ^ 62 ∧ A := ⟨by omega, by omega, h⟩
theorem i_sqL {K : PySem.W.Frag} {H : Hp} {a : Addr} {xs : List V} {A : Prop} (h1 : SqL K H a xs) (h : A) : (∃ xs, SqL K H a xs) ∧ A := ⟨⟨xs, h1⟩, h⟩
section
variable {J : It} {n : Nat} {G : Hp → Prop} {Y : Nat → Hp → V → Hp → Prop} {g : TG} {tt : TT} {te : TE} {tb : TS} {vs : List Nat} {σ : L2.St} {H1 : Hp} {D : Ends} {Q : VK}
theorem go_map (w : Walk J n G Y) (f : Nat → V) (hn : n ≤ 1000000) (hG : ∀ H, Same H1 H → G H)
    (hs : ∀ i x H H', i < n → Same H1 H → Y i H x H' → ∀ R : V → Hp → Prop, (∀ H4, Same H H4 → R (f i) H4) → g x (wipe σ vs) H' fun σ2 H2 => wipe σ2 vs = wipe σ vs ∧ te σ2 H2 R)
    (hmono : ∀ x σ H (R R' : L2.St → Hp → Prop), (∀ σ' H', R σ' H' → R' σ' H') → g x σ H R → g x σ H R')
    (hd : ∀ p H, H1 p = none → Same H1 H → H p = some (.lst ((List.range n).map f)) → Q (.ref p) H) : LcGo J g tYes te vs σ H1 Q :=
  fun p np => lc_map w f hn np hG hs (fun H s e => hd p H np s e) hmono
theorem go_lc (w : Walk J n G Y) (Pv : Addr → Nat → Hp → Prop) (h0 : ∀ p, H1 p = none → Pv p 0 (upd H1 p (.lst []))) (hG : ∀ p i H, i ≤ n → Pv p i H → G H)
    (hs : ∀ p, H1 p = none → ∀ i x H H', i < n → Pv p i H → Y i H x H' → g x (wipe σ vs) H' fun σ2 H2 => wipe σ2 vs = wipe σ vs ∧ tt σ2 H2 fun b H3 =>
      if b = true then te σ2 H3 fun y H4 => ∃ acc, H4 p = some (.lst acc) ∧ acc.length < sizeLine ∧ Pv p (i + 1) (upd H4 p (.lst (acc ++ [y]))) else Pv p (i + 1) H3)
    (hd : ∀ p H, H1 p = none → Pv p n H → Q (.ref p) H) : LcGo J g tt te vs σ H1 Q :=
  fun p np => lc_it w (Pv p) (h0 p np) (hG p) (hs p np) fun H q => hd p H np q
theorem go_for (w : Walk J n G Y) (Pv : Nat → L2.St → Hp → Prop) (h0 : Pv 0 σ H1) (hG : ∀ i σ H, i ≤ n → Pv i σ H → G H)
    (hs : ∀ i x σ H H', i < n → Pv i σ H → Y i H x H' → g x σ H' fun σ2 H2 => tb { D with nx := Pv (i + 1), ct := Pv (i + 1), bk := D.nx } σ2 H2) (hd : ∀ σ H, Pv n σ H → D.nx σ H) : ForGo J g tb D σ H1 :=
  for_it w Pv h0 hG hs hd
end
theorem i_all {K : PySem.W.Frag} {p : Addr} {bs : List Bool} {H : Hp} {Q : VK} (h1 : H p = some (.lst (bs.map V.bl))) (h : Q (.bl (bs.all id)) H) : rAll K [.ref p] H Q := ⟨p, bs, rfl, sqL_of h1, h⟩
theorem i_inSeq {K : PySem.W.Frag} {p : Addr} {xs : List V} {x : V} {H : Hp} {Q : VK} (h1 : SqL K H p xs ∨ SqT K H p xs) (h2 : flatV x = true) (h3 : xs.all flatV = true) (h : Q (.bl (inV x xs)) H) : rIn K false x (.ref p) H Q := ⟨p, xs, rfl, h1, h2, h3, h⟩
theorem i_ixLH {K : PySem.W.Frag} {p : Addr} {xs : List V} {i : Int} {v : V} {H : Hp} {Q : VK} (h1 : H p = some (.lst xs)) (h2 : atI xs i = some v) (h : Q v H) : rIxL K (.ref p) (.int i) H Q := i_ixL (sqL_of h1) h2 h
theorem i_ixTH {K : PySem.W.Frag} {p : Addr} {xs : List V} {i : Int} {v : V} {H : Hp} {Q : VK} (h1 : H p = some (.tup xs)) (h2 : atI xs i = some v) (h : Q v H) : rIxT K (.ref p) (.int i) H Q := i_ixT (sqT_of h1) h2 h
theorem upd_old {H : Hp} {p a : Addr} {o u : HO} (n : H p = none) (h : H a = some u) : upd H p o a = some u := by rw [upd_ne (ne_of_none h n)]; exact h
theorem upd_skip {H : Hp} {p a : Addr} {o u : HO} (n : a ≠ p) (h : H a = some u) : upd H p o a = some u := by rw [upd_ne n]; exact h
theorem iteNT {A B : Prop} (h : B) : if (!true) = true then A else B := iteF h
theorem iteNF {A B : Prop} (h : A) : if (!false) = true then A else B := iteT h
theorem iteNB {p : Prop} [Decidable p] {A B : Prop} (h1 : ¬ p → A) (h2 : p → B) : if (!decide p) = true then A else B := by
  by_cases h : p
  · rw [decide_eq_true h]; exact iteF (h2 h)
  · rw [decide_eq_false h]; exact iteT (h1 h)
theorem iteNC {c : Bool} {A B : Prop} (h1 : c = false → A) (h2 : c = true → B) : if (!c) = true then A else B := by
  cases c with
  | true => exact iteF (h2 rfl)
  | false => exact iteT (h1 rfl)
/-! ### rules whose readings have names, over texts S l -/
section
variable {X : Cx} {H : Hp} {Q : VK} {K : PySem.W.Frag}
theorem pe_strS {x : Str} {j pos} {l : List Nat} (e : x = S l) : PE X (.Constant (.str x) j pos) (tC (.str (S l))) := by rw [e]; exact pe_str
def rAddS : R2 := fun x y H Q => ∃ a b, x = .str (S a) ∧ y = .str (S b) ∧ a.length + b.length ≤ 1000000 ∧ Q (.str (S (a ++ b))) H
theorem op_addS : OpR X (binaryOp .Add) rAddS := fun pins s σ H x y v u Q I rx ry h => by
  obtain ⟨a, b, e1, e2, hz, q⟩ := h
  exact op_add_str pins s σ H x y v u Q I rx ry ⟨S a, S b, e1, e2, by rw [S_len, S_len]; exact Nat.le_trans hz (by decide), by rw [S_app]; exact q⟩
theorem i_addS {a b : List Nat} (h1 : a.length + b.length ≤ 1000000) (h : Q (.str (S (a ++ b))) H) : rAddS (.str (S a)) (.str (S b)) H Q := ⟨a, b, rfl, rfl, h1, h⟩
def rIxSS : V → V → Hp → VK → Prop := fun x y H Q => ∃ l i c, x = .str (S l) ∧ y = .int i ∧ l.length ≤ 1000000 ∧ atI l i = some c ∧ Q (.str (S [c])) H
theorem ix_S : IxR X rIxSS := fun pins s σ H x y v u b Q I rx ry hb h => by
  obtain ⟨l, i, c, e1, e2, hz, hc, q⟩ := h
  exact ix_str pins s σ H x y v u b Q I rx ry hb ⟨S l, i, c, e1, e2, by rw [S_len]; exact Nat.le_trans hz (by decide), by rw [S_list]; exact hc, q⟩
theorem i_ixSS {l : List Nat} {i : Int} {c : Nat} (h1 : l.length ≤ 1000000) (h2 : atI l i = some c) (h : Q (.str (S [c])) H) : rIxSS (.str (S l)) (.int i) H Q := ⟨l, i, c, rfl, rfl, h1, h2, h⟩
def rSlSS : V → Option Int → Option Int → Hp → VK → Prop := fun x lo hi H Q => ∃ l, x = .str (S l) ∧ l.length ≤ 1000000 ∧ Q (.str (S (cut l lo hi))) H
theorem sl_S : SlR X rSlSS := fun pins s σ H x v vl vu lo hi sl Q I rx hs pl pu h => by
  obtain ⟨l, e1, hz, q⟩ := h
  exact sl_str pins s σ H x v vl vu lo hi sl Q I rx hs pl pu ⟨S l, e1, by rw [S_len]; exact Nat.le_trans hz (by decide), by rw [cutS_S]; exact q⟩
theorem i_slFrom {l : List Nat} {k : Int} (h0 : 0 ≤ k) (h1 : l.length ≤ 1000000) (h : Q (.str (S (l.drop k.toNat))) H) : rSlSS (.str (S l)) (some k) none H Q :=
  ⟨l, rfl, h1, by rw [show k = ((k.toNat : Nat) : Int) by omega, cut_from]; exact h⟩
theorem i_slTo {l : List Nat} {k : Int} (h0 : 0 ≤ k) (h1 : l.length ≤ 1000000) (h : Q (.str (S (l.take k.toNat))) H) : rSlSS (.str (S l)) none (some k) H Q :=
  ⟨l, rfl, h1, by rw [show k = ((k.toNat : Nat) : Int) by omega, cut_to]; exact h⟩
def rLenSS : List V → Hp → VK → Prop := fun xs H Q => ∃ l, xs = [.str (S l)] ∧ l.length ≤ 1000000 ∧ Q (.int (l.length : Int)) H
theorem call_lenS : CallR X (.builtin "len") rLenSS := fun pins s σ H xs us Q I r h => by
  obtain ⟨l, e1, hz, q⟩ := h
  exact call_len_str pins s σ H xs us Q I r ⟨S l, e1, by rw [S_len]; exact Nat.le_trans hz (by decide), by rw [S_len]; exact q⟩
theorem i_lenSS {l : List Nat} (h1 : l.length ≤ 1000000) (h : Q (.int (l.length : Int)) H) : rLenSS [.str (S l)] H Q := ⟨l, rfl, h1, h⟩
def rStartS : V → List V → Hp → VK → Prop := fun x xs H Q => ∃ a b, x = .str (S a) ∧ xs = [.str (S b)] ∧ Q (.bl (decide (a.take b.length = b))) H
theorem mt_startsS : MtR X "str.startswith" rStartS := fun pins s σ H x xs v us Q I rx rv h => by
  obtain ⟨a, b, e1, e2, q⟩ := h
  exact mt_startswith pins s σ H x xs v us Q I rx rv ⟨S a, S b, e1, e2, by rw [starts_S]; exact q⟩
theorem i_startS {a b : List Nat} (h : Q (.bl (decide (a.take b.length = b))) H) : rStartS (.str (S a)) [.str (S b)] H Q := ⟨a, b, rfl, rfl, h⟩
def rInSg : R2 := fun x y H Q => ∃ (c : Nat) (z : Str), x = .str (S [c]) ∧ y = .str z ∧ Q (.bl (decide (c ∈ z.cps.toList))) H
theorem op_inSg : OpR X (compareOp .In) rInSg := op_in_sign
theorem i_inSg {c : Nat} {z : Str} (h : Q (.bl (decide (c ∈ z.cps.toList))) H) : rInSg (.str (S [c])) (.str z) H Q := ⟨c, z, rfl, rfl, h⟩
def rAbs : List V → Hp → VK → Prop := fun xs H Q => ∃ i, xs = [.int i] ∧ Q (.int (if i < 0 then -i else i)) H
theorem call_absN : CallR X (.builtin "abs") rAbs := call_abs
theorem i_absN {i : Int} (h : Q (.int (if i < 0 then -i else i)) H) : rAbs [.int i] H Q := ⟨i, rfl, h⟩
def rMin2 : List V → Hp → VK → Prop := fun xs H Q => ∃ i j, xs = [.int i, .int j] ∧ Q (.int (if j < i then j else i)) H
theorem call_min2N (hc : X.calm = true) : CallR X (.builtin "min") rMin2 := call_min2 hc
theorem i_min2 {i j : Int} (h : Q (.int (min i j)) H) : rMin2 [.int i, .int j] H Q := ⟨i, j, rfl, by
  by_cases c : j < i
  · rw [if_pos c]; rw [show min i j = j by omega] at h; exact h
  · rw [if_neg c]; rw [show min i j = i by omega] at h; exact h⟩
def rMax2 : List V → Hp → VK → Prop := fun xs H Q => ∃ i j, xs = [.int i, .int j] ∧ Q (.int (if j > i then j else i)) H
theorem call_max2N (hc : X.calm = true) : CallR X (.builtin "max") rMax2 := call_max2 hc
theorem i_max2 {i j : Int} (h : Q (.int (max i j)) H) : rMax2 [.int i, .int j] H Q := ⟨i, j, rfl, by
  by_cases c : j > i
  · rw [if_pos c]; rw [show max i j = j by omega] at h; exact h
  · rw [if_neg c]; rw [show max i j = i by omega] at h; exact h⟩
def rMin3 : List V → Hp → VK → Prop := fun xs H Q => ∃ i j k, xs = [.int i, .int j, .int k] ∧ Q (.int (min (min i j) k)) H
theorem nuMin2_int (i j : Int) : nuMin2 (.int i) (.int j) = some (.int (min i j)) := by
  show some (if decide (j < i) = true then V.int j else V.int i) = some (.int (min i j))
  by_cases c : j < i
  · rw [decide_eq_true c, if_pos rfl, show min i j = j by omega]
  · rw [decide_eq_false c, if_neg Bool.false_ne_true, show min i j = i by omega]
theorem call_min3N (hc : X.calm = true) : CallR X (.builtin "min") rMin3 := fun pins s σ H xs us Q I r h => by
  obtain ⟨i, j, k, e1, q⟩ := h
  exact call_min3Nu hc pins s σ H xs us Q I r ⟨_, _, _, _, e1, by unfold nuMin3; rw [nuMin2_int]; show nuMin2 (.int (min i j)) (.int k) = _; rw [nuMin2_int], q⟩
theorem i_min3 {i j k : Int} (h : Q (.int (min (min i j) k)) H) : rMin3 [.int i, .int j, .int k] H Q := ⟨i, j, k, rfl, h⟩
def rInt : List V → Hp → VK → Prop := fun xs H Q => (∃ i, xs = [.int i] ∧ Q (.int i) H) ∨ ∃ k, xs = [.bl k] ∧ Q (.int (if k then 1 else 0)) H
theorem call_intN : CallR X (.type "int") rInt := call_int1
theorem i_intN {i : Int} (h : Q (.int i) H) : rInt [.int i] H Q := .inl ⟨i, rfl, h⟩
theorem i_intNB {k : Bool} (h : Q (.int (if k then 1 else 0)) H) : rInt [.bl k] H Q := .inr ⟨k, rfl, h⟩
def rLenQ (K : PySem.W.Frag) : List V → Hp → VK → Prop := fun xs H Q => ∃ p ys, xs = [.ref p] ∧ (SqL K H p ys ∨ SqT K H p ys) ∧ Q (.int ys.length) H
theorem call_lenQ : CallR X (.builtin "len") (rLenQ X.K) := call_len_seq
theorem i_lenL {p : Addr} {ys : List V} (h1 : H p = some (.lst ys)) (h : Q (.int ys.length) H) : rLenQ K [.ref p] H Q := ⟨p, ys, rfl, .inl (sqL_of h1), h⟩
theorem i_lenT {p : Addr} {ys : List V} (h1 : H p = some (.tup ys)) (h : Q (.int ys.length) H) : rLenQ K [.ref p] H Q := ⟨p, ys, rfl, .inr (sqT_of h1), h⟩
theorem i_lenK {p : Addr} {ys : List V} (h1 : SqL K H p ys) (h : Q (.int ys.length) H) : rLenQ K [.ref p] H Q := ⟨p, ys, rfl, .inl h1, h⟩
theorem dec_inj {α β : Type} [DecidableEq α] [DecidableEq β] {f : α → β} (hf : ∀ a b, f a = f b → a = b) (a b : α) : decide (f a = f b) = decide (a = b) := by
  by_cases h : a = b
  · subst h; simp
  · rw [decide_eq_false h, decide_eq_false (fun e => h (hf a b e))]
theorem dec_I (a b : Int) : decide (V.int a = V.int b) = decide (a = b) := dec_inj (fun _ _ e => V.int.inj e) a b
theorem i_eqI {a b : Int} (h : Q (.bl (decide (a = b))) H) : rEq (.int a) (.int b) H Q := ⟨rfl, by rw [dec_I]; exact h⟩
theorem i_neI {a b : Int} (h : Q (.bl (!decide (a = b))) H) : rNe (.int a) (.int b) H Q := ⟨rfl, by rw [dec_I]; exact h⟩
theorem i_eqS {a b : List Nat} (h : Q (.bl (decide (a = b))) H) : rEq (.str (S a)) (.str (S b)) H Q := ⟨rfl, by rw [S_dec]; exact h⟩
theorem i_neS {a b : List Nat} (h : Q (.bl (!decide (a = b))) H) : rNe (.str (S a)) (.str (S b)) H Q := ⟨rfl, by rw [S_dec]; exact h⟩
def rIsNo : R2 := fun x y H Q => y = .non ∧ Q (.bl (decide (x = .non))) H
theorem op_isNo : OpR X (compareOp .Is) rIsNo := op_isN
theorem i_isNoI {i : Int} (h : Q (.bl false) H) : rIsNo (.int i) .non H Q := ⟨rfl, h⟩
theorem i_isNoN (h : Q (.bl true) H) : rIsNo .non .non H Q := ⟨rfl, h⟩
theorem i_isNoR {a : Addr} (h : Q (.bl false) H) : rIsNo (.ref a) .non H Q := ⟨rfl, h⟩
def rRepI : List V → Hp → VK → Prop := fun xs H Q => ∃ i, xs = [.int i] ∧ i.natAbs.log2 < 1920 ∧ Q (.str (toString i)) H
theorem call_repI : CallR X (.builtin "repr") rRepI := SkE.call_repr_int
end
theorem walk_S {l : List Nat} : Walk (Its (S l)) l.length (fun _ => True) (fun i H v H' => H' = H ∧ ∃ c, l[i]? = some c ∧ v = .str (S [c])) := by
  have w := walk_str (z := S l)
  rw [S_size] at w
  exact w.mono (fun _ _ => trivial) fun i H x H' _ _ y => by
    obtain ⟨e, c, hc, ev⟩ := y
    rw [S_get] at hc
    exact ⟨e, c, hc, ev⟩
theorem walk_eS {l : List Nat} : Walk (ItE (S l)) l.length (fun _ => True) (fun i H v H' => ∃ T c, v = .ref T ∧ H T = none ∧ l[i]? = some c ∧ H' = upd H T (.tup [.int (i : Nat), .str (S [c])])) := by
  have w := walk_enumS (x := S l)
  rw [S_size] at w
  exact w.mono (fun _ _ => trivial) fun i H x H' _ _ y => by
    obtain ⟨T, c, e, n, hc, eh⟩ := y
    rw [S_get] at hc
    exact ⟨T, c, e, n, hc, eh⟩
theorem go_while {c : TT} {tb : TS} {D : Ends} {σ : L2.St} {H : Hp} (Pv : Nat → L2.St → Hp → Prop) (m0 : Nat) (h0 : Pv m0 σ H)
    (hs : ∀ m σ H, Pv m σ H → c σ H fun b H1 => if b = true then ∃ N : L2.St → Hp → Prop, (∀ σ' H', N σ' H' → ∃ m', m' < m ∧ Pv m' σ' H') ∧ tb { D with nx := N, ct := N, bk := D.nx } σ H1 else D.nx σ H1) : tWhile c tb D σ H :=
  ⟨Pv, ⟨m0, h0⟩, hs⟩
theorem next_turn {m : Nat} {Pv : Nat → L2.St → Hp → Prop} {A : (L2.St → Hp → Prop) → Prop} (h : A fun σ' H' => ∃ m', m' < m ∧ Pv m' σ' H') : ∃ N : L2.St → Hp → Prop, (∀ σ' H', N σ' H' → ∃ m', m' < m ∧ Pv m' σ' H') ∧ A N := ⟨_, fun _ _ q => q, h⟩
def rRevS : V → Hp → VK → Prop := fun x H Q => ∃ l, x = .str (S l) ∧ l.length ≤ sizeLine ∧ Q (.str (S l.reverse)) H
theorem i_revS {te : TE} {σ : L2.St} {H : Hp} {Q : VK} (h : te σ H fun x H1 => rRevS x H1 Q) : tRevS te σ H Q := h
theorem i_revSS {l : List Nat} {H : Hp} {Q : VK} (h1 : l.length ≤ 1000000) (h : Q (.str (S l.reverse)) H) : rRevS (.str (S l)) H Q := ⟨l, rfl, Nat.le_trans h1 (by decide), h⟩
theorem i_cut {t u : TS} {D : Ends} {σ : L2.St} {H : Hp} (Mid : L2.St → Hp → Prop) (h1 : t { D with nx := Mid } σ H) (h2 : ∀ σ' H', Mid σ' H' → u D σ' H') : C8.tCut t u D σ H := ⟨Mid, h1, h2⟩
theorem i_minL {K : PySem.W.Frag} {p : Addr} {ns : List Int} {H : Hp} {Q : VK} (h1 : H p = some (.lst (ns.map V.int))) (h2 : 0 < ns.length) (h : ∀ m, m ∈ ns → (∀ y, y ∈ ns → m ≤ y) → Q (.int m) H) : rMin K [.ref p] H Q := ⟨p, ns, rfl, sqL_of h1, h2, h⟩
/-- one half of an if: what is appended, or nothing -/
theorem i_chainLL {g : Int → Int → Bool} {g' : Int → Int → Bool} {σ : L2.St} {H : Hp} {R : Bool → Hp → Prop} {i j k : Int}
    (h : R (g i j && g' j k) H) : rI0 (fun a b => .bl (g a b)) (.int i) (.int j) H fun z H3 => ∃ c, z = .bl c ∧ (if c = true then rI0 (fun a b => .bl (g' a b)) (.int j) (.int k) H3 fun x H4 => ∃ d, x = .bl d ∧ R d H4 else ∃ d, V.bl false = .bl d ∧ R d H3) := by
  refine ⟨i, j, rfl, rfl, g i j, rfl, ?_⟩
  cases e : g i j with
  | true => rw [e] at h; exact iteT ⟨j, k, rfl, rfl, g' j k, rfl, h⟩
  | false => rw [e] at h; exact iteF ⟨false, rfl, h⟩
theorem walk_rangeZ {n : Nat} : Walk (Itr 0 n) n (fun _ => True) (YFn fun i => .int (i : Int)) :=
  (walk_range (lo := 0) (n := n)).mono (fun _ h => h) fun i H x H' _ _ y => ⟨y.1, by rw [y.2]; show V.int (0 + (i : Int)) = V.int (i : Int); rw [Int.zero_add]⟩
theorem i_ixLI {K : PySem.W.Frag} {p : Addr} {ns : List Int} {i v : Int} {H : Hp} {Q : VK} (h1 : H p = some (.lst (ns.map V.int))) (h0 : 0 ≤ i) (h2 : ns[i.toNat]? = some v) (h : Q (.int v) H) : rIxL K (.ref p) (.int i) H Q := by
  refine i_ixLH h1 ?_ h
  have e := atI_nat (xs := ns.map V.int) (j := i.toNat) (v := .int v) (by rw [List.getElem?_map, h2]; rfl)
  rwa [show ((i.toNat : Nat) : Int) = i by omega] at e
theorem i_ixSI {l : List Nat} {i : Int} {c : Nat} {H : Hp} {Q : VK} (h0 : 0 ≤ i) (h2 : l[i.toNat]? = some c) (h1 : l.length ≤ 1000000) (h : Q (.str (S [c])) H) : rIxSS (.str (S l)) (.int i) H Q := by
  refine i_ixSS h1 ?_ h
  have e := atI_nat (xs := l) (j := i.toNat) (v := c) h2
  rwa [show ((i.toNat : Nat) : Int) = i by omega] at e
theorem i_appI {p : Addr} {ns : List Int} {v : Int} {H : Hp} {Q : VK} (h1 : H p = some (.lst (ns.map V.int))) (h2 : ns.length ≤ 1000000) (h : Q .non (upd H p (.lst ((ns ++ [v]).map V.int)))) : rAppend (.ref p) [.int v] H Q := by
  refine i_append h1 (by rw [List.length_map]; exact Nat.lt_of_le_of_lt h2 (by decide)) ?_
  rw [List.map_append] at h
  exact h
theorem i_gTupH {K : PySem.W.Frag} {n : Nat} {t : TGs} {a : Addr} {xs : List V} {σ : L2.St} {H : Hp} {R : L2.St → Hp → Prop} (h1 : H a = some (.tup xs)) (h2 : xs.length = n) (h : t xs σ H R) : gTup K n t (.ref a) σ H R := ⟨a, xs, rfl, sqT_of h1, h2, h⟩
theorem join_S (ws : List (List Nat)) : Txt.join (S []) (ws.map S) = S ws.flatten := by
  unfold Txt.join
  rw [StrLaws.glued_eq_join]
  induction ws with
  | nil => rfl
  | cons w ws ih =>
    cases ws with
    | nil => simp [Str.join]
    | cons v ws =>
      show S w ++ S [] ++ Str.join (S []) ((v :: ws).map S) = _
      rw [ih, S_app, S_app, List.append_nil]
      rfl
theorem sum_lens (ws : List (List Nat)) : ((ws.map S).map (·.length)).sum = ws.flatten.length := by
  induction ws with
  | nil => rfl
  | cons w ws ih =>
    rw [List.map_cons, List.map_cons, List.sum_cons, ih, List.flatten_cons, List.length_append, S_len]
def rJoinS (K : PySem.W.Frag) : V → List V → Hp → VK → Prop := fun x xs H Q => ∃ p, ∃ ws : List (List Nat), x = .str (S []) ∧ xs = [.ref p] ∧ (SqL K H p (ws.map fun l => .str (S l)) ∨ SqT K H p (ws.map fun l => .str (S l))) ∧ ws.flatten.length ≤ 1000000 ∧ Q (.str (S ws.flatten)) H
theorem mt_joinS {X : Cx} : MtR X "str.join" (rJoinS X.K) := fun pins s σ H x xs v us Q I rx rv h => by
  obtain ⟨p, ws, e1, e2, hp, hl, q⟩ := h
  have e3 : (ws.map fun l => V.str (S l)) = (ws.map S).map V.str := by rw [List.map_map]; rfl
  rw [e3] at hp
  refine mt_join pins s σ H x xs v us Q I rx rv ⟨S [], p, ws.map S, e1, e2, hp, ?_, by rw [join_S]; exact q⟩
  rw [sum_lens, show (S []).length = 0 from rfl, Nat.mul_zero, Nat.add_zero]
  omega
theorem i_joinS {K : PySem.W.Frag} {p : Addr} {ws : List (List Nat)} {H : Hp} {Q : VK} (h1 : H p = some (.lst (ws.map fun l => .str (S l)))) (h2 : ws.flatten.length ≤ 1000000) (h : Q (.str (S ws.flatten)) H) : rJoinS K (.str (S [])) [.ref p] H Q :=
  ⟨p, ws, rfl, rfl, .inl (sqL_of h1), h2, h⟩
theorem atI_neg1 {α : Type} {xs : List α} {v : α} {n : Nat} (h : xs.length = n + 1) (h2 : xs[n]? = some v) : atI xs (-1) = some v := by
  have e : xs = xs.dropLast ++ [v] := by
    have hne : xs ≠ [] := by intro z; rw [z] at h; cases h
    have := List.dropLast_concat_getLast hne
    have e2 : xs.getLast hne = v := by
      rw [List.getLast_eq_getElem]
      have := List.getElem?_eq_some_iff.mp h2
      obtain ⟨_, q⟩ := this
      simpa [h] using q
    rw [e2] at this
    exact this.symm
  rw [e]
  exact atI_last _ _
theorem i_ixLv {K : PySem.W.Frag} {p : Addr} {xs : List V} {i : Int} {v : V} {H : Hp} {Q : VK} (h1 : H p = some (.lst xs)) (h0 : 0 ≤ i) (h2 : xs[i.toNat]? = some v) (h : Q v H) : rIxL K (.ref p) (.int i) H Q := by
  refine i_ixLH h1 ?_ h
  have e := atI_nat (xs := xs) (j := i.toNat) (v := v) h2
  rwa [show ((i.toNat : Nat) : Int) = i by omega] at e
theorem i_rU {g : Int → V} {i : Int} {H : Hp} {Q : VK} (h : Q (g i) H) : rU g (.int i) H Q := ⟨i, rfl, h⟩
end Sw
namespace Sw
open PySem PySem.Spec PyProof.Rows L2
/-! ### t[::-1] of a tuple -/
theorem back_adjust (n : Nat) : Builtin.Slice.sliceAdjust none none (-1) (n : Int) = ((n : Int) - 1, -1) := by
  unfold Builtin.Slice.sliceAdjust
  simp
theorem back_places (n : Nat) : Builtin.Slice.slicePlaces ((n : Int) - 1) (-1) (-1) = n := by
  unfold Builtin.Slice.slicePlaces
  simp only [show ¬ ((-1 : Int) > 0) by decide, if_false]
  split <;> simp <;> omega
theorem fm_congr {α β : Type} {f g : α → Option β} : ∀ {l : List α}, (∀ a ∈ l, f a = g a) → l.filterMap f = l.filterMap g
  | [], _ => rfl
  | a :: l, h => by
    rw [List.filterMap_cons, List.filterMap_cons, h a List.mem_cons_self, fm_congr fun b hb => h b (List.mem_cons_of_mem _ hb)]
theorem back_pick {α : Type} (l : List α) : ((List.range l.length).filterMap fun (k : Nat) => l.toArray[(((l.length : Int) - 1) + (k : Int) * (-1)).toNat]?) = l.reverse := by
  have e : ∀ k ∈ List.range l.length, l.toArray[(((l.length : Int) - 1) + (k : Int) * (-1)).toNat]? = l.reverse[k]? := by
    intro k hk
    have hk := List.mem_range.mp hk
    rw [List.getElem?_reverse hk, List.getElem?_toArray]
    congr 1
    omega
  rw [fm_congr e]
  have h2 : ∀ m : List α, (List.range m.length).filterMap (fun k => m[k]?) = m := by
    intro m
    induction m with
    | nil => rfl
    | cons a m ih =>
      rw [List.length_cons, List.range_succ_eq_map, List.filterMap_cons, List.filterMap_map]
      show a :: List.filterMap ((fun k => (a :: m)[k]?) ∘ Nat.succ) (List.range m.length) = a :: m
      congr 1
  have := h2 l.reverse
  rwa [List.length_reverse] at this
theorem getItem_tuple_back {prog : Program} {w : World} {A : Around} {E : Value → Shared → Prop} {s : Shared} {t sl : Addr} {ys : List Value} {u : Tok} {Q : Value → Shared → Prop} (ht : IsTup s.heap t ys.toArray)
    (hs : ∃ os, s.heap.get? sl = some os ∧ os.cls = .type "slice" ∧ os.data = .fields #[.none, .none, .int (-1) u])
    (h : Q (.ref s.heap.objs.size) { s with heap := s.heap.push { cls := .type "tuple", data := .seq ys.reverse.toArray } }) (hz : ys.length ≤ sizeLine) : wpAny (model prog w) A (getItem (.ref t) (.ref sl)) Q E s := by
  have hno' : sizeOk (.seq ys.reverse.toArray) := by
    show ys.reverse.toArray.size ≤ sizeLine
    rw [List.size_toArray, List.length_reverse]
    exact hz
  obtain ⟨os, hos, hcs, hds⟩ := hs
  have hTs : s.TypeIs (.ref sl) "slice" := ⟨os, hos, hcs⟩
  unfold getItem
  try with_reducible refine wpAny_holding ?_
  first | refine wpAny_bind (wpAny_pure ?_) | skip
  refine wpAny_bind (wpAny_sequenceKey ht.typeIs (by decide) ?_)
  refine wpAny_bind (wpAny_callSpecial?_slot (name := Str.ofString "__getitem__") ht.typeIs PyProof.Rows.slot_tuple_getitem (wpAny_call_entry PyProof.Rows.slot_tuple_getitem ht.typeIs entry_tuple_getitem ?_ (args_tuple_getitem _ _)))
  show wpAny _ _ (Builtin.Tuple.tupleItemsOf (.ref t) >>= _) _ _ s
  refine wpAny_bind (tupleItemsOf_ ht ?_)
  refine wpAny_bind (wpAny_typeOf hTs ?_)
  rw [if_pos (by decide)]
  have ap : ∀ {R : Int × Int × Nat → Shared → Prop}, R (((ys.toArray.size : Nat) : Int) - 1, -1, ys.toArray.size) s → wpAny (model prog w) A.in1 (Builtin.Slice.sliceApplied (.ref sl) (pure ((ys.toArray.size : Nat) : Int))) R E s := by
    intro R hR
    unfold Builtin.Slice.sliceApplied Builtin.Slice.sliceFields
    refine wpAny_bind (wpAny_bind (wpAny_field hos hds (x := .none) rfl (wpAny_bind (wpAny_field hos hds (x := .none) rfl (wpAny_bind (wpAny_field hos hds (x := .int (-1) u) rfl (wpAny_pure ?_)))))))
    refine wpAny_bind (slicePart_int ?_)
    show wpAny _ _ (if ((-1 : Int) == 0) = true then _ else _) _ _ s
    rw [if_neg (by decide)]
    refine wpAny_bind (slicePart_none (wpAny_bind (slicePart_none (wpAny_bind (wpAny_pure ?_)))))
    show wpAny _ _ (match Builtin.Slice.sliceAdjust none none (-1) ((ys.toArray.size : Nat) : Int) with | (lo, hi) => pure (lo, (-1 : Int), Builtin.Slice.slicePlaces lo hi (-1))) _ _ s
    rw [back_adjust]
    show wpAny _ _ (pure (((ys.toArray.size : Nat) : Int) - 1, (-1 : Int), Builtin.Slice.slicePlaces (((ys.toArray.size : Nat) : Int) - 1) (-1) (-1))) _ _ s
    rw [back_places]
    exact wpAny_pure hR
  refine wpAny_bind (ap ?_)
  show wpAny _ _ (if (((ys.toArray.size : Nat) : Int) - 1 == 0 && (-1 : Int) == 1 && ys.toArray.size == ys.toArray.size) = true then _ else _) _ _ s
  rw [if_neg (by simp)]
  have e := back_pick ys
  rw [show ys.length = ys.toArray.size from List.size_toArray.symm] at e
  rw [e]
  first
    | exact wpAny_bind (m := Builtin.Tuple.tupleExact _) (wpAny_newObj_type (wpAny_pure ⟨_, rfl, wpAny_pure h⟩) hno')
    | exact wpAny_bind (m := Builtin.Tuple.tupleExact _) (wpAny_newObj_type (wpAny_bind (wpAny_pure (wpAny_pure ⟨_, rfl, wpAny_pure h⟩))) hno')
    | exact wpAny_bind (wpAny_bind (m := Builtin.Tuple.tupleExact _) (wpAny_newObj_type (wpAny_pure (wpAny_pure ⟨_, rfl, wpAny_pure h⟩)) hno'))
def tRevT (K : PySem.W.Frag) (te : TE) : TE := fun σ H Q => te σ H fun x H1 => ∃ a xs, x = .ref a ∧ SqT K H1 a xs ∧ ∀ p, H1 p = none → Q (.ref p) (upd H1 p (.tup xs.reverse))
theorem Vals.back {xs : List V} {us : List Value} (r : Vals xs us) : Vals xs.reverse us.reverse := by
  induction r with
  | nil => exact .nil
  | cons r1 _ ih =>
    rw [List.reverse_cons, List.reverse_cons]
    exact ih.append (.cons r1 .nil)
theorem pe_revT {X : Cx} {e : Expr} {te : TE} {k : Nat} {p1 p2 p3 pos : Pos} (he : PE X e te) :
    PE X (.Subscript e (.Slice none none (some (.UnaryOp .USub (.Constant (.int 1) k p1) p2)) p3) pos) (tRevT X.K te) := by
  constructor
  intro pins s σ H Q I h
  refine Subscript_ (thn (he.run pins s σ H _ I h) fun v s1 ⟨x, H1, I1, r1, a, xs, ex, hx, q⟩ => ?_)
  subst ex
  cases r1
  have st : PO X (some (.UnaryOp .USub (.Constant (.int 1) k p1) p2)) (tPart (tUn (rU fun i => .int (-i)) (tC (.int 1)))) := po_some (pe_un un_neg pe_int)
  refine wpAny_Slice (thn (po_none.run pins s1 σ H1 (fun o G => o = none ∧ G = H1) I1 ⟨rfl, rfl⟩) fun w1 s2 ⟨o1, G1, J1, z1, a1, b1⟩ => ?_)
  subst a1 b1
  refine thn (po_none.run pins s2 σ G1 (fun o G => o = none ∧ G = G1) J1 ⟨rfl, rfl⟩) fun w2 s3 ⟨o2, G2, J2, z2, a2, b2⟩ => ?_
  subst a2 b2
  refine thn (st.run pins s3 σ G2 (fun o G => o = some (-1) ∧ G = G2) J2 ⟨1, rfl, -1, rfl, rfl, rfl⟩) fun w3 s4 ⟨o3, G3, J3, z3, a3, b3⟩ => ?_
  subst a3 b3
  have J4 : Inv X pins σ G3 { s4 with heap := s4.heap.push { cls := .type "slice", data := .fields #[w1, w2, w3] } } := J3.kept (t' := s4.toks) fun b ob q => Heap.get?_push_of_some _ q
  obtain ⟨y1, rfl, f1⟩ := IsPart.raw z1
  obtain ⟨y2, rfl, f2⟩ := IsPart.raw z2
  obtain ⟨y3, rfl, f3⟩ := IsPart.raw z3
  cases y1 with
  | some y => cases f1
  | none =>
  cases y2 with
  | some y => cases f2
  | none =>
  cases y3 with
  | none => cases f3
  | some y =>
  obtain ⟨m, u⟩ := y
  have em : m = -1 := Option.some.inj f3
  subst em
  obtain ⟨its, r, ht, hz⟩ := J4.tuple hx
  refine tail_any (T := "tuple") (id := _) (ops := [.ref a, .ref s4.heap.objs.size]) ht.typeIs PyProof.Rows.slot_tuple_getitem.lookup ?_ (by with_unfolding_all rfl)
  have hz' : its.length ≤ sizeLine := by rw [← r.length]; exact hz
  refine getItem_tuple_back (u := u) ht ⟨_, Heap.get?_push_size _ rfl, rfl, rfl⟩ ?_ hz'
  refine ⟨.ref _, _, J4.laid (t' := s4.toks) (o := .tup xs.reverse) (fun b ob q => Heap.get?_push_of_some _ q) (Nat.le_refl _) ?_, rfl, q _ (J4.hok.fresh (Nat.le_refl _))⟩
  exact ⟨by rw [List.length_reverse]; exact hz, _, Vals.back r, IsTup.new _ _⟩
theorem i_revT {K : PySem.W.Frag} {te : TE} {σ : L2.St} {H : Hp} {Q : VK} (h : te σ H fun x H1 => ∃ a xs, x = .ref a ∧ SqT K H1 a xs ∧ ∀ p, H1 p = none → Q (.ref p) (upd H1 p (.tup xs.reverse))) : tRevT K te σ H Q := h
/-! ### text * int -/
def rMulS : R2 := fun x y H Q => ∃ (l : List Nat) (n : Nat), x = .str (S l) ∧ y = .int (n : Int) ∧ l.length ≤ 1000 ∧ n ≤ 1000 ∧ Q (.str (S (List.replicate n l).flatten)) H
theorem mul_S (l : List Nat) (n : Nat) : Txt.mul (S l) (n : Int) = S (List.replicate n l).flatten := by
  unfold Txt.mul
  by_cases h0 : n = 0
  · subst h0; simp [S, Str.empty]
  · rw [if_neg (by omega)]
    by_cases h1 : (((n : Int) == 1 || (S l).length == 0) = true)
    · rw [if_pos h1]
      rcases Bool.or_eq_true_iff.mp h1 with h1 | h1
      · have : n = 1 := by have := eq_of_beq h1; omega
        subst this; simp
      · have e : l = [] := by have := eq_of_beq h1; rw [S_len] at this; exact List.length_eq_zero_iff.mp this
        subst e
        simp
    · rw [if_neg h1]
      show (⟨(List.replicate n l.toArray).foldl (· ++ ·) #[]⟩ : Str) = ⟨(List.replicate n l).flatten.toArray⟩
      congr 1
      have : ∀ (m : Nat) (b : Array Nat), (List.replicate m l.toArray).foldl (· ++ ·) b = b ++ (List.replicate m l).flatten.toArray := by
        intro m
        induction m with
        | zero => intro b; simp
        | succ m ih =>
          intro b
          rw [List.replicate_succ, List.foldl_cons, ih, List.replicate_succ, List.flatten_cons]
          simp
      rw [this]
      simp
theorem op_mulS {X : Cx} : OpR X (binaryOp .Mult) rMulS := fun pins s σ H x y v u Q I rx ry h => by
  obtain ⟨l, n, rfl, rfl, h1, h2, q⟩ := h
  obtain ⟨t, rfl⟩ := rx
  obtain ⟨t', rfl⟩ := ry
  refine SB.mul ⟨?_, ?_, ?_⟩ fun t' tk => ⟨.str (S (List.replicate n l).flatten), H, I.tok _, ⟨_, by rw [mul_S]⟩, q⟩
  · rw [Bool.or_eq_false_iff]; exact ⟨decide_eq_false (by omega), decide_eq_false (by omega)⟩
  · intro hn _
    rw [S_len]
    have : (n : Int) * (l.length : Int) ≤ 2 ^ 63 - 1 := by
      have := Nat.mul_le_mul h2 h1
      have e : (n : Int) * (l.length : Int) = ((n * l.length : Nat) : Int) := by simp
      rw [e]; omega
    have := (Int.le_ediv_iff_mul_le (a := (l.length : Int)) (b := 2 ^ 63 - 1) (c := (n : Int)) (by omega)).mpr (by rw [Int.mul_comm]; exact this)
    omega
  · intro _ _
    rw [S_len, Int.toNat_natCast]
    have := Nat.mul_le_mul h1 h2
    unfold Builtin.Str.tooLong
    exact decide_eq_false (by rw [show sizeLine = 16777216 from rfl]; omega)
theorem i_mulS {l : List Nat} {n : Nat} {H : Hp} {Q : VK} (h1 : l.length ≤ 1000) (h2 : n ≤ 1000) (h : Q (.str (S (List.replicate n l).flatten)) H) : rMulS (.str (S l)) (.int (n : Int)) H Q := ⟨l, n, rfl, rfl, h1, h2, h⟩
/-! ### a def called by names alone -/
def tKw (sp : Sp) (gV : List V → List V → List V) (tk : TA) : TE := fun σ H Q => tk σ H fun zs H1 => sp (gV [] zs) H1 Q E0
section
variable (P : Program) (w : World) (K : PySem.W.Frag) (mg : Str → Option Value) (base : Heap)
def CalK (x : Str) (ps : List Str) (k : Nat) (sp : Sp) (ks : List Str) (g : List Value → List Value → List Value) (gV : List V → List V → List V) : Prop := ∃ (f : Addr) (fd : FuncData), FnOk P w K mg base CX0 k f fd ps sp ∧ mg x = some (.ref f) ∧ PySem.W.keepIn K (.ref f) = true ∧ KBinds K fd ps ks g gV
end
theorem Def.calK {P : Program} {w : World} {K : PySem.W.Frag} {mg : Str → Option Value} {base : Heap} {x : Str} {st : Stmt} {ps ks : List Str} {k : Nat} {sp : Sp} {g : List Value → List Value → List Value} {gV : List V → List V → List V} (d : Def K mg x st)
    (b : ∀ (kV doc pm : Value) (an : Option Addr) (cdv ct : Value) (us ws : List Value), (g us ws).length = ps.length → bindArgs (PySem.W.fnOf x x (defArgs st) (defBody st) (defScope st) .none kV doc pm an cdv ct) ⟨us, ks.zip ws⟩ = pure (ps.zip (g us ws)))
    (rel : ∀ {vs : List V} {us : List Value} {zs : List V} {ws : List Value}, Vals vs us → Vals zs ws → Vals (gV vs zs) (g us ws))
    (ok : ∀ (f : Addr) (fd : FuncData), Fun K x x st f fd → FnOk P w K mg base CX0 k f fd ps sp) : CalK P w K mg base x ps k sp ks g gV := by
  obtain ⟨f, fd, F, m⟩ := d
  have O := ok f fd F
  have kp := F.kp
  obtain ⟨oc, od, kV, doc, pm, an, cdv, ct, osl, rfl, lk, hcd⟩ := F.ex
  exact ⟨f, _, O, m, kp, fun s us ws _ hl => .of_eq (b kV doc pm an cdv ct us ws hl), rel⟩
section
variable {X : Cx} {x : Str} {ps ks : List Str} {k n : Nat} {sp : Sp} {g : List Value → List Value → List Value} {gV : List V → List V → List V} {kws : List Keyword} {tk : TA} {p pos : Pos}
theorem pe_calK (c : CalK X.prog X.w X.K X.mg X.base x ps k sp ks g gV) (hr : Room n X.A) (hkw : PK X kws tk) (hg : Gl X x := by rfl) (hk : k ≤ n := by decide)
    (hall : (backToKw pos (keywordEach kws X.env)).all (·.1.isSome) = true := by rfl) (hks : (backToKw pos (keywordEach kws X.env)).filterMap (·.1) = ks := by rfl) (hdb : (x == ("__debug__" : Str)) = false := by decide)
    (hpl : ((backTo pos (starEach [] X.env)).any (·.1) || (backToKw pos (keywordEach kws X.env)).any (·.1.isNone)) = false := by rfl) :
    PE X (.Call (.Name x p) [] kws pos) (tKw sp gV tk) := by
  obtain ⟨f, fd, F, m, kp, b⟩ := c
  refine ⟨fun pins s σ H Q I h => ?_⟩
  refine wpAny_Call_Name_kw (ld_glob I hg m ?_ hdb)
  refine PySem.W.callWith_KW0 (h₀ := X.base) I.ok.mod.kin kp hall (thn (hkw.run pos pins s σ H _ I h) fun ws s2 ⟨zs, H2, I2, rz, q2⟩ => ⟨I2.kIn, ?_⟩) hpl
  rw [hks]
  exact run_fnk F (hr.mono hk) b pass0 I2 .nil rz q2
theorem i_kw {σ : L2.St} {H : Hp} {Q : VK} (h : tk σ H fun zs H1 => sp (gV [] zs) H1 Q E0) : tKw sp gV tk σ H Q := h
end
end Sw
namespace Sw
open PySem PySem.Spec PyProof.Rows L2
/-! ### promises of defs that are called where nothing is being shown (repr) -/
structure FnG (P : Program) (w : World) (K : PySem.W.Frag) (mg : Str → Option Value) (base : Heap) (CX : CXT) (k : Nat) (f : Addr) (fd : FuncData) (ps : List Str) (sp : Sp) : Prop where
  len : ∀ xs M R X, sp xs M R X → xs.length = ps.length
  go : ∀ (A : Around) (out : List Env) (t : Shared) (M : Hp) (args : Args) (us : List Value) (xs : List V) (R : VK) (X : XK), Room k A → A.guards = some [] → Env0 P w K mg base A out t M → BindsTo t fd args (ps.zip us) → Vals xs us → sp xs M R X →
    codeAny (model P w) A (.call (.ref f) args) (CR CX out P w M t R X) t
section
variable {P : Program} {w : World} {K : PySem.W.Frag} {mg : Str → Option Value} {base : Heap} {CX : CXT} {k : Nat} {f : Addr} {fd : FuncData} {ps : List Str} {sp : Sp}
theorem FnG.of (F : FnOk P w K mg base CX k f fd ps sp) : FnG P w K mg base CX k f fd ps sp := ⟨F.len, fun A out t M args us xs R X room _ => F.run A out t M args us xs R X room⟩
theorem FnG.low {j : Nat} (F : FnG P w K mg base CX j f fd ps sp) (h : j ≤ k) : FnG P w K mg base CX k f fd ps sp := ⟨F.len, fun A out t M args us xs R X room => F.go A out t M args us xs R X (room.mono h)⟩
theorem Fun.okG {x qual : Str} {st : Stmt} {N : List Str} (F : Fun K x qual st f fd) (S : FnScope N ps (defScope st)) (len : ∀ xs M R X, sp xs M R X → xs.length = ps.length)
    (body : ∀ (cdv : Value) (A : Around) (out : List Env) (t : Shared) (M : Hp) (xs : List V) (R : VK) (X : XK), Room k (A.deeper (envOfC qual (defScope st) t.heap.objs.size f cdv)) → A.guards = some [] → sp xs M R X →
      ∃ r, PSs (cxOf CX P w K mg base N qual (defScope st) f cdv A out t M X) (defBody st) r ∧ r { nx := fun _ M' => R .non M', rt := R } (start N xs) M) : FnG P w K mg base CX (k + 1) f fd ps sp := by
  obtain ⟨oc, od, kV, doc, pm, an, cdv, ct, osl, rfl, found, coded⟩ := F.ex
  constructor
  · exact len
  intro A out t M args us xs R X room quiet env bind rel prom
  have count := len xs M R X prom
  have inHeap := env.mod.kin.keeps fun b o e => (env.bs b o e).1
  have quota := env.mod.nolimit.keeps fun b o e => (env.bs b o e).1
  have kinds : ∀ z ∈ ps.zip us, (defScope st).names.lookup z.1 = some .local ∨ ((defScope st).names.lookup z.1 = some .cell ∧ ((cellsFrom (t.heap.objs.size + 1) (defScope st).names []).lookup z.1).isSome = true) := by
    rintro ⟨n, v⟩ hz
    have hn := (List.of_mem_zip hz).1
    rcases S.par n hn with l | c
    · left; exact l
    · right; exact ⟨c, PySem.W.cellsFrom_some _ _ _ (.inl c)⟩
  apply codeAny_call_function room.depth (inHeap _ _ found) rfl S.co S.gen rfl (PySem.W.codeRec_of inHeap coded) (bind _ _ _ _ ?_)
  apply wpAny_newFunctionEnv_cells S.kind kinds
  intro env2 e2 t1 entry
  subst e2
  refine ⟨quota.keeps entry.toInCall.keep, codeAny_func ?_⟩
  obtain ⟨r, hr, runs⟩ := body cdv A out t M xs R X (room.deeper _) quiet prom
  have I := inv_start (CX := CX) (E := X) S room.hd env count rel entry
  apply wpAny_mono (hr.run [] t1 (start N xs) M _ I runs)
  · intro fl t' leaves
    cases fl with
    | ret u =>
      obtain ⟨v, σ', M', J, rv, q⟩ := leaves
      exact ⟨v, M', J.os, J.bare, J.base, J.hok, rv, q⟩
    | next =>
      obtain ⟨σ', M', J, q⟩ := leaves
      exact ⟨V.non, M', J.os, J.bare, J.base, J.hok, rfl, q⟩
    | brk => obtain ⟨_, _, _, q⟩ := leaves; exact q.elim
    | cont => obtain ⟨_, _, _, q⟩ := leaves; exact q.elim
  · exact fun _ _ z => z
end
section
variable {X : Cx} {ps : List Str} {k : Nat} {f : Addr} {fd : FuncData} {sp : Sp} {ds : List Value} {dvs : List V} {CX : CXT} {E : XK}
theorem run_G {pins : List (Addr × Obj)} {σ : L2.St} {M : Hp} {t : Shared} {R : VK} {us : List Value} {xs : List V} (F : FnG X.prog X.w X.K X.mg X.base CX k f fd ps sp) (room : Room k X.A) (quiet : X.A.guards = some []) (b : Binds X.K fd ps ds) (hd : Vals dvs ds) (px : Passes CX X E)
    (I : Inv X pins σ M t) (r : Vals xs us) (h : sp (xs ++ dvs) M R E) : wpAny (model X.prog X.w) X.A (call (.ref f) us) (EP X pins σ R) X.xe t := by
  have both := r.append hd
  have count : (us ++ ds).length = ps.length := both.length.symm.trans (F.len _ _ _ _ h)
  apply wpAny_call
  apply codeAny_mono (F.go X.A X.stack t M ⟨us, []⟩ (us ++ ds) (xs ++ dvs) R E room quiet I.env0 (b t us I.kIn count) both h)
  intro o t' q
  rcases o with e | fl
  · exact px pins σ M t e t' I q
  · cases fl with
    | ret u => exact I.after q
    | next => exact q.elim
    | brk => exact q.elim
    | cont => exact q.elim
end
section
variable (P : Program) (w : World) (K : PySem.W.Frag) (mg : Str → Option Value) (base : Heap)
def CalG (x : Str) (ps : List Str) (k : Nat) (sp : Sp) : Prop := ∃ (f : Addr) (fd : FuncData), FnG P w K mg base CX0 k f fd ps sp ∧ mg x = some (.ref f) ∧ PySem.W.keepIn K (.ref f) = true ∧ Binds K fd ps []
end
theorem Def.calG {P : Program} {w : World} {K : PySem.W.Frag} {mg : Str → Option Value} {base : Heap} {x : Str} {st : Stmt} {ps : List Str} {k : Nat} {sp : Sp} (d : Def K mg x st)
    (b : ∀ (kV doc pm : Value) (an : Option Addr) (cdv ct : Value) (us : List Value), us.length = ps.length → bindArgs (PySem.W.fnOf x x (defArgs st) (defBody st) (defScope st) .none kV doc pm an cdv ct) ⟨us, []⟩ = pure (ps.zip us))
    (ok : ∀ (f : Addr) (fd : FuncData), Fun K x x st f fd → FnG P w K mg base CX0 k f fd ps sp) : CalG P w K mg base x ps k sp := by
  obtain ⟨f, fd, F, m⟩ := d
  exact ⟨f, fd, ok f fd F, m, F.kp, F.binds b⟩
theorem pe_calG {X : Cx} {x : Str} {ps : List Str} {k n : Nat} {sp : Sp} {e : Expr} {es : List Expr} {t : TA} {p pos : Pos} (c : CalG X.prog X.w X.K X.mg X.base x ps k sp) (hr : Room n X.A) (quiet : X.A.guards = some []) (ha : PA X (e :: es) t) (hg : Gl X x := by rfl) (hk : k ≤ n := by decide)
    (hdb : (x == ("__debug__" : Str)) = false := by decide) (he : starEach (e :: es) X.env = (false, eval e X.env) :: starEach es X.env := by rfl) (hpl : (backTo pos (starEach es X.env)).any (·.1) = false := by rfl) :
    PE X (.Call (.Name x p) (e :: es) [] pos) (tCall sp [] E0 t) := by
  obtain ⟨f, fd, F, m, kp, b⟩ := c
  constructor
  intro pins s σ M R I h
  apply wpAny_Call_Name_kw (ld_glob I hg m ?_ hdb)
  exact PySem.W.callWith_K (h₀ := X.base) I.ok.mod.kin kp (thn (ha.run pos pins s σ M _ I h) fun us s1 ⟨xs, M1, I1, r, q⟩ => ⟨I1.kIn, run_G F (hr.mono hk) quiet b .nil pass0 I1 r q⟩) he hpl
/-! ### repr of data -/
def rRepD (K : PySem.W.Frag) : List V → Hp → VK → Prop := fun xs M R => ∃ x d, xs = [x] ∧ Dp K M x d ∧ d.showable = true ∧ d.hasDict = false ∧ d.depth ≤ 60 ∧ d.shown.length ≤ sizeLine ∧ R (.str d.shown) M
theorem call_repD {X : Cx} (quiet : X.A.guards = some []) (hu : X.A.units + 64 < cLine) : CallR X (.builtin "repr") (rRepD X.K) := by
  intro pins s σ M xs us R I r h
  obtain ⟨x, d, rfl, hd, sh, nd, dp, sz, q⟩ := h
  obtain ⟨u, rfl, ru⟩ := vals1 r
  obtain ⟨as, rd⟩ := Dp.reads I d x u hd ru
  cases hd with
  | non =>
    cases ru
    exact PySem.P.repr_of_none ⟨.str (PyData.shown .none), M, I.tok _, ⟨_, by simp only [PyData.shown]; rfl⟩, q⟩
  | bl b =>
    cases ru
    exact PySem.P.repr_of_bool ⟨.str (PyData.shown (.bool b)), M, I.tok _, ⟨_, by simp only [PyData.shown]; rfl⟩, q⟩
  | int i =>
    obtain ⟨t, rfl⟩ := ru
    exact PySem.P.repr_of_int (of_decide_eq_true (by simpa only [PyData.showable] using sh)) ⟨.str (PyData.shown (.int i)), M, I.tok _, ⟨_, by simp only [PyData.shown]; rfl⟩, q⟩
  | str z =>
    obtain ⟨t, rfl⟩ := ru
    exact PySem.P.repr_of_str ⟨.str (PyData.shown (.str z)), M, I.tok _, ⟨_, by simp only [PyData.shown]; rfl⟩, q⟩ (by simpa only [PyData.shown] using sz)
  | lst h1 h2 =>
    cases ru
    exact repr_of_reads' rd sh (PyData.noDict_hsm nd) quiet (by omega) (fun _ _ e => e) (fun h' t tk keep => ⟨.str _, M, I.kept (t' := tk) keep, ⟨t, rfl⟩, q⟩) sz
  | tup h1 h2 =>
    cases ru
    exact repr_of_reads' rd sh (PyData.noDict_hsm nd) quiet (by omega) (fun _ _ e => e) (fun h' t tk keep => ⟨.str _, M, I.kept (t' := tk) keep, ⟨t, rfl⟩, q⟩) sz
end Sw
namespace Sw
open PySem PySem.Spec PyProof.Rows L2
/-! ### the end of a law whose def is called where nothing is being shown -/
theorem law_G {P : Program} {w : World} {K : PySem.W.Frag} {mg mb : Str → Option Value} {k : Nat} {fa a : Addr} {fd : FuncData} {x : Str} {sp : Sp} {t : Shared} {vs : List Value} {ns : List Int}
    (inK : K.In t.heap) (gl : t.heap.Ns mainGlobals mg) (bl : t.heap.Ns builtinsNs mb) (bb : ∀ y : Str, y ≠ "__name__" → mb y = bootBuiltins y) (lim : t.heap.NoLimit) (quietGens : t.gens = #[])
    (script : t.heap.get? a = some { cls := .type "list", data := .seq vs.toArray }) (nums : IntsAre vs ns) (short : ns.length ≤ sizeLine) (room : Room k callerA)
    (F : ∀ base : Heap, K.In base → base.Ns mainGlobals mg → FnG P w K mg base CX0 k fa fd [x] sp) (bind : ∀ (s : Shared) (u : Value), BindsTo s fd ⟨[u], []⟩ [(x, u)])
    (prom : ∀ M : Hp, Only M → SqL K M a (ns.map V.int) → sp [.ref a] M (fun v _ => v = .bl true) E0) :
    codeAny (model P w) callerA (.call (.ref fa) ⟨[.ref a], []⟩) (fun r s' => r = .ok (.ret (.bool true)) ∧ OldK t.heap s'.heap ∧ s'.os = t.os ∧ AllBare s'.gens) t := by
  have vals := vals_ints nums
  have sameLen := nums.length
  -- tracked: the script alone, and only if the module does not hold it already
  let M : Hp := fun b => if b = a ∧ K.lookup a = none then some (.frz { cls := .type "list", data := .seq vs.toArray } (.lst (ns.map V.int))) else none
  have at_a : ∀ {b : Addr} {o : HO}, M b = some o → b = a ∧ K.lookup a = none ∧ o = .frz { cls := .type "list", data := .seq vs.toArray } (.lst (ns.map V.int)) := by
    intro b o q
    by_cases c : b = a ∧ K.lookup a = none
    · have q' := (if_pos c).symm.trans q
      exact ⟨c.1, c.2, (Option.some.inj q').symm⟩
    · have q' := (if_neg c).symm.trans q
      cases q'
  have only : Only M := by
    intro b
    by_cases c : b = a ∧ K.lookup a = none
    · right; exact ⟨_, _, if_pos c⟩
    · left; exact if_neg c
  have ok : HOk P w M t.heap := by
    intro b o q
    obtain ⟨rfl, _, rfl⟩ := at_a q
    exact ⟨script, by rw [List.length_map]; exact short, vs, _, vals, script⟩
  have known : SqL K M a (ns.map V.int) := by
    cases hk : K.lookup a with
    | none => exact .inl (.inr ⟨_, if_pos ⟨rfl, hk⟩⟩)
    | some o =>
      have e := inK a o hk
      rw [script] at e
      cases e
      exact .inr ⟨_, vs.toArray, _, hk, rfl, rfl, rfl, by rw [List.size_toArray, sameLen]; exact short, by simpa using vals⟩
  have under : ∀ {b : Addr} {o : Obj}, t.heap.get? b = some o → M b = none → (hidT t.heap M).get? b = some o := fun e n => hidT_get e n
  have dictFree : ∀ {b : Addr} {o : Obj} {es : Array DictEntry} {n : Nat}, t.heap.get? b = some o → o.data = .dict es n → M b = none := by
    intro b o es n e hd
    rcases q : M b with _ | u
    · rfl
    · obtain ⟨rfl, _, _⟩ := at_a q
      rw [script] at e
      cases e
      cases hd
  have names : ∀ {b : Addr} {m : Str → Option Value}, t.heap.Ns b m → (hidT t.heap M).Ns b m := by
    rintro b m ⟨o, es, n, e, hd, r⟩
    exact ⟨o, es, n, under e (dictFree e hd), hd, r⟩
  have baseIn : K.In (hidT t.heap M) := by
    intro b o e
    apply under (inK b o e)
    rcases q : M b with _ | u
    · rfl
    · obtain ⟨rfl, no, _⟩ := at_a q
      rw [no] at e
      cases e
  obtain ⟨mc, lim1, lim2⟩ := lim
  have env : Env0 P w K mg (hidT t.heap M) callerA [] t M :=
    ⟨rfl, ⟨baseIn, names gl, ⟨mb, names bl, bb⟩, ⟨mc, names lim1, lim2⟩⟩, fun b o e => of_hidT e, Nat.le_of_eq (hidT_size _ _), trivial, (fun b z => by have y : b ∈ ([] : List Addr) := z; simp at y), ok, .of_eq quietGens⟩
  apply codeAny_mono ((F _ baseIn (names gl)).go callerA [] t M ⟨[.ref a], []⟩ [.ref a] [.ref a] _ _ room rfl env (bind t (.ref a)) (.cons rfl .nil) (prom M only known))
  intro r s' q
  rcases r with e | fl
  · exact q.elim
  · cases fl with
    | next => exact q.elim
    | brk => exact q.elim
    | cont => exact q.elim
    | ret u =>
      obtain ⟨v, M', os, bare, un, ok', rel, said⟩ := q
      have said' : v = .bl true := said
      subst said'
      have isTrue : u = Value.bool true := rel
      subst isTrue
      refine ⟨rfl, OldK.of_keep ?_, os, bare⟩
      intro b o e
      rcases q : M b with _ | u
      · exact un.keep b o e q (fun z => by have y : b ∈ ([] : List Addr) := z; simp at y) (by simp)
      · obtain ⟨rfl, _, rfl⟩ := at_a q
        obtain ⟨e1, _⟩ := ok _ _ q
        obtain ⟨e2, _⟩ := ok' _ _ (un.frzs _ _ _ q)
        rw [e] at e1
        cases e1
        exact e2
theorem walk_G {l : PySem.W.OpenLaw} {n k : Nat} {q : Program} {loose : List Str} {XP : (Str → Option Value) → Heap → Prop} {YP : World → Heap → Prop} {d : DefRec} {K : Params → PySem.W.Frag} {sp : PySem.W.Frag → Sp} {x : Str}
    (many : l.most = some n) (few : n ≤ sizeLine) (plain : d.params.defaults = []) (room : Room k callerA) (inK : ∀ (w : World) (h : Heap), YP w h → (K w.params).In h)
    (F : ∀ (w : World) (mg : Str → Option Value) (fa : Addr) (h : Heap), (K w.params).In h → h.Ns mainGlobals mg → mg d.name = some (.ref fa) →
      ∃ fd : FuncData, (∀ (s : Shared) (u : Value), BindsTo s fd ⟨[u], []⟩ [(x, u)]) ∧ ∀ base : Heap, (K w.params).In base → base.Ns mainGlobals mg → FnG l.prog w (K w.params) mg base CX0 k fa fd [x] (sp (K w.params)))
    (prom : ∀ (K : PySem.W.Frag) (M : Hp) (a : Addr) (ns : List Int), ns.length ≤ n → Only M → SqL K M a (ns.map V.int) → sp K [.ref a] M (fun v _ => v = .bl true) E0) :
    PySem.W.WalkO q loose XP YP l.row.toRowW d [] (fun f vs => PySem.call f vs) := by
  apply Att.attach_call many plain
  intro w s₀ t mg mb fa o pm cd doc a vs ns G Y _ _ _ named script nums short gens
  have kin := inK w _ Y
  obtain ⟨fd, bind, hF⟩ := F w mg fa _ kin G.T.g named
  exact law_G kin G.T.g G.T.b G.T.builtins G.T.nolimit gens script nums (Nat.le_trans short few) room hF bind fun M o s => prom _ M a ns short o s
end Sw
/-! own exceptions over Exception, by own classes between, with own fields -/
namespace PySem
namespace SwE
open PySem.W PySem.Calls PyProof.Rows PySem.HandSPX
abbrev exT : List Value := [.type "Exception", .type "BaseException", .type "object"]
def over (rs : List Addr) : List Value := rs.map Value.ref ++ exT
theorem over_pass (self : Value) : ∀ rs : List Addr, refuseLoop self "__setattr__" (over rs) = pure ()
  | [] => F.store_Exception.passes self
  | r :: rs => by
    show refuseLoop self "__setattr__" (.ref r :: over rs) = pure ()
    rw [refuseLoop_ref]
    exact over_pass self rs
theorem over_has (T : String) : ∀ rs : List Addr, (over rs).contains (.type T) = exT.contains (.type T)
  | [] => rfl
  | r :: rs => by
    show (Value.ref r :: over rs).contains (.type T) = exT.contains (.type T)
    rw [List.contains_cons, over_has T rs]
    rfl
theorem over_cons (r : Addr) (rs : List Addr) : Value.ref r :: over rs = over (r :: rs) := rfl
section
open Builtin Builtin.ObjectAttr
variable {prog : Program} {w : World} {A : Around} {E : Value → Shared → Prop} {R : Result → Shared → Prop} {hp : Heap} {g : Array GenState} {d : Drawn} {t : Nat} {os : OsState}
/-- the first field of such an exception -/
theorem first_field {K : W.Frag} {name : Str} {tk : Tok} {v : Value} {x C : Addr} {fv : Array Value} {cd : ClassData} {rs : List Addr}
    (inK : K.In hp) (here : hp.get? x = some { cls := .ref C, data := .fields fv }) (cls : W.clsIn K C = some cd) (mro : cd.mro = over rs) (dict : cd.hasDict = true) (none' : W.findIn K (.ref C) name = some none)
    (hq : ∀ h' tk' dx, (∀ b o, b ≠ x → hp.get? b = some o → h'.get? b = some o) → hp.objs.size ≤ dx → dx ≠ x → h'.get? x = some { cls := .ref C, dict := some dx, data := .fields fv } →
      h'.Ns1 dx (fun y => if y = name then some v else none) → R (.ok (.ret .none)) ⟨h', g, d, tk', os⟩) :
    codeAny (model prog w) A (.call (.builtin "object.__setattr__") ⟨[.ref x, .str name tk, v], []⟩) R ⟨hp, g, d, t, os⟩ := by
  have inst : W.InstAt hp x { cls := .ref C, data := .fields fv } C none := ⟨here, rfl, rfl, trivial⟩
  have facts := F.store_object
  have isObj : cd.mro.contains (.type "object") = true := by rw [mro, over_has]; decide +kernel
  have notEmpty : cd.mro.isEmpty = false := by rw [mro]; cases rs <;> rfl
  have apart : x ≠ hp.objs.size := Nat.ne_of_lt (Heap.lt_size here)
  have sub : W.Looks (model prog w) hp (isInstance (.ref x) (.type "object")) true := inst.type.andThen (W.looks_mroIn inK (by unfold W.mroIn; rw [cls, Option.bind_some, if_neg (by rw [notEmpty]; decide), isObj]))
  apply codeAny_call_builtin facts.slot.plain facts.entry (@W.check_slot (model prog w) _ _ ⟨hp, g, d, t, os⟩ "object.__setattr__" "object" "__setattr__" (.ref x) [.str name tk, v] [] _ facts.kind facts.split sub (facts.args (.ref x) (.str name tk) v) ?_)
  have looksMro : W.Looks (model prog w) hp (mroOf (.ref C)) cd.mro := (W.looks_clsIn inK cls).andThen .now
  have noTaker : W.Looks (model prog w) hp (storeTaker? none) none := .now
  have looksCls : W.Looks (model prog w) hp (classData C) cd := W.looks_clsIn inK cls
  rw [W.osa_eq, refuse_eq]
  refine wpAny_bind (wpAny_bind (inst.type.at (wpAny_bind (looksMro.at ?_))))
  rw [mro, over_pass]
  refine wpAny_pure (wpAny_bind (inst.type.at (wpAny_bind ((W.looks_findIn inK none').at (wpAny_bind (noTaker.at ?_))))))
  show wpAny _ _ (storeInOwnDict (.ref x) (.ref C) (.str name tk) name v false) _ _ _
  obtain ⟨nm, bs, mr, ns, qn, hd, sn, sb, ab, col, del⟩ := cd
  dsimp only at dict
  subst dict
  unfold storeInOwnDict ownDictForStores
  repeat (first | with_reducible refine store_in_new ?_ ?_ | with_reducible refine wpAny_loadPart_at here ?_ | with_reducible refine looksCls.at ?_ | wp_step)
  · exact ⟨_, #[], _, (Heap.get?_update_ne _ _ _ _ apart.symm).trans (Heap.get?_push_at rfl rfl), rfl, fun e he => absurd he (by simp), fun _ => rfl⟩
  · intro h' tk' named same
    have still : (hp.push { cls := .type "dict", data := .dict #[] }).get? x = some { cls := .ref C, data := .fields fv } := Heap.get?_push_of_some _ here
    apply hq h' tk' hp.objs.size ?_ (Nat.le_refl _) apart.symm ?_ named
    · intro b o hb ho
      exact (same.2 b (Nat.ne_of_lt (Heap.lt_size ho))).trans ((Heap.get?_update_ne _ _ _ _ hb).trans (Heap.get?_push_of_some _ ho))
    · exact (same.2 x apart).trans (Heap.get?_update_self _ still rfl)
end
end SwE
end PySem
namespace Sw
open PySem PySem.Spec PyProof.Rows L2 PySem.SwE
/-- what the written part says of an own exception class over Exception -/
structure OexE (K : PySem.W.Frag) (C : Addr) : Prop where
  cls : ∃ nm q N bs rs sn sub ab col dd k0 k1 k2 k3 k5, K.lookup C = some (excClassObj nm q C N bs (over rs) true sn sub ab col dd k0 k1 k2 k3 k5 "Exception.__new__")
  sa : PySem.W.findIn K (.ref C) "__setattr__" = some (some (.builtin "object.__setattr__"))
  exC : PySem.W.subIn K (.ref C) (.type "BaseException") = some true
  tyC : PySem.W.typeIn K (.ref C) = some (.type "type")
  kC : PySem.W.keepIn K (.ref C) = true
section
variable {X : Cx} {pins : List (Addr × Obj)} {σ : L2.St} {H : Hp} {s : Shared} {a C dx : Addr} {f : Str} {y : V} {u : Value} {fs : List (Str × V)} {Q : Unit → Shared → Prop} {E : Value → Shared → Prop} {A : Around}
theorem field_new (T : OexE X.K C) (I : Inv X pins σ H s) (e : H a = some (exo a C none)) (no : PySem.W.findIn X.K (.ref C) f = some none) (ry : RelV y u)
    (h : ∀ dx s', H dx = none → dx ≠ a → Inv X pins σ (upd (upd H dx (exd dx [(f, y)])) a (exo a C (some dx))) s' → Q () s') : wpAny (model X.prog X.w) A (setAttr (.ref a) f u) Q E s := by
  obtain ⟨nm, q, N, bs, rs, sn, sub, ab, col, dd, k0, k1, k2, k3, k5, hC⟩ := T.cls
  have data : PySem.W.clsIn X.K C = some { name := nm, bases := bs, mro := .ref C :: over rs, ns := N, qualname := q, hasDict := true, slotNames := sn, subclasses := sub, abstract := ab, collection := col, hasDel := false } := by
    unfold PySem.W.clsIn
    rw [hC] <;> rfl
  obtain ⟨t1, there⟩ := exo_at I.hok e
  obtain ⟨hp, g, d, t, os⟩ := s
  apply PySem.W.set_plain I.kIn (ox := { cls := .ref C, dict := none, data := .fields #[.ref t1, .none, .none, .none, .bool false, .none] }) (od := none) ⟨there, rfl, rfl, trivial⟩ T.sa
  apply first_field I.kIn there data (over_cons C rs) rfl no
  intro h' tk' dx keep new apart now named
  have free : H dx = none := I.hok.fresh new
  have notNew : ∀ {b : Addr} {o : Obj}, hp.get? b = some o → b ≠ dx := fun z => Nat.ne_of_lt (Nat.lt_of_lt_of_le (Heap.lt_size z) new)
  have notIt : ∀ {b : Addr}, H b = none → b ≠ a := by
    rintro b n rfl
    rw [e] at n
    cases n
  have un : Un X.fs [] H (upd (upd H dx (exd dx [(f, y)])) a (exo a C (some dx))) hp h' := by
    constructor
    · exact fun b o z n _ _ => keep b o (notIt n) z
    · exact fun b o z n _ _ => ⟨o.slots, keep b o (notIt n) z⟩
    · intro b o z n _
      rw [upd_ne (notIt n), upd_ne (notNew z)]
      exact n
    · intro b o z _
      by_cases c : b = a
      · exact ⟨_, by rw [c]; exact now⟩
      · exact ⟨o, keep b o c z⟩
    · intro b xs z
      rw [upd_ne (at_ne e z exo_tup), upd_ne (ne_of_none z free)]
      exact z
    · intro b o v z
      rw [upd_ne (at_ne e z exo_frz), upd_ne (ne_of_none z free)]
      exact z
    · exact fun b ps z => ⟨#[], by rw [upd_ne (at_ne e z exo_tbl), upd_ne (ne_of_none z free), z]; simp⟩
  apply h dx _ free apart
  apply I.un (t' := tk') un
  intro b o z
  by_cases c : b = a
  · subst c
    rw [upd_same] at z
    cases z
    exact exo_ok now
  · rw [upd_ne c] at z
    by_cases c2 : b = dx
    · subst c2
      rw [upd_same] at z
      cases z
      exact exd_ok named (relO_put (fs := []) ry fun g => True.intro)
    · rw [upd_ne c2] at z
      apply (I.hok b o z).stay
      · intro cc v hc zz
        apply keep cc v _ zz
        rcases hc with hc | hc
        · rw [hc]; exact c
        · exact at_ne e hc exo_own
      · intro cc hc
        rw [upd_ne (at_ne e hc exo_own), upd_ne (ne_of_none hc free)]
        exact hc
      · intro cc xs hc
        rw [upd_ne (at_ne e hc exo_tup), upd_ne (ne_of_none hc free)]
        exact hc
/-- Exception.__init__(self, ..): nothing of it is told -/
theorem init_plain {us : List Value} {R : Value → Shared → Prop} (T : OexE X.K C) (I : Inv X pins σ H s) (e : H a = some (exo a C none)) (few : us.length ≤ sizeLine) (h : ∀ s', Inv X pins σ H s' → R .none s') :
    wpAny (model X.prog X.w) A (call (.builtin "Exception.__init__") (.ref a :: us)) R E s := by
  obtain ⟨nm, q, N, bs, rs, sn, sub, ab, col, dd, k0, k1, k2, k3, k5, hC⟩ := T.cls
  obtain ⟨t1, there⟩ := exo_at I.hok e
  obtain ⟨hp, g, d, t, os⟩ := s
  apply wpAny_call (PySem.HandSPX.init_base F.excBase_Exception (fun Y => over_has Y rs) (I.kIn _ _ hC) there few ?_)
  intro h' t2 keep now
  have J := I.write (t' := t) (x := a) (e := a) (o := exo a C none) (by rw [e]; exact True.intro) (.inl rfl) keep ⟨_, now⟩ (exo_ok now)
  have same : upd H a (exo a C none) = H := by
    funext b
    by_cases c : b = a
    · rw [c, upd_same, e]
    · rw [upd_ne c]
  rw [same] at J
  exact h _ J
end
/-- B.__init__(self, ..), B's own one being Exception's -/
def tInit (K : PySem.W.Frag) (ta : TA) : TE := fun σ H Q => ta σ H fun vs H1 => ∃ (a C : Addr) (ws : List V), vs = .ref a :: ws ∧ ws.length ≤ 1000 ∧ OexE K C ∧ H1 a = some (exo a C none) ∧ Q .non H1
/-- self.f = e, the first field -/
def tFst (K : PySem.W.Frag) (f : Str) (to te : TE) : TS := fun D σ H => te σ H fun y H1 => to σ H1 fun x H2 => ∃ a C : Addr, x = .ref a ∧ OexE K C ∧ PySem.W.findIn K (.ref C) f = some none ∧
  H2 a = some (exo a C none) ∧ ∀ dx, H2 dx = none → dx ≠ a → D.nx σ (upd (upd H2 dx (exd dx [(f, y)])) a (exo a C (some dx)))
section
variable {X : Cx} {o e : Expr} {es : List Expr} {to te : TE} {ta : TA} {f : Str} {p p' p1 p2 pos : Pos}
theorem ps_fst (ho : PE X o to) (he : PE X e te) (hs : swapsWith e (some (.Attribute o f p')) pos.line X.env = pure false := by rfl) : PS X (.Assign [.Attribute o f p'] e pos) (tFst X.K f to te) := by
  constructor
  intro pins s σ H D I h
  apply plainObj_wpAny_Assign_Attribute (thn (he.run pins s σ H _ I h) fun v s1 ⟨y, H1, I1, r1, q1⟩ => thn (ho.run pins s1 σ H1 _ I1 q1) fun u s2 ⟨x, H2, I2, r2, a, C, ex, T, no, ea, q⟩ => ?_) hs
  subst ex
  obtain rfl : u = Value.ref a := r2
  exact field_new T I2 ea no r1 fun dx s' n ne J => ⟨σ, _, J, q dx n ne⟩
theorem ps_init {x : Str} {B : Addr} {pl : Sem Bool} (hg : Gl X x) (hm : X.mg x = some (.ref B)) (ga : PySem.W.specialIn X.K (.ref B) "__getattribute__" = some (some (.builtin "type.__getattribute__"))) (tyB : PySem.W.typeIn X.K (.ref B) = some (.type "type"))
    (rd : PySem.W.readsIn X.K B (.type "type") = true) (fi : PySem.W.findCls X.K (.ref B) (.type "type") "__init__" = some (.val (.builtin "Exception.__init__"))) (ha : PA X (e :: es) ta)
    (hc : eval (.Call (.Attribute (.Name x p1) "__init__" p2) (e :: es) [] pos) X.env = (do
      let ov ← eval (.Name x p1) X.env
      standAt p2.atName
      let (f, first) ← holding [ov] (getMethod ov "__init__" pl)
      callWith pos f first (backTo pos (starEach (e :: es) X.env)) (backToKw pos (keywordEach [] X.env))) := by rfl)
    (hdb : (x == ("__debug__" : Str)) = false := by decide)
    (he : starEach (e :: es) X.env = (false, eval e X.env) :: starEach es X.env := by rfl) (hpl : (backTo pos (starEach es X.env)).any (·.1) = false := by rfl) :
    PE X (.Call (.Attribute (.Name x p1) "__init__" p2) (e :: es) [] pos) (tInit X.K ta) := by
  constructor
  intro pins s σ H Q I h
  apply PySem.W.methodCall_KW (ld_glob I hg hm ?_ hdb) hc
  apply PySem.W.method_cls I.kIn ga
  apply PySem.W.cls_value I.kIn rd fi (by decide +kernel)
  show wpAny _ _ (callWith pos (Value.builtin "Exception.__init__") [] (backTo pos (starEach (e :: es) X.env)) []) _ _ _
  apply PyProof.Rows.callWith_method1 (thn (ha.run pos pins _ σ H _ (I.tok _) h) fun us s1 ⟨vs, H1, I1, r1, a, C, ws, ev, hl, T, ea, q⟩ => ?_) he hpl
  subst ev
  cases r1 with
  | @cons _ u0 _ ur ra rest =>
    obtain rfl : u0 = Value.ref a := ra
    have few : ur.length ≤ sizeLine := by
      rw [← Paired.length rest, sizeLine_eq]
      omega
    exact init_plain T I1 ea few fun s' J => ⟨.non, H1, J, rfl, q⟩
end
end Sw
namespace Sw
open PySem PySem.Spec PyProof.Rows L2 PySem.SwE
section
variable {X : Cx} {e : Expr} {es : List Expr} {ta : TA} {p pos : Pos} {CX : CXT} {x : Str} {C fI : Addr} {k : Nat} {fd : FuncData} {ps : List Str} {sp : Sp}
/-- C(e, ..), C an own exception class over Exception whose __init__ keeps sp -/
theorem pmk_E (T : OexE X.K C) (iC : PySem.W.findIn X.K (.ref C) "__init__" = some (some (.ref fI))) (tI : PySem.W.typeIn X.K (.ref fI) = some (.type "function")) (F1 : FnOk X.prog X.w X.K X.mg X.base CX k fI fd ps sp) (room : Room (k + 1) X.A) (bd : Binds X.K fd ps [])
    (px : Passes CX X E0) (hm : X.mg x = some (.ref C)) (ha : PA X (e :: es) ta) (hg : Gl X x := by rfl)
    (hdb : (x == ("__debug__" : Str)) = false := by decide) (he : starEach (e :: es) X.env = (false, eval e X.env) :: starEach es X.env := by rfl) (hpl : (backTo pos (starEach es X.env)).any (·.1) = false := by rfl) :
    PMk X (.Call (.Name x p) (e :: es) [] pos) (tMkO C sp [] ta) := by
  intro pins s σ H Q I h
  obtain ⟨nm, q, N, bs, rs, sn, sub, ab, col, dd, k0, k1, k2, k3, k5, hC⟩ := T.cls
  refine wpAny_Call_Name_kw (ld_glob I hg hm ?_ hdb)
  refine PySem.W.callWith_K (h₀ := X.base) I.ok.mod.kin T.kC (thn (ha.run pos pins s σ H _ I h) fun us s1 ⟨vs, H1, I1, r1, few, q1⟩ => ⟨I1.kIn, ?_⟩) he hpl
  show wpAny _ _ (call (.ref C) us) _ _ _
  obtain ⟨hp, g, dr, tk, os⟩ := s1
  have le : hp.objs.size ≤ hp.objs.size + 1 := Nat.le_succ _
  have free : H1 (hp.objs.size + 1) = none := I1.hok.fresh le
  have said := q1 (hp.objs.size + 1) free
  have keep : ∀ b o, hp.get? b = some o → ((hp.push (PySem.W.kdv_tup us)).push (PySem.HandSPX.excO C hp.objs.size)).get? b = some o := fun b o z => Heap.get?_push_of_some _ (Heap.get?_push_of_some _ z)
  have made : ((hp.push (PySem.W.kdv_tup us)).push (PySem.HandSPX.excO C hp.objs.size)).get? (hp.objs.size + 1) = some (PySem.HandSPX.excO C hp.objs.size) := by heap_get
  have I2 : Inv X pins σ (upd H1 (hp.objs.size + 1) (exo (hp.objs.size + 1) C none)) ⟨(hp.push (PySem.W.kdv_tup us)).push (PySem.HandSPX.excO C hp.objs.size), g, dr, tk, os⟩ :=
    I1.laid (t' := tk) (a := hp.objs.size + 1) (o := exo (hp.objs.size + 1) C none) (h' := (hp.push (PySem.W.kdv_tup us)).push (PySem.HandSPX.excO C hp.objs.size)) keep le (exo_ok made)
  have both : Vals (V.ref (hp.objs.size + 1) :: (vs ++ [])) (Value.ref (hp.objs.size + 1) :: (us ++ [])) := .cons rfl (r1.append .nil)
  have count : (Value.ref (hp.objs.size + 1) :: us ++ []).length = ps.length := by
    have z := both.length
    rw [F1.len _ _ _ _ said] at z
    exact z.symm
  have bound := bd _ (Value.ref (hp.objs.size + 1) :: us) I2.kIn count
  rw [List.cons_append] at bound
  have few' : us.length ≤ sizeLine := by
    rw [← Paired.length r1, sizeLine_eq]
    omega
  refine wpAny_call (PySem.HandSPX.call_own F.excBase_Exception (fun Y => over_has Y rs) (I1.kIn _ _ hC) (PySem.W.looks_findIn I1.kIn iC) (fun self => PySem.W.bind_fn I1.kIn self tI) few' (codeAny_mono (F1.run _ X.stack _ _ ⟨Value.ref (hp.objs.size + 1) :: us, []⟩ (Value.ref (hp.objs.size + 1) :: (us ++ [])) _ _ E0
    (room.make C us []) (I2.env0.make C us []) bound both said) fun r s' z => ?_))
  rcases r with er | fl
  · exact px pins σ _ _ er s' I2 z
  · cases fl with
    | next => exact z.elim
    | brk => exact z.elim
    | cont => exact z.elim
    | ret u =>
      obtain ⟨v, H2, os2, bare, un, ok, rv, ev, d, fs, ea, ed, hd1, q2⟩ := z
      subst ev
      obtain ⟨h2, g2, d2, t2, os'⟩ := s'
      exact ⟨rv, mk_end (raises_own T.exC T.tyC) I1 le keep un ok os2 bare ea ed hd1 q2⟩
end
end Sw
namespace Sw
open PySem PySem.Spec PyProof.Rows L2 PySem.SwE
/-! ### defs that may let out an exception -/
theorem Fun.okX {P : Program} {w : World} {K : PySem.W.Frag} {mg : Str → Option Value} {base : Heap} {k : Nat} {f : Addr} {fd : FuncData} {ps : List Str} {sp : Sp} {x qual : Str} {st : Stmt} {N : List Str} (F : Fun K x qual st f fd) (S : FnScope N ps (defScope st)) (len : ∀ xs M R X, sp xs M R X → xs.length = ps.length)
    (body : ∀ (cdv : Value) (A : Around) (out : List Env) (t : Shared) (M : Hp) (xs : List V) (R : VK) (E : XK), Room k (A.deeper (envOfC qual (defScope st) t.heap.objs.size f cdv)) → sp xs M R E →
      Takes (cxOf (L2.CX P w) P w K mg base N qual (defScope st) f cdv A out t M E) (fun cls d _ M' => E cls d M') →
      ∃ r, PSs (cxOf (L2.CX P w) P w K mg base N qual (defScope st) f cdv A out t M E) (defBody st) r ∧ r { nx := fun _ M' => R .non M', rt := R } (start N xs) M) : FnOk P w K mg base (L2.CX P w) (k + 1) f fd ps sp := by
  obtain ⟨oc, od, kV, doc, pm, an, cdv, ct, osl, rfl, found, coded⟩ := F.ex
  exact fn_of found coded S len fun A out t M xs R E room prom => body cdv A out t M xs R E room prom (takes_of rfl rfl rfl rfl)
section
variable (P : Program) (w : World) (K : PySem.W.Frag) (mg : Str → Option Value) (base : Heap)
def CalX (x : Str) (ps : List Str) (k : Nat) (sp : Sp) : Prop := ∃ (f : Addr) (fd : FuncData), FnOk P w K mg base (L2.CX P w) k f fd ps sp ∧ mg x = some (.ref f) ∧ PySem.W.keepIn K (.ref f) = true ∧ Binds K fd ps []
def CalKX (x : Str) (ps : List Str) (k : Nat) (sp : Sp) (ks : List Str) (g : List Value → List Value → List Value) (gV : List V → List V → List V) : Prop := ∃ (f : Addr) (fd : FuncData), FnOk P w K mg base (L2.CX P w) k f fd ps sp ∧ mg x = some (.ref f) ∧ PySem.W.keepIn K (.ref f) = true ∧ KBinds K fd ps ks g gV
end
section
variable {P : Program} {w : World} {K : PySem.W.Frag} {mg : Str → Option Value} {base : Heap} {x : Str} {st : Stmt} {ps ks : List Str} {k : Nat} {sp : Sp}
theorem Def.calX (d : Def K mg x st)
    (b : ∀ (kV doc pm : Value) (an : Option Addr) (cdv ct : Value) (us : List Value), us.length = ps.length → bindArgs (PySem.W.fnOf x x (defArgs st) (defBody st) (defScope st) .none kV doc pm an cdv ct) ⟨us, []⟩ = pure (ps.zip us))
    (ok : ∀ (f : Addr) (fd : FuncData), Fun K x x st f fd → FnOk P w K mg base (L2.CX P w) k f fd ps sp) : CalX P w K mg base x ps k sp := by
  obtain ⟨f, fd, F, m⟩ := d
  exact ⟨f, fd, ok f fd F, m, F.kp, F.binds b⟩
theorem Def.calKX {g : List Value → List Value → List Value} {gV : List V → List V → List V} (d : Def K mg x st)
    (b : ∀ (kV doc pm : Value) (an : Option Addr) (cdv ct : Value) (us ws : List Value), (g us ws).length = ps.length → bindArgs (PySem.W.fnOf x x (defArgs st) (defBody st) (defScope st) .none kV doc pm an cdv ct) ⟨us, ks.zip ws⟩ = pure (ps.zip (g us ws)))
    (rel : ∀ {vs : List V} {us : List Value} {zs : List V} {ws : List Value}, Vals vs us → Vals zs ws → Vals (gV vs zs) (g us ws))
    (ok : ∀ (f : Addr) (fd : FuncData), Fun K x x st f fd → FnOk P w K mg base (L2.CX P w) k f fd ps sp) : CalKX P w K mg base x ps k sp ks g gV := by
  obtain ⟨f, fd, F, m⟩ := d
  have O := ok f fd F
  have kp := F.kp
  obtain ⟨oc, od, kV, doc, pm, an, cdv, ct, osl, rfl, lk, hcd⟩ := F.ex
  exact ⟨f, _, O, m, kp, fun s us ws _ hl => .of_eq (b kV doc pm an cdv ct us ws hl), rel⟩
end
def tKwS (sp : Sp) (gV : List V → List V → List V) (E : L2.St → XK) (tk : TA) : TE := fun σ H Q => tk σ H fun zs H1 => sp (gV [] zs) H1 Q (E σ)
section
variable {X : Cx} {x : Str} {ps ks : List Str} {k n : Nat} {sp : Sp} {e : Expr} {es : List Expr} {t : TA} {p pos : Pos} {W : WX} {g : List Value → List Value → List Value} {gV : List V → List V → List V} {kws : List Keyword}
theorem pe_calX (c : CalX X.prog X.w X.K X.mg X.base x ps k sp) (hr : Room n X.A) (tk : Takes X W) (ha : PA X (e :: es) t) (hg : Gl X x := by rfl) (hk : k ≤ n := by decide)
    (hdb : (x == ("__debug__" : Str)) = false := by decide) (he : starEach (e :: es) X.env = (false, eval e X.env) :: starEach es X.env := by rfl) (hpl : (backTo pos (starEach es X.env)).any (·.1) = false := by rfl) :
    PE X (.Call (.Name x p) (e :: es) [] pos) (tCallS sp (WE W) t) := by
  obtain ⟨f, fd, F, m, kp, b⟩ := c
  exact pe_callS F (hr.mono hk) hg m kp b (passAt tk) ha hdb he hpl
theorem i_callS {σ : L2.St} {H : Hp} {Q : VK} {E : L2.St → XK} (h : t σ H fun vs H1 => sp vs H1 Q (E σ)) : tCallS sp E t σ H Q := h
theorem pe_calKX (c : CalKX X.prog X.w X.K X.mg X.base x ps k sp ks g gV) (hr : Room n X.A) (tk : Takes X W) (hkw : PK X kws t) (hg : Gl X x := by rfl) (hk : k ≤ n := by decide)
    (hall : (backToKw pos (keywordEach kws X.env)).all (·.1.isSome) = true := by rfl) (hks : (backToKw pos (keywordEach kws X.env)).filterMap (·.1) = ks := by rfl) (hdb : (x == ("__debug__" : Str)) = false := by decide)
    (hpl : ((backTo pos (starEach [] X.env)).any (·.1) || (backToKw pos (keywordEach kws X.env)).any (·.1.isNone)) = false := by rfl) :
    PE X (.Call (.Name x p) [] kws pos) (tKwS sp gV (WE W) t) := by
  obtain ⟨f, fd, F, m, kp, b⟩ := c
  constructor
  intro pins s σ H Q I h
  apply wpAny_Call_Name_kw (ld_glob I hg m ?_ hdb)
  refine PySem.W.callWith_KW0 (h₀ := X.base) I.ok.mod.kin kp hall (thn (hkw.run pos pins s σ H _ I h) fun ws s2 ⟨zs, H2, I2, rz, q⟩ => ⟨I2.kIn, ?_⟩) hpl
  rw [hks]
  have rel := b.rel (vs := []) (us := []) .nil rz
  have count : (g [] ws).length = ps.length := by rw [← rel.length]; exact F.len _ _ _ _ q
  apply wpAny_call
  apply codeAny_mono (F.run X.A X.stack s2 H2 ⟨[], ks.zip ws⟩ (g [] ws) (gV [] zs) Q (WE W σ) (hr.mono hk) I2.env0 (b.to s2 [] ws I2.kIn count) rel q)
  intro o s' z
  rcases o with er | fl
  · exact passAt tk σ pins H2 s2 er s' I2 z
  · cases fl with
    | ret u => exact I2.after z
    | next => exact z.elim
    | brk => exact z.elim
    | cont => exact z.elim
theorem i_kwS {σ : L2.St} {H : Hp} {Q : VK} {E : L2.St → XK} (h : t σ H fun zs H1 => sp (gV [] zs) H1 Q (E σ)) : tKwS sp gV E t σ H Q := h
end
theorem takes_none {X : Cx} : Takes X (fun _ _ _ _ => False) := fun u s' z => by
  obtain ⟨a, B, sI, pins, σ, H, cls, d, e, I, nb, up, sky, na, os, ag, w⟩ := z
  exact w.elim
end Sw
namespace Sw
open PySem PySem.Spec PyProof.Rows L2 PySem.SwE
/-- InvalidText.__init__(self, given) -/
def spInit (K : PySem.W.Frag) : Sp := fun vs H Q _ => ∃ (a C : Addr) (v : V), vs = [.ref a, v] ∧ H a = some (exo a C none) ∧ OexE K C ∧ PySem.W.findIn K (.ref C) "given" = some none ∧
  ∀ dx, H dx = none → dx ≠ a → Q .non (upd (upd H dx (exd dx [("given", v)])) a (exo a C (some dx)))
/-- what the written part says of the class that is called over -/
structure Over (K : PySem.W.Frag) (mg : Str → Option Value) (B : Addr) : Prop where
  hm : mg "CodecError" = some (.ref B)
  ga : PySem.W.specialIn K (.ref B) "__getattribute__" = some (some (.builtin "type.__getattribute__"))
  ty : PySem.W.typeIn K (.ref B) = some (.type "type")
  rd : PySem.W.readsIn K B (.type "type") = true
  fi : PySem.W.findCls K (.ref B) (.type "type") "__init__" = some (.val (.builtin "Exception.__init__"))
theorem i_init {K : PySem.W.Frag} {ta : TA} {σ : L2.St} {H : Hp} {Q : VK} (h : ta σ H fun vs H1 => ∃ (a C : Addr) (ws : List V), vs = .ref a :: ws ∧ ws.length ≤ 1000 ∧ OexE K C ∧ H1 a = some (exo a C none) ∧ Q .non H1) : tInit K ta σ H Q := h
theorem i_fst {K : PySem.W.Frag} {f : Str} {to te : TE} {D : Ends} {σ : L2.St} {H : Hp} (h : te σ H fun y H1 => to σ H1 fun x H2 => ∃ a C : Addr, x = .ref a ∧ OexE K C ∧ PySem.W.findIn K (.ref C) f = some none ∧
  H2 a = some (exo a C none) ∧ ∀ dx, H2 dx = none → dx ≠ a → D.nx σ (upd (upd H2 dx (exd dx [(f, y)])) a (exo a C (some dx)))) : tFst K f to te D σ H := h
/-- the class InvalidText, as it stands behind the top -/
structure XT (P : Program) (w : World) (K : PySem.W.Frag) (mg : Str → Option Value) (base : Heap) (C : Addr) : Prop where
  T : OexE K C
  xf : XfC K C
  no : PySem.W.findIn K (.ref C) "given" = some none
  hm : mg "InvalidText" = some (.ref C)
  me : PySem.W.exmOne K (.ref C) (.ref C) = some true
  ini : ∃ (fI : Addr) (fd : FuncData), PySem.W.findIn K (.ref C) "__init__" = some (some (.ref fI)) ∧ PySem.W.typeIn K (.ref fI) = some (.type "function") ∧ FnOk P w K mg base CX0 1 fI fd ["self", "given"] (spInit K) ∧ Binds K fd ["self", "given"] []
theorem pmk_T {X : Cx} {C : Addr} {n : Nat} {e : Expr} {te : TE} {p pos : Pos} (xt : XT X.prog X.w X.K X.mg X.base C) (hr : Room n X.A) (he : PE X e te) (hn : 2 ≤ n := by decide) (hg : Gl X "InvalidText" := by rfl)
    (he2 : starEach [e] X.env = (false, eval e X.env) :: starEach [] X.env := by rfl) : PMk X (.Call (.Name "InvalidText" p) [e] [] pos) (tMkO C (spInit X.K) [] (tCons te tNil)) := by
  obtain ⟨fI, fd, h1, h2, h3, h4⟩ := xt.ini
  exact pmk_E xt.T h1 h2 h3 (hr.mono hn) h4 pass0 xt.hm (pa_cons he pa_nil he2) hg (by decide) he2 (by rfl)
def Thrown (K : PySem.W.Frag) (C : Addr) (vs : List V) (H1 : Hp) (Q : XK) : Prop := vs.length ≤ 1000 ∧ ∀ a, H1 a = none → spInit K (.ref a :: (vs ++ [])) (upd H1 a (exo a C none))
  (fun v H2 => v = .non ∧ ∃ (d : Addr) (fs : List (Str × V)), H2 a = some (exo a C (some d)) ∧ H2 d = some (exd d fs) ∧ H1 d = none ∧ Q (.ref C) (some d) (upd (del H2 a) d (.xd fs))) (fun _ _ _ => False)
theorem i_mk {K : PySem.W.Frag} {C : Addr} {ta : TA} {σ : L2.St} {H : Hp} {Q : XK} (h : ta σ H fun vs H1 => Thrown K C vs H1 Q) : tMkO C (spInit K) [] ta σ H Q := h
def tRs (t : L2.St → Hp → XK → Prop) (W : WX) : TS := fun _ σ H => t σ H fun cls d H' => W cls d σ H'
theorem ps_rs {X : Cx} {W : WX} {e : Expr} {t : L2.St → Hp → XK → Prop} {pos : Pos} (hc : X.calm = true) (tk : Takes X W) (he : PMk X e t) : PS X (.Raise (some e) none pos) (tRs t W) := L2.ps_raise hc tk he
theorem i_raise {t : L2.St → Hp → XK → Prop} {W : WX} {D : Ends} {σ : L2.St} {H : Hp} (h : t σ H fun cls d H' => W cls d σ H') : tRs t W D σ H := h
theorem i_thrown {K : PySem.W.Frag} {C : Addr} {v : V} {H1 : Hp} {Q : XK} (T : OexE K C) (no : PySem.W.findIn K (.ref C) "given" = some none) (h : ∀ dx, H1 dx = none → Q (.ref C) (some dx) (upd H1 dx (.xd [("given", v)]))) : Thrown K C [v] H1 Q := by
  refine ⟨by simp, fun a na => ⟨a, C, v, rfl, upd_same, T, no, fun dx nx ne => ⟨rfl, dx, [("given", v)], upd_same, ?_, ?_, ?_⟩⟩⟩
  · rw [upd_ne ne, upd_same]
  · rw [upd_ne ne] at nx; exact nx
  · rw [upd_ne ne] at nx
    have e : upd (del (upd (upd (upd H1 a (exo a C none)) dx (exd dx [("given", v)])) a (exo a C (some dx))) a) dx (.xd [("given", v)]) = upd H1 dx (.xd [("given", v)]) := by
      funext b
      by_cases c : b = dx
      · rw [c, upd_same, upd_same]
      · rw [upd_ne c, upd_ne c]
        by_cases c2 : b = a
        · rw [c2, del_same, na]
        · rw [del_ne c2, upd_ne c2, upd_ne c, upd_ne c2]
    rw [e]
    exact h dx nx
theorem i_dnew {σ : L2.St} {H : Hp} {Q : VK} (h : ∀ p, H p = none → Q (.ref p) (upd H p (.dK []))) : tDNewK σ H Q := h
end Sw
namespace Sw
open PySem PySem.Spec PyProof.Rows L2
/-! ### two lists of unlike lengths -/
def rEqLen (K : PySem.W.Frag) : R2 := fun x y H Q => ∃ (p q : Addr) (xs ys : List V), x = .ref p ∧ y = .ref q ∧ SqL K H p xs ∧ SqL K H q ys ∧ xs.length ≠ ys.length ∧ Q (.bl false) H
theorem op_eqLen {X : Cx} (hu : X.A.units + 64 < cLine) : OpR X (compareOp .Eq) (rEqLen X.K) := by
  intro pins s σ H x y v u Q I rx ry h
  obtain ⟨p, q, xs, ys, rfl, rfl, hp, hq, hn, k⟩ := h
  cases rx
  cases ry
  obtain ⟨a, ra, la, _⟩ := I.list hp
  obtain ⟨b, rb, lb, _⟩ := I.list hq
  have l1 := ra.length
  have l2 := rb.length
  have ne : (a.toArray.size != b.toArray.size) = true := by
    rw [List.size_toArray, List.size_toArray, bne_iff_ne]
    omega
  have z := SeqAt.RcAt.lists_lengths (A := X.A) la.isList lb.isList ne (by omega)
  exact z X.prog X.w X.xe _ ⟨.bl false, H, I, rfl, k⟩
theorem i_eqLen {K : PySem.W.Frag} {p q : Addr} {xs ys : List V} {H : Hp} {Q : VK} (h1 : SqL K H p xs) (h2 : SqL K H q ys) (n : xs.length ≠ ys.length) (h : Q (.bl false) H) : rEqLen K (.ref p) (.ref q) H Q := ⟨p, q, xs, ys, rfl, rfl, h1, h2, n, h⟩
end Sw
namespace Sw
open PySem PySem.Spec PyProof.Rows L2
/-! ### try with several clauses that name the error -/
inductive AsOk (X : Cx) (Wo : WX) : List ExceptHandler → (Ends → WX) → Prop
  | nil : AsOk X Wo [] fun _ => Wo
  | cons {x n : Str} {c : Value} {i : Nat} {ts : Addr → Value → Option Addr → TS} {st : Stmt} {more : List Stmt} {p1 p2 : Pos} {hds : List ExceptHandler} {W : Ends → WX}
      (hi : X.N[i]? = some n) (hl : X.env.kindOf n = some .local) (hc : Names X x c)
      (su : ∀ (a : Addr) (o : Obj) (cls : Value) (d : Option Addr) (pn : List (Addr × Obj)), Zc cls d o → (∃ vs, o.data = .fields vs) → PSs (X.suite a ((a, o) :: pn)) (st :: more) (ts a cls d))
      (rest : AsOk X Wo hds W) : AsOk X Wo (.ExceptHandler (some (.Name x p1)) (some n) (st :: more) p2 :: hds) fun D => wAs X.K c i ts (W D) D
theorem ps_tries {X : Cx} {Wo : WX} {W : Ends → WX} {body : List Stmt} {h₀ : ExceptHandler} {hds : List ExceptHandler} {pos : Pos} {tb : WX → TS} (hs : X.stack = X.env :: X.outer) (hf : X.env.frame = some X.env.locals) (nd : X.N.Nodup) (tk : Takes X Wo)
    (hb : ∀ (V : WX) (pn : List (Addr × Obj)) (xe : Value → Shared → Prop), Takes (X.tr pn xe) V → PassesOwn (model X.prog X.w) X.A X.env xe → PSs (X.tr pn xe) body (tb V))
    (hh : AsOk X Wo (h₀ :: hds) W) : PS X (.Try body (h₀ :: hds) [] [] pos) fun D σ H => tb (W D) D σ H := by
  constructor
  intro pins s σ H D I h
  have ok := I.ok
  have fr : X.A.frames = some (X.env :: X.outer) := by rw [← hs]; exact ok.frames
  let after : Value → Shared → Prop := fun e s₁ => wpAny (model X.prog X.w) X.A (noteFrame e X.env) (fun _ s₂ => wpAny (model X.prog X.w) X.A (setFlight e none) (fun _ s₃ => wpAny (model X.prog X.w) X.A (handleBy e X.env (h₀ :: hds)) (SP X pins D) X.xe s₃) X.xe s₂) X.xe s₁
  have run := (hb (W D) (X.pn ++ pins) after (fun u s' air => ?_) PassesOwn.looking).run [] s σ H D (I.toTry _) h
  · refine wpAny_Try_except (wpAny_mono run (fun f s1 z => ?_) fun _ _ z => z)
    cases f <;> obtain ⟨_, _, z⟩ := z
    · exact wpAny_execs_nil ⟨_, _, z.1.ofTry ok, z.2⟩
    · exact ⟨_, _, z.1.ofTry ok, z.2⟩
    · exact ⟨_, _, z.1.ofTry ok, z.2⟩
    · obtain ⟨H', J, r, q⟩ := z
      exact ⟨_, _, _, J.ofTry ok, r, q⟩
  · obtain ⟨a, B, sI, pins', σ', H', cls, d, rfl, J0, nb, up, sky, na, os, ag, w⟩ := air
    have J := J0.ofTry ok
    show wpAny (model X.prog X.w) X.A (noteFrame (.ref a) X.env) _ _ _
    refine Sky.land Zc.steady fr hf (by rw [← hs]; exact sky) fun h3 fl3 up3 => ?_
    have J3 : Inv X pins σ' H' { s' with heap := h3 } := J.landed nb fl3.1 (up.trans up3) os ag
    obtain ⟨o3, vs3, ho3, z3, d3⟩ := fl3.there
    have out : a ∉ frs (X.env :: X.outer) := fun hm => by
      obtain ⟨_, o', e', hn⟩ := fl3.2.2.1.mem hm
      cases ho3.symm.trans e'
      exact hn _ d3
    have nL : a ≠ X.env.locals := fun z => out (List.mem_filterMap.mpr ⟨_, List.mem_cons_self, by rw [hf, z]⟩)
    have nF : a ∉ X.fs := fun hm => by
      obtain ⟨e, he, q⟩ := List.mem_filterMap.mp hm
      exact out (List.mem_filterMap.mpr ⟨e, List.mem_cons_of_mem _ he, q⟩)
    have S3 := J3.suite ho3 d3 na nL nF
    clear h
    revert w
    generalize h₀ :: hds = all at hh
    intro w
    induction hh with
    | nil =>
      refine wpAny_handleBy_nil ?_
      obtain ⟨_, _, _, o, vs, T, _, _, g1, _, g2, g3, _⟩ := id fl3
      unfold PySem.passOn
      refine wpAny_bind (wpAny_field g1 g2 g3 ?_)
      rw [if_neg (by simp : ¬ (Value.ref T == Value.none) = true)]
      have away : wpAny (model X.prog X.w) X.A (setFlight (.ref a) X.env.frame) (fun _ s4 => wpAny (model X.prog X.w) X.A (throw (.ref a) : Sem Flow) (SP X pins D) X.xe s4) X.xe { s' with heap := h3 } := by
        rw [hf]
        exact HandSPX.setFlight_upZ fl3 fun h4 hh4 up4 => wpAny_throw (tk _ _ ⟨a, B, sI, pins, σ', H', cls, d, rfl, J, nb, (up.trans up3).trans up4, .inr (.inr (by rw [hs]; exact hh4)), na, os, ag, w⟩)
      first | exact wpAny_bind (wpAny_pure (wpAny_bind away)) | exact wpAny_bind away
    | @cons x n c i ts st more p1 p2 hds W hi hl hc su rest ih =>
      obtain ⟨b, hb1, yes, no⟩ := w
      refine wpAny_handleBy_cons (codeAny_handlers_test ?_) (by intro q; cases q)
      have ty : PySem.W.Looks (model X.prog X.w) h3 (typeOf (.ref a)) cls := fun _ _ _ s k q => wpAny_typeOf_ref (k _ _ ho3) (by rw [z3.1]; exact q)
      have hit := PySem.W.exm_one (M := model X.prog X.w) J3.kIn ty hb1
      have name : ∀ {Q E : Value → Shared → Prop}, Q c { s' with heap := h3 } → wpAny (model X.prog X.w) (X.A.mark (some (.ref a))) (eval (.Name x p1) X.env) Q E { s' with heap := h3 } := fun q => by
        obtain ⟨hg, hd, ⟨hm⟩ | ⟨hm, hv, hn⟩⟩ := hc
        · exact ld_glob (X := X.suite a ((a, o3) :: (X.pn ++ pins))) S3 hg (by assumption) q hd
        · exact ld_blt (X := X.suite a ((a, o3) :: (X.pn ++ pins))) S3 hg hm hv q hn hd
      refine name (hit.here ?_)
      cases b with
      | false => exact ih (no rfl)
      | true =>
        refine codeAny_handlers_suite_as (HandSPX.lands_againZ fl3 fun h4 fl4 up4 => ?_)
        obtain ⟨o4, vs4, ho4, z4, d4⟩ := fl4.there
        have J4 : Inv X pins σ' H' { s' with heap := h4 } := J.landed nb fl4.1 ((up.trans up3).trans up4) os ag
        refine store_ok (X := X.suite a ((a, o4) :: (X.pn ++ pins))) (v := .ref a) (J4.suite ho4 d4 na nL nF) nd hi (.inl hl) rfl (fun s5 S5 => ?_) (.inr hl)
        refine wpAny_mono ((su a o4 cls d (X.pn ++ pins) z4 ⟨_, d4⟩).run [] s5 _ H' _ S5 (yes rfl a na)) (fun f s6 z => ?_) fun _ _ z => z.elim
        have bye : ∀ {σ6 : L2.St} {H6 : Hp} {Q : Shared → Prop}, Inv (X.suite a ((a, o4) :: (X.pn ++ pins))) [] σ6 H6 s6 → (∀ s7, Inv X pins (σ6.set i none) H6 s7 → Q s7) →
            wpAny (model X.prog X.w) X.A (do bindName X.env n .none; unbindBehindTheSuite X.env n p2) (fun _ s7 => Q s7) X.xe s6 := fun S6 hq => gone_ok (S6.unsuite ok) nd hi hl hq
        cases f <;> obtain ⟨_, _, z⟩ := z
        · exact bye z.1 fun s7 J7 => ⟨_, _, J7, z.2⟩
        · exact bye z.1 fun s7 J7 => ⟨_, _, J7, z.2⟩
        · exact bye z.1 fun s7 J7 => ⟨_, _, J7, z.2⟩
        · obtain ⟨H6, S6, r6, q6⟩ := z
          exact bye S6 fun s7 J7 => ⟨_, _, _, J7, r6, q6⟩
end Sw
namespace Sw
open PySem PySem.Spec PyProof.Rows L2
/-! ### x, y = a text of two signs -/
theorem two_signs {P : Program} {w : World} {A : Around} {E : Value → Shared → Prop} {s : Shared} {a b : Nat} {t : Tok} {Q : List Value → Shared → Prop} (hh : A.handled = none)
    (k : ∀ (u v : Tok) (h' : Heap) (tk : Tok), (∀ c o, s.heap.get? c = some o → h'.get? c = some o) → Q [.str (S [a]) u, .str (S [b]) v] { s with heap := h', toks := tk }) :
    wpAny (model P w) A (unpackItems (.str (S [a, b]) t) 2 none) Q E s := by
  have n2 : (S [a, b]).cps.size = 2 := by simp [S]
  have sgn : ∀ {i : Nat} {c : Nat} {x : Value}, [a, b][i]? = some c → SignAt (S [a, b]) i x → ∃ u, x = .str (S [c]) u := by
    rintro i c x hc ⟨c', u, hc', rfl⟩
    have e : (S [a, b]).cps[i]? = [a, b][i]? := by simp [S]
    rw [e, hc] at hc'
    cases hc'
    exact ⟨u, rfl⟩
  have old : ∀ {c : Addr} {o : Obj}, s.heap.get? c = some o → c ∉ [s.heap.objs.size] := fun {c o} h z => by
    have lt := Heap.lt_size h
    rw [List.mem_singleton.mp z] at lt
    exact Nat.lt_irrefl _ lt
  unfold unpackItems
  refine wpAny_bind ?_
  unfold notIterableAtAll
  refine wpAny_bind (wpAny_specialOf (typeIs_str _ _ _) F.slot_str_iter.lookup (wpAny_pure ?_))
  rw [if_neg Bool.false_ne_true]
  refine wpAny_bind (wpAny_holding (wpAny_pyIter_str fun o St W st0 => ?_))
  rw [n2] at W
  have Wa := W A hh
  refine wpAny_bind (wpAny_holding ?_)
  show wpAny _ _ (pyNext (.ref s.heap.objs.size) >>= _) _ _ _
  refine wpAny_bind (Wa.item 0 _ _ _ (by decide) st0 fun x1 h1 tk1 p1 st1 k1 => ?_)
  obtain ⟨u1, rfl⟩ := sgn (c := a) rfl p1
  refine wpAny_bind (wpAny_holding ?_)
  show wpAny _ _ (pyNext (.ref s.heap.objs.size) >>= _) _ _ _
  refine wpAny_bind (Wa.item 1 _ _ _ (by decide) st1 fun x2 h2 tk2 p2 st2 k2 => ?_)
  obtain ⟨u2, rfl⟩ := sgn (c := b) rfl p2
  refine wpAny_bind (wpAny_holding ?_)
  show wpAny _ _ (pure []) _ _ _
  refine wpAny_pure (wpAny_pure (wpAny_pure ?_))
  rw [if_neg (by simp)]
  refine wpAny_bind (wpAny_holding (Wa.done _ _ _ st2 fun h3 tk3 k3 => ?_))
  simp only [Option.isSome_none, Bool.false_eq_true, if_false]
  refine wpAny_pure (k u1 u2 h3 tk3 fun c o e => ?_)
  exact k3 c o (old e) (k2 c o (old e) (k1 c o (old e) (Heap.get?_push_of_some _ e)))
/-- (x, y) = a text of two signs -/
def gStr2 (t : TGs) : TG := fun v σ H Q => ∃ a b : Nat, v = .str (S [a, b]) ∧ t [.str (S [a]), .str (S [b])] σ H Q
theorem i_str2 {t : TGs} {σ : L2.St} {H : Hp} {Q : L2.St → Hp → Prop} {a b : Nat} (h : t [.str (S [a]), .str (S [b])] σ H Q) : gStr2 t (.str (S [a, b])) σ H Q := ⟨a, b, rfl, h⟩
theorem pg_str2 {X : Cx} {pos : Pos} {es : List Expr} {k : Nat} {t : TGs} (hc : X.calm = true) (h : PGs X es t)
    (hn : (assignEach es X.env).length = 2 := by rfl) (hst : (assignEach es X.env).findIdx? (·.1) = none := by rfl) : PG X (.Tuple es k pos) (gStr2 t) := by
  refine ⟨fun pins s σ H v u Q I r hw => ?_⟩
  obtain ⟨a, b, rfl, hw⟩ := hw
  obtain ⟨tk, rfl⟩ := r
  rw [PyProof.Rows.assign_Tuple]
  refine wpAny_bind (wpAny_standAt ?_)
  unfold unpack
  rw [hn, hst]
  refine wpAny_bind (wpAny_holding (two_signs (I.ok.hd hc) fun u v h' tk' keep => ?_))
  have I1 : Inv X pins σ H { s with heap := h', toks := tk' } := I.kept keep
  exact h.run pins _ σ H [.str (S [a]), .str (S [b])] _ Q I1 (by exact .cons ⟨u, rfl⟩ (.cons ⟨v, rfl⟩ .nil)) hw
end Sw
namespace Lev
theorem flat_rep (n c : Nat) : (List.replicate n [c]).flatten = List.replicate n c := by
  induction n with
  | zero => rfl
  | succ n ih => rw [List.replicate_succ, List.flatten_cons, ih]; rfl
theorem lev_rep_eq (a : Nat) : ∀ n m : Nat, lev (List.replicate n a) (List.replicate m a) = max n m - min n m
  | 0, m => by rw [List.replicate_zero, lev_nil, List.length_replicate]; omega
  | n + 1, 0 => by rw [List.replicate_zero, lev_nil', List.length_replicate]; omega
  | n + 1, m + 1 => by rw [List.replicate_succ, List.replicate_succ, lev_keep, lev_rep_eq a n m]; omega
theorem lev_rep_ne {a b : Nat} (h : a ≠ b) : ∀ n m : Nat, lev (List.replicate n a) (List.replicate m b) = max n m
  | 0, m => by rw [List.replicate_zero, lev_nil, List.length_replicate]; omega
  | n + 1, 0 => by rw [List.replicate_zero, lev_nil', List.length_replicate]; omega
  | n + 1, m + 1 => by
    have h1 := lev_rep_ne h n m
    have h2 := lev_rep_ne h n (m + 1)
    have h3 := lev_rep_ne h (n + 1) m
    rw [List.replicate_succ] at h2 h3
    rw [List.replicate_succ, List.replicate_succ, lev_cons, if_neg h, h1, h2, h3]
    omega
end Lev
namespace Sw
open PySem PySem.Spec PyProof.Rows L2
local macro_rules | `(tactic| walk_at "hp") => `(tactic| first
  | (with_reducible assumption) | (with_reducible exact upd_same)
  | ((with_reducible refine' upd_old ?q1 ?q2); (case q1 => (with_reducible assumption)); (case q2 => walk_at "hp"))
  | ((with_reducible refine' Same.at ?q1 ?q2); (case q1 => (with_reducible assumption)); (case q2 => walk_at "hp"))
  | ((with_reducible refine' upd_skip ?q1 ?q2); (case q1 => walk_at "ne"); (case q2 => walk_at "hp"))
  | fail)
local macro_rules | `(tactic| walk_at "ne") => `(tactic| first
  | (with_reducible assumption) | (with_reducible exact Ne.symm (by assumption))
  | ((with_reducible refine' ne_of_none ?q1 ?q2); (case q2 => (with_reducible assumption)); (case q1 => walk_at "hp"))
  | fail)
local macro_rules | `(tactic| walk_at "ci") => `(tactic| first | assumption | (show (0 : Int) < _; first | decide | (with_reducible omega)) | exact ⟨by decide, by decide⟩ | exact .inl ⟨by decide, by decide⟩ | exact .inr ⟨by decide, by decide⟩)
local macro_rules | `(tactic| walk_at "ln") => `(tactic| first | (with_reducible assumption) | (with_reducible omega) | (simp only [List.length_append, List.length_take, List.length_drop, List.length_reverse, List.length_cons, List.length_nil]; with_reducible omega))
local macro_rules | `(tactic| walk_at "rd1") => `(tactic| first
  | (with_reducible refine i_seq ?_) | (with_reducible refine i_asg ?_) | (with_reducible refine i_ret ?_) | (with_reducible refine i_name ?_) | ((with_reducible refine' i_var ?q1 ?_); (case q1 => exact rfl)) | (with_reducible refine i_c ?_) | (with_reducible refine i_op ?_) | (with_reducible refine i_un ?_)
  | (with_reducible refine i_rI0 ?_) | (with_reducible refine i_cb ?_) | (with_reducible refine i_cons ?_) | (with_reducible refine i_nil ?_) | (with_reducible refine i_call ?_) | (with_reducible refine i_if ?_) | (with_reducible refine i_ifE ?_) | (with_reducible refine i_test ?_) | (with_reducible refine i_bl ?_)
  | (with_reducible refine i_and ?_) | (with_reducible refine i_or ?_) | (with_reducible refine i_not ?_) | (with_reducible refine i_lst ?_) | (with_reducible refine i_tup ?_) | (with_reducible refine i_next ?_) | (with_reducible refine i_drop ?_) | (with_reducible refine i_sub ?_)
  | (with_reducible refine i_bm ?_) | (with_reducible refine i_sl ?_) | (with_reducible refine i_part ?_) | (with_reducible refine i_nopart ?_) | (with_reducible refine i_exI ?_) | (with_reducible refine i_chain ?_) | ((with_reducible refine' i_aug ?q1 ?_); (case q1 => exact rfl)) | (with_reducible refine i_ip ?_)
  | (with_reducible refine i_par ?_) | (with_reducible refine i_pair ?_) | (with_reducible refine i_andV ?_) | (with_reducible refine i_orV ?_) | (with_reducible refine i_notV ?_) | (with_reducible refine i_m1 ?_) | (with_reducible refine i_str ?_)
  | (with_reducible refine iteF ?_) | (with_reducible refine iteT ?_) | (with_reducible refine iteNT ?_) | (with_reducible refine iteNF ?_) | (with_reducible refine i_tyS ?_) | (with_reducible refine i_tB ?_) | (with_reducible refine i_retN ?_) | (with_reducible refine i_par3 ?_) | (with_reducible refine i_trip ?_) | (with_reducible refine i_gCons ?_) | (with_reducible refine i_gNil ?_) | (with_reducible refine i_lstRg ?_) | (with_reducible refine i_rg1 ?_)
  | (with_reducible refine i_lc ?_) | (with_reducible refine i_for ?_) | (with_reducible refine i_iList ?_) | (with_reducible refine i_iTup ?_) | (with_reducible refine i_iStr ?_) | (with_reducible refine i_iRng1 ?_) | (with_reducible refine i_iEnS ?_)
  | ((with_reducible refine' i_ixTH ?q1 ?q2 ?_); (case q1 => walk_at "hp"); (case q2 => exact rfl))
  | ((with_reducible refine' i_ixLH ?q1 ?q2 ?_); (case q1 => walk_at "hp"); (case q2 => exact rfl))
  | ((with_reducible refine i_addS ?q1 ?_); (case q1 => walk_at "ln")) | ((with_reducible refine i_lenSS ?q1 ?_); (case q1 => walk_at "ln")) | ((with_reducible refine i_slFrom ?q1 ?q2 ?_); (case q1 => walk_at "ln"); (case q2 => walk_at "ln")) | ((with_reducible refine i_slTo ?q1 ?q2 ?_); (case q1 => walk_at "ln"); (case q2 => walk_at "ln"))
  | ((with_reducible refine' i_tyL ?q1 ?_); (case q1 => walk_at "hp"))
  | ((with_reducible refine' i_gTupH ?q1 ?q2 ?_); (case q1 => walk_at "hp"); (case q2 => exact rfl))
  | (with_reducible refine i_dnew ?_) | (with_reducible refine i_init ?_) | (with_reducible refine i_fst ?_) | (with_reducible refine i_mk ?_) | (with_reducible refine i_raise ?_) | (with_reducible refine i_callS ?_) | (with_reducible refine i_kwS ?_)
  | (with_reducible refine i_revT ?_) | (with_reducible refine i_kw ?_) | ((with_reducible refine' ⟨_, _, rfl, sqT_of ?q1, ?_⟩); (case q1 => walk_at "hp"))
  | (with_reducible refine i_revS ?_) | ((with_reducible refine i_revSS ?q1 ?_); (case q1 => walk_at "ln"))
  | (with_reducible refine i_startS ?_) | (with_reducible refine i_inSg ?_) | (with_reducible refine i_absN ?_) | (with_reducible refine i_min2 ?_) | (with_reducible refine i_max2 ?_) | (with_reducible refine i_min3 ?_) | (with_reducible refine i_intN ?_) | (with_reducible refine i_intNB ?_)
  | ((with_reducible refine' i_lenL ?q1 ?_); (case q1 => walk_at "hp")) | ((with_reducible refine' i_lenT ?q1 ?_); (case q1 => walk_at "hp"))
  | (with_reducible refine i_eqI ?_) | (with_reducible refine i_neI ?_) | (with_reducible refine i_eqS ?_) | (with_reducible refine i_neS ?_) | (with_reducible refine i_isNoI ?_) | (with_reducible refine i_isNoN ?_) | (with_reducible refine i_isNoR ?_)
  | ((with_reducible refine i_pow ?q1 ?q2 ?q3 ?_); (case q1 => decide); (case q2 => decide); (case q3 => (with_reducible omega)))
  | ((with_reducible refine i_rI ?q1 ?_); (case q1 => walk_at "ci"))
  | (with_reducible refine Or.inl ⟨_, rfl, ?_⟩) | (with_reducible refine Or.inr ⟨_, rfl, ?_⟩) | (with_reducible refine ⟨_, rfl, ?_⟩) | (with_reducible refine ⟨_, _, rfl, ?_⟩) | (with_reducible refine ⟨_, _, rfl, rfl, ?_⟩)
  | ((with_reducible refine' ⟨_, _, rfl, Or.inl (sqL_of ?q1), ?_⟩); (case q1 => walk_at "hp")) | ((with_reducible refine' ⟨_, _, rfl, Or.inr (sqT_of ?q1), ?_⟩); (case q1 => walk_at "hp")) | fail)
local macro_rules | `(tactic| walk_at "rd") => `(tactic| repeat' walk_at "rd1")

def topS (i : Nat) : Stmt := PySem.Challenge.pw_spoiltways_k07_distances.main.body.getD i (.Pass ⟨0, 0, 0, 0⟩)
abbrev s_is_integer : Stmt := topS 6
abbrev n_is_integer : List Str := ["value"]
theorem sc_is_integer : FnScope n_is_integer ["value"] (defScope s_is_integer) := ⟨rfl, rfl, rfl, by decide +kernel, rfl, by decide +kernel, by decide +kernel⟩
abbrev s_is_count : Stmt := topS 7
abbrev n_is_count : List Str := ["value"]
theorem sc_is_count : FnScope n_is_count ["value"] (defScope s_is_count) := ⟨rfl, rfl, rfl, by decide +kernel, rfl, by decide +kernel, by decide +kernel⟩
abbrev s_is_text : Stmt := topS 8
abbrev n_is_text : List Str := ["value", "letter"]
theorem sc_is_text : FnScope n_is_text ["value"] (defScope s_is_text) := ⟨rfl, rfl, rfl, by decide +kernel, rfl, by decide +kernel, by decide +kernel⟩
abbrev s_check_count : Stmt := topS 9
abbrev n_check_count : List Str := ["count"]
theorem sc_check_count : FnScope n_check_count ["count"] (defScope s_check_count) := ⟨rfl, rfl, rfl, by decide +kernel, rfl, by decide +kernel, by decide +kernel⟩
abbrev s_check_text : Stmt := topS 10
abbrev n_check_text : List Str := ["text"]
theorem sc_check_text : FnScope n_check_text ["text"] (defScope s_check_text) := ⟨rfl, rfl, rfl, by decide +kernel, rfl, by decide +kernel, by decide +kernel⟩
abbrev s_common_beginning : Stmt := topS 12
abbrev n_common_beginning : List Str := ["one", "other", "many"]
theorem sc_common_beginning : FnScope n_common_beginning ["one", "other"] (defScope s_common_beginning) := ⟨rfl, rfl, rfl, by decide +kernel, rfl, by decide +kernel, by decide +kernel⟩
abbrev s_without_common_ends : Stmt := topS 13
abbrev n_without_common_ends : List Str := ["one", "other", "many", "left", "right"]
theorem sc_without_common_ends : FnScope n_without_common_ends ["one", "other"] (defScope s_without_common_ends) := ⟨rfl, rfl, rfl, by decide +kernel, rfl, by decide +kernel, by decide +kernel⟩
abbrev s_next_band : Stmt := topS 14
abbrev n_next_band : List Str := ["band", "letter", "at", "other", "most", "found", "k", "place", "ways"]
theorem sc_next_band : FnScope n_next_band ["band", "letter", "at", "other"] (defScope s_next_band) := ⟨rfl, rfl, rfl, by decide +kernel, rfl, by decide +kernel, by decide +kernel⟩
abbrev s_distance_within : Stmt := topS 15
abbrev n_distance_within : List Str := ["one", "other", "most", "left", "right", "band", "k", "at", "letter", "found"]
theorem sc_distance_within : FnScope n_distance_within ["one", "other", "most"] (defScope s_distance_within) := ⟨rfl, rfl, rfl, by decide +kernel, rfl, by decide +kernel, by decide +kernel⟩
abbrev s_levenshtein : Stmt := topS 16
abbrev n_levenshtein : List Str := ["one", "other", "most", "found"]
theorem sc_levenshtein : FnScope n_levenshtein ["one", "other"] (defScope s_levenshtein) := ⟨rfl, rfl, rfl, by decide +kernel, rfl, by decide +kernel, by decide +kernel⟩
abbrev s_distance : Stmt := topS 17
abbrev n_distance : List Str := ["one", "other"]
theorem sc_distance : FnScope n_distance ["one", "other"] (defScope s_distance) := ⟨rfl, rfl, rfl, by decide +kernel, rfl, by decide +kernel, by decide +kernel⟩
abbrev s_near : Stmt := topS 18
abbrev n_near : List Str := ["one", "other", "most"]
theorem sc_near : FnScope n_near ["one", "other", "most"] (defScope s_near) := ⟨rfl, rfl, rfl, by decide +kernel, rfl, by decide +kernel, by decide +kernel⟩
abbrev s__law_cell : Stmt := topS 20
abbrev n__law_cell : List Str := ["script", "k"]
theorem sc__law_cell : FnScope n__law_cell ["script", "k"] (defScope s__law_cell) := ⟨rfl, rfl, rfl, by decide +kernel, rfl, by decide +kernel, by decide +kernel⟩
abbrev s__law_box : Stmt := topS 21
abbrev n__law_box : List Str := ["great"]
theorem sc__law_box : FnScope n__law_box ["great"] (defScope s__law_box) := ⟨rfl, rfl, rfl, by decide +kernel, rfl, by decide +kernel, by decide +kernel⟩
abbrev s__law_take : Stmt := topS 22
abbrev n__law_take : List Str := ["box", "many", "digit", "mixed"]
theorem sc__law_take : FnScope n__law_take ["box", "many"] (defScope s__law_take) := ⟨rfl, rfl, rfl, by decide +kernel, rfl, by decide +kernel, by decide +kernel⟩
abbrev s__law_letters : Stmt := topS 23
abbrev n__law_letters : List Str := ["box", "k"]
theorem sc__law_letters : FnScope n__law_letters ["box"] (defScope s__law_letters) := ⟨rfl, rfl, rfl, by decide +kernel, rfl, by decide +kernel, by decide +kernel⟩
abbrev s__law_text : Stmt := topS 24
abbrev n__law_text : List Str := ["box", "letters", "many", "k"]
theorem sc__law_text : FnScope n__law_text ["box", "letters", "many"] (defScope s__law_text) := ⟨rfl, rfl, rfl, by decide +kernel, rfl, by decide +kernel, by decide +kernel⟩
abbrev s__law_changed : Stmt := topS 25
abbrev n__law_changed : List Str := ["box", "letters", "text", "found", "turn", "at", "way", "letter"]
theorem sc__law_changed : FnScope n__law_changed ["box", "letters", "text"] (defScope s__law_changed) := ⟨rfl, rfl, rfl, by decide +kernel, rfl, by decide +kernel, by decide +kernel⟩
abbrev s__law_texts : Stmt := topS 26
abbrev n__law_texts : List Str := ["box", "way", "letters", "size", "text", "at"]
theorem sc__law_texts : FnScope n__law_texts ["box"] (defScope s__law_texts) := ⟨rfl, rfl, rfl, by decide +kernel, rfl, by decide +kernel, by decide +kernel⟩
abbrev s__law_table : Stmt := topS 27
abbrev n__law_table : List Str := ["first", "second", "row", "i", "ahead", "j", "here"]
theorem sc__law_table : FnScope n__law_table ["first", "second"] (defScope s__law_table) := ⟨rfl, rfl, rfl, by decide +kernel, rfl, by decide +kernel, by decide +kernel⟩
abbrev s__law_met : Stmt := topS 28
abbrev n__law_met : List Str := ["which", "first", "second", "number", "e"]
theorem sc__law_met : FnScope n__law_met ["which", "first", "second", "number"] (defScope s__law_met) := ⟨rfl, rfl, rfl, by decide +kernel, rfl, by decide +kernel, by decide +kernel⟩
abbrev s__law_right : Stmt := topS 29
abbrev n__law_right : List Str := ["box", "first", "second", "due", "turn", "number", "right", "swapped", "told"]
theorem sc__law_right : FnScope n__law_right ["box", "first", "second"] (defScope s__law_right) := ⟨rfl, rfl, rfl, by decide +kernel, rfl, by decide +kernel, by decide +kernel⟩
abbrev s__law_long_right : Stmt := topS 30
abbrev n__law_long_right : List Str := ["box", "n", "m", "x", "y", "first", "second", "due", "number"]
theorem sc__law_long_right : FnScope n__law_long_right ["box"] (defScope s__law_long_right) := ⟨rfl, rfl, rfl, by decide +kernel, rfl, by decide +kernel, by decide +kernel⟩
abbrev s__law_wide_right : Stmt := topS 31
abbrev n__law_wide_right : List Str := ["box", "letters", "size", "first", "spot", "second", "turn", "at", "due", "which", "number"]
theorem sc__law_wide_right : FnScope n__law_wide_right ["box"] (defScope s__law_wide_right) := ⟨rfl, rfl, rfl, by decide +kernel, rfl, by decide +kernel, by decide +kernel⟩
abbrev s__law_odd : Stmt := topS 32
abbrev n__law_odd : List Str := ["box", "text", "way", "at"]
theorem sc__law_odd : FnScope n__law_odd ["box", "text"] (defScope s__law_odd) := ⟨rfl, rfl, rfl, by decide +kernel, rfl, by decide +kernel, by decide +kernel⟩
abbrev s__law_refuses : Stmt := topS 33
abbrev n__law_refuses : List Str := ["which", "first", "second", "number", "word", "odd", "told"]
theorem sc__law_refuses : FnScope n__law_refuses ["which", "first", "second", "number", "word", "odd"] (defScope s__law_refuses) := ⟨rfl, rfl, rfl, by decide +kernel, rfl, by decide +kernel, by decide +kernel⟩
abbrev s__law_copy : Stmt := topS 34
abbrev n__law_copy : List Str := ["value"]
theorem sc__law_copy : FnScope n__law_copy ["value"] (defScope s__law_copy) := ⟨rfl, rfl, rfl, by decide +kernel, rfl, by decide +kernel, by decide +kernel⟩
abbrev s__law_refused_right : Stmt := topS 35
abbrev n__law_refused_right : List Str := ["box", "first", "second", "wrong", "one_odd", "other_odd", "which", "given", "more", "count"]
theorem sc__law_refused_right : FnScope n__law_refused_right ["box", "first", "second"] (defScope s__law_refused_right) := ⟨rfl, rfl, rfl, by decide +kernel, rfl, by decide +kernel, by decide +kernel⟩
abbrev s_law : Stmt := topS 36
abbrev n_law : List Str := ["script", "k", "box", "first", "second"]
theorem sc_law : FnScope n_law ["script"] (defScope s_law) := ⟨rfl, rfl, rfl, by decide +kernel, rfl, by decide +kernel, by decide +kernel⟩
/-- names that stay the built-in ones -/
structure Z (mg : Str → Option Value) : Prop where
  abs : mg "abs" = none
  all : mg "all" = none
  bool : mg "bool" = none
  enumerate : mg "enumerate" = none
  int : mg "int" = none
  isinstance : mg "isinstance" = none
  len : mg "len" = none
  list : mg "list" = none
  max_ : mg "max" = none
  min_ : mg "min" = none
  range : mg "range" = none
  repr : mg "repr" = none
  str : mg "str" = none
  sum : mg "sum" = none
  tuple : mg "tuple" = none
end Sw
namespace Sw
open PySem PySem.Spec PyProof.Rows L2
local macro_rules | `(tactic| walk_at "hp") => `(tactic| first
  | (with_reducible assumption) | (with_reducible exact upd_same)
  | ((with_reducible refine' upd_old ?q1 ?q2); (case q1 => (with_reducible assumption)); (case q2 => walk_at "hp"))
  | ((with_reducible refine' Same.at ?q1 ?q2); (case q1 => (with_reducible assumption)); (case q2 => walk_at "hp"))
  | ((with_reducible refine' upd_skip ?q1 ?q2); (case q1 => walk_at "ne"); (case q2 => walk_at "hp"))
  | fail)
local macro_rules | `(tactic| walk_at "ne") => `(tactic| first
  | (with_reducible assumption) | (with_reducible exact Ne.symm (by assumption))
  | ((with_reducible refine' ne_of_none ?q1 ?q2); (case q2 => (with_reducible assumption)); (case q1 => walk_at "hp"))
  | fail)
local macro_rules | `(tactic| walk_at "ci") => `(tactic| first | assumption | (show (0 : Int) < _; first | decide | (with_reducible omega)) | exact ⟨by decide, by decide⟩ | exact .inl ⟨by decide, by decide⟩ | exact .inr ⟨by decide, by decide⟩)
local macro_rules | `(tactic| walk_at "ln") => `(tactic| first | (with_reducible assumption) | (with_reducible omega) | (simp only [List.length_append, List.length_take, List.length_drop, List.length_reverse, List.length_cons, List.length_nil]; with_reducible omega))
local macro_rules | `(tactic| walk_at "rd1") => `(tactic| first
  | (with_reducible refine i_seq ?_) | (with_reducible refine i_asg ?_) | (with_reducible refine i_ret ?_) | (with_reducible refine i_name ?_) | ((with_reducible refine' i_var ?q1 ?_); (case q1 => exact rfl)) | (with_reducible refine i_c ?_) | (with_reducible refine i_op ?_) | (with_reducible refine i_un ?_)
  | (with_reducible refine i_rI0 ?_) | (with_reducible refine i_cb ?_) | (with_reducible refine i_cons ?_) | (with_reducible refine i_nil ?_) | (with_reducible refine i_call ?_) | (with_reducible refine i_if ?_) | (with_reducible refine i_ifE ?_) | (with_reducible refine i_test ?_) | (with_reducible refine i_bl ?_)
  | (with_reducible refine i_and ?_) | (with_reducible refine i_or ?_) | (with_reducible refine i_not ?_) | (with_reducible refine i_lst ?_) | (with_reducible refine i_tup ?_) | (with_reducible refine i_next ?_) | (with_reducible refine i_drop ?_) | (with_reducible refine i_sub ?_)
  | (with_reducible refine i_bm ?_) | (with_reducible refine i_sl ?_) | (with_reducible refine i_part ?_) | (with_reducible refine i_nopart ?_) | (with_reducible refine i_exI ?_) | (with_reducible refine i_chain ?_) | ((with_reducible refine' i_aug ?q1 ?_); (case q1 => exact rfl)) | (with_reducible refine i_ip ?_)
  | (with_reducible refine i_par ?_) | (with_reducible refine i_pair ?_) | (with_reducible refine i_andV ?_) | (with_reducible refine i_orV ?_) | (with_reducible refine i_notV ?_) | (with_reducible refine i_m1 ?_) | (with_reducible refine i_str ?_)
  | (with_reducible refine iteF ?_) | (with_reducible refine iteT ?_) | (with_reducible refine iteNT ?_) | (with_reducible refine iteNF ?_) | (with_reducible refine i_tyS ?_) | (with_reducible refine i_tB ?_) | (with_reducible refine i_retN ?_) | (with_reducible refine i_par3 ?_) | (with_reducible refine i_trip ?_) | (with_reducible refine i_gCons ?_) | (with_reducible refine i_gNil ?_) | (with_reducible refine i_lstRg ?_) | (with_reducible refine i_rg1 ?_)
  | (with_reducible refine i_lc ?_) | (with_reducible refine i_for ?_) | (with_reducible refine i_iList ?_) | (with_reducible refine i_iTup ?_) | (with_reducible refine i_iStr ?_) | (with_reducible refine i_iRng1 ?_) | (with_reducible refine i_iEnS ?_)
  | ((with_reducible refine' i_ixTH ?q1 ?q2 ?_); (case q1 => walk_at "hp"); (case q2 => exact rfl))
  | ((with_reducible refine' i_ixLH ?q1 ?q2 ?_); (case q1 => walk_at "hp"); (case q2 => exact rfl))
  | ((with_reducible refine i_addS ?q1 ?_); (case q1 => walk_at "ln")) | ((with_reducible refine i_lenSS ?q1 ?_); (case q1 => walk_at "ln")) | ((with_reducible refine i_slFrom ?q1 ?q2 ?_); (case q1 => walk_at "ln"); (case q2 => walk_at "ln")) | ((with_reducible refine i_slTo ?q1 ?q2 ?_); (case q1 => walk_at "ln"); (case q2 => walk_at "ln"))
  | ((with_reducible refine' i_tyL ?q1 ?_); (case q1 => walk_at "hp"))
  | ((with_reducible refine' i_gTupH ?q1 ?q2 ?_); (case q1 => walk_at "hp"); (case q2 => exact rfl))
  | (with_reducible refine i_dnew ?_) | (with_reducible refine i_init ?_) | (with_reducible refine i_fst ?_) | (with_reducible refine i_mk ?_) | (with_reducible refine i_raise ?_) | (with_reducible refine i_callS ?_) | (with_reducible refine i_kwS ?_)
  | (with_reducible refine i_revT ?_) | (with_reducible refine i_kw ?_) | ((with_reducible refine' ⟨_, _, rfl, sqT_of ?q1, ?_⟩); (case q1 => walk_at "hp"))
  | (with_reducible refine i_revS ?_) | ((with_reducible refine i_revSS ?q1 ?_); (case q1 => walk_at "ln"))
  | (with_reducible refine i_startS ?_) | (with_reducible refine i_inSg ?_) | (with_reducible refine i_absN ?_) | (with_reducible refine i_min2 ?_) | (with_reducible refine i_max2 ?_) | (with_reducible refine i_min3 ?_) | (with_reducible refine i_intN ?_) | (with_reducible refine i_intNB ?_)
  | ((with_reducible refine' i_lenL ?q1 ?_); (case q1 => walk_at "hp")) | ((with_reducible refine' i_lenT ?q1 ?_); (case q1 => walk_at "hp"))
  | (with_reducible refine i_eqI ?_) | (with_reducible refine i_neI ?_) | (with_reducible refine i_eqS ?_) | (with_reducible refine i_neS ?_) | (with_reducible refine i_isNoI ?_) | (with_reducible refine i_isNoN ?_) | (with_reducible refine i_isNoR ?_)
  | ((with_reducible refine i_pow ?q1 ?q2 ?q3 ?_); (case q1 => decide); (case q2 => decide); (case q3 => (with_reducible omega)))
  | ((with_reducible refine i_rI ?q1 ?_); (case q1 => walk_at "ci"))
  | (with_reducible refine Or.inl ⟨_, rfl, ?_⟩) | (with_reducible refine Or.inr ⟨_, rfl, ?_⟩) | (with_reducible refine ⟨_, rfl, ?_⟩) | (with_reducible refine ⟨_, _, rfl, ?_⟩) | (with_reducible refine ⟨_, _, rfl, rfl, ?_⟩)
  | ((with_reducible refine' ⟨_, _, rfl, Or.inl (sqL_of ?q1), ?_⟩); (case q1 => walk_at "hp")) | ((with_reducible refine' ⟨_, _, rfl, Or.inr (sqT_of ?q1), ?_⟩); (case q1 => walk_at "hp")) | fail)
local macro_rules | `(tactic| walk_at "rd") => `(tactic| repeat' walk_at "rd1")

/-! ### the exceptions that tell a bad value -/
abbrev s_init : Stmt := inClass (topS 3) 0
abbrev s_init2 : Stmt := inClass (topS 2) 0
abbrev n_init : List Str := ["self", "given"]
theorem sc_init : FnScope n_init ["self", "given"] (defScope s_init) := ⟨rfl, rfl, rfl, by decide +kernel, rfl, by decide +kernel, by decide +kernel⟩
theorem sc_init2 : FnScope n_init ["self", "given"] (defScope s_init2) := ⟨rfl, rfl, rfl, by decide +kernel, rfl, by decide +kernel, by decide +kernel⟩
/-- the class InvalidCount, as it stands behind the top -/
structure XN (P : Program) (w : World) (K : PySem.W.Frag) (mg : Str → Option Value) (base : Heap) (C : Addr) : Prop where
  T : OexE K C
  xf : XfC K C
  no : PySem.W.findIn K (.ref C) "given" = some none
  hm : mg "InvalidCount" = some (.ref C)
  me : PySem.W.exmOne K (.ref C) (.ref C) = some true
  ini : ∃ (fI : Addr) (fd : FuncData), PySem.W.findIn K (.ref C) "__init__" = some (some (.ref fI)) ∧ PySem.W.typeIn K (.ref fI) = some (.type "function") ∧ FnOk P w K mg base CX0 1 fI fd ["self", "given"] (spInit K) ∧ Binds K fd ["self", "given"] []
theorem pmk_C {X : Cx} {C : Addr} {n : Nat} {e : Expr} {te : TE} {p pos : Pos} (xt : XN X.prog X.w X.K X.mg X.base C) (hr : Room n X.A) (he : PE X e te) (hn : 2 ≤ n := by decide) (hg : Gl X "InvalidCount" := by rfl)
    (he2 : starEach [e] X.env = (false, eval e X.env) :: starEach [] X.env := by rfl) : PMk X (.Call (.Name "InvalidCount" p) [e] [] pos) (tMkO C (spInit X.K) [] (tCons te tNil)) := by
  obtain ⟨fI, fd, h1, h2, h3, h4⟩ := xt.ini
  exact pmk_E xt.T h1 h2 h3 (hr.mono hn) h4 pass0 xt.hm (pa_cons he pa_nil he2) hg (by decide) he2 (by rfl)
theorem names_C {P : Program} {w : World} {K : PySem.W.Frag} {mg : Str → Option Value} {base : Heap} {X : Cx} {C : Addr} (xt : XN P w K mg base C) (hm : X.mg = mg := by rfl) (hg : Gl X "InvalidCount" := by rfl) : Names X "InvalidCount" (.ref C) := ⟨hg, by decide, .inl (by rw [hm]; exact xt.hm)⟩
section
variable {P : Program} {w : World} {K : PySem.W.Frag} {mg : Str → Option Value} {base : Heap} {f : Addr} {fd : FuncData}
theorem ok_init {B : Addr} (F : Fun K "__init__" "InvalidText.__init__" s_init f fd) (o : Over K mg B) : FnOk P w K mg base CX0 1 f fd ["self", "given"] (spInit K) := by
  refine F.ok sc_init (fun vs H Q E h => ?_) (fun cdv A outer s H vs Q E hr h => ?_)
  · obtain ⟨a, C, v, rfl, _⟩ := h; rfl
  · obtain ⟨a, C, v, rfl, ha, T, no, k⟩ := h
    refine ⟨_, (pss_cons (ps_expr (ps_init (by rfl) o.hm o.ga o.ty o.rd o.fi (pa_cons (pv 0) (pa_cons pe_str pa_nil))))
      (pss_one (ps_fst (pv 0) (pv 1)))), ?_⟩
    walk_at "rd"
    refine ⟨a, C, _, rfl, by simp, T, ha, ?_⟩
    walk_at "rd"
    exact ⟨a, C, rfl, T, no, ha, fun dx n ne => k dx n ne⟩
theorem ok_init2 {B : Addr} (F : Fun K "__init__" "InvalidCount.__init__" s_init2 f fd) (o : Over K mg B) : FnOk P w K mg base CX0 1 f fd ["self", "given"] (spInit K) := by
  refine F.ok sc_init2 (fun vs H Q E h => ?_) (fun cdv A outer s H vs Q E hr h => ?_)
  · obtain ⟨a, C, v, rfl, _⟩ := h; rfl
  · obtain ⟨a, C, v, rfl, ha, T, no, k⟩ := h
    refine ⟨_, (pss_cons (ps_expr (ps_init (by rfl) o.hm o.ga o.ty o.rd o.fi (pa_cons (pv 0) (pa_cons pe_str pa_nil))))
      (pss_one (ps_fst (pv 0) (pv 1)))), ?_⟩
    walk_at "rd"
    refine ⟨a, C, _, rfl, by simp, T, ha, ?_⟩
    walk_at "rd"
    exact ⟨a, C, rfl, T, no, ha, fun dx n ne => k dx n ne⟩
end
end Sw
namespace Sw
open PySem PySem.Spec PyProof.Rows L2
local macro_rules | `(tactic| walk_at "hp") => `(tactic| first
  | (with_reducible assumption) | (with_reducible exact upd_same)
  | ((with_reducible refine' upd_old ?q1 ?q2); (case q1 => (with_reducible assumption)); (case q2 => walk_at "hp"))
  | ((with_reducible refine' Same.at ?q1 ?q2); (case q1 => (with_reducible assumption)); (case q2 => walk_at "hp"))
  | ((with_reducible refine' upd_skip ?q1 ?q2); (case q1 => walk_at "ne"); (case q2 => walk_at "hp"))
  | fail)
local macro_rules | `(tactic| walk_at "ne") => `(tactic| first
  | (with_reducible assumption) | (with_reducible exact Ne.symm (by assumption))
  | ((with_reducible refine' ne_of_none ?q1 ?q2); (case q2 => (with_reducible assumption)); (case q1 => walk_at "hp"))
  | fail)
local macro_rules | `(tactic| walk_at "ci") => `(tactic| first | assumption | (show (0 : Int) < _; first | decide | (with_reducible omega)) | exact ⟨by decide, by decide⟩ | exact .inl ⟨by decide, by decide⟩ | exact .inr ⟨by decide, by decide⟩)
local macro_rules | `(tactic| walk_at "ln") => `(tactic| first | (with_reducible assumption) | (with_reducible omega) | (simp only [List.length_append, List.length_take, List.length_drop, List.length_reverse, List.length_cons, List.length_nil]; with_reducible omega))
local macro_rules | `(tactic| walk_at "rd1") => `(tactic| first
  | (with_reducible refine i_seq ?_) | (with_reducible refine i_asg ?_) | (with_reducible refine i_ret ?_) | (with_reducible refine i_name ?_) | ((with_reducible refine' i_var ?q1 ?_); (case q1 => exact rfl)) | (with_reducible refine i_c ?_) | (with_reducible refine i_op ?_) | (with_reducible refine i_un ?_)
  | (with_reducible refine i_rI0 ?_) | (with_reducible refine i_cb ?_) | (with_reducible refine i_cons ?_) | (with_reducible refine i_nil ?_) | (with_reducible refine i_call ?_) | (with_reducible refine i_if ?_) | (with_reducible refine i_ifE ?_) | (with_reducible refine i_test ?_) | (with_reducible refine i_bl ?_)
  | (with_reducible refine i_and ?_) | (with_reducible refine i_or ?_) | (with_reducible refine i_not ?_) | (with_reducible refine i_lst ?_) | (with_reducible refine i_tup ?_) | (with_reducible refine i_next ?_) | (with_reducible refine i_drop ?_) | (with_reducible refine i_sub ?_)
  | (with_reducible refine i_bm ?_) | (with_reducible refine i_sl ?_) | (with_reducible refine i_part ?_) | (with_reducible refine i_nopart ?_) | (with_reducible refine i_exI ?_) | (with_reducible refine i_chain ?_) | ((with_reducible refine' i_aug ?q1 ?_); (case q1 => exact rfl)) | (with_reducible refine i_ip ?_)
  | (with_reducible refine i_par ?_) | (with_reducible refine i_pair ?_) | (with_reducible refine i_andV ?_) | (with_reducible refine i_orV ?_) | (with_reducible refine i_notV ?_) | (with_reducible refine i_m1 ?_) | (with_reducible refine i_str ?_)
  | (with_reducible refine iteF ?_) | (with_reducible refine iteT ?_) | (with_reducible refine iteNT ?_) | (with_reducible refine iteNF ?_) | (with_reducible refine i_tyS ?_) | (with_reducible refine i_tB ?_) | (with_reducible refine i_retN ?_) | (with_reducible refine i_par3 ?_) | (with_reducible refine i_trip ?_) | (with_reducible refine i_gCons ?_) | (with_reducible refine i_gNil ?_) | (with_reducible refine i_lstRg ?_) | (with_reducible refine i_rg1 ?_)
  | (with_reducible refine i_lc ?_) | (with_reducible refine i_for ?_) | (with_reducible refine i_iList ?_) | (with_reducible refine i_iTup ?_) | (with_reducible refine i_iStr ?_) | (with_reducible refine i_iRng1 ?_) | (with_reducible refine i_iEnS ?_)
  | ((with_reducible refine' i_ixTH ?q1 ?q2 ?_); (case q1 => walk_at "hp"); (case q2 => exact rfl))
  | ((with_reducible refine' i_ixLH ?q1 ?q2 ?_); (case q1 => walk_at "hp"); (case q2 => exact rfl))
  | ((with_reducible refine i_addS ?q1 ?_); (case q1 => walk_at "ln")) | ((with_reducible refine i_lenSS ?q1 ?_); (case q1 => walk_at "ln")) | ((with_reducible refine i_slFrom ?q1 ?q2 ?_); (case q1 => walk_at "ln"); (case q2 => walk_at "ln")) | ((with_reducible refine i_slTo ?q1 ?q2 ?_); (case q1 => walk_at "ln"); (case q2 => walk_at "ln"))
  | ((with_reducible refine' i_tyL ?q1 ?_); (case q1 => walk_at "hp"))
  | ((with_reducible refine' i_gTupH ?q1 ?q2 ?_); (case q1 => walk_at "hp"); (case q2 => exact rfl))
  | (with_reducible refine i_dnew ?_) | (with_reducible refine i_init ?_) | (with_reducible refine i_fst ?_) | (with_reducible refine i_mk ?_) | (with_reducible refine i_raise ?_) | (with_reducible refine i_callS ?_) | (with_reducible refine i_kwS ?_)
  | (with_reducible refine i_revT ?_) | (with_reducible refine i_kw ?_) | ((with_reducible refine' ⟨_, _, rfl, sqT_of ?q1, ?_⟩); (case q1 => walk_at "hp"))
  | (with_reducible refine i_revS ?_) | ((with_reducible refine i_revSS ?q1 ?_); (case q1 => walk_at "ln"))
  | (with_reducible refine i_startS ?_) | (with_reducible refine i_inSg ?_) | (with_reducible refine i_absN ?_) | (with_reducible refine i_min2 ?_) | (with_reducible refine i_max2 ?_) | (with_reducible refine i_min3 ?_) | (with_reducible refine i_intN ?_) | (with_reducible refine i_intNB ?_)
  | ((with_reducible refine' i_lenL ?q1 ?_); (case q1 => walk_at "hp")) | ((with_reducible refine' i_lenT ?q1 ?_); (case q1 => walk_at "hp"))
  | (with_reducible refine i_eqI ?_) | (with_reducible refine i_neI ?_) | (with_reducible refine i_eqS ?_) | (with_reducible refine i_neS ?_) | (with_reducible refine i_isNoI ?_) | (with_reducible refine i_isNoN ?_) | (with_reducible refine i_isNoR ?_)
  | ((with_reducible refine i_pow ?q1 ?q2 ?q3 ?_); (case q1 => decide); (case q2 => decide); (case q3 => (with_reducible omega)))
  | ((with_reducible refine i_rI ?q1 ?_); (case q1 => walk_at "ci"))
  | (with_reducible refine Or.inl ⟨_, rfl, ?_⟩) | (with_reducible refine Or.inr ⟨_, rfl, ?_⟩) | (with_reducible refine ⟨_, rfl, ?_⟩) | (with_reducible refine ⟨_, _, rfl, ?_⟩) | (with_reducible refine ⟨_, _, rfl, rfl, ?_⟩)
  | ((with_reducible refine' ⟨_, _, rfl, Or.inl (sqL_of ?q1), ?_⟩); (case q1 => walk_at "hp")) | ((with_reducible refine' ⟨_, _, rfl, Or.inr (sqT_of ?q1), ?_⟩); (case q1 => walk_at "hp")) | fail)
local macro_rules | `(tactic| walk_at "rd") => `(tactic| repeat' walk_at "rd1")

section
variable {P : Program} {w : World} {K : PySem.W.Frag} {mg : Str → Option Value} {base : Heap} {f : Addr} {fd : FuncData}
theorem ok__law_take (F : Fun K "_law_take" "_law_take" s__law_take f fd) (z : Z mg) : FnOk P w K mg base CX0 1 f fd ["box", "many"] spTake := by
  refine F.ok sc__law_take (fun vs H Q E h => ?_) (fun cdv A outer s H vs Q E hr h => ?_)
  · obtain ⟨b, m, d, rfl, _⟩ := h; rfl
  · obtain ⟨b, m, d, rfl, B, hd, hm, hm2, k⟩ := h
    obtain ⟨n, g, c, e, hb, hn, hc0, hc1, he0, he1⟩ := B.ex
    have L : SqL K H b [.int n, .bl g, .int c, .int e] := .inl (.inl hb)
    refine ⟨_, (pss_cons (ps_if (PW.pt (pw_and (pt_val (pe_ix ix_list (pv 0) pe_int (fun _ _ => rfl))) (pw_and1 (pt_cmpR op_gt (pe_ix ix_list (pv 0) pe_int (fun _ _ => rfl)) pe_int (nomark _)))))
        (pss_cons (ps_set (i := 2) sc__law_take.nd rfl (.inl rfl) (pe_op op_mod (pe_callTy call_intN (by rfl) z.int (by decide +kernel) (pa_cons (pe_ix ix_list (pv 0) pe_int (fun _ _ => rfl)) pa_nil)) (pv 1)))
        (pss_cons (ps_asg (pe_op op_fdivW (pe_ix ix_list (pv 0) pe_int (fun _ _ => rfl)) (pv 1)) (pg_sub (pv 0) pe_int set_list))
        (pss_one (ps_ret (pv 2)))))
        pss_nil)
      (pss_cons (ps_asg (pe_op op_add (pe_ix ix_list (pv 0) pe_int (fun _ _ => rfl)) pe_int) (pg_sub (pv 0) pe_int set_list))
      (pss_cons (ps_set (i := 3) sc__law_take.nd rfl (.inl rfl) (pe_op op_mod (pe_callTy call_intN (by rfl) z.int (by decide +kernel) (pa_cons (pe_op op_pow (pe_op op_add (pe_op op_add (pe_ix ix_list (pv 0) pe_int (fun _ _ => rfl)) (pe_op op_mul pe_int (pe_ix ix_list (pv 0) pe_int (fun _ _ => rfl)))) pe_int) pe_int) pa_nil)) pe_int))
      (pss_one (ps_ret (pe_op op_mod (pe_op op_fdiv (pe_op op_mod (pe_callTy call_intN (by rfl) z.int (by decide +kernel) (pa_cons (pe_op op_pow (pe_op op_add (pe_op op_mul (pv 3) pe_int) (pe_op op_mul pe_int (pe_ix ix_list (pv 0) pe_int (fun _ _ => rfl)))) pe_int) pa_nil)) pe_int) pe_int) (pv 1))))))), ?_⟩
    walk_at "rd"
    refine iteC (fun hg => ?_) (fun hg => ?_)
    · walk_at "rd"
      refine iteB (fun h0 => ?_) (fun h0 => ?_)
      · walk_at "rd"
        refine i_rI (wide_div hm (by omega : m.natAbs < 2 ^ 64) (by decide) (by decide)) ?_
        walk_at "rd"
        refine i_setL hb rfl ?_
        walk_at "rd"
        refine k _ _ (Int.emod_nonneg _ (by omega)) (Int.emod_lt_of_pos _ hm) ⟨n / m, g, c, e, upd_same, Int.ediv_nonneg hn (by omega), hc0, hc1, he0, by omega⟩ SB.upd
      · walk_at "rd"
        refine i_setL hb rfl ?_
        walk_at "rd"
        exact k _ _ (Int.emod_nonneg _ (by omega)) (Int.emod_lt_of_pos _ hm) ⟨n, g, c, e + 1, upd_same, hn, hc0, hc1, by omega, by omega⟩ SB.upd
    · walk_at "rd"
      refine i_setL hb rfl ?_
      walk_at "rd"
      exact k _ _ (Int.emod_nonneg _ (by omega)) (Int.emod_lt_of_pos _ hm) ⟨n, g, c, e + 1, upd_same, hn, hc0, hc1, by omega, by omega⟩ SB.upd
theorem ok__law_box (F : Fun K "_law_box" "_law_box" s__law_box f fd) (z : Z mg) : FnOk P w K mg base CX0 1 f fd ["great"] spBox := by
  refine F.ok sc__law_box (fun vs H Q E h => ?_) (fun cdv A outer s H vs Q E hr h => ?_)
  · obtain ⟨n, rfl, _⟩ := h; rfl
  · obtain ⟨n, rfl, k⟩ := h
    refine ⟨_, (pss_one (ps_ret (pe_lst (pa_cons (pe_callB call_absN (by rfl) z.abs (by decide +kernel) (pa_cons (pv 0) pa_nil)) (pa_cons (pe_cmpR op_ge (pe_callB call_absN (by rfl) z.abs (by decide +kernel) (pa_cons (pv 0) pa_nil)) (pe_op op_pow pe_int pe_int) (nomark _)) (pa_cons (pe_op op_mod (pe_callTy call_intN (by rfl) z.int (by decide +kernel) (pa_cons (pe_callB call_absN (by rfl) z.abs (by decide +kernel) (pa_cons (pv 0) pa_nil)) pa_nil)) pe_int) (pa_cons pe_int pa_nil))))))), ?_⟩
    walk_at "rd"
    have q0 := Int.emod_nonneg (if n < 0 then -n else n) (show (2147483629 : Int) ≠ 0 by decide)
    have q1 : (if n < 0 then -n else n) % 2147483629 < 2147483629 := by have := Int.emod_lt_of_pos (if n < 0 then -n else n) (show (0 : Int) < 2147483579 by decide); omega
    refine ⟨Nat.le_of_ble_eq_true rfl, fun p np => ?_⟩
    refine k p _ np (same_upd np) ⟨_, _, _, _, upd_same, by split <;> omega, q0, q1, by omega, by omega⟩
theorem ok__law_cell (F : Fun K "_law_cell" "_law_cell" s__law_cell f fd) (z : Z mg) : FnOk P w K mg base CX0 1 f fd ["script", "k"] (spCell K) := by
  refine F.ok sc__law_cell (fun vs H Q E h => ?_) (fun cdv A outer s H vs Q E hr h => ?_)
  · obtain ⟨a, ns, j, rfl, _⟩ := h; rfl
  · obtain ⟨a, ns, j, rfl, L, h0, h1, k⟩ := h
    refine ⟨_, (pss_one (ps_ret (pe_ifExp (pt_cmpR op_lt (pv 1) (pe_callB call_lenQ (by rfl) z.len PySem.boot_len (pa_cons (pv 0) pa_nil)) (nomark _)) (pe_ix ix_list (pv 0) (pv 1) (fun _ _ => rfl)) (pe_op op_add (pe_op op_mul pe_int (pv 1)) (pe_op op_mod (pe_callTy call_intN (by rfl) z.int (by decide +kernel) (pa_cons (pe_callB (cr_sum rfl) (by rfl) z.sum (by decide +kernel) (pa_cons (pe_slice sl_list (pv 0) po_none (po_some pe_int)) pa_nil)) pa_nil)) pe_int))))), ?_⟩
    walk_at "rd"
    refine i_lenK L ?_
    walk_at "rd"
    rw [List.length_map]
    refine iteB (fun hlt => ?_) (fun hlt => ?_)
    · walk_at "rd"
      refine i_ixL L (atI_ints h0 hlt) ?_
      exact k _ _ (Same.refl _)
    · walk_at "rd"
      refine ⟨a, _, rfl, L, fun p np => ?_⟩
      walk_at "rd"
      have e : cutV (ns.map V.int) none (some 1) = (ns.take 1).map V.int := by
        unfold cutV
        rw [show HT.sIx (ns.map V.int).length (ns.map V.int).length (some 1) = min 1 (ns.map V.int).length from HT.sIx_nat _ _ 1, HT.sIx_none, List.drop_zero, Nat.sub_zero, List.map_take]
        rcases Nat.le_total 1 (ns.map V.int).length with q | q
        · rw [Nat.min_eq_left q]
        · rw [Nat.min_eq_right q, List.take_length, List.take_of_length_le q]
      rw [e]
      refine ⟨p, ns.take 1, rfl, sqL_of upd_same, ?_⟩
      walk_at "rd"
      exact k _ _ (same_upd np)
end
end Sw
namespace Sw
open PySem PySem.Spec PyProof.Rows L2
local macro_rules | `(tactic| walk_at "hp") => `(tactic| first
  | (with_reducible assumption) | (with_reducible exact upd_same)
  | ((with_reducible refine' upd_old ?q1 ?q2); (case q1 => (with_reducible assumption)); (case q2 => walk_at "hp"))
  | ((with_reducible refine' Same.at ?q1 ?q2); (case q1 => (with_reducible assumption)); (case q2 => walk_at "hp"))
  | ((with_reducible refine' upd_skip ?q1 ?q2); (case q1 => walk_at "ne"); (case q2 => walk_at "hp"))
  | fail)
local macro_rules | `(tactic| walk_at "ne") => `(tactic| first
  | (with_reducible assumption) | (with_reducible exact Ne.symm (by assumption))
  | ((with_reducible refine' ne_of_none ?q1 ?q2); (case q2 => (with_reducible assumption)); (case q1 => walk_at "hp"))
  | fail)
local macro_rules | `(tactic| walk_at "ci") => `(tactic| first | assumption | (show (0 : Int) < _; first | decide | (with_reducible omega)) | exact ⟨by decide, by decide⟩ | exact .inl ⟨by decide, by decide⟩ | exact .inr ⟨by decide, by decide⟩)
local macro_rules | `(tactic| walk_at "ln") => `(tactic| first | (with_reducible assumption) | (with_reducible omega) | (simp only [List.length_append, List.length_take, List.length_drop, List.length_reverse, List.length_cons, List.length_nil]; with_reducible omega))
local macro_rules | `(tactic| walk_at "rd1") => `(tactic| first
  | (with_reducible refine i_seq ?_) | (with_reducible refine i_asg ?_) | (with_reducible refine i_ret ?_) | (with_reducible refine i_name ?_) | ((with_reducible refine' i_var ?q1 ?_); (case q1 => exact rfl)) | (with_reducible refine i_c ?_) | (with_reducible refine i_op ?_) | (with_reducible refine i_un ?_)
  | (with_reducible refine i_rI0 ?_) | (with_reducible refine i_cb ?_) | (with_reducible refine i_cons ?_) | (with_reducible refine i_nil ?_) | (with_reducible refine i_call ?_) | (with_reducible refine i_if ?_) | (with_reducible refine i_ifE ?_) | (with_reducible refine i_test ?_) | (with_reducible refine i_bl ?_)
  | (with_reducible refine i_and ?_) | (with_reducible refine i_or ?_) | (with_reducible refine i_not ?_) | (with_reducible refine i_lst ?_) | (with_reducible refine i_tup ?_) | (with_reducible refine i_next ?_) | (with_reducible refine i_drop ?_) | (with_reducible refine i_sub ?_)
  | (with_reducible refine i_bm ?_) | (with_reducible refine i_sl ?_) | (with_reducible refine i_part ?_) | (with_reducible refine i_nopart ?_) | (with_reducible refine i_exI ?_) | (with_reducible refine i_chain ?_) | ((with_reducible refine' i_aug ?q1 ?_); (case q1 => exact rfl)) | (with_reducible refine i_ip ?_)
  | (with_reducible refine i_par ?_) | (with_reducible refine i_pair ?_) | (with_reducible refine i_andV ?_) | (with_reducible refine i_orV ?_) | (with_reducible refine i_notV ?_) | (with_reducible refine i_m1 ?_) | (with_reducible refine i_str ?_)
  | (with_reducible refine iteF ?_) | (with_reducible refine iteT ?_) | (with_reducible refine iteNT ?_) | (with_reducible refine iteNF ?_) | (with_reducible refine i_tyS ?_) | (with_reducible refine i_tB ?_) | (with_reducible refine i_retN ?_) | (with_reducible refine i_par3 ?_) | (with_reducible refine i_trip ?_) | (with_reducible refine i_gCons ?_) | (with_reducible refine i_gNil ?_) | (with_reducible refine i_lstRg ?_) | (with_reducible refine i_rg1 ?_)
  | (with_reducible refine i_lc ?_) | (with_reducible refine i_for ?_) | (with_reducible refine i_iList ?_) | (with_reducible refine i_iTup ?_) | (with_reducible refine i_iStr ?_) | (with_reducible refine i_iRng1 ?_) | (with_reducible refine i_iEnS ?_)
  | ((with_reducible refine' i_ixTH ?q1 ?q2 ?_); (case q1 => walk_at "hp"); (case q2 => exact rfl))
  | ((with_reducible refine' i_ixLH ?q1 ?q2 ?_); (case q1 => walk_at "hp"); (case q2 => exact rfl))
  | ((with_reducible refine i_addS ?q1 ?_); (case q1 => walk_at "ln")) | ((with_reducible refine i_lenSS ?q1 ?_); (case q1 => walk_at "ln")) | ((with_reducible refine i_slFrom ?q1 ?q2 ?_); (case q1 => walk_at "ln"); (case q2 => walk_at "ln")) | ((with_reducible refine i_slTo ?q1 ?q2 ?_); (case q1 => walk_at "ln"); (case q2 => walk_at "ln"))
  | ((with_reducible refine' i_tyL ?q1 ?_); (case q1 => walk_at "hp"))
  | ((with_reducible refine' i_gTupH ?q1 ?q2 ?_); (case q1 => walk_at "hp"); (case q2 => exact rfl))
  | (with_reducible refine i_dnew ?_) | (with_reducible refine i_init ?_) | (with_reducible refine i_fst ?_) | (with_reducible refine i_mk ?_) | (with_reducible refine i_raise ?_) | (with_reducible refine i_callS ?_) | (with_reducible refine i_kwS ?_)
  | (with_reducible refine i_revT ?_) | (with_reducible refine i_kw ?_) | ((with_reducible refine' ⟨_, _, rfl, sqT_of ?q1, ?_⟩); (case q1 => walk_at "hp"))
  | (with_reducible refine i_revS ?_) | ((with_reducible refine i_revSS ?q1 ?_); (case q1 => walk_at "ln"))
  | (with_reducible refine i_startS ?_) | (with_reducible refine i_inSg ?_) | (with_reducible refine i_absN ?_) | (with_reducible refine i_min2 ?_) | (with_reducible refine i_max2 ?_) | (with_reducible refine i_min3 ?_) | (with_reducible refine i_intN ?_) | (with_reducible refine i_intNB ?_)
  | ((with_reducible refine' i_lenL ?q1 ?_); (case q1 => walk_at "hp")) | ((with_reducible refine' i_lenT ?q1 ?_); (case q1 => walk_at "hp"))
  | (with_reducible refine i_eqI ?_) | (with_reducible refine i_neI ?_) | (with_reducible refine i_eqS ?_) | (with_reducible refine i_neS ?_) | (with_reducible refine i_isNoI ?_) | (with_reducible refine i_isNoN ?_) | (with_reducible refine i_isNoR ?_)
  | ((with_reducible refine i_pow ?q1 ?q2 ?q3 ?_); (case q1 => decide); (case q2 => decide); (case q3 => (with_reducible omega)))
  | ((with_reducible refine i_rI ?q1 ?_); (case q1 => walk_at "ci"))
  | (with_reducible refine Or.inl ⟨_, rfl, ?_⟩) | (with_reducible refine Or.inr ⟨_, rfl, ?_⟩) | (with_reducible refine ⟨_, rfl, ?_⟩) | (with_reducible refine ⟨_, _, rfl, ?_⟩) | (with_reducible refine ⟨_, _, rfl, rfl, ?_⟩)
  | ((with_reducible refine' ⟨_, _, rfl, Or.inl (sqL_of ?q1), ?_⟩); (case q1 => walk_at "hp")) | ((with_reducible refine' ⟨_, _, rfl, Or.inr (sqT_of ?q1), ?_⟩); (case q1 => walk_at "hp")) | fail)
local macro_rules | `(tactic| walk_at "rd") => `(tactic| repeat' walk_at "rd1")

/-- is_text(value) -/
def spIsText (K : PySem.W.Frag) : Sp := fun vs H Q _ => ∃ x, vs = [x] ∧ ((∃ l, x = .str (S l) ∧ l.length ≤ 100000 ∧ ∀ H', Same H H' → Q (.bl (azB l)) H') ∨
  (∃ t, TyX K H x t ∧ PySem.W.kitOne K t (.type "str") = some false ∧ Q (.bl false) H))
/-- check_text(text), of a text -/
def spCheckText : Sp := fun vs H Q _ => ∃ l, vs = [.str (S l)] ∧ l.length ≤ 100000 ∧ azB l = true ∧ ∀ H', Same H H' → Q .non H'
section
variable {P : Program} {w : World} {K : PySem.W.Frag} {mg : Str → Option Value} {base : Heap} {f : Addr} {fd : FuncData}
theorem ok_is_text (F : Fun K "is_text" "is_text" s_is_text f fd) (z : Z mg) {t : Tok} (g_LETTERS : mg "LETTERS" = some (.str (("abcdefghijklmnopqrstuvwxyz" : Str)) t)) : FnOk P w K mg base CX0 1 f fd ["value"] (spIsText K) := by
  refine F.ok sc_is_text (fun vs H Q E h => ?_) (fun cdv A outer s H vs Q E hr h => ?_)
  · obtain ⟨x, rfl, _⟩ := h; rfl
  · obtain ⟨x, rfl, h⟩ := h
    refine ⟨_, (pss_one (ps_ret (pe_and (pe_callB call_isi (by rfl) z.isinstance (by decide +kernel) (pa_cons (pv 0) (pa_cons (pe_bltn (v := .ty "str") (by rfl) z.str (by decide +kernel) rfl) pa_nil))) (pe_one (pe_callB (cr_all rfl) (by rfl) z.all (by decide +kernel) (pa_cons (pe_lc (own := [("letter", 1)]) (g := gName 1) (tt := tYes) rfl sc_is_text.nd (pi_str (pv 0)) (blkOk_by (own := [("letter", 1)]) (N := n_is_text) (sc := defScope s_is_text) (by decide +kernel)) (fun _ _ _ _ _ => (pg_name (i := 1) sc_is_text.nd rfl (.inl rfl))) (fun _ _ _ _ _ => pts_nil) (fun _ _ _ _ _ => (pe_cmpR op_inSg (pv 1) (pe_glob (v := .str ("abcdefghijklmnopqrstuvwxyz" : Str)) rfl g_LETTERS ⟨_, rfl⟩) rfl))) pa_nil)))))), ?_⟩
    walk_at "rd"
    rcases h with ⟨l, rfl, hl, k⟩ | ⟨t, ty, kt, k⟩
    · refine i_isi true (.base (.str _)) (kit_ty (by decide +kernel)) ?_
      walk_at "rd"
      refine go_map walk_S (fun i => V.bl (decide (97 ≤ l.getD i 0 ∧ l.getD i 0 ≤ 122))) (by omega) (fun _ _ => trivial) (fun i x H2 H3 hi s2 y R hR => ?_) mono_name (fun p H2 np s2 e2 => ?_)
      · obtain ⟨rfl, c, hc, rfl⟩ := y
        have ec : l.getD i 0 = c := by rw [List.getD_eq_getElem?_getD, hc]; rfl
        walk_at "rd"
        refine ⟨rfl, ?_⟩
        walk_at "rd"
        rw [az_in, ← ec]
        exact hR _ (Same.refl _)
      · walk_at "rd"
        have e3 : H2 p = some (.lst (((List.range l.length).map fun i => decide (97 ≤ l.getD i 0 ∧ l.getD i 0 ≤ 122)).map V.bl)) := by
          rw [e2, List.map_map]
          rfl
        refine i_all e3 ?_
        rw [range_map_get l _ (fun c => decide (97 ≤ c ∧ c ≤ 122)) (fun i x hx => by rw [List.getD_eq_getElem?_getD, hx]; rfl), List.all_map]
        exact k _ s2
    · refine i_isi false ty kt ?_
      walk_at "rd"
      exact k
theorem ok_check_text (F : Fun K "check_text" "check_text" s_check_text f fd) (c_is_text : Cal P w K mg base "is_text" ["value"] 1 (spIsText K)) : FnOk P w K mg base CX0 2 f fd ["text"] spCheckText := by
  refine F.ok sc_check_text (fun vs H Q E h => ?_) (fun cdv A outer s H vs Q E hr h => ?_)
  · obtain ⟨l, rfl, _⟩ := h; rfl
  · obtain ⟨l, rfl, hl, ha, k⟩ := h
    refine ⟨_, (pss_one (ps_if (pt_not (pt_val (pe_cal c_is_text hr (pa_cons (pv 0) pa_nil))))
        (pss_one ps_never)
        pss_nil)), ?_⟩
    walk_at "rd"
    refine ⟨_, rfl, .inl ⟨l, rfl, hl, fun H' s' => ?_⟩⟩
    rw [ha]
    walk_at "rd"
    exact k _ s'
end
end Sw
namespace Sw
open PySem PySem.Spec PyProof.Rows L2
local macro_rules | `(tactic| walk_at "hp") => `(tactic| first
  | (with_reducible assumption) | (with_reducible exact upd_same)
  | ((with_reducible refine' upd_old ?q1 ?q2); (case q1 => (with_reducible assumption)); (case q2 => walk_at "hp"))
  | ((with_reducible refine' Same.at ?q1 ?q2); (case q1 => (with_reducible assumption)); (case q2 => walk_at "hp"))
  | ((with_reducible refine' upd_skip ?q1 ?q2); (case q1 => walk_at "ne"); (case q2 => walk_at "hp"))
  | fail)
local macro_rules | `(tactic| walk_at "ne") => `(tactic| first
  | (with_reducible assumption) | (with_reducible exact Ne.symm (by assumption))
  | ((with_reducible refine' ne_of_none ?q1 ?q2); (case q2 => (with_reducible assumption)); (case q1 => walk_at "hp"))
  | fail)
local macro_rules | `(tactic| walk_at "ci") => `(tactic| first | assumption | (show (0 : Int) < _; first | decide | (with_reducible omega)) | exact ⟨by decide, by decide⟩ | exact .inl ⟨by decide, by decide⟩ | exact .inr ⟨by decide, by decide⟩)
local macro_rules | `(tactic| walk_at "ln") => `(tactic| first | (with_reducible assumption) | (with_reducible omega) | (simp only [List.length_append, List.length_take, List.length_drop, List.length_reverse, List.length_cons, List.length_nil]; with_reducible omega))
local macro_rules | `(tactic| walk_at "rd1") => `(tactic| first
  | (with_reducible refine i_seq ?_) | (with_reducible refine i_asg ?_) | (with_reducible refine i_ret ?_) | (with_reducible refine i_name ?_) | ((with_reducible refine' i_var ?q1 ?_); (case q1 => exact rfl)) | (with_reducible refine i_c ?_) | (with_reducible refine i_op ?_) | (with_reducible refine i_un ?_)
  | (with_reducible refine i_rI0 ?_) | (with_reducible refine i_cb ?_) | (with_reducible refine i_cons ?_) | (with_reducible refine i_nil ?_) | (with_reducible refine i_call ?_) | (with_reducible refine i_if ?_) | (with_reducible refine i_ifE ?_) | (with_reducible refine i_test ?_) | (with_reducible refine i_bl ?_)
  | (with_reducible refine i_and ?_) | (with_reducible refine i_or ?_) | (with_reducible refine i_not ?_) | (with_reducible refine i_lst ?_) | (with_reducible refine i_tup ?_) | (with_reducible refine i_next ?_) | (with_reducible refine i_drop ?_) | (with_reducible refine i_sub ?_)
  | (with_reducible refine i_bm ?_) | (with_reducible refine i_sl ?_) | (with_reducible refine i_part ?_) | (with_reducible refine i_nopart ?_) | (with_reducible refine i_exI ?_) | (with_reducible refine i_chain ?_) | ((with_reducible refine' i_aug ?q1 ?_); (case q1 => exact rfl)) | (with_reducible refine i_ip ?_)
  | (with_reducible refine i_par ?_) | (with_reducible refine i_pair ?_) | (with_reducible refine i_andV ?_) | (with_reducible refine i_orV ?_) | (with_reducible refine i_notV ?_) | (with_reducible refine i_m1 ?_) | (with_reducible refine i_str ?_)
  | (with_reducible refine iteF ?_) | (with_reducible refine iteT ?_) | (with_reducible refine iteNT ?_) | (with_reducible refine iteNF ?_) | (with_reducible refine i_tyS ?_) | (with_reducible refine i_tB ?_) | (with_reducible refine i_retN ?_) | (with_reducible refine i_par3 ?_) | (with_reducible refine i_trip ?_) | (with_reducible refine i_gCons ?_) | (with_reducible refine i_gNil ?_) | (with_reducible refine i_lstRg ?_) | (with_reducible refine i_rg1 ?_)
  | (with_reducible refine i_lc ?_) | (with_reducible refine i_for ?_) | (with_reducible refine i_iList ?_) | (with_reducible refine i_iTup ?_) | (with_reducible refine i_iStr ?_) | (with_reducible refine i_iRng1 ?_) | (with_reducible refine i_iEnS ?_)
  | ((with_reducible refine' i_ixTH ?q1 ?q2 ?_); (case q1 => walk_at "hp"); (case q2 => exact rfl))
  | ((with_reducible refine' i_ixLH ?q1 ?q2 ?_); (case q1 => walk_at "hp"); (case q2 => exact rfl))
  | ((with_reducible refine i_addS ?q1 ?_); (case q1 => walk_at "ln")) | ((with_reducible refine i_lenSS ?q1 ?_); (case q1 => walk_at "ln")) | ((with_reducible refine i_slFrom ?q1 ?q2 ?_); (case q1 => walk_at "ln"); (case q2 => walk_at "ln")) | ((with_reducible refine i_slTo ?q1 ?q2 ?_); (case q1 => walk_at "ln"); (case q2 => walk_at "ln"))
  | ((with_reducible refine' i_tyL ?q1 ?_); (case q1 => walk_at "hp"))
  | ((with_reducible refine' i_gTupH ?q1 ?q2 ?_); (case q1 => walk_at "hp"); (case q2 => exact rfl))
  | (with_reducible refine i_dnew ?_) | (with_reducible refine i_init ?_) | (with_reducible refine i_fst ?_) | (with_reducible refine i_mk ?_) | (with_reducible refine i_raise ?_) | (with_reducible refine i_callS ?_) | (with_reducible refine i_kwS ?_)
  | (with_reducible refine i_revT ?_) | (with_reducible refine i_kw ?_) | ((with_reducible refine' ⟨_, _, rfl, sqT_of ?q1, ?_⟩); (case q1 => walk_at "hp"))
  | (with_reducible refine i_revS ?_) | ((with_reducible refine i_revSS ?q1 ?_); (case q1 => walk_at "ln"))
  | (with_reducible refine i_startS ?_) | (with_reducible refine i_inSg ?_) | (with_reducible refine i_absN ?_) | (with_reducible refine i_min2 ?_) | (with_reducible refine i_max2 ?_) | (with_reducible refine i_min3 ?_) | (with_reducible refine i_intN ?_) | (with_reducible refine i_intNB ?_)
  | ((with_reducible refine' i_lenL ?q1 ?_); (case q1 => walk_at "hp")) | ((with_reducible refine' i_lenT ?q1 ?_); (case q1 => walk_at "hp"))
  | (with_reducible refine i_eqI ?_) | (with_reducible refine i_neI ?_) | (with_reducible refine i_eqS ?_) | (with_reducible refine i_neS ?_) | (with_reducible refine i_isNoI ?_) | (with_reducible refine i_isNoN ?_) | (with_reducible refine i_isNoR ?_)
  | ((with_reducible refine i_pow ?q1 ?q2 ?q3 ?_); (case q1 => decide); (case q2 => decide); (case q3 => (with_reducible omega)))
  | ((with_reducible refine i_rI ?q1 ?_); (case q1 => walk_at "ci"))
  | (with_reducible refine Or.inl ⟨_, rfl, ?_⟩) | (with_reducible refine Or.inr ⟨_, rfl, ?_⟩) | (with_reducible refine ⟨_, rfl, ?_⟩) | (with_reducible refine ⟨_, _, rfl, ?_⟩) | (with_reducible refine ⟨_, _, rfl, rfl, ?_⟩)
  | ((with_reducible refine' ⟨_, _, rfl, Or.inl (sqL_of ?q1), ?_⟩); (case q1 => walk_at "hp")) | ((with_reducible refine' ⟨_, _, rfl, Or.inr (sqT_of ?q1), ?_⟩); (case q1 => walk_at "hp")) | fail)
local macro_rules | `(tactic| walk_at "rd") => `(tactic| repeat' walk_at "rd1")


/-- common_beginning(one, other) -/
def spCommon : Sp := fun vs H Q _ => ∃ l r, vs = [.str (S l), .str (S r)] ∧ l.length ≤ 100000 ∧ r.length ≤ 100000 ∧
  ∀ m : Nat, m ≤ l.length → m ≤ r.length → l.take m = r.take m → Q (.int (m : Int)) H
/-- without_common_ends(one, other) -/
def spEnds : Sp := fun vs H Q _ => ∃ l r, vs = [.str (S l), .str (S r)] ∧ l.length ≤ 100000 ∧ r.length ≤ 100000 ∧
  ∀ (a x y b : List Nat) (p : Addr) (H' : Hp), l = a ++ x ++ b → r = a ++ y ++ b → Same H H' → H p = none → H' p = some (.tup [.str (S x), .str (S y)]) → Q (.ref p) H'
section
variable {P : Program} {w : World} {K : PySem.W.Frag} {mg : Str → Option Value} {base : Heap} {f : Addr} {fd : FuncData}
theorem ok_common (F : Fun K "common_beginning" "common_beginning" s_common_beginning f fd) (z : Z mg) : FnOk P w K mg base CX0 1 f fd ["one", "other"] spCommon := by
  refine F.ok sc_common_beginning (fun vs H Q E h => ?_) (fun cdv A outer s H vs Q E hr h => ?_)
  · obtain ⟨l, r, rfl, _⟩ := h; rfl
  · obtain ⟨l, r, rfl, hl, hr', k⟩ := h
    refine ⟨_, (pss_cons (ps_set (i := 2) sc_common_beginning.nd rfl (.inl rfl) pe_int)
      (pss_cons (ps_while PassesOwn.never (PW.pt (pw_and (pt_cmpR op_lt (pv 2) (pe_callB (call_min2N rfl) (by rfl) z.min_ (by decide +kernel) (pa_cons (pe_callB call_lenS (by rfl) z.len PySem.boot_len (pa_cons (pv 0) pa_nil)) (pa_cons (pe_callB call_lenS (by rfl) z.len PySem.boot_len (pa_cons (pv 1) pa_nil)) pa_nil))) (nomark _)) (pw_and1 (pt_cmpR op_eq (pe_ix ix_S (pv 0) (pv 2) (fun _ _ => rfl)) (pe_ix ix_S (pv 1) (pv 2) (fun _ _ => rfl)) (nomark _)))))
        (pss_one (ps_aug (i := 2) sc_common_beginning.nd rfl (.inl rfl) pe_int ip_add)))
      (pss_one (ps_ret (pv 2))))), ?_⟩
    walk_at "rd"
    refine go_while (fun n σ H2 => ∃ m : Nat, n = l.length - m ∧ σ = [some (.str (S l)), some (.str (S r)), some (.int (m : Int))] ∧ H2 = H ∧ m ≤ l.length ∧ m ≤ r.length ∧ l.take m = r.take m)
      (l.length - 0) ⟨0, rfl, rfl, rfl, Nat.zero_le _, Nat.zero_le _, rfl⟩ (fun n σ H2 h2 => ?_)
    obtain ⟨m, rfl, rfl, rfl, h1, h2, h3⟩ := h2
    walk_at "rd"
    refine iteB (fun hlt => ?_) (fun hge => ?_)
    · walk_at "rd"
      have e1 : m < l.length := by omega
      have e2 : m < r.length := by omega
      refine i_ixSS (by omega) (atI_nat (List.getElem?_eq_getElem e1)) ?_
      walk_at "rd"
      refine i_ixSS (by omega) (atI_nat (List.getElem?_eq_getElem e2)) ?_
      walk_at "rd"
      refine iteB (fun he => ?_) (fun hne => ?_)
      · refine ⟨_, fun _ _ q => q, ?_⟩
        walk_at "rd"
        refine ⟨l.length - (m + 1), by omega, m + 1, rfl, rfl, rfl, e1, e2, ?_⟩
        rw [List.take_add_one, List.take_add_one, h3, List.getElem?_eq_getElem e1, List.getElem?_eq_getElem e2, List.singleton_inj.mp he]
      · walk_at "rd"
        exact k m h1 h2 h3
    · walk_at "rd"
      exact k m h1 h2 h3
theorem ok_ends (F : Fun K "without_common_ends" "without_common_ends" s_without_common_ends f fd) (z : Z mg) (c_common_beginning : Cal P w K mg base "common_beginning" ["one", "other"] 1 spCommon) : FnOk P w K mg base CX0 2 f fd ["one", "other"] spEnds := by
  refine F.ok sc_without_common_ends (fun vs H Q E h => ?_) (fun cdv A outer s H vs Q E hr h => ?_)
  · obtain ⟨l, r, rfl, _⟩ := h; rfl
  · obtain ⟨l, r, rfl, hl, hr', k⟩ := h
    refine ⟨_, (pss_cons (ps_set (i := 2) sc_without_common_ends.nd rfl (.inl rfl) (pe_cal c_common_beginning hr (pa_cons (pv 0) (pa_cons (pv 1) pa_nil))))
      (pss_cons (ps_par (i := 3) (j := 4) rfl sc_without_common_ends.nd rfl rfl (by decide) rfl rfl (pa_cons (pe_slice sl_S (pv 0) (po_some (pv 2)) po_none) (pa_cons (pe_slice sl_S (pv 1) (po_some (pv 2)) po_none) pa_nil)) (by rfl))
      (pss_cons (ps_set (i := 2) sc_without_common_ends.nd rfl (.inl rfl) (pe_cal c_common_beginning hr (pa_cons (pe_revS (pv 3)) (pa_cons (pe_revS (pv 4)) pa_nil))))
      (pss_one (ps_ret (pe_tup (pa_cons (pe_slice sl_S (pv 3) po_none (po_some (pe_op op_sub (pe_callB call_lenS (by rfl) z.len PySem.boot_len (pa_cons (pv 3) pa_nil)) (pv 2)))) (pa_cons (pe_slice sl_S (pv 4) po_none (po_some (pe_op op_sub (pe_callB call_lenS (by rfl) z.len PySem.boot_len (pa_cons (pv 4) pa_nil)) (pv 2)))) pa_nil)))))))), ?_⟩
    walk_at "rd"
    refine ⟨l, r, rfl, hl, hr', fun m m1 m2 em => ?_⟩
    walk_at "rd"
    refine ⟨(l.drop m).reverse, (r.drop m).reverse, rfl, by walk_at "ln", by walk_at "ln", fun n n1 n2 en => ?_⟩
    walk_at "rd"
    rw [List.length_reverse] at n1 n2
    simp only [Int.toNat_natCast] at *
    refine i_slTo (by omega) (by walk_at "ln") ?_
    walk_at "rd"
    refine ⟨Nat.le_of_ble_eq_true rfl, fun p np => ?_⟩
    rw [List.take_reverse, List.take_reverse, List.reverse_inj] at en
    have t1 : (((l.drop m).length : Int) - (n : Int)).toNat = (l.drop m).length - n := by omega
    have t2 : (((r.drop m).length : Int) - (n : Int)).toNat = (r.drop m).length - n := by omega
    rw [t1, t2]
    refine k (l.take m) ((l.drop m).take ((l.drop m).length - n)) ((r.drop m).take ((r.drop m).length - n)) ((l.drop m).drop ((l.drop m).length - n)) p _ ?_ ?_ (same_upd np) np upd_same
    · rw [List.append_assoc, List.take_append_drop, List.take_append_drop]
    · rw [en, em, List.append_assoc, List.take_append_drop, List.take_append_drop]
end
end Sw
namespace Sw
open PySem PySem.Spec PyProof.Rows L2
local macro_rules | `(tactic| walk_at "hp") => `(tactic| first
  | (with_reducible assumption) | (with_reducible exact upd_same)
  | ((with_reducible refine' upd_old ?q1 ?q2); (case q1 => (with_reducible assumption)); (case q2 => walk_at "hp"))
  | ((with_reducible refine' Same.at ?q1 ?q2); (case q1 => (with_reducible assumption)); (case q2 => walk_at "hp"))
  | ((with_reducible refine' upd_skip ?q1 ?q2); (case q1 => walk_at "ne"); (case q2 => walk_at "hp"))
  | fail)
local macro_rules | `(tactic| walk_at "ne") => `(tactic| first
  | (with_reducible assumption) | (with_reducible exact Ne.symm (by assumption))
  | ((with_reducible refine' ne_of_none ?q1 ?q2); (case q2 => (with_reducible assumption)); (case q1 => walk_at "hp"))
  | fail)
local macro_rules | `(tactic| walk_at "ci") => `(tactic| first | assumption | (show (0 : Int) < _; first | decide | (with_reducible omega)) | exact ⟨by decide, by decide⟩ | exact .inl ⟨by decide, by decide⟩ | exact .inr ⟨by decide, by decide⟩)
local macro_rules | `(tactic| walk_at "ln") => `(tactic| first | (with_reducible assumption) | (with_reducible omega) | (simp only [List.length_append, List.length_take, List.length_drop, List.length_reverse, List.length_cons, List.length_nil]; with_reducible omega))
local macro_rules | `(tactic| walk_at "rd1") => `(tactic| first
  | (with_reducible refine i_seq ?_) | (with_reducible refine i_asg ?_) | (with_reducible refine i_ret ?_) | (with_reducible refine i_name ?_) | ((with_reducible refine' i_var ?q1 ?_); (case q1 => exact rfl)) | (with_reducible refine i_c ?_) | (with_reducible refine i_op ?_) | (with_reducible refine i_un ?_)
  | (with_reducible refine i_rI0 ?_) | (with_reducible refine i_cb ?_) | (with_reducible refine i_cons ?_) | (with_reducible refine i_nil ?_) | (with_reducible refine i_call ?_) | (with_reducible refine i_if ?_) | (with_reducible refine i_ifE ?_) | (with_reducible refine i_test ?_) | (with_reducible refine i_bl ?_)
  | (with_reducible refine i_and ?_) | (with_reducible refine i_or ?_) | (with_reducible refine i_not ?_) | (with_reducible refine i_lst ?_) | (with_reducible refine i_tup ?_) | (with_reducible refine i_next ?_) | (with_reducible refine i_drop ?_) | (with_reducible refine i_sub ?_)
  | (with_reducible refine i_bm ?_) | (with_reducible refine i_sl ?_) | (with_reducible refine i_part ?_) | (with_reducible refine i_nopart ?_) | (with_reducible refine i_exI ?_) | (with_reducible refine i_chain ?_) | ((with_reducible refine' i_aug ?q1 ?_); (case q1 => exact rfl)) | (with_reducible refine i_ip ?_)
  | (with_reducible refine i_par ?_) | (with_reducible refine i_pair ?_) | (with_reducible refine i_andV ?_) | (with_reducible refine i_orV ?_) | (with_reducible refine i_notV ?_) | (with_reducible refine i_m1 ?_) | (with_reducible refine i_str ?_)
  | (with_reducible refine iteF ?_) | (with_reducible refine iteT ?_) | (with_reducible refine iteNT ?_) | (with_reducible refine iteNF ?_) | (with_reducible refine i_tyS ?_) | (with_reducible refine i_tB ?_) | (with_reducible refine i_retN ?_) | (with_reducible refine i_par3 ?_) | (with_reducible refine i_trip ?_) | (with_reducible refine i_gCons ?_) | (with_reducible refine i_gNil ?_) | (with_reducible refine i_lstRg ?_) | (with_reducible refine i_rg1 ?_)
  | (with_reducible refine i_lc ?_) | (with_reducible refine i_for ?_) | (with_reducible refine i_iList ?_) | (with_reducible refine i_iTup ?_) | (with_reducible refine i_iStr ?_) | (with_reducible refine i_iRng1 ?_) | (with_reducible refine i_iEnS ?_)
  | ((with_reducible refine' i_ixTH ?q1 ?q2 ?_); (case q1 => walk_at "hp"); (case q2 => exact rfl))
  | ((with_reducible refine' i_ixLH ?q1 ?q2 ?_); (case q1 => walk_at "hp"); (case q2 => exact rfl))
  | ((with_reducible refine i_addS ?q1 ?_); (case q1 => walk_at "ln")) | ((with_reducible refine i_lenSS ?q1 ?_); (case q1 => walk_at "ln")) | ((with_reducible refine i_slFrom ?q1 ?q2 ?_); (case q1 => walk_at "ln"); (case q2 => walk_at "ln")) | ((with_reducible refine i_slTo ?q1 ?q2 ?_); (case q1 => walk_at "ln"); (case q2 => walk_at "ln"))
  | ((with_reducible refine' i_tyL ?q1 ?_); (case q1 => walk_at "hp"))
  | ((with_reducible refine' i_gTupH ?q1 ?q2 ?_); (case q1 => walk_at "hp"); (case q2 => exact rfl))
  | (with_reducible refine i_dnew ?_) | (with_reducible refine i_init ?_) | (with_reducible refine i_fst ?_) | (with_reducible refine i_mk ?_) | (with_reducible refine i_raise ?_) | (with_reducible refine i_callS ?_) | (with_reducible refine i_kwS ?_)
  | (with_reducible refine i_revT ?_) | (with_reducible refine i_kw ?_) | ((with_reducible refine' ⟨_, _, rfl, sqT_of ?q1, ?_⟩); (case q1 => walk_at "hp"))
  | (with_reducible refine i_revS ?_) | ((with_reducible refine i_revSS ?q1 ?_); (case q1 => walk_at "ln"))
  | (with_reducible refine i_startS ?_) | (with_reducible refine i_inSg ?_) | (with_reducible refine i_absN ?_) | (with_reducible refine i_min2 ?_) | (with_reducible refine i_max2 ?_) | (with_reducible refine i_min3 ?_) | (with_reducible refine i_intN ?_) | (with_reducible refine i_intNB ?_)
  | ((with_reducible refine' i_lenL ?q1 ?_); (case q1 => walk_at "hp")) | ((with_reducible refine' i_lenT ?q1 ?_); (case q1 => walk_at "hp"))
  | (with_reducible refine i_eqI ?_) | (with_reducible refine i_neI ?_) | (with_reducible refine i_eqS ?_) | (with_reducible refine i_neS ?_) | (with_reducible refine i_isNoI ?_) | (with_reducible refine i_isNoN ?_) | (with_reducible refine i_isNoR ?_)
  | ((with_reducible refine i_pow ?q1 ?q2 ?q3 ?_); (case q1 => decide); (case q2 => decide); (case q3 => (with_reducible omega)))
  | ((with_reducible refine i_rI ?q1 ?_); (case q1 => walk_at "ci"))
  | (with_reducible refine Or.inl ⟨_, rfl, ?_⟩) | (with_reducible refine Or.inr ⟨_, rfl, ?_⟩) | (with_reducible refine ⟨_, rfl, ?_⟩) | (with_reducible refine ⟨_, _, rfl, ?_⟩) | (with_reducible refine ⟨_, _, rfl, rfl, ?_⟩)
  | ((with_reducible refine' ⟨_, _, rfl, Or.inl (sqL_of ?q1), ?_⟩); (case q1 => walk_at "hp")) | ((with_reducible refine' ⟨_, _, rfl, Or.inr (sqT_of ?q1), ?_⟩); (case q1 => walk_at "hp")) | fail)
local macro_rules | `(tactic| walk_at "rd") => `(tactic| repeat' walk_at "rd1")


open Lev (band cell ways way_least)
/-- next_band(band, letter, at, other) -/
def spNext (K : PySem.W.Frag) : Sp := fun vs H Q _ => ∃ (b : Addr) (M at' x : Nat) (l r : List Nat), vs = [.ref b, .str (S [x]), .int (at' : Int), .str (S r)] ∧ H b = some (.lst ((band M l r at').map V.int)) ∧ l[at']? = some x ∧ l.length ≤ 10000 ∧ r.length ≤ 10000 ∧ M ≤ 10000 ∧
  ∀ (p : Addr) (H' : Hp), Same H H' → H p = none → H' p = some (.lst ((band M l r (at' + 1)).map V.int)) → Q (.ref p) H'
section
variable {P : Program} {w : World} {K : PySem.W.Frag} {mg : Str → Option Value} {base : Heap} {f : Addr} {fd : FuncData}
theorem ok_next (F : Fun K "next_band" "next_band" s_next_band f fd) (z : Z mg) : FnOk P w K mg base CX0 1 f fd ["band", "letter", "at", "other"] (spNext K) := by
  refine F.ok sc_next_band (fun vs H Q E h => ?_) (fun cdv A outer s H vs Q E hr h => ?_)
  · obtain ⟨b, M, a, x, l, r, rfl, _⟩ := h; rfl
  · obtain ⟨b, M, a, x, l, r, rfl, hb, hx, hl, hr', hM, k⟩ := h
    refine ⟨_, (pss_cons (ps_par (i := 4) (j := 5) rfl sc_next_band.nd rfl rfl (by decide) rfl rfl (pa_cons (pe_op op_fdiv (pe_callB call_lenQ (by rfl) z.len PySem.boot_len (pa_cons (pv 0) pa_nil)) pe_int) (pa_cons (pe_lst pa_nil) pa_nil)) (by rfl))
      (pss_cons (ps_for PassesOwn.never rfl (pi_range1 (by rfl) z.range (pa_cons (pe_callB call_lenQ (by rfl) z.len PySem.boot_len (pa_cons (pv 0) pa_nil)) pa_nil)) (pg_name (i := 6) sc_next_band.nd rfl (.inl rfl))
        (pss_cons (ps_set (i := 7) sc_next_band.nd rfl (.inl rfl) (pe_op op_sub (pe_op op_add (pe_op op_add (pv 2) pe_int) (pv 6)) (pv 4)))
        (pss_cons (ps_set (i := 8) sc_next_band.nd rfl (.inl rfl) (pe_lst (pa_cons (pe_op op_add (pv 4) pe_int) pa_nil)))
        (C8.pss_cut (ps_if (pt_chain op_lt op_le pe_int (pv 7) (pe_callB call_lenS (by rfl) z.len PySem.boot_len (pa_cons (pv 3) pa_nil)))
          (pss_one (ps_expr (pe_bm PySem.F.plainAttrs_list PySem.F.slot_list_append PySem.F.type_list_append mt_append (pv 8) (pa_cons (pe_op op_add (pe_ix ix_list (pv 0) (pv 6) (fun _ _ => rfl)) (pe_callTy call_intN (by rfl) z.int (by decide +kernel) (pa_cons (pe_cmpR op_ne (pv 1) (pe_ix ix_S (pv 3) (pe_op op_sub (pv 7) pe_int) (fun _ _ => rfl)) (nomark _)) pa_nil))) pa_nil))))
          pss_nil)
        (C8.pss_cut (ps_if (PW.pt (pw_and (pt_chain op_lt op_le pe_int (pv 7) (pe_callB call_lenS (by rfl) z.len PySem.boot_len (pa_cons (pv 3) pa_nil))) (pw_and1 (pt_cmpR op_gt (pv 6) pe_int (nomark _)))))
          (pss_one (ps_expr (pe_bm PySem.F.plainAttrs_list PySem.F.slot_list_append PySem.F.type_list_append mt_append (pv 8) (pa_cons (pe_op op_add (pe_ix ix_list (pv 5) (pe_op op_sub (pv 6) pe_int) (fun _ _ => rfl)) pe_int) pa_nil))))
          pss_nil)
        (C8.pss_cut (ps_if (PW.pt (pw_and (pt_chain op_le op_le pe_int (pv 7) (pe_callB call_lenS (by rfl) z.len PySem.boot_len (pa_cons (pv 3) pa_nil))) (pw_and1 (pt_cmpR op_lt (pv 6) (pe_op op_mul pe_int (pv 4)) (nomark _)))))
          (pss_one (ps_expr (pe_bm PySem.F.plainAttrs_list PySem.F.slot_list_append PySem.F.type_list_append mt_append (pv 8) (pa_cons (pe_op op_add (pe_ix ix_list (pv 0) (pe_op op_add (pv 6) pe_int) (fun _ _ => rfl)) pe_int) pa_nil))))
          pss_nil)
        (pss_one (ps_expr (pe_bm PySem.F.plainAttrs_list PySem.F.slot_list_append PySem.F.type_list_append mt_append (pv 5) (pa_cons (pe_callB (cr_min rfl) (by rfl) z.min_ (by decide +kernel) (pa_cons (pv 8) pa_nil)) pa_nil))))))))))
      (pss_one (ps_ret (pv 5))))), ?_⟩
    walk_at "rd"
    refine ⟨Nat.zero_le _, fun fo nf => ?_⟩
    walk_at "rd"
    have eM : ((((band M l r a).map V.int).length : Int)) / 2 = (M : Int) := by
      rw [List.length_map, Lev.band_len]
      omega
    rw [eM]
    have hb1 : (upd H fo (.lst [])) b = some (.lst ((band M l r a).map V.int)) := upd_old nf hb
    walk_at "rd"
    rw [List.length_map, Lev.band_len]
    refine i_rng (by omega) (by omega) ?_
    rw [show ((2 * M + 1 : Nat) : Int).toNat = 2 * M + 1 from rfl]
    refine go_for walk_rangeZ (fun i σ H2 => ∃ u6 u7 u8 : Option V, σ = [some (.ref b), some (.str (S [x])), some (.int a), some (.str (S r)), some (.int M), some (.ref fo), u6, u7, u8] ∧ Same H H2 ∧
      H2 fo = some (.lst (((band M l r (a + 1)).take i).map V.int))) ⟨none, none, none, rfl, same_upd nf, upd_same⟩ (fun _ _ _ _ _ => trivial) (fun i v σ H2 H3 hi p y => ?_) (fun σ H2 p => ?_)
    · obtain ⟨u6, u7, u8, rfl, s2, ef⟩ := p
      obtain ⟨rfl, rfl⟩ := y
      have hb2 := Same.at s2 hb
      walk_at "rd"
      refine ⟨Nat.le_of_ble_eq_true rfl, fun wa nw => ?_⟩
      walk_at "rd"
      generalize ep : (a : Int) + 1 + (i : Int) - (M : Int) = place
      generalize eW1 : ([(M : Int) + 1] ++ (if 0 < place ∧ place ≤ r.length then [cell M l r a i + (if some x = r[(place - 1).toNat]? then 0 else 1)] else []) : List Int) = W1
      have lW1 : W1.length ≤ 2 := by rw [← eW1]; split <;> simp
      refine i_cut (fun σ' H' => σ' = [some (.ref b), some (.str (S [x])), some (.int a), some (.str (S r)), some (.int M), some (.ref fo), some (.int i), some (.int place), some (.ref wa)] ∧ H' = upd H3 wa (.lst (W1.map V.int))) ?_ ?_
      · walk_at "rd"
        refine iteB (fun q1 => ?_) (fun q1 => ?_)
        · walk_at "rd"
          refine iteB (fun q2 => ?_) (fun q2 => ?_)
          · walk_at "rd"
            refine i_ixLI (by walk_at "hp") (by omega) (Lev.band_get hi) ?_
            walk_at "rd"
            have hp1 : (place - 1).toNat < r.length := by omega
            refine i_ixSI (by omega) (List.getElem?_eq_getElem hp1) (by omega) ?_
            walk_at "rd"
            refine i_appI (ns := [(M : Int) + 1]) upd_same (Nat.le_of_ble_eq_true rfl) ?_
            refine ⟨rfl, ?_⟩
            have eδ : (if (!decide ([x] = [r[(place - 1).toNat]])) = true then (1 : Int) else 0) = if some x = some r[(place - 1).toNat] then 0 else 1 := by
              by_cases c : x = r[(place - 1).toNat]
              · rw [← c]; simp
              · simp [c]
            rw [upd_upd, ← eW1, if_pos (show 0 < place ∧ place ≤ r.length from ⟨q1, q2⟩), List.getElem?_eq_getElem hp1, ← eδ]
            rfl
          · walk_at "rd"
            refine ⟨rfl, ?_⟩
            rw [← eW1, if_neg (by omega)]; rfl
        · walk_at "rd"
          refine ⟨rfl, ?_⟩
          rw [← eW1, if_neg (by omega)]; rfl
      rintro _ _ ⟨rfl, rfl⟩
      generalize eW2 : (W1 ++ (if (0 < place ∧ place ≤ r.length) ∧ 0 < i then [cell M l r (a + 1) (i - 1) + 1] else []) : List Int) = W2
      have lW2 : W2.length ≤ 3 := by rw [← eW2, List.length_append]; split <;> simp <;> omega
      refine i_cut (fun σ' H' => σ' = [some (.ref b), some (.str (S [x])), some (.int a), some (.str (S r)), some (.int M), some (.ref fo), some (.int i), some (.int place), some (.ref wa)] ∧ H' = upd H3 wa (.lst (W2.map V.int))) ?_ ?_
      · walk_at "rd"
        refine iteB (fun q1 => ?_) (fun q1 => ?_)
        · walk_at "rd"
          refine iteB (fun q2 => ?_) (fun q2 => ?_)
          · walk_at "rd"
            refine iteB (fun q3 => ?_) (fun q3 => ?_)
            · walk_at "rd"
              have ek : ((i : Int) - 1).toNat = i - 1 := by omega
              have eg : ((band M l r (a + 1)).take i)[((i : Int) - 1).toNat]? = some (cell M l r (a + 1) (i - 1)) := by
                rw [ek, List.getElem?_take, if_pos (by omega), Lev.band_get (by omega)]
              refine i_ixLI (by walk_at "hp") (by omega) eg ?_
              walk_at "rd"
              refine i_appI (ns := W1) upd_same (by omega) ?_
              refine ⟨rfl, ?_⟩
              rw [upd_upd, ← eW2, if_pos (show (_ ∧ _) ∧ _ from ⟨⟨q1, q2⟩, by omega⟩)]
            · walk_at "rd"
              refine ⟨rfl, ?_⟩
              rw [← eW2, if_neg (by omega), List.append_nil]
          · walk_at "rd"
            refine ⟨rfl, ?_⟩
            rw [← eW2, if_neg (by omega), List.append_nil]
        · walk_at "rd"
          refine ⟨rfl, ?_⟩
          rw [← eW2, if_neg (by omega), List.append_nil]
      rintro _ _ ⟨rfl, rfl⟩
      generalize eW3 : (W2 ++ (if (0 ≤ place ∧ place ≤ r.length) ∧ i < 2 * M then [cell M l r a (i + 1) + 1] else []) : List Int) = W3
      have lW3 : W3.length ≤ 4 := by rw [← eW3, List.length_append]; split <;> simp <;> omega
      refine i_cut (fun σ' H' => σ' = [some (.ref b), some (.str (S [x])), some (.int a), some (.str (S r)), some (.int M), some (.ref fo), some (.int i), some (.int place), some (.ref wa)] ∧ H' = upd H3 wa (.lst (W3.map V.int))) ?_ ?_
      · walk_at "rd"
        refine iteB (fun q1 => ?_) (fun q1 => ?_)
        · walk_at "rd"
          refine iteB (fun q2 => ?_) (fun q2 => ?_)
          · walk_at "rd"
            refine iteB (fun q3 => ?_) (fun q3 => ?_)
            · walk_at "rd"
              refine i_ixLI (by walk_at "hp") (by omega) (Lev.band_get (k := i + 1) (by omega)) ?_
              walk_at "rd"
              refine i_appI (ns := W2) upd_same (by omega) ?_
              refine ⟨rfl, ?_⟩
              rw [upd_upd, ← eW3, if_pos (show (_ ∧ _) ∧ _ from ⟨⟨q1, q2⟩, by omega⟩)]
            · walk_at "rd"
              refine ⟨rfl, ?_⟩
              rw [← eW3, if_neg (by omega), List.append_nil]
          · walk_at "rd"
            refine ⟨rfl, ?_⟩
            rw [← eW3, if_neg (by omega), List.append_nil]
        · walk_at "rd"
          refine ⟨rfl, ?_⟩
          rw [← eW3, if_neg (by omega), List.append_nil]
      rintro _ _ ⟨rfl, rfl⟩
      have eW : W3 = ways M l r a x i := by
        rw [← eW3, ← eW2, ← eW1, ← ep]
        rfl
      walk_at "rd"
      refine i_minL (ns := W3) upd_same (by rw [eW]; unfold ways; simp) (fun m hm hl' => ?_)
      rw [eW] at hm hl'
      have em := way_least hx hi hm hl'
      subst em
      walk_at "rd"
      refine i_appI (by walk_at "hp") (by rw [List.length_take, Lev.band_len]; omega) ?_
      refine ⟨_, _, _, rfl, Same.set_new (Same.upd_new s2 nw) nf, ?_⟩
      rw [upd_same, List.take_add_one, Lev.band_get hi]
      rfl
    · obtain ⟨u6, u7, u8, rfl, s2, ef⟩ := p
      walk_at "rd"
      rw [List.take_of_length_le (by rw [Lev.band_len]; exact Nat.le_refl _)] at ef
      exact k fo H2 s2 nf ef
end
end Sw
namespace Sw
open PySem PySem.Spec PyProof.Rows L2
local macro_rules | `(tactic| walk_at "hp") => `(tactic| first
  | (with_reducible assumption) | (with_reducible exact upd_same)
  | ((with_reducible refine' upd_old ?q1 ?q2); (case q1 => (with_reducible assumption)); (case q2 => walk_at "hp"))
  | ((with_reducible refine' Same.at ?q1 ?q2); (case q1 => (with_reducible assumption)); (case q2 => walk_at "hp"))
  | ((with_reducible refine' upd_skip ?q1 ?q2); (case q1 => walk_at "ne"); (case q2 => walk_at "hp"))
  | fail)
local macro_rules | `(tactic| walk_at "ne") => `(tactic| first
  | (with_reducible assumption) | (with_reducible exact Ne.symm (by assumption))
  | ((with_reducible refine' ne_of_none ?q1 ?q2); (case q2 => (with_reducible assumption)); (case q1 => walk_at "hp"))
  | fail)
local macro_rules | `(tactic| walk_at "ci") => `(tactic| first | assumption | (show (0 : Int) < _; first | decide | (with_reducible omega)) | exact ⟨by decide, by decide⟩ | exact .inl ⟨by decide, by decide⟩ | exact .inr ⟨by decide, by decide⟩)
local macro_rules | `(tactic| walk_at "ln") => `(tactic| first | (with_reducible assumption) | (with_reducible omega) | (simp only [List.length_append, List.length_take, List.length_drop, List.length_reverse, List.length_cons, List.length_nil]; with_reducible omega))
local macro_rules | `(tactic| walk_at "rd1") => `(tactic| first
  | (with_reducible refine i_seq ?_) | (with_reducible refine i_asg ?_) | (with_reducible refine i_ret ?_) | (with_reducible refine i_name ?_) | ((with_reducible refine' i_var ?q1 ?_); (case q1 => exact rfl)) | (with_reducible refine i_c ?_) | (with_reducible refine i_op ?_) | (with_reducible refine i_un ?_)
  | (with_reducible refine i_rI0 ?_) | (with_reducible refine i_cb ?_) | (with_reducible refine i_cons ?_) | (with_reducible refine i_nil ?_) | (with_reducible refine i_call ?_) | (with_reducible refine i_if ?_) | (with_reducible refine i_ifE ?_) | (with_reducible refine i_test ?_) | (with_reducible refine i_bl ?_)
  | (with_reducible refine i_and ?_) | (with_reducible refine i_or ?_) | (with_reducible refine i_not ?_) | (with_reducible refine i_lst ?_) | (with_reducible refine i_tup ?_) | (with_reducible refine i_next ?_) | (with_reducible refine i_drop ?_) | (with_reducible refine i_sub ?_)
  | (with_reducible refine i_bm ?_) | (with_reducible refine i_sl ?_) | (with_reducible refine i_part ?_) | (with_reducible refine i_nopart ?_) | (with_reducible refine i_exI ?_) | (with_reducible refine i_chain ?_) | ((with_reducible refine' i_aug ?q1 ?_); (case q1 => exact rfl)) | (with_reducible refine i_ip ?_)
  | (with_reducible refine i_par ?_) | (with_reducible refine i_pair ?_) | (with_reducible refine i_andV ?_) | (with_reducible refine i_orV ?_) | (with_reducible refine i_notV ?_) | (with_reducible refine i_m1 ?_) | (with_reducible refine i_str ?_)
  | (with_reducible refine iteF ?_) | (with_reducible refine iteT ?_) | (with_reducible refine iteNT ?_) | (with_reducible refine iteNF ?_) | (with_reducible refine i_tyS ?_) | (with_reducible refine i_tB ?_) | (with_reducible refine i_retN ?_) | (with_reducible refine i_par3 ?_) | (with_reducible refine i_trip ?_) | (with_reducible refine i_gCons ?_) | (with_reducible refine i_gNil ?_) | (with_reducible refine i_lstRg ?_) | (with_reducible refine i_rg1 ?_)
  | (with_reducible refine i_lc ?_) | (with_reducible refine i_for ?_) | (with_reducible refine i_iList ?_) | (with_reducible refine i_iTup ?_) | (with_reducible refine i_iStr ?_) | (with_reducible refine i_iRng1 ?_) | (with_reducible refine i_iEnS ?_)
  | ((with_reducible refine' i_ixTH ?q1 ?q2 ?_); (case q1 => walk_at "hp"); (case q2 => exact rfl))
  | ((with_reducible refine' i_ixLH ?q1 ?q2 ?_); (case q1 => walk_at "hp"); (case q2 => exact rfl))
  | ((with_reducible refine i_addS ?q1 ?_); (case q1 => walk_at "ln")) | ((with_reducible refine i_lenSS ?q1 ?_); (case q1 => walk_at "ln")) | ((with_reducible refine i_slFrom ?q1 ?q2 ?_); (case q1 => walk_at "ln"); (case q2 => walk_at "ln")) | ((with_reducible refine i_slTo ?q1 ?q2 ?_); (case q1 => walk_at "ln"); (case q2 => walk_at "ln"))
  | ((with_reducible refine' i_tyL ?q1 ?_); (case q1 => walk_at "hp"))
  | ((with_reducible refine' i_gTupH ?q1 ?q2 ?_); (case q1 => walk_at "hp"); (case q2 => exact rfl))
  | (with_reducible refine i_dnew ?_) | (with_reducible refine i_init ?_) | (with_reducible refine i_fst ?_) | (with_reducible refine i_mk ?_) | (with_reducible refine i_raise ?_) | (with_reducible refine i_callS ?_) | (with_reducible refine i_kwS ?_)
  | (with_reducible refine i_revT ?_) | (with_reducible refine i_kw ?_) | ((with_reducible refine' ⟨_, _, rfl, sqT_of ?q1, ?_⟩); (case q1 => walk_at "hp"))
  | (with_reducible refine i_revS ?_) | ((with_reducible refine i_revSS ?q1 ?_); (case q1 => walk_at "ln"))
  | (with_reducible refine i_startS ?_) | (with_reducible refine i_inSg ?_) | (with_reducible refine i_absN ?_) | (with_reducible refine i_min2 ?_) | (with_reducible refine i_max2 ?_) | (with_reducible refine i_min3 ?_) | (with_reducible refine i_intN ?_) | (with_reducible refine i_intNB ?_)
  | ((with_reducible refine' i_lenL ?q1 ?_); (case q1 => walk_at "hp")) | ((with_reducible refine' i_lenT ?q1 ?_); (case q1 => walk_at "hp"))
  | (with_reducible refine i_eqI ?_) | (with_reducible refine i_neI ?_) | (with_reducible refine i_eqS ?_) | (with_reducible refine i_neS ?_) | (with_reducible refine i_isNoI ?_) | (with_reducible refine i_isNoN ?_) | (with_reducible refine i_isNoR ?_)
  | ((with_reducible refine i_pow ?q1 ?q2 ?q3 ?_); (case q1 => decide); (case q2 => decide); (case q3 => (with_reducible omega)))
  | ((with_reducible refine i_rI ?q1 ?_); (case q1 => walk_at "ci"))
  | (with_reducible refine Or.inl ⟨_, rfl, ?_⟩) | (with_reducible refine Or.inr ⟨_, rfl, ?_⟩) | (with_reducible refine ⟨_, rfl, ?_⟩) | (with_reducible refine ⟨_, _, rfl, ?_⟩) | (with_reducible refine ⟨_, _, rfl, rfl, ?_⟩)
  | ((with_reducible refine' ⟨_, _, rfl, Or.inl (sqL_of ?q1), ?_⟩); (case q1 => walk_at "hp")) | ((with_reducible refine' ⟨_, _, rfl, Or.inr (sqT_of ?q1), ?_⟩); (case q1 => walk_at "hp")) | fail)
local macro_rules | `(tactic| walk_at "rd") => `(tactic| repeat' walk_at "rd1")

theorem eqV_S (a b : List Nat) : eqV (.str (S a)) (.str (S b)) = decide (V.str (S a) = .str (S b)) := by
  show (S a == S b) = _
  rw [S_dec]
  by_cases c : a = b
  · rw [c, decide_eq_true rfl, beq_self_eq_true]
  · rw [decide_eq_false c, beq_eq_false_iff_ne]
    exact fun q => c (S_inj.mp q)
/-- whether is_text says yes -/
def IsT (K : PySem.W.Frag) (H : Hp) (v : V) (b : Bool) : Prop := (∃ l, v = .str (S l) ∧ l.length ≤ 100000 ∧ b = azB l) ∨ (∃ t, TyX K H v t ∧ PySem.W.kitOne K t (.type "str") = some false ∧ b = false)
theorem TyX.same {K : PySem.W.Frag} {H H' : Hp} {v : V} {t : Value} (s : Same H H') (h : TyX K H v t) : TyX K H' v t := by
  cases h with
  | base b =>
    cases b with
    | non => exact .base .non
    | bl x => exact .base (.bl x)
    | int i => exact .base (.int i)
    | str x => exact .base (.str x)
    | flt x => exact .base (.flt x)
    | lst e => exact .base (.lst (s _ _ e))
    | frz e => exact .base (.frz (s _ _ e))
    | tup e => exact .base (.tup (s _ _ e))
    | dK e => exact .base (.dK (s _ _ e))
    | dT e => exact .base (.dT (s _ _ e))
    | ins e cl ha hn htk hm => exact .base (.ins (s _ _ e) cl ha hn htk hm)
  | byt b => exact .byt b
  | set e => exact .set (s _ _ e)
  | kList e c => exact .kList e c
  | kTuple e c => exact .kTuple e c
  | kDict e c => exact .kDict e c
  | fTuple e => exact .fTuple (s _ _ e)
  | fDict e => exact .fDict (s _ _ e)
theorem IsT.same {K : PySem.W.Frag} {H H' : Hp} {v : V} {b : Bool} (s : Same H H') (h : IsT K H v b) : IsT K H' v b := by
  rcases h with h | ⟨t, h1, h2⟩
  · exact .inl h
  · exact .inr ⟨t, TyX.same s h1, h2⟩
/-- is_text(value) -/
def spIsT (K : PySem.W.Frag) : Sp := fun vs H Q _ => ∃ x b, vs = [x] ∧ IsT K H x b ∧ ∀ H', Same H H' → Q (.bl b) H'
/-- check_text(text) -/
def spCheckX (K : PySem.W.Frag) (C : Addr) : Sp := fun vs H Q E => ∃ x b, vs = [x] ∧ IsT K H x b ∧ (b = true → ∀ H', Same H H' → Q .non H') ∧
  (b = false → ∀ dx H', H dx = none → Same H H' → H' dx = some (.xd [("given", x)]) → E (.ref C) (some dx) H')
theorem IsT.yes {K : PySem.W.Frag} {H : Hp} {v : V} (h : IsT K H v true) : ∃ l, v = .str (S l) ∧ l.length ≤ 100000 ∧ azB l = true := by
  rcases h with ⟨l, h1, h2, h3⟩ | ⟨t, h1, h2, h3⟩
  · exact ⟨l, h1, h2, h3.symm⟩
  · cases h3
section
variable {P : Program} {w : World} {K : PySem.W.Frag} {mg : Str → Option Value} {base : Heap} {f : Addr} {fd : FuncData}
theorem ok_is_t (O : FnOk P w K mg base CX0 1 f fd ["value"] (spIsText K)) : FnOk P w K mg base CX0 1 f fd ["value"] (spIsT K) := by
  refine O.imp fun vs H Q E h => ?_
  obtain ⟨x, b, rfl, hb, k⟩ := h
  rcases hb with ⟨l, rfl, hl, rfl⟩ | ⟨t, h1, h2, rfl⟩
  · exact ⟨_, rfl, .inl ⟨l, rfl, hl, k⟩⟩
  · exact ⟨_, rfl, .inr ⟨t, h1, h2, k _ (Same.refl _)⟩⟩
theorem ok_checkX {C : Addr} (F : Fun K "check_text" "check_text" s_check_text f fd) (xt : XT P w K mg base C) (c_is_text : Cal P w K mg base "is_text" ["value"] 1 (spIsT K)) : FnOk P w K mg base (L2.CX P w) 3 f fd ["text"] (spCheckX K C) := by
  refine Sw.Fun.okX F sc_check_text (fun vs H Q E h => ?_) (fun cdv A outer s H vs Q E hr h tk => ?_)
  · obtain ⟨x, b, rfl, _⟩ := h; rfl
  · obtain ⟨x, b, rfl, hb, k1, k2⟩ := h
    refine ⟨_, (pss_one (ps_if (pt_not (pt_val (pe_cal c_is_text hr (pa_cons (pv 0) pa_nil))))
        (pss_one (ps_rs rfl tk (pmk_T xt hr (pv 0))))
        pss_nil)), ?_⟩
    walk_at "rd"
    refine ⟨x, b, rfl, hb, fun H1 s1 => ?_⟩
    walk_at "rd"
    refine iteNC (fun e => ?_) (fun e => ?_)
    · walk_at "rd"
      refine i_thrown xt.T xt.no (fun dx nx => ?_)
      exact k2 e dx _ (s1.free nx) (s1.trans (same_upd nx)) upd_same
    · walk_at "rd"
      exact k1 e _ s1
end
end Sw
namespace Sw
open PySem PySem.Spec PyProof.Rows L2
local macro_rules | `(tactic| walk_at "hp") => `(tactic| first
  | (with_reducible assumption) | (with_reducible exact upd_same)
  | ((with_reducible refine' upd_old ?q1 ?q2); (case q1 => (with_reducible assumption)); (case q2 => walk_at "hp"))
  | ((with_reducible refine' Same.at ?q1 ?q2); (case q1 => (with_reducible assumption)); (case q2 => walk_at "hp"))
  | ((with_reducible refine' upd_skip ?q1 ?q2); (case q1 => walk_at "ne"); (case q2 => walk_at "hp"))
  | fail)
local macro_rules | `(tactic| walk_at "ne") => `(tactic| first
  | (with_reducible assumption) | (with_reducible exact Ne.symm (by assumption))
  | ((with_reducible refine' ne_of_none ?q1 ?q2); (case q2 => (with_reducible assumption)); (case q1 => walk_at "hp"))
  | fail)
local macro_rules | `(tactic| walk_at "ci") => `(tactic| first | assumption | (show (0 : Int) < _; first | decide | (with_reducible omega)) | exact ⟨by decide, by decide⟩ | exact .inl ⟨by decide, by decide⟩ | exact .inr ⟨by decide, by decide⟩)
local macro_rules | `(tactic| walk_at "ln") => `(tactic| first | (with_reducible assumption) | (with_reducible omega) | (simp only [List.length_append, List.length_take, List.length_drop, List.length_reverse, List.length_cons, List.length_nil]; with_reducible omega))
local macro_rules | `(tactic| walk_at "rd1") => `(tactic| first
  | (with_reducible refine i_seq ?_) | (with_reducible refine i_asg ?_) | (with_reducible refine i_ret ?_) | (with_reducible refine i_name ?_) | ((with_reducible refine' i_var ?q1 ?_); (case q1 => exact rfl)) | (with_reducible refine i_c ?_) | (with_reducible refine i_op ?_) | (with_reducible refine i_un ?_)
  | (with_reducible refine i_rI0 ?_) | (with_reducible refine i_cb ?_) | (with_reducible refine i_cons ?_) | (with_reducible refine i_nil ?_) | (with_reducible refine i_call ?_) | (with_reducible refine i_if ?_) | (with_reducible refine i_ifE ?_) | (with_reducible refine i_test ?_) | (with_reducible refine i_bl ?_)
  | (with_reducible refine i_and ?_) | (with_reducible refine i_or ?_) | (with_reducible refine i_not ?_) | (with_reducible refine i_lst ?_) | (with_reducible refine i_tup ?_) | (with_reducible refine i_next ?_) | (with_reducible refine i_drop ?_) | (with_reducible refine i_sub ?_)
  | (with_reducible refine i_bm ?_) | (with_reducible refine i_sl ?_) | (with_reducible refine i_part ?_) | (with_reducible refine i_nopart ?_) | (with_reducible refine i_exI ?_) | (with_reducible refine i_chain ?_) | ((with_reducible refine' i_aug ?q1 ?_); (case q1 => exact rfl)) | (with_reducible refine i_ip ?_)
  | (with_reducible refine i_par ?_) | (with_reducible refine i_pair ?_) | (with_reducible refine i_andV ?_) | (with_reducible refine i_orV ?_) | (with_reducible refine i_notV ?_) | (with_reducible refine i_m1 ?_) | (with_reducible refine i_str ?_)
  | (with_reducible refine iteF ?_) | (with_reducible refine iteT ?_) | (with_reducible refine iteNT ?_) | (with_reducible refine iteNF ?_) | (with_reducible refine i_tyS ?_) | (with_reducible refine i_tB ?_) | (with_reducible refine i_retN ?_) | (with_reducible refine i_par3 ?_) | (with_reducible refine i_trip ?_) | (with_reducible refine i_gCons ?_) | (with_reducible refine i_gNil ?_) | (with_reducible refine i_lstRg ?_) | (with_reducible refine i_rg1 ?_)
  | (with_reducible refine i_lc ?_) | (with_reducible refine i_for ?_) | (with_reducible refine i_iList ?_) | (with_reducible refine i_iTup ?_) | (with_reducible refine i_iStr ?_) | (with_reducible refine i_iRng1 ?_) | (with_reducible refine i_iEnS ?_)
  | ((with_reducible refine' i_ixTH ?q1 ?q2 ?_); (case q1 => walk_at "hp"); (case q2 => exact rfl))
  | ((with_reducible refine' i_ixLH ?q1 ?q2 ?_); (case q1 => walk_at "hp"); (case q2 => exact rfl))
  | ((with_reducible refine i_addS ?q1 ?_); (case q1 => walk_at "ln")) | ((with_reducible refine i_lenSS ?q1 ?_); (case q1 => walk_at "ln")) | ((with_reducible refine i_slFrom ?q1 ?q2 ?_); (case q1 => walk_at "ln"); (case q2 => walk_at "ln")) | ((with_reducible refine i_slTo ?q1 ?q2 ?_); (case q1 => walk_at "ln"); (case q2 => walk_at "ln"))
  | ((with_reducible refine' i_tyL ?q1 ?_); (case q1 => walk_at "hp"))
  | ((with_reducible refine' i_gTupH ?q1 ?q2 ?_); (case q1 => walk_at "hp"); (case q2 => exact rfl))
  | (with_reducible refine i_dnew ?_) | (with_reducible refine i_init ?_) | (with_reducible refine i_fst ?_) | (with_reducible refine i_mk ?_) | (with_reducible refine i_raise ?_) | (with_reducible refine i_callS ?_) | (with_reducible refine i_kwS ?_)
  | (with_reducible refine i_revT ?_) | (with_reducible refine i_kw ?_) | ((with_reducible refine' ⟨_, _, rfl, sqT_of ?q1, ?_⟩); (case q1 => walk_at "hp"))
  | (with_reducible refine i_revS ?_) | ((with_reducible refine i_revSS ?q1 ?_); (case q1 => walk_at "ln"))
  | (with_reducible refine i_startS ?_) | (with_reducible refine i_inSg ?_) | (with_reducible refine i_absN ?_) | (with_reducible refine i_min2 ?_) | (with_reducible refine i_max2 ?_) | (with_reducible refine i_min3 ?_) | (with_reducible refine i_intN ?_) | (with_reducible refine i_intNB ?_)
  | ((with_reducible refine' i_lenL ?q1 ?_); (case q1 => walk_at "hp")) | ((with_reducible refine' i_lenT ?q1 ?_); (case q1 => walk_at "hp"))
  | (with_reducible refine i_eqI ?_) | (with_reducible refine i_neI ?_) | (with_reducible refine i_eqS ?_) | (with_reducible refine i_neS ?_) | (with_reducible refine i_isNoI ?_) | (with_reducible refine i_isNoN ?_) | (with_reducible refine i_isNoR ?_)
  | ((with_reducible refine i_pow ?q1 ?q2 ?q3 ?_); (case q1 => decide); (case q2 => decide); (case q3 => (with_reducible omega)))
  | ((with_reducible refine i_rI ?q1 ?_); (case q1 => walk_at "ci"))
  | (with_reducible refine Or.inl ⟨_, rfl, ?_⟩) | (with_reducible refine Or.inr ⟨_, rfl, ?_⟩) | (with_reducible refine ⟨_, rfl, ?_⟩) | (with_reducible refine ⟨_, _, rfl, ?_⟩) | (with_reducible refine ⟨_, _, rfl, rfl, ?_⟩)
  | ((with_reducible refine' ⟨_, _, rfl, Or.inl (sqL_of ?q1), ?_⟩); (case q1 => walk_at "hp")) | ((with_reducible refine' ⟨_, _, rfl, Or.inr (sqT_of ?q1), ?_⟩); (case q1 => walk_at "hp")) | fail)
local macro_rules | `(tactic| walk_at "rd") => `(tactic| repeat' walk_at "rd1")


open Lev (lev band cell)
def optI : Option Nat → V
  | some n => .int (n : Int)
  | none => .non
/-- distance_within(one, other, most) -/
def spWithin : Sp := fun vs H Q _ => ∃ (a b : List Nat) (m : Nat), vs = [.str (S a), .str (S b), .int (m : Int)] ∧ a.length ≤ 2000 ∧ b.length ≤ 2000 ∧ m ≤ 100000 ∧ ∀ H', Same H H' → Q (optI (Lev.within a b m)) H'
section
variable {P : Program} {w : World} {K : PySem.W.Frag} {mg : Str → Option Value} {base : Heap} {f : Addr} {fd : FuncData}
theorem ok_within (F : Fun K "distance_within" "distance_within" s_distance_within f fd) (z : Z mg) (c_without_common_ends : Cal P w K mg base "without_common_ends" ["one", "other"] 2 spEnds)
    (c_next_band : Cal P w K mg base "next_band" ["band", "letter", "at", "other"] 1 (spNext K)) : FnOk P w K mg base CX0 3 f fd ["one", "other", "most"] spWithin := by
  refine F.ok sc_distance_within (fun vs H Q E h => ?_) (fun cdv A outer s H vs Q E hr h => ?_)
  · obtain ⟨a, b, m, rfl, _⟩ := h; rfl
  · obtain ⟨a, b, m, rfl, ha, hb, hm, k⟩ := h
    refine ⟨_, (pss_cons (ps_if (pt_cmpR op_gt (pe_callB call_absN (by rfl) z.abs (by decide +kernel) (pa_cons (pe_op op_sub (pe_callB call_lenS (by rfl) z.len PySem.boot_len (pa_cons (pv 0) pa_nil)) (pe_callB call_lenS (by rfl) z.len PySem.boot_len (pa_cons (pv 1) pa_nil))) pa_nil)) (pv 2) (nomark _))
        (pss_one (ps_ret pe_non))
        pss_nil)
      (pss_cons (ps_asg (pe_cal c_without_common_ends hr (pa_cons (pv 0) (pa_cons (pv 1) pa_nil))) (pg_tup rfl (pgs_cons (pg_name (i := 3) sc_distance_within.nd rfl (.inl rfl)) (pgs_cons (pg_name (i := 4) sc_distance_within.nd rfl (.inr rfl)) pgs_nil))))
      (C8.pss_cut (ps_if (pt_cmpR op_gt (pe_callB call_lenS (by rfl) z.len PySem.boot_len (pa_cons (pv 3) pa_nil)) (pe_callB call_lenS (by rfl) z.len PySem.boot_len (pa_cons (pv 4) pa_nil)) (nomark _))
        (pss_one (ps_asg (pe_tup (pa_cons (pv 4) (pa_cons (pv 3) pa_nil))) (pg_tup rfl (pgs_cons (pg_name (i := 3) sc_distance_within.nd rfl (.inl rfl)) (pgs_cons (pg_name (i := 4) sc_distance_within.nd rfl (.inr rfl)) pgs_nil)))))
        pss_nil)
      (pss_cons (ps_set (i := 2) sc_distance_within.nd rfl (.inr rfl) (pe_callB (call_min2N rfl) (by rfl) z.min_ (by decide +kernel) (pa_cons (pv 2) (pa_cons (pe_callB call_lenS (by rfl) z.len PySem.boot_len (pa_cons (pv 4) pa_nil)) pa_nil))))
      (pss_cons (ps_setLc (i := 5) (own := [("k", 6)]) (g := gName 6) (tt := tYes) rfl sc_distance_within.nd rfl rfl (sw_true rfl rfl rfl (by decide +kernel)) (pi_range1 (by rfl) z.range (pa_cons (pe_op op_add (pe_op op_mul pe_int (pv 2)) pe_int) pa_nil)) (blkOk_by (own := [("k", 6)]) (N := n_distance_within) (sc := defScope s_distance_within) (by decide +kernel)) (fun _ _ _ _ _ => (pg_name (i := 6) sc_distance_within.nd rfl (.inl rfl))) (fun _ _ _ _ _ => pts_nil) (fun _ _ _ _ _ => (pe_ifExp (pt_chain op_le op_le (pv 2) (pv 6) (pe_op op_add (pv 2) (pe_callB call_lenS (by rfl) z.len PySem.boot_len (pa_cons (pv 4) pa_nil)))) (pe_op op_sub (pv 6) (pv 2)) (pe_op op_add (pv 2) pe_int))))
      (pss_cons (ps_for PassesOwn.never rfl (pi_enumS (by rfl) z.enumerate (pa_cons (pv 3) pa_nil)) (pg_tup rfl (pgs_cons (pg_name (i := 7) sc_distance_within.nd rfl (.inl rfl)) (pgs_cons (pg_name (i := 8) sc_distance_within.nd rfl (.inl rfl)) pgs_nil)))
        (pss_one (ps_set (i := 5) sc_distance_within.nd rfl (.inl rfl) (pe_cal c_next_band hr (pa_cons (pv 5) (pa_cons (pv 8) (pa_cons (pv 7) (pa_cons (pv 4) pa_nil))))))))
      (pss_cons (ps_set (i := 9) sc_distance_within.nd rfl (.inl rfl) (pe_ix ix_list (pv 5) (pe_op op_add (pe_op op_sub (pe_callB call_lenS (by rfl) z.len PySem.boot_len (pa_cons (pv 4) pa_nil)) (pe_callB call_lenS (by rfl) z.len PySem.boot_len (pa_cons (pv 3) pa_nil))) (pv 2)) (fun _ _ => rfl)))
      (pss_one (ps_ret (pe_ifExp (pt_cmpR op_le (pv 9) (pv 2) (nomark _)) (pv 9) pe_non)))))))))), ?_⟩
    walk_at "rd"
    refine iteB (fun far => ?_) (fun near => ?_)
    · walk_at "rd"
      have e : Lev.within a b m = none := by
        unfold Lev.within
        have h1 := Lev.lev_lens a b
        rw [if_neg]
        split at far <;> omega
      rw [e] at k
      exact k _ (Same.refl _)
    · walk_at "rd"
      refine ⟨a, b, rfl, by omega, by omega, fun u x y v t H1 ea eb s1 nt et => ?_⟩
      walk_at "rd"
      have hlev : lev a b = lev x y := by
        rw [ea, eb, Lev.lev_suf, Lev.lev_pre]
      have lx : a.length = u.length + x.length + v.length := by rw [ea]; simp only [List.length_append]
      have ly : b.length = u.length + y.length + v.length := by rw [eb]; simp only [List.length_append]
      refine i_cut (fun σ' H' => ∃ x' y' : List Nat, σ' = [some (.str (S a)), some (.str (S b)), some (.int m), some (.str (S x')), some (.str (S y')), none, none, none, none, none] ∧ Same H H' ∧ x'.length ≤ y'.length ∧ y'.length ≤ x'.length + m ∧ lev a b = lev x' y' ∧ y'.length ≤ 2000) ?_ ?_
      · walk_at "rd"
        refine iteB (fun hgt => ?_) (fun hle => ?_)
        · walk_at "rd"
          refine ⟨Nat.le_of_ble_eq_true rfl, fun p np => ?_⟩
          walk_at "rd"
          refine ⟨Same.upd_new s1 np, by omega, ?_, by rw [hlev, Lev.lev_symm], by omega⟩
          split at near <;> omega
        · walk_at "rd"
          refine ⟨s1, by omega, ?_, hlev, by omega⟩
          split at near <;> omega
      · rintro _ H2 ⟨x', y', rfl, s2, l1, l2, hl, l3⟩
        walk_at "rd"
        rw [show min (m : Int) (y'.length : Int) = ((min m y'.length : Nat) : Int) by omega]
        generalize eM : min m y'.length = M
        refine i_rng (by omega) (by omega) ?_
        rw [show (2 * (M : Int) + 1).toNat = 2 * M + 1 by omega]
        refine go_map walk_rangeZ (fun i => V.int (cell M x' y' 0 i)) (by omega) (fun _ _ => trivial) (fun i v H3 H4 hi s3 yv R hR => ?_) mono_name (fun p H3 np s3 ep => ?_)
        · obtain ⟨rfl, rfl⟩ := yv
          have hR' := hR _ (Same.refl _)
          rw [Lev.cell_first hi] at hR'
          walk_at "rd"
          refine ⟨rfl, ?_⟩
          walk_at "rd"
          refine iteB (fun q1 => ?_) (fun q1 => ?_)
          · walk_at "rd"
            refine iteB (fun q2 => ?_) (fun q2 => ?_)
            · walk_at "rd"
              rw [if_pos (by omega)] at hR'
              exact hR'
            · walk_at "rd"
              rw [if_neg (by omega)] at hR'
              exact hR'
          · walk_at "rd"
            rw [if_neg (by omega)] at hR'
            exact hR'
        · have ep1 : H3 p = some (.lst ((band M x' y' 0).map V.int)) := by rw [ep]; unfold Lev.band; rw [List.map_map]; rfl
          have s4 : Same H H3 := s2.trans s3
          walk_at "rd"
          refine go_for walk_eS (fun i σ H4 => ∃ (pb : Addr) (u6 u7 u8 : Option V), σ = [some (.str (S a)), some (.str (S b)), some (.int M), some (.str (S x')), some (.str (S y')), some (.ref pb), u6, u7, u8, none] ∧ Same H H4 ∧
            H4 pb = some (.lst ((band M x' y' i).map V.int))) ⟨p, _, _, _, rfl, s4, ep1⟩ (fun _ _ _ _ _ => trivial) (fun i v σ H4 H5 hi pq yv => ?_) (fun σ H4 pq => ?_)
          · obtain ⟨pb, u6, u7, u8, rfl, s5, eb5⟩ := pq
            obtain ⟨T, c, rfl, nT, hc, rfl⟩ := yv
            walk_at "rd"
            refine ⟨pb, M, i, c, x', y', rfl, upd_old nT eb5, hc, by omega, by omega, by omega, fun q H6 s6 nq eq => ?_⟩
            walk_at "rd"
            exact ⟨q, _, _, _, rfl, Same.trans (Same.upd_new s5 nT) s6, eq⟩
          · obtain ⟨pb, u6, u7, u8, rfl, s5, eb5⟩ := pq
            walk_at "rd"
            have el := Lev.band_last (M := M) (l := x') (r := y') l1 (by omega)
            refine i_ixLI eb5 (by omega) (by rw [show ((y'.length : Int) - (x'.length : Int) + (M : Int)).toNat = y'.length - x'.length + M by omega]; exact el) ?_
            walk_at "rd"
            have hx1 := Lev.lev_le_max x' y'
            refine iteB (fun q1 => ?_) (fun q1 => ?_)
            · walk_at "rd"
              have k1 := k _ s5
              unfold Lev.within at k1
              rw [if_pos (by omega), hl] at k1
              rw [show min (lev x' y') (M + 1) = lev x' y' by omega]
              exact k1
            · walk_at "rd"
              have k1 := k _ s5
              unfold Lev.within at k1
              rw [if_neg (by omega)] at k1
              exact k1
end
end Sw
namespace Sw
open PySem PySem.Spec PyProof.Rows L2
local macro_rules | `(tactic| walk_at "hp") => `(tactic| first
  | (with_reducible assumption) | (with_reducible exact upd_same)
  | ((with_reducible refine' upd_old ?q1 ?q2); (case q1 => (with_reducible assumption)); (case q2 => walk_at "hp"))
  | ((with_reducible refine' Same.at ?q1 ?q2); (case q1 => (with_reducible assumption)); (case q2 => walk_at "hp"))
  | ((with_reducible refine' upd_skip ?q1 ?q2); (case q1 => walk_at "ne"); (case q2 => walk_at "hp"))
  | fail)
local macro_rules | `(tactic| walk_at "ne") => `(tactic| first
  | (with_reducible assumption) | (with_reducible exact Ne.symm (by assumption))
  | ((with_reducible refine' ne_of_none ?q1 ?q2); (case q2 => (with_reducible assumption)); (case q1 => walk_at "hp"))
  | fail)
local macro_rules | `(tactic| walk_at "ci") => `(tactic| first | assumption | (show (0 : Int) < _; first | decide | (with_reducible omega)) | exact ⟨by decide, by decide⟩ | exact .inl ⟨by decide, by decide⟩ | exact .inr ⟨by decide, by decide⟩)
local macro_rules | `(tactic| walk_at "ln") => `(tactic| first | (with_reducible assumption) | (with_reducible omega) | (simp only [List.length_append, List.length_take, List.length_drop, List.length_reverse, List.length_cons, List.length_nil]; with_reducible omega))
local macro_rules | `(tactic| walk_at "rd1") => `(tactic| first
  | (with_reducible refine i_seq ?_) | (with_reducible refine i_asg ?_) | (with_reducible refine i_ret ?_) | (with_reducible refine i_name ?_) | ((with_reducible refine' i_var ?q1 ?_); (case q1 => exact rfl)) | (with_reducible refine i_c ?_) | (with_reducible refine i_op ?_) | (with_reducible refine i_un ?_)
  | (with_reducible refine i_rI0 ?_) | (with_reducible refine i_cb ?_) | (with_reducible refine i_cons ?_) | (with_reducible refine i_nil ?_) | (with_reducible refine i_call ?_) | (with_reducible refine i_if ?_) | (with_reducible refine i_ifE ?_) | (with_reducible refine i_test ?_) | (with_reducible refine i_bl ?_)
  | (with_reducible refine i_and ?_) | (with_reducible refine i_or ?_) | (with_reducible refine i_not ?_) | (with_reducible refine i_lst ?_) | (with_reducible refine i_tup ?_) | (with_reducible refine i_next ?_) | (with_reducible refine i_drop ?_) | (with_reducible refine i_sub ?_)
  | (with_reducible refine i_bm ?_) | (with_reducible refine i_sl ?_) | (with_reducible refine i_part ?_) | (with_reducible refine i_nopart ?_) | (with_reducible refine i_exI ?_) | (with_reducible refine i_chain ?_) | ((with_reducible refine' i_aug ?q1 ?_); (case q1 => exact rfl)) | (with_reducible refine i_ip ?_)
  | (with_reducible refine i_par ?_) | (with_reducible refine i_pair ?_) | (with_reducible refine i_andV ?_) | (with_reducible refine i_orV ?_) | (with_reducible refine i_notV ?_) | (with_reducible refine i_m1 ?_) | (with_reducible refine i_str ?_)
  | (with_reducible refine iteF ?_) | (with_reducible refine iteT ?_) | (with_reducible refine iteNT ?_) | (with_reducible refine iteNF ?_) | (with_reducible refine i_tyS ?_) | (with_reducible refine i_tB ?_) | (with_reducible refine i_retN ?_) | (with_reducible refine i_par3 ?_) | (with_reducible refine i_trip ?_) | (with_reducible refine i_gCons ?_) | (with_reducible refine i_gNil ?_) | (with_reducible refine i_lstRg ?_) | (with_reducible refine i_rg1 ?_)
  | (with_reducible refine i_lc ?_) | (with_reducible refine i_for ?_) | (with_reducible refine i_iList ?_) | (with_reducible refine i_iTup ?_) | (with_reducible refine i_iStr ?_) | (with_reducible refine i_iRng1 ?_) | (with_reducible refine i_iEnS ?_)
  | ((with_reducible refine' i_ixTH ?q1 ?q2 ?_); (case q1 => walk_at "hp"); (case q2 => exact rfl))
  | ((with_reducible refine' i_ixLH ?q1 ?q2 ?_); (case q1 => walk_at "hp"); (case q2 => exact rfl))
  | ((with_reducible refine i_addS ?q1 ?_); (case q1 => walk_at "ln")) | ((with_reducible refine i_lenSS ?q1 ?_); (case q1 => walk_at "ln")) | ((with_reducible refine i_slFrom ?q1 ?q2 ?_); (case q1 => walk_at "ln"); (case q2 => walk_at "ln")) | ((with_reducible refine i_slTo ?q1 ?q2 ?_); (case q1 => walk_at "ln"); (case q2 => walk_at "ln"))
  | ((with_reducible refine' i_tyL ?q1 ?_); (case q1 => walk_at "hp"))
  | ((with_reducible refine' i_gTupH ?q1 ?q2 ?_); (case q1 => walk_at "hp"); (case q2 => exact rfl))
  | (with_reducible refine i_dnew ?_) | (with_reducible refine i_init ?_) | (with_reducible refine i_fst ?_) | (with_reducible refine i_mk ?_) | (with_reducible refine i_raise ?_) | (with_reducible refine i_callS ?_) | (with_reducible refine i_kwS ?_)
  | (with_reducible refine i_revT ?_) | (with_reducible refine i_kw ?_) | ((with_reducible refine' ⟨_, _, rfl, sqT_of ?q1, ?_⟩); (case q1 => walk_at "hp"))
  | (with_reducible refine i_revS ?_) | ((with_reducible refine i_revSS ?q1 ?_); (case q1 => walk_at "ln"))
  | (with_reducible refine i_startS ?_) | (with_reducible refine i_inSg ?_) | (with_reducible refine i_absN ?_) | (with_reducible refine i_min2 ?_) | (with_reducible refine i_max2 ?_) | (with_reducible refine i_min3 ?_) | (with_reducible refine i_intN ?_) | (with_reducible refine i_intNB ?_)
  | ((with_reducible refine' i_lenL ?q1 ?_); (case q1 => walk_at "hp")) | ((with_reducible refine' i_lenT ?q1 ?_); (case q1 => walk_at "hp"))
  | (with_reducible refine i_eqI ?_) | (with_reducible refine i_neI ?_) | (with_reducible refine i_eqS ?_) | (with_reducible refine i_neS ?_) | (with_reducible refine i_isNoI ?_) | (with_reducible refine i_isNoN ?_) | (with_reducible refine i_isNoR ?_)
  | ((with_reducible refine i_pow ?q1 ?q2 ?q3 ?_); (case q1 => decide); (case q2 => decide); (case q3 => (with_reducible omega)))
  | ((with_reducible refine i_rI ?q1 ?_); (case q1 => walk_at "ci"))
  | (with_reducible refine Or.inl ⟨_, rfl, ?_⟩) | (with_reducible refine Or.inr ⟨_, rfl, ?_⟩) | (with_reducible refine ⟨_, rfl, ?_⟩) | (with_reducible refine ⟨_, _, rfl, ?_⟩) | (with_reducible refine ⟨_, _, rfl, rfl, ?_⟩)
  | ((with_reducible refine' ⟨_, _, rfl, Or.inl (sqL_of ?q1), ?_⟩); (case q1 => walk_at "hp")) | ((with_reducible refine' ⟨_, _, rfl, Or.inr (sqT_of ?q1), ?_⟩); (case q1 => walk_at "hp")) | fail)
local macro_rules | `(tactic| walk_at "rd") => `(tactic| repeat' walk_at "rd1")


open Lev (lev)
/-- levenshtein(one, other); distance(one, other) -/
def spLev : Sp := fun vs H Q _ => ∃ (a b : List Nat), vs = [.str (S a), .str (S b)] ∧ a.length ≤ 2000 ∧ b.length ≤ 2000 ∧ azB a = true ∧ azB b = true ∧ ∀ H', Same H H' → Q (.int (lev a b : Nat)) H'
section
variable {P : Program} {w : World} {K : PySem.W.Frag} {mg : Str → Option Value} {base : Heap} {f : Addr} {fd : FuncData}
theorem ok_lev (F : Fun K "levenshtein" "levenshtein" s_levenshtein f fd) (z : Z mg) (c_distance_within : Cal P w K mg base "distance_within" ["one", "other", "most"] 3 spWithin) : FnOk P w K mg base CX0 4 f fd ["one", "other"] spLev := by
  refine F.ok sc_levenshtein (fun vs H Q E h => ?_) (fun cdv A outer s H vs Q E hr h => ?_)
  · obtain ⟨a, b, rfl, _⟩ := h; rfl
  · obtain ⟨a, b, rfl, ha, hb, _, _, k⟩ := h
    refine ⟨_, (pss_cons (ps_set (i := 2) sc_levenshtein.nd rfl (.inl rfl) (pe_op op_add (pe_callB call_absN (by rfl) z.abs (by decide +kernel) (pa_cons (pe_op op_sub (pe_callB call_lenS (by rfl) z.len PySem.boot_len (pa_cons (pv 0) pa_nil)) (pe_callB call_lenS (by rfl) z.len PySem.boot_len (pa_cons (pv 1) pa_nil))) pa_nil)) pe_int))
      (pss_cons (ps_set (i := 3) sc_levenshtein.nd rfl (.inl rfl) (pe_cal c_distance_within hr (pa_cons (pv 0) (pa_cons (pv 1) (pa_cons (pv 2) pa_nil)))))
      (pss_cons (ps_while PassesOwn.never (pt_cmpR op_isNo (pv 3) pe_non (nomark _))
        (pss_cons (ps_set (i := 2) sc_levenshtein.nd rfl (.inl rfl) (pe_op op_mul pe_int (pv 2)))
        (pss_one (ps_set (i := 3) sc_levenshtein.nd rfl (.inl rfl) (pe_cal c_distance_within hr (pa_cons (pv 0) (pa_cons (pv 1) (pa_cons (pv 2) pa_nil))))))))
      (pss_one (ps_ret (pv 3)))))), ?_⟩
    walk_at "rd"
    obtain ⟨m0, em0⟩ : ∃ m0 : Nat, (if (a.length : Int) - (b.length : Int) < 0 then -((a.length : Int) - (b.length : Int)) else (a.length : Int) - (b.length : Int)) + 1 = ((m0 + 1 : Nat) : Int) := by
      split
      · exact ⟨b.length - a.length, by omega⟩
      · exact ⟨a.length - b.length, by omega⟩
    have bm0 : m0 ≤ 2000 := by split at em0 <;> omega
    rw [em0]
    refine ⟨a, b, m0 + 1, rfl, by omega, by omega, by omega, fun H1 s1 => ?_⟩
    walk_at "rd"
    have lb := Lev.lev_le_max a b
    refine go_while (fun n σ H2 => ∃ m : Nat, n = 5000 - m ∧ σ = [some (.str (S a)), some (.str (S b)), some (.int (m : Int)), some (optI (Lev.within a b m))] ∧ Same H H2 ∧ 1 ≤ m ∧ m ≤ 5000 ∧ (Lev.within a b m = none → m ≤ 2000))
      (5000 - (m0 + 1)) ⟨m0 + 1, rfl, rfl, s1, by omega, by omega, fun e => ?_⟩ (fun n σ H2 h2 => ?_)
    · unfold Lev.within at e
      split at e
      · cases e
      · omega
    · obtain ⟨m, rfl, rfl, s2, h1, h5, h3⟩ := h2
      walk_at "rd"
      cases e : Lev.within a b m with
      | none =>
        have bm := h3 e
        show rIsNo .non .non H2 _
        walk_at "rd"
        refine ⟨_, fun _ _ q => q, ?_⟩
        walk_at "rd"
        refine ⟨a, b, 2 * m, by rw [show (2 : Int) * (m : Int) = ((2 * m : Nat) : Int) by omega] <;> rfl, by omega, by omega, by omega, fun H3 s3 => ?_⟩
        walk_at "rd"
        have e2 : (2 : Int) * (m : Int) = ((2 * m : Nat) : Int) := by omega
        refine ⟨5000 - 2 * m, by omega, 2 * m, rfl, ?_, s2.trans s3, by omega, by omega, fun q => ?_⟩
        · rw [e2]; rfl
        · unfold Lev.within at q
          split at q
          · cases q
          · omega
      | some v =>
        show rIsNo (.int v) .non H2 _
        walk_at "rd"
        have ev : v = lev a b := by
          unfold Lev.within at e
          split at e
          · exact (Option.some.inj e).symm
          · cases e
        rw [ev]
        exact k _ s2
end
end Sw
namespace Sw
open PySem PySem.Spec PyProof.Rows L2
local macro_rules | `(tactic| walk_at "hp") => `(tactic| first
  | (with_reducible assumption) | (with_reducible exact upd_same)
  | ((with_reducible refine' upd_old ?q1 ?q2); (case q1 => (with_reducible assumption)); (case q2 => walk_at "hp"))
  | ((with_reducible refine' Same.at ?q1 ?q2); (case q1 => (with_reducible assumption)); (case q2 => walk_at "hp"))
  | ((with_reducible refine' upd_skip ?q1 ?q2); (case q1 => walk_at "ne"); (case q2 => walk_at "hp"))
  | fail)
local macro_rules | `(tactic| walk_at "ne") => `(tactic| first
  | (with_reducible assumption) | (with_reducible exact Ne.symm (by assumption))
  | ((with_reducible refine' ne_of_none ?q1 ?q2); (case q2 => (with_reducible assumption)); (case q1 => walk_at "hp"))
  | fail)
local macro_rules | `(tactic| walk_at "ci") => `(tactic| first | assumption | (show (0 : Int) < _; first | decide | (with_reducible omega)) | exact ⟨by decide, by decide⟩ | exact .inl ⟨by decide, by decide⟩ | exact .inr ⟨by decide, by decide⟩)
local macro_rules | `(tactic| walk_at "ln") => `(tactic| first | (with_reducible assumption) | (with_reducible omega) | (simp only [List.length_append, List.length_take, List.length_drop, List.length_reverse, List.length_cons, List.length_nil]; with_reducible omega))
local macro_rules | `(tactic| walk_at "rd1") => `(tactic| first
  | (with_reducible refine i_seq ?_) | (with_reducible refine i_asg ?_) | (with_reducible refine i_ret ?_) | (with_reducible refine i_name ?_) | ((with_reducible refine' i_var ?q1 ?_); (case q1 => exact rfl)) | (with_reducible refine i_c ?_) | (with_reducible refine i_op ?_) | (with_reducible refine i_un ?_)
  | (with_reducible refine i_rI0 ?_) | (with_reducible refine i_cb ?_) | (with_reducible refine i_cons ?_) | (with_reducible refine i_nil ?_) | (with_reducible refine i_call ?_) | (with_reducible refine i_if ?_) | (with_reducible refine i_ifE ?_) | (with_reducible refine i_test ?_) | (with_reducible refine i_bl ?_)
  | (with_reducible refine i_and ?_) | (with_reducible refine i_or ?_) | (with_reducible refine i_not ?_) | (with_reducible refine i_lst ?_) | (with_reducible refine i_tup ?_) | (with_reducible refine i_next ?_) | (with_reducible refine i_drop ?_) | (with_reducible refine i_sub ?_)
  | (with_reducible refine i_bm ?_) | (with_reducible refine i_sl ?_) | (with_reducible refine i_part ?_) | (with_reducible refine i_nopart ?_) | (with_reducible refine i_exI ?_) | (with_reducible refine i_chain ?_) | ((with_reducible refine' i_aug ?q1 ?_); (case q1 => exact rfl)) | (with_reducible refine i_ip ?_)
  | (with_reducible refine i_par ?_) | (with_reducible refine i_pair ?_) | (with_reducible refine i_andV ?_) | (with_reducible refine i_orV ?_) | (with_reducible refine i_notV ?_) | (with_reducible refine i_m1 ?_) | (with_reducible refine i_str ?_)
  | (with_reducible refine iteF ?_) | (with_reducible refine iteT ?_) | (with_reducible refine iteNT ?_) | (with_reducible refine iteNF ?_) | (with_reducible refine i_tyS ?_) | (with_reducible refine i_tB ?_) | (with_reducible refine i_retN ?_) | (with_reducible refine i_par3 ?_) | (with_reducible refine i_trip ?_) | (with_reducible refine i_gCons ?_) | (with_reducible refine i_gNil ?_) | (with_reducible refine i_lstRg ?_) | (with_reducible refine i_rg1 ?_)
  | (with_reducible refine i_lc ?_) | (with_reducible refine i_for ?_) | (with_reducible refine i_iList ?_) | (with_reducible refine i_iTup ?_) | (with_reducible refine i_iStr ?_) | (with_reducible refine i_iRng1 ?_) | (with_reducible refine i_iEnS ?_)
  | ((with_reducible refine' i_ixTH ?q1 ?q2 ?_); (case q1 => walk_at "hp"); (case q2 => exact rfl))
  | ((with_reducible refine' i_ixLH ?q1 ?q2 ?_); (case q1 => walk_at "hp"); (case q2 => exact rfl))
  | ((with_reducible refine i_addS ?q1 ?_); (case q1 => walk_at "ln")) | ((with_reducible refine i_lenSS ?q1 ?_); (case q1 => walk_at "ln")) | ((with_reducible refine i_slFrom ?q1 ?q2 ?_); (case q1 => walk_at "ln"); (case q2 => walk_at "ln")) | ((with_reducible refine i_slTo ?q1 ?q2 ?_); (case q1 => walk_at "ln"); (case q2 => walk_at "ln"))
  | ((with_reducible refine' i_tyL ?q1 ?_); (case q1 => walk_at "hp"))
  | ((with_reducible refine' i_gTupH ?q1 ?q2 ?_); (case q1 => walk_at "hp"); (case q2 => exact rfl))
  | (with_reducible refine i_dnew ?_) | (with_reducible refine i_init ?_) | (with_reducible refine i_fst ?_) | (with_reducible refine i_mk ?_) | (with_reducible refine i_raise ?_) | (with_reducible refine i_callS ?_) | (with_reducible refine i_kwS ?_)
  | (with_reducible refine i_revT ?_) | (with_reducible refine i_kw ?_) | ((with_reducible refine' ⟨_, _, rfl, sqT_of ?q1, ?_⟩); (case q1 => walk_at "hp"))
  | (with_reducible refine i_revS ?_) | ((with_reducible refine i_revSS ?q1 ?_); (case q1 => walk_at "ln"))
  | (with_reducible refine i_startS ?_) | (with_reducible refine i_inSg ?_) | (with_reducible refine i_absN ?_) | (with_reducible refine i_min2 ?_) | (with_reducible refine i_max2 ?_) | (with_reducible refine i_min3 ?_) | (with_reducible refine i_intN ?_) | (with_reducible refine i_intNB ?_)
  | ((with_reducible refine' i_lenL ?q1 ?_); (case q1 => walk_at "hp")) | ((with_reducible refine' i_lenT ?q1 ?_); (case q1 => walk_at "hp"))
  | (with_reducible refine i_eqI ?_) | (with_reducible refine i_neI ?_) | (with_reducible refine i_eqS ?_) | (with_reducible refine i_neS ?_) | (with_reducible refine i_isNoI ?_) | (with_reducible refine i_isNoN ?_) | (with_reducible refine i_isNoR ?_)
  | ((with_reducible refine i_pow ?q1 ?q2 ?q3 ?_); (case q1 => decide); (case q2 => decide); (case q3 => (with_reducible omega)))
  | ((with_reducible refine i_rI ?q1 ?_); (case q1 => walk_at "ci"))
  | (with_reducible refine Or.inl ⟨_, rfl, ?_⟩) | (with_reducible refine Or.inr ⟨_, rfl, ?_⟩) | (with_reducible refine ⟨_, rfl, ?_⟩) | (with_reducible refine ⟨_, _, rfl, ?_⟩) | (with_reducible refine ⟨_, _, rfl, rfl, ?_⟩)
  | ((with_reducible refine' ⟨_, _, rfl, Or.inl (sqL_of ?q1), ?_⟩); (case q1 => walk_at "hp")) | ((with_reducible refine' ⟨_, _, rfl, Or.inr (sqT_of ?q1), ?_⟩); (case q1 => walk_at "hp")) | fail)
local macro_rules | `(tactic| walk_at "rd") => `(tactic| repeat' walk_at "rd1")

open Lev (lev)
/-- whether is_count says yes -/
def IsC (K : PySem.W.Frag) (H : Hp) (v : V) (b : Bool) : Prop := (∃ n : Int, v = .int n ∧ b = decide (0 ≤ n)) ∨ (∃ x : Bool, v = .bl x ∧ b = false) ∨ (∃ t, TyX K H v t ∧ PySem.W.kitOne K t (.type "int") = some false ∧ b = false)
theorem IsC.same {K : PySem.W.Frag} {H H' : Hp} {v : V} {b : Bool} (s : Same H H') (h : IsC K H v b) : IsC K H' v b := by
  rcases h with h | h | ⟨t, h1, h2⟩
  · exact .inl h
  · exact .inr (.inl h)
  · exact .inr (.inr ⟨t, TyX.same s h1, h2⟩)
theorem IsC.yes {K : PySem.W.Frag} {H : Hp} {v : V} (h : IsC K H v true) : ∃ n : Nat, v = .int (n : Int) := by
  rcases h with ⟨n, h1, h2⟩ | ⟨x, h1, h2⟩ | ⟨t, h1, h2, h3⟩
  · have : 0 ≤ n := of_decide_eq_true h2.symm
    exact ⟨n.toNat, by rw [h1, Int.toNat_of_nonneg this]⟩
  · cases h2
  · cases h3
/-- is_integer(value) -/
def spInt (K : PySem.W.Frag) : Sp := fun vs H Q _ => ∃ x, vs = [x] ∧ ((∃ n : Int, x = .int n ∧ Q (.bl true) H) ∨ (∃ c : Bool, x = .bl c ∧ Q (.bl false) H) ∨ (∃ t, TyX K H x t ∧ PySem.W.kitOne K t (.type "int") = some false ∧ Q (.bl false) H))
/-- is_count(value) -/
def spIsC (K : PySem.W.Frag) : Sp := fun vs H Q _ => ∃ x b, vs = [x] ∧ IsC K H x b ∧ ∀ H', Same H H' → Q (.bl b) H'
/-- check_count(count) -/
def spCountX (K : PySem.W.Frag) (C : Addr) : Sp := fun vs H Q E => ∃ x b, vs = [x] ∧ IsC K H x b ∧ (b = true → ∀ H', Same H H' → Q .non H') ∧
  (b = false → ∀ dx H', H dx = none → Same H H' → H' dx = some (.xd [("given", x)]) → E (.ref C) (some dx) H')
/-- which of the two is told -/
def first2 (l r : V) (bl br : Bool) (v : V) : Prop := if bl = false then v = l else br = false ∧ v = r
/-- distance(one, other), of anything -/
def spDistX (K : PySem.W.Frag) (C : Addr) : Sp := fun vs H Q E => ∃ (l r : V) (bl br : Bool), vs = [l, r] ∧ IsT K H l bl ∧ IsT K H r br ∧ (bl = true → ∀ x, l = .str (S x) → x.length ≤ 1000) ∧ (br = true → ∀ x, r = .str (S x) → x.length ≤ 1000) ∧
  (∀ a b, l = .str (S a) → r = .str (S b) → bl = true → br = true → ∀ H', Same H H' → Q (.int (lev a b : Nat)) H') ∧
  (∀ v, first2 l r bl br v → ∀ dx H', H dx = none → Same H H' → H' dx = some (.xd [("given", v)]) → E (.ref C) (some dx) H')
/-- near(one, other, most), of anything -/
def spNearX (K : PySem.W.Frag) (C D : Addr) : Sp := fun vs H Q E => ∃ (l r m : V) (bl br bm : Bool), vs = [l, r, m] ∧ IsT K H l bl ∧ IsT K H r br ∧ IsC K H m bm ∧ (bl = true → ∀ x, l = .str (S x) → x.length ≤ 1000) ∧ (br = true → ∀ x, r = .str (S x) → x.length ≤ 1000) ∧ (bm = true → ∀ n : Nat, m = .int (n : Int) → n ≤ 10000) ∧
  (∀ a b (n : Nat), l = .str (S a) → r = .str (S b) → m = .int (n : Int) → bl = true → br = true → bm = true → ∀ H', Same H H' → Q (optI (Lev.within a b n)) H') ∧
  (∀ v, first2 l r bl br v → ∀ dx H', H dx = none → Same H H' → H' dx = some (.xd [("given", v)]) → E (.ref C) (some dx) H') ∧
  (bl = true → br = true → bm = false → ∀ dx H', H dx = none → Same H H' → H' dx = some (.xd [("given", m)]) → E (.ref D) (some dx) H')
section
variable {P : Program} {w : World} {K : PySem.W.Frag} {mg : Str → Option Value} {base : Heap} {f : Addr} {fd : FuncData}
theorem ok_integer (F : Fun K "is_integer" "is_integer" s_is_integer f fd) (z : Z mg) : FnOk P w K mg base CX0 1 f fd ["value"] (spInt K) := by
  refine F.ok sc_is_integer (fun vs H Q E h => ?_) (fun cdv A outer s H vs Q E hr h => ?_)
  · obtain ⟨x, rfl, _⟩ := h; rfl
  · obtain ⟨x, rfl, h⟩ := h
    refine ⟨_, (pss_one (ps_ret (pe_and (pe_callB call_isi (by rfl) z.isinstance (by decide +kernel) (pa_cons (pv 0) (pa_cons (pe_bltn (v := .ty "int") (by rfl) z.int (by decide +kernel) rfl) pa_nil))) (pe_one (pe_not (pe_callB call_isi (by rfl) z.isinstance (by decide +kernel) (pa_cons (pv 0) (pa_cons (pe_bltn (v := .ty "bool") (by rfl) z.bool (by decide +kernel) rfl) pa_nil)))))))), ?_⟩
    walk_at "rd"
    rcases h with ⟨n, rfl, k⟩ | ⟨c, rfl, k⟩ | ⟨t, h1, h2, k⟩
    · refine i_isi true (.base (.int _)) (kit_ty (by decide +kernel)) ?_
      walk_at "rd"
      refine i_isi false (.base (.int _)) (kit_ty (by decide +kernel)) ?_
      walk_at "rd"
      exact k
    · refine i_isi true (.base (.bl _)) (kit_ty (by decide +kernel)) ?_
      walk_at "rd"
      refine i_isi true (.base (.bl _)) (kit_ty (by decide +kernel)) ?_
      walk_at "rd"
      exact k
    · refine i_isi false h1 h2 ?_
      walk_at "rd"
      exact k
theorem ok_count (F : Fun K "is_count" "is_count" s_is_count f fd) (c_is_integer : Cal P w K mg base "is_integer" ["value"] 1 (spInt K)) : FnOk P w K mg base CX0 2 f fd ["value"] (spIsC K) := by
  refine F.ok sc_is_count (fun vs H Q E h => ?_) (fun cdv A outer s H vs Q E hr h => ?_)
  · obtain ⟨x, b, rfl, _⟩ := h; rfl
  · obtain ⟨x, b, rfl, h, k⟩ := h
    have k := k H (Same.refl _)
    refine ⟨_, (pss_one (ps_ret (pe_and (pe_cal c_is_integer hr (pa_cons (pv 0) pa_nil)) (pe_one (pe_cmpR op_ge (pv 0) pe_int (nomark _)))))), ?_⟩
    walk_at "rd"
    rcases h with ⟨n, rfl, rfl⟩ | ⟨c, rfl, rfl⟩ | ⟨t, h1, h2, rfl⟩
    · refine ⟨_, rfl, .inl ⟨n, rfl, ?_⟩⟩
      walk_at "rd"
      exact k
    · refine ⟨_, rfl, .inr (.inl ⟨c, rfl, ?_⟩)⟩
      walk_at "rd"
      exact k
    · refine ⟨_, rfl, .inr (.inr ⟨t, h1, h2, ?_⟩)⟩
      walk_at "rd"
      exact k
theorem ok_countX {C : Addr} (F : Fun K "check_count" "check_count" s_check_count f fd) (xc : XN P w K mg base C) (c_is_count : Cal P w K mg base "is_count" ["value"] 2 (spIsC K)) : FnOk P w K mg base (L2.CX P w) 3 f fd ["count"] (spCountX K C) := by
  refine Sw.Fun.okX F sc_check_count (fun vs H Q E h => ?_) (fun cdv A outer s H vs Q E hr h tk => ?_)
  · obtain ⟨x, b, rfl, _⟩ := h; rfl
  · obtain ⟨x, b, rfl, hb, k1, k2⟩ := h
    refine ⟨_, (pss_one (ps_if (pt_not (pt_val (pe_cal c_is_count hr (pa_cons (pv 0) pa_nil))))
        (pss_one (ps_rs rfl tk (pmk_C xc hr (pv 0))))
        pss_nil)), ?_⟩
    walk_at "rd"
    refine ⟨x, b, rfl, hb, fun H1 s1 => ?_⟩
    walk_at "rd"
    refine iteNC (fun e => ?_) (fun e => ?_)
    · walk_at "rd"
      refine i_thrown xc.T xc.no (fun dx nx => ?_)
      exact k2 e dx _ (s1.free nx) (s1.trans (same_upd nx)) upd_same
    · walk_at "rd"
      exact k1 e _ s1
theorem ok_distX {C : Addr} (F : Fun K "distance" "distance" s_distance f fd) (x_check_text : CalX P w K mg base "check_text" ["text"] 3 (spCheckX K C)) (c_levenshtein : Cal P w K mg base "levenshtein" ["one", "other"] 4 spLev) :
    FnOk P w K mg base (L2.CX P w) 5 f fd ["one", "other"] (spDistX K C) := by
  refine Sw.Fun.okX F sc_distance (fun vs H Q E h => ?_) (fun cdv A outer s H vs Q E hr h tk => ?_)
  · obtain ⟨l, r, _, _, rfl, _⟩ := h; rfl
  · obtain ⟨l, r, bl, br, rfl, hl, hr', nl, nr, k1, k2⟩ := h
    unfold first2 at k2
    refine ⟨_, (pss_cons (ps_expr (pe_calX x_check_text hr tk (pa_cons (pv 0) pa_nil)))
      (pss_cons (ps_expr (pe_calX x_check_text hr tk (pa_cons (pv 1) pa_nil)))
      (pss_one (ps_ret (pe_cal c_levenshtein hr (pa_cons (pv 0) (pa_cons (pv 1) pa_nil))))))), ?_⟩
    walk_at "rd"
    refine ⟨l, bl, rfl, hl, fun e H1 s1 => ?_, fun e dx H1 nx s1 ed => k2 l (by rw [if_pos e]) dx _ nx s1 ed⟩
    subst e
    walk_at "rd"
    refine ⟨r, br, rfl, hr'.same s1, fun e H2 s2 => ?_, fun e dx H2 nx s2 ed => k2 r (by rw [if_neg (by simp)]; exact ⟨e, rfl⟩) dx _ (s1.free nx) (s1.trans s2) ed⟩
    subst e
    have s12 := s1.trans s2
    obtain ⟨a, rfl, _, z1⟩ := hl.yes
    obtain ⟨b, rfl, _, z2⟩ := hr'.yes
    have la := nl rfl a rfl
    have lb := nr rfl b rfl
    have k := k1 a b rfl rfl rfl rfl
    walk_at "rd"
    exact ⟨a, b, rfl, by omega, by omega, z1, z2, fun H3 s3 => k _ (s12.trans s3)⟩
theorem ok_nearX {C D : Addr} (F : Fun K "near" "near" s_near f fd) (x_check_text : CalX P w K mg base "check_text" ["text"] 3 (spCheckX K C)) (x_check_count : CalX P w K mg base "check_count" ["count"] 3 (spCountX K D)) (c_distance_within : Cal P w K mg base "distance_within" ["one", "other", "most"] 3 spWithin) :
    FnOk P w K mg base (L2.CX P w) 5 f fd ["one", "other", "most"] (spNearX K C D) := by
  refine Sw.Fun.okX F sc_near (fun vs H Q E h => ?_) (fun cdv A outer s H vs Q E hr h tk => ?_)
  · obtain ⟨l, r, m, _, _, _, rfl, _⟩ := h; rfl
  · obtain ⟨l, r, m, bl, br, bm, rfl, hl, hr', hm, nl, nr, nm, k1, k2, k3⟩ := h
    unfold first2 at k2
    refine ⟨_, (pss_cons (ps_expr (pe_calX x_check_text hr tk (pa_cons (pv 0) pa_nil)))
      (pss_cons (ps_expr (pe_calX x_check_text hr tk (pa_cons (pv 1) pa_nil)))
      (pss_cons (ps_expr (pe_calX x_check_count hr tk (pa_cons (pv 2) pa_nil)))
      (pss_one (ps_ret (pe_cal c_distance_within hr (pa_cons (pv 0) (pa_cons (pv 1) (pa_cons (pv 2) pa_nil))))))))), ?_⟩
    walk_at "rd"
    refine ⟨l, bl, rfl, hl, fun e H1 s1 => ?_, fun e dx H1 nx s1 ed => k2 l (by rw [if_pos e]) dx _ nx s1 ed⟩
    subst e
    walk_at "rd"
    refine ⟨r, br, rfl, hr'.same s1, fun e H2 s2 => ?_, fun e dx H2 nx s2 ed => k2 r (by rw [if_neg (by simp)]; exact ⟨e, rfl⟩) dx _ (s1.free nx) (s1.trans s2) ed⟩
    subst e
    have s12 := s1.trans s2
    walk_at "rd"
    refine ⟨m, bm, rfl, hm.same s12, fun e H3 s3 => ?_, fun e dx H3 nx s3 ed => k3 rfl rfl e dx _ (s12.free nx) (s12.trans s3) ed⟩
    subst e
    have s13 := s12.trans s3
    obtain ⟨a, rfl, _, z1⟩ := hl.yes
    obtain ⟨b, rfl, _, z2⟩ := hr'.yes
    obtain ⟨n, rfl⟩ := hm.yes
    have la := nl rfl a rfl
    have lb := nr rfl b rfl
    have ln := nm rfl n rfl
    walk_at "rd"
    exact ⟨a, b, n, rfl, by omega, by omega, by omega, fun H4 s4 => k1 a b n rfl rfl rfl rfl rfl rfl _ (s13.trans s4)⟩
end
end Sw
namespace Sw
open PySem PySem.Spec PyProof.Rows L2
local macro_rules | `(tactic| walk_at "hp") => `(tactic| first
  | (with_reducible assumption) | (with_reducible exact upd_same)
  | ((with_reducible refine' upd_old ?q1 ?q2); (case q1 => (with_reducible assumption)); (case q2 => walk_at "hp"))
  | ((with_reducible refine' Same.at ?q1 ?q2); (case q1 => (with_reducible assumption)); (case q2 => walk_at "hp"))
  | ((with_reducible refine' upd_skip ?q1 ?q2); (case q1 => walk_at "ne"); (case q2 => walk_at "hp"))
  | fail)
local macro_rules | `(tactic| walk_at "ne") => `(tactic| first
  | (with_reducible assumption) | (with_reducible exact Ne.symm (by assumption))
  | ((with_reducible refine' ne_of_none ?q1 ?q2); (case q2 => (with_reducible assumption)); (case q1 => walk_at "hp"))
  | fail)
local macro_rules | `(tactic| walk_at "ci") => `(tactic| first | assumption | (show (0 : Int) < _; first | decide | (with_reducible omega)) | exact ⟨by decide, by decide⟩ | exact .inl ⟨by decide, by decide⟩ | exact .inr ⟨by decide, by decide⟩)
local macro_rules | `(tactic| walk_at "ln") => `(tactic| first | (with_reducible assumption) | (with_reducible omega) | (simp only [List.length_append, List.length_take, List.length_drop, List.length_reverse, List.length_cons, List.length_nil]; with_reducible omega))
local macro_rules | `(tactic| walk_at "rd1") => `(tactic| first
  | (with_reducible refine i_seq ?_) | (with_reducible refine i_asg ?_) | (with_reducible refine i_ret ?_) | (with_reducible refine i_name ?_) | ((with_reducible refine' i_var ?q1 ?_); (case q1 => exact rfl)) | (with_reducible refine i_c ?_) | (with_reducible refine i_op ?_) | (with_reducible refine i_un ?_)
  | (with_reducible refine i_rI0 ?_) | (with_reducible refine i_cb ?_) | (with_reducible refine i_cons ?_) | (with_reducible refine i_nil ?_) | (with_reducible refine i_call ?_) | (with_reducible refine i_if ?_) | (with_reducible refine i_ifE ?_) | (with_reducible refine i_test ?_) | (with_reducible refine i_bl ?_)
  | (with_reducible refine i_and ?_) | (with_reducible refine i_or ?_) | (with_reducible refine i_not ?_) | (with_reducible refine i_lst ?_) | (with_reducible refine i_tup ?_) | (with_reducible refine i_next ?_) | (with_reducible refine i_drop ?_) | (with_reducible refine i_sub ?_)
  | (with_reducible refine i_bm ?_) | (with_reducible refine i_sl ?_) | (with_reducible refine i_part ?_) | (with_reducible refine i_nopart ?_) | (with_reducible refine i_exI ?_) | (with_reducible refine i_chain ?_) | ((with_reducible refine' i_aug ?q1 ?_); (case q1 => exact rfl)) | (with_reducible refine i_ip ?_)
  | (with_reducible refine i_par ?_) | (with_reducible refine i_pair ?_) | (with_reducible refine i_andV ?_) | (with_reducible refine i_orV ?_) | (with_reducible refine i_notV ?_) | (with_reducible refine i_m1 ?_) | (with_reducible refine i_str ?_)
  | (with_reducible refine iteF ?_) | (with_reducible refine iteT ?_) | (with_reducible refine iteNT ?_) | (with_reducible refine iteNF ?_) | (with_reducible refine i_tyS ?_) | (with_reducible refine i_tB ?_) | (with_reducible refine i_retN ?_) | (with_reducible refine i_par3 ?_) | (with_reducible refine i_trip ?_) | (with_reducible refine i_gCons ?_) | (with_reducible refine i_gNil ?_) | (with_reducible refine i_lstRg ?_) | (with_reducible refine i_rg1 ?_)
  | (with_reducible refine i_lc ?_) | (with_reducible refine i_for ?_) | (with_reducible refine i_iList ?_) | (with_reducible refine i_iTup ?_) | (with_reducible refine i_iStr ?_) | (with_reducible refine i_iRng1 ?_) | (with_reducible refine i_iEnS ?_)
  | ((with_reducible refine' i_ixTH ?q1 ?q2 ?_); (case q1 => walk_at "hp"); (case q2 => exact rfl))
  | ((with_reducible refine' i_ixLH ?q1 ?q2 ?_); (case q1 => walk_at "hp"); (case q2 => exact rfl))
  | ((with_reducible refine i_addS ?q1 ?_); (case q1 => walk_at "ln")) | ((with_reducible refine i_lenSS ?q1 ?_); (case q1 => walk_at "ln")) | ((with_reducible refine i_slFrom ?q1 ?q2 ?_); (case q1 => walk_at "ln"); (case q2 => walk_at "ln")) | ((with_reducible refine i_slTo ?q1 ?q2 ?_); (case q1 => walk_at "ln"); (case q2 => walk_at "ln"))
  | ((with_reducible refine' i_tyL ?q1 ?_); (case q1 => walk_at "hp"))
  | ((with_reducible refine' i_gTupH ?q1 ?q2 ?_); (case q1 => walk_at "hp"); (case q2 => exact rfl))
  | (with_reducible refine i_dnew ?_) | (with_reducible refine i_init ?_) | (with_reducible refine i_fst ?_) | (with_reducible refine i_mk ?_) | (with_reducible refine i_raise ?_) | (with_reducible refine i_callS ?_) | (with_reducible refine i_kwS ?_)
  | (with_reducible refine i_revT ?_) | (with_reducible refine i_kw ?_) | ((with_reducible refine' ⟨_, _, rfl, sqT_of ?q1, ?_⟩); (case q1 => walk_at "hp"))
  | (with_reducible refine i_revS ?_) | ((with_reducible refine i_revSS ?q1 ?_); (case q1 => walk_at "ln"))
  | (with_reducible refine i_startS ?_) | (with_reducible refine i_inSg ?_) | (with_reducible refine i_absN ?_) | (with_reducible refine i_min2 ?_) | (with_reducible refine i_max2 ?_) | (with_reducible refine i_min3 ?_) | (with_reducible refine i_intN ?_) | (with_reducible refine i_intNB ?_)
  | ((with_reducible refine' i_lenL ?q1 ?_); (case q1 => walk_at "hp")) | ((with_reducible refine' i_lenT ?q1 ?_); (case q1 => walk_at "hp"))
  | (with_reducible refine i_eqI ?_) | (with_reducible refine i_neI ?_) | (with_reducible refine i_eqS ?_) | (with_reducible refine i_neS ?_) | (with_reducible refine i_isNoI ?_) | (with_reducible refine i_isNoN ?_) | (with_reducible refine i_isNoR ?_)
  | ((with_reducible refine i_pow ?q1 ?q2 ?q3 ?_); (case q1 => decide); (case q2 => decide); (case q3 => (with_reducible omega)))
  | ((with_reducible refine i_rI ?q1 ?_); (case q1 => walk_at "ci"))
  | (with_reducible refine Or.inl ⟨_, rfl, ?_⟩) | (with_reducible refine Or.inr ⟨_, rfl, ?_⟩) | (with_reducible refine ⟨_, rfl, ?_⟩) | (with_reducible refine ⟨_, _, rfl, ?_⟩) | (with_reducible refine ⟨_, _, rfl, rfl, ?_⟩)
  | ((with_reducible refine' ⟨_, _, rfl, Or.inl (sqL_of ?q1), ?_⟩); (case q1 => walk_at "hp")) | ((with_reducible refine' ⟨_, _, rfl, Or.inr (sqT_of ?q1), ?_⟩); (case q1 => walk_at "hp")) | fail)
local macro_rules | `(tactic| walk_at "rd") => `(tactic| repeat' walk_at "rd1")

open Lev (lev)
def row (a b : List Nat) (i : Nat) : List Int := (List.range (b.length + 1)).map fun k => (lev (a.take i) (b.take k) : Int)
theorem i_yes {σ : L2.St} {H : Hp} {R : Bool → Hp → Prop} (h : R true H) : tYes σ H R := h
theorem row_zero (a b : List Nat) : row a b 0 = (List.range (b.length + 1)).map fun (k : Nat) => (k : Int) := by
  unfold row
  refine List.map_congr_left fun k hk => ?_
  have hk := List.mem_range.mp hk
  rw [List.take_zero, Lev.lev_nil, List.length_take, Nat.min_eq_left (by omega)]
theorem row_len (a b : List Nat) (i : Nat) : (row a b i).length = b.length + 1 := by simp [row]
theorem row_get {a b : List Nat} {i k : Nat} (h : k < b.length + 1) : (row a b i)[k]? = some (lev (a.take i) (b.take k) : Int) := by
  simp [row, List.getElem?_map, List.getElem?_range h]

theorem row_next' {a b : List Nat} {i k x y : Nat} (hx : a[i]? = some x) (hy : b[k]? = some y) :
    min (min ((lev (a.take i) (b.take k) : Nat) + (if (!decide ([x] = [y])) = true then (1 : Int) else 0)) ((lev (a.take (i + 1)) (b.take k) : Nat) + 1)) ((lev (a.take i) (b.take (k + 1)) : Nat) + 1) = ((lev (a.take (i + 1)) (b.take (k + 1)) : Nat) : Int) := by
  rw [Lev.take_snoc hx, Lev.take_snoc hy, Lev.lev_snoc]
  by_cases c : x = y
  · subst c; simp; omega
  · simp [c]; omega
/-- the first k of the one, the others of the other -/
def mix (A B : List Int) (k : Nat) : List Int := A.take k ++ B.drop k
theorem mix_get {A B : List Int} {k x : Nat} (h : A.length = B.length) (hk : k ≤ A.length) : (mix A B k)[x]? = if x < k then A[x]? else B[x]? := by
  unfold mix
  rw [List.getElem?_append, List.length_take, Nat.min_eq_left hk]
  by_cases c : x < k
  · rw [if_pos c, if_pos c, List.getElem?_take, if_pos c]
  · rw [if_neg c, if_neg c, List.getElem?_drop]
    congr 1; omega
theorem mix_len {A B : List Int} {k : Nat} (h : A.length = B.length) (hk : k ≤ A.length) : (mix A B k).length = A.length := by
  unfold mix
  rw [List.length_append, List.length_take, List.length_drop]; omega
theorem mix_set {A B : List Int} {k : Nat} {v : Int} (h : A.length = B.length) (hk : k < A.length) (hv : A[k]? = some v) : (mix A B k).set k v = mix A B (k + 1) := by
  apply List.ext_getElem?
  intro x
  rw [List.getElem?_set, mix_get h (by omega), mix_get h (by omega), mix_len h (by omega)]
  by_cases c : k = x
  · subst c
    rw [if_pos rfl, if_pos hk, if_pos (by omega), hv]
  · rw [if_neg c]
    by_cases c2 : x < k
    · rw [if_pos c2, if_pos (by omega)]
    · rw [if_neg c2, if_neg (by omega)]
theorem mix_all {A B : List Int} (h : A.length = B.length) : mix A B A.length = A := by
  unfold mix
  rw [List.take_length, h, List.drop_length, List.append_nil]
/-- _law_table(first, second) -/
def spTable : Sp := fun vs H Q _ => ∃ (a b : List Nat), vs = [.str (S a), .str (S b)] ∧ a.length ≤ 2000 ∧ b.length ≤ 2000 ∧ ∀ H', Same H H' → Q (.int (lev a b : Nat)) H'
section
variable {P : Program} {w : World} {K : PySem.W.Frag} {mg : Str → Option Value} {base : Heap} {f : Addr} {fd : FuncData}
theorem ixN_at {n j : Nat} (hj : j < n) : ixN n (j : Int) = some j := by
  unfold ixN
  rw [if_pos (by omega), if_pos (by omega)]
  simp
theorem ok_table (F : Fun K "_law_table" "_law_table" s__law_table f fd) (z : Z mg) : FnOk P w K mg base CX0 1 f fd ["first", "second"] spTable := by
  refine F.ok sc__law_table (fun vs H Q E h => ?_) (fun cdv A outer s H vs Q E hr h => ?_)
  · obtain ⟨a, b, rfl, _⟩ := h; rfl
  · obtain ⟨a, b, rfl, ha, hb, k⟩ := h
    refine ⟨_, (pss_cons (ps_set (i := 2) sc__law_table.nd rfl (.inl rfl) (pe_listRg rfl (by rfl) z.list (prg_1 (by rfl) z.range (pe_op op_add (pe_callB call_lenS (by rfl) z.len PySem.boot_len (pa_cons (pv 1) pa_nil)) pe_int))))
      (pss_cons (ps_for PassesOwn.never rfl (pi_range1 (by rfl) z.range (pa_cons (pe_callB call_lenS (by rfl) z.len PySem.boot_len (pa_cons (pv 0) pa_nil)) pa_nil)) (pg_name (i := 3) sc__law_table.nd rfl (.inl rfl))
        (pss_cons (ps_asg (pe_tup (pa_cons (pe_ix ix_list (pv 2) pe_int (fun _ _ => rfl)) (pa_cons (pe_op op_add (pv 3) pe_int) pa_nil))) (pg_tup rfl (pgs_cons (pg_name (i := 4) sc__law_table.nd rfl (.inl rfl)) (pgs_cons (pg_sub (pv 2) pe_int set_list) pgs_nil))))
        (pss_one (ps_for PassesOwn.never rfl (pi_range1 (by rfl) z.range (pa_cons (pe_callB call_lenS (by rfl) z.len PySem.boot_len (pa_cons (pv 1) pa_nil)) pa_nil)) (pg_name (i := 5) sc__law_table.nd rfl (.inl rfl))
          (pss_cons (ps_set (i := 6) sc__law_table.nd rfl (.inl rfl) (pe_op op_add (pv 4) (pe_callTy call_intN (by rfl) z.int (by decide +kernel) (pa_cons (pe_cmpR op_ne (pe_ix ix_S (pv 0) (pv 3) (fun _ _ => rfl)) (pe_ix ix_S (pv 1) (pv 5) (fun _ _ => rfl)) (nomark _)) pa_nil))))
          (pss_cons (ps_set (i := 4) sc__law_table.nd rfl (.inl rfl) (pe_ix ix_list (pv 2) (pe_op op_add (pv 5) pe_int) (fun _ _ => rfl)))
          (pss_one (ps_asg (pe_callB (call_min3N rfl) (by rfl) z.min_ (by decide +kernel) (pa_cons (pv 6) (pa_cons (pe_op op_add (pe_ix ix_list (pv 2) (pv 5) (fun _ _ => rfl)) pe_int) (pa_cons (pe_op op_add (pv 4) pe_int) pa_nil)))) (pg_sub (pv 2) (pe_op op_add (pv 5) pe_int) set_list)))))))))
      (pss_one (ps_ret (pe_ix ix_list (pv 2) (pe_un un_neg pe_int) (fun _ _ => rfl)))))), ?_⟩
    walk_at "rd"
    refine ⟨by unfold RgOk; refine ⟨by omega, by omega, by omega, by omega, by omega⟩, fun p np => ?_⟩
    walk_at "rd"
    have e0 : rgV 0 ((b.length : Int) + 1) = (row a b 0).map V.int := by
      rw [row_zero, List.map_map]
      unfold rgV
      rw [show ((b.length : Int) + 1 - 0).toNat = b.length + 1 by omega]
      refine List.map_congr_left fun k _ => ?_
      rw [Int.zero_add]; rfl
    rw [e0]
    refine i_rng (by omega) (by omega) ?_
    refine go_for walk_rangeZ (fun i σ H2 => ∃ (u3 u4 u5 u6 : Option V), σ = [some (.str (S a)), some (.str (S b)), some (.ref p), u3, u4, u5, u6] ∧ Same H H2 ∧ H2 p = some (.lst ((row a b i).map V.int))) ⟨none, none, none, none, rfl, same_upd np, upd_same⟩ (fun _ _ _ _ _ => trivial) (fun i v σ H2 H3 hi h y => ?_) (fun σ H2 h => ?_)
    · obtain ⟨u3, u4, u5, u6, rfl, s2, ep⟩ := h
      obtain ⟨rfl, rfl⟩ := y
      have hi' : i < a.length := by omega
      walk_at "rd"
      refine i_ixLI ep (by omega) (row_get (by omega)) ?_
      walk_at "rd"
      refine ⟨Nat.le_of_ble_eq_true rfl, fun q nq => ?_⟩
      have sq := same_upd (o := .tup [V.int ↑(lev (List.take i a) (List.take (Int.toNat 0) b)), V.int (↑i + 1)]) nq
      have ep' := sq _ _ ep
      have eL : (row a b (i + 1)).length = (row a b i).length := by rw [row_len, row_len]
      have g0 : (row a b (i + 1))[0]? = some ((i : Int) + 1) := by
        rw [row_get (by omega), List.take_zero, Lev.lev_nil', List.length_take, Nat.min_eq_left (by omega)]
        rfl
      walk_at "rd"
      refine i_setL ep' (ixN_at (j := 0) (by rw [List.length_map, row_len]; omega)) ?_
      have s3 := Same.set_new (o := .lst (((row a b i).map V.int).set 0 (V.int ((i : Int) + 1)))) (s2.trans sq) np
      have ep3 : upd (upd H3 q (.tup [V.int ↑(lev (List.take i a) (List.take (Int.toNat 0) b)), V.int (↑i + 1)])) p (.lst (((row a b i).map V.int).set 0 (V.int ((i : Int) + 1)))) p = some (.lst ((mix (row a b (i + 1)) (row a b i) 1).map V.int)) := by
        rw [upd_same, ← mix_set eL (k := 0) (by rw [row_len]; omega) g0, List.map_set]
        unfold mix
        rw [List.take_zero, List.drop_zero, List.nil_append]
      generalize upd (upd H3 q (.tup [V.int ↑(lev (List.take i a) (List.take (Int.toNat 0) b)), V.int (↑i + 1)])) p (.lst (((row a b i).map V.int).set 0 (V.int ((i : Int) + 1)))) = H4 at *
      walk_at "rd"
      refine i_rng (by omega) (by omega) ?_
      refine go_for walk_rangeZ (fun j σ H5 => ∃ (u5 u6 : Option V), σ = [some (.str (S a)), some (.str (S b)), some (.ref p), some (.int (i : Int)), some (.int (lev (a.take i) (b.take j) : Nat)), u5, u6] ∧ Same H H5 ∧ H5 p = some (.lst ((mix (row a b (i + 1)) (row a b i) (j + 1)).map V.int)))
        ⟨u5, u6, rfl, s3, ep3⟩ (fun _ _ _ _ _ => trivial) (fun j v σ H5 H6 hj h y => ?_) (fun σ H5 h => ?_)
      · obtain ⟨u5, u6, rfl, s5, ep5⟩ := h
        obtain ⟨rfl, rfl⟩ := y
        have hj' : j < b.length := by omega
        have lA : (row a b (i + 1)).length = b.length + 1 := row_len _ _ _
        have m1 : (mix (row a b (i + 1)) (row a b i) (j + 1))[j + 1]? = some (lev (a.take i) (b.take (j + 1)) : Int) := by
          rw [mix_get eL (by omega), if_neg (by omega), row_get (by omega)]
        have m0 : (mix (row a b (i + 1)) (row a b i) (j + 1))[j]? = some (lev (a.take (i + 1)) (b.take j) : Int) := by
          rw [mix_get eL (by omega), if_pos (by omega), row_get (by omega)]
        walk_at "rd"
        refine i_ixSI (by omega) (by rw [Int.toNat_natCast]; exact List.getElem?_eq_getElem hi') (by omega) ?_
        walk_at "rd"
        refine i_ixSI (by omega) (by rw [Int.toNat_natCast]; exact List.getElem?_eq_getElem hj') (by omega) ?_
        walk_at "rd"
        refine i_ixLI ep5 (by omega) (by rw [show ((j : Int) + 1).toNat = j + 1 by omega]; exact m1) ?_
        walk_at "rd"
        refine i_ixLI ep5 (by omega) (by rw [Int.toNat_natCast]; exact m0) ?_
        walk_at "rd"
        rw [row_next' (List.getElem?_eq_getElem hi') (List.getElem?_eq_getElem hj')]
        refine i_setL (j := j + 1) ep5 (by rw [show (j : Int) + 1 = ((j + 1 : Nat) : Int) by omega]; exact ixN_at (by rw [List.length_map, mix_len eL (by omega), lA]; omega)) ?_
        refine ⟨_, _, rfl, Same.set_new s5 np, ?_⟩
        rw [upd_same, ← List.map_set, mix_set eL (by omega) (row_get (by omega))]
      · obtain ⟨u5, u6, rfl, s5, ep5⟩ := h
        rw [show ((b.length : Int)).toNat + 1 = (row a b (i + 1)).length by rw [row_len, Int.toNat_natCast], mix_all eL] at ep5
        exact ⟨_, _, _, _, rfl, s5, ep5⟩
    · obtain ⟨u3, u4, u5, u6, rfl, s2, ep⟩ := h
      walk_at "rd"
      have eg := row_get (a := a) (b := b) (i := a.length) (k := b.length) (by omega)
      refine i_rU ?_
      refine i_ixLH ep (atI_neg1 (by rw [List.length_map, row_len]) (by rw [List.getElem?_map, Int.toNat_natCast, eg]; rfl)) ?_
      rw [List.take_length, List.take_length]
      exact k _ s2
end
end Sw
namespace Sw
open PySem PySem.Spec PyProof.Rows L2
local macro_rules | `(tactic| walk_at "hp") => `(tactic| first
  | (with_reducible assumption) | (with_reducible exact upd_same)
  | ((with_reducible refine' upd_old ?q1 ?q2); (case q1 => (with_reducible assumption)); (case q2 => walk_at "hp"))
  | ((with_reducible refine' Same.at ?q1 ?q2); (case q1 => (with_reducible assumption)); (case q2 => walk_at "hp"))
  | ((with_reducible refine' upd_skip ?q1 ?q2); (case q1 => walk_at "ne"); (case q2 => walk_at "hp"))
  | fail)
local macro_rules | `(tactic| walk_at "ne") => `(tactic| first
  | (with_reducible assumption) | (with_reducible exact Ne.symm (by assumption))
  | ((with_reducible refine' ne_of_none ?q1 ?q2); (case q2 => (with_reducible assumption)); (case q1 => walk_at "hp"))
  | fail)
local macro_rules | `(tactic| walk_at "ci") => `(tactic| first | assumption | (show (0 : Int) < _; first | decide | (with_reducible omega)) | exact ⟨by decide, by decide⟩ | exact .inl ⟨by decide, by decide⟩ | exact .inr ⟨by decide, by decide⟩)
local macro_rules | `(tactic| walk_at "ln") => `(tactic| first | (with_reducible assumption) | (with_reducible omega) | (simp only [List.length_append, List.length_take, List.length_drop, List.length_reverse, List.length_cons, List.length_nil]; with_reducible omega))
local macro_rules | `(tactic| walk_at "rd1") => `(tactic| first
  | (with_reducible refine i_seq ?_) | (with_reducible refine i_asg ?_) | (with_reducible refine i_ret ?_) | (with_reducible refine i_name ?_) | ((with_reducible refine' i_var ?q1 ?_); (case q1 => exact rfl)) | (with_reducible refine i_c ?_) | (with_reducible refine i_op ?_) | (with_reducible refine i_un ?_)
  | (with_reducible refine i_rI0 ?_) | (with_reducible refine i_cb ?_) | (with_reducible refine i_cons ?_) | (with_reducible refine i_nil ?_) | (with_reducible refine i_call ?_) | (with_reducible refine i_if ?_) | (with_reducible refine i_ifE ?_) | (with_reducible refine i_test ?_) | (with_reducible refine i_bl ?_)
  | (with_reducible refine i_and ?_) | (with_reducible refine i_or ?_) | (with_reducible refine i_not ?_) | (with_reducible refine i_lst ?_) | (with_reducible refine i_tup ?_) | (with_reducible refine i_next ?_) | (with_reducible refine i_drop ?_) | (with_reducible refine i_sub ?_)
  | (with_reducible refine i_bm ?_) | (with_reducible refine i_sl ?_) | (with_reducible refine i_part ?_) | (with_reducible refine i_nopart ?_) | (with_reducible refine i_exI ?_) | (with_reducible refine i_chain ?_) | ((with_reducible refine' i_aug ?q1 ?_); (case q1 => exact rfl)) | (with_reducible refine i_ip ?_)
  | (with_reducible refine i_par ?_) | (with_reducible refine i_pair ?_) | (with_reducible refine i_andV ?_) | (with_reducible refine i_orV ?_) | (with_reducible refine i_notV ?_) | (with_reducible refine i_m1 ?_) | (with_reducible refine i_str ?_)
  | (with_reducible refine iteF ?_) | (with_reducible refine iteT ?_) | (with_reducible refine iteNT ?_) | (with_reducible refine iteNF ?_) | (with_reducible refine i_tyS ?_) | (with_reducible refine i_tB ?_) | (with_reducible refine i_retN ?_) | (with_reducible refine i_par3 ?_) | (with_reducible refine i_trip ?_) | (with_reducible refine i_gCons ?_) | (with_reducible refine i_gNil ?_) | (with_reducible refine i_lstRg ?_) | (with_reducible refine i_rg1 ?_)
  | (with_reducible refine i_lc ?_) | (with_reducible refine i_for ?_) | (with_reducible refine i_iList ?_) | (with_reducible refine i_iTup ?_) | (with_reducible refine i_iStr ?_) | (with_reducible refine i_iRng1 ?_) | (with_reducible refine i_iEnS ?_)
  | ((with_reducible refine' i_ixTH ?q1 ?q2 ?_); (case q1 => walk_at "hp"); (case q2 => exact rfl))
  | ((with_reducible refine' i_ixLH ?q1 ?q2 ?_); (case q1 => walk_at "hp"); (case q2 => exact rfl))
  | ((with_reducible refine i_addS ?q1 ?_); (case q1 => walk_at "ln")) | ((with_reducible refine i_lenSS ?q1 ?_); (case q1 => walk_at "ln")) | ((with_reducible refine i_slFrom ?q1 ?q2 ?_); (case q1 => walk_at "ln"); (case q2 => walk_at "ln")) | ((with_reducible refine i_slTo ?q1 ?q2 ?_); (case q1 => walk_at "ln"); (case q2 => walk_at "ln"))
  | ((with_reducible refine' i_tyL ?q1 ?_); (case q1 => walk_at "hp"))
  | ((with_reducible refine' i_gTupH ?q1 ?q2 ?_); (case q1 => walk_at "hp"); (case q2 => exact rfl))
  | (with_reducible refine i_dnew ?_) | (with_reducible refine i_init ?_) | (with_reducible refine i_fst ?_) | (with_reducible refine i_mk ?_) | (with_reducible refine i_raise ?_) | (with_reducible refine i_callS ?_) | (with_reducible refine i_kwS ?_)
  | (with_reducible refine i_revT ?_) | (with_reducible refine i_kw ?_) | ((with_reducible refine' ⟨_, _, rfl, sqT_of ?q1, ?_⟩); (case q1 => walk_at "hp"))
  | (with_reducible refine i_revS ?_) | ((with_reducible refine i_revSS ?q1 ?_); (case q1 => walk_at "ln"))
  | (with_reducible refine i_startS ?_) | (with_reducible refine i_inSg ?_) | (with_reducible refine i_absN ?_) | (with_reducible refine i_min2 ?_) | (with_reducible refine i_max2 ?_) | (with_reducible refine i_min3 ?_) | (with_reducible refine i_intN ?_) | (with_reducible refine i_intNB ?_)
  | ((with_reducible refine' i_lenL ?q1 ?_); (case q1 => walk_at "hp")) | ((with_reducible refine' i_lenT ?q1 ?_); (case q1 => walk_at "hp"))
  | (with_reducible refine i_eqI ?_) | (with_reducible refine i_neI ?_) | (with_reducible refine i_eqS ?_) | (with_reducible refine i_neS ?_) | (with_reducible refine i_isNoI ?_) | (with_reducible refine i_isNoN ?_) | (with_reducible refine i_isNoR ?_)
  | ((with_reducible refine i_pow ?q1 ?q2 ?q3 ?_); (case q1 => decide); (case q2 => decide); (case q3 => (with_reducible omega)))
  | ((with_reducible refine i_rI ?q1 ?_); (case q1 => walk_at "ci"))
  | (with_reducible refine Or.inl ⟨_, rfl, ?_⟩) | (with_reducible refine Or.inr ⟨_, rfl, ?_⟩) | (with_reducible refine ⟨_, rfl, ?_⟩) | (with_reducible refine ⟨_, _, rfl, ?_⟩) | (with_reducible refine ⟨_, _, rfl, rfl, ?_⟩)
  | ((with_reducible refine' ⟨_, _, rfl, Or.inl (sqL_of ?q1), ?_⟩); (case q1 => walk_at "hp")) | ((with_reducible refine' ⟨_, _, rfl, Or.inr (sqT_of ?q1), ?_⟩); (case q1 => walk_at "hp")) | fail)
local macro_rules | `(tactic| walk_at "rd") => `(tactic| repeat' walk_at "rd1")

open Lev (lev)
theorem BoxAt.ne_lst {H : Hp} {b p : Addr} {d : Int} {x : Str} {xs : List V} (B : BoxAt H b d) (h : H p = some (.lst (.str x :: xs))) : p ≠ b := by
  obtain ⟨n, g, c, e, hb, _⟩ := B.ex
  rintro rfl
  rw [h] at hb
  cases hb
theorem BoxAt.ne_tup {H : Hp} {b p : Addr} {d : Int} {xs : List V} (B : BoxAt H b d) (h : H p = some (.tup xs)) : p ≠ b := by
  obtain ⟨n, g, c, e, hb, _⟩ := B.ex
  rintro rfl
  rw [h] at hb
  cases hb
theorem BoxAt.ne_new {H : Hp} {b p : Addr} {d : Int} (B : BoxAt H b d) (h : H p = none) : p ≠ b := by
  obtain ⟨n, g, c, e, hb, _⟩ := B.ex
  rintro rfl
  rw [h] at hb
  cases hb
theorem SB.free {b p : Addr} {H H' : Hp} {d : Int} (s : SB b H H') (B : BoxAt H' b d) (n : H' p = none) : H p = none := by
  have npb := B.ne_new n
  rcases e : H p with _ | o
  · rfl
  · rw [s _ _ npb e] at n; cases n
theorem BoxAt.upd_ne {H : Hp} {b p : Addr} {d : Int} {o : HO} (B : BoxAt H b d) (h : p ≠ b) : BoxAt (upd H p o) b d := by
  obtain ⟨n, g, c, e, hb, hr⟩ := B.ex
  exact ⟨n, g, c, e, by rw [L2.upd_ne (Ne.symm h)]; exact hb, hr⟩
theorem flat_one (ws : List Nat) : (ws.map fun c => [c]).flatten = ws := by
  induction ws with
  | nil => rfl
  | cons c ws ih => rw [List.map_cons, List.flatten_cons, ih]; rfl
theorem letters_get : ∀ i, i < 26 → ([97, 98, 99, 100, 101, 102, 103, 104, 105, 106, 107, 108, 109, 110, 111, 112, 113, 114, 115, 116, 117, 118, 119, 120, 121, 122] : List Nat)[i]? = some (97 + i) := by decide
theorem azB_one {i : Nat} (h : i < 26) : azB [97 + i] = true := by
  unfold azB
  simp
  omega

theorem azB_rep {l : List Nat} (h : azB l = true) (n : Nat) : azB (List.replicate n l).flatten = true := by
  induction n with
  | zero => rfl
  | succ n ih => rw [List.replicate_succ, List.flatten_cons, azB_app, h, ih]; rfl
/-- three letters -/
def Let3 (H : Hp) (p : Addr) : Prop := ∃ c1 c2 c3, H p = some (.lst [.str (S [c1]), .str (S [c2]), .str (S [c3])]) ∧ azB [c1] = true ∧ azB [c2] = true ∧ azB [c3] = true
theorem Let3.neb {H : Hp} {p b : Addr} {d : Int} (l : Let3 H p) (B : BoxAt H b d) : p ≠ b := by
  obtain ⟨c1, c2, c3, e, _⟩ := l
  exact B.ne_lst e
theorem Let3.sb {H H' : Hp} {p b : Addr} {d : Int} (l : Let3 H p) (B : BoxAt H b d) (s : SB b H H') : Let3 H' p := by
  have n := l.neb B
  obtain ⟨c1, c2, c3, e, r⟩ := l
  exact ⟨c1, c2, c3, s _ _ n e, r⟩
theorem Let3.same {H H' : Hp} {p : Addr} (l : Let3 H p) (s : Same H H') : Let3 H' p := by
  obtain ⟨c1, c2, c3, e, r⟩ := l
  exact ⟨c1, c2, c3, s _ _ e, r⟩
theorem Let3.at {H : Hp} {p : Addr} (l : Let3 H p) {j : Int} (h0 : 0 ≤ j) (h1 : j < 3) {K : PySem.W.Frag} {Q : VK} (k : ∀ c, azB [c] = true → Q (.str (S [c])) H) : rIxL K (.ref p) (.int j) H Q := by
  obtain ⟨c1, c2, c3, e, z1, z2, z3⟩ := l
  have hj : j = 0 ∨ j = 1 ∨ j = 2 := by omega
  rcases hj with rfl | rfl | rfl
  · exact i_ixLv e (by omega) rfl (k c1 z1)
  · exact i_ixLv e (by omega) rfl (k c2 z2)
  · exact i_ixLv e (by omega) rfl (k c3 z3)
/-- _law_letters(box) -/
def spLetters : Sp := fun vs H Q _ => ∃ (b : Addr) (d : Int), vs = [.ref b] ∧ BoxAt H b d ∧ d + 3 ≤ 1000000 ∧
  ∀ (p : Addr) (H' : Hp), H p = none → Let3 H' p → BoxAt H' b (d + 3) → SB b H H' → Q (.ref p) H'
/-- _law_text(box, letters, many) -/
def spWord : Sp := fun vs H Q _ => ∃ (b lp : Addr) (m : Nat) (d : Int), vs = [.ref b, .ref lp, .int (m : Int)] ∧ Let3 H lp ∧ m ≤ 500 ∧ BoxAt H b d ∧ d + 500 ≤ 1000000 ∧
  ∀ (u : List Nat) (H' : Hp), u.length = m → azB u = true → BoxAt H' b (d + m) → SB b H H' → Q (.str (S u)) H'
/-- _law_changed(box, letters, text) -/
def spChanged : Sp := fun vs H Q _ => ∃ (b lp : Addr) (t : List Nat) (d : Int), vs = [.ref b, .ref lp, .str (S t)] ∧ Let3 H lp ∧ azB t = true ∧ t.length ≤ 500 ∧ BoxAt H b d ∧ d + 20 ≤ 1000000 ∧
  ∀ (u : List Nat) (H' : Hp), u.length ≤ t.length + 4 → azB u = true → BoxAt H' b (d + 20) → SB b H H' → Q (.str (S u)) H'
/-- _law_texts(box) -/
def spTexts : Sp := fun vs H Q _ => ∃ (b : Addr) (d : Int), vs = [.ref b] ∧ BoxAt H b d ∧ d + 1000 ≤ 1000000 ∧
  ∀ (p : Addr) (l r : List Nat) (H' : Hp), H p = none → H' p = some (.lst [.str (S l), .str (S r)]) → l.length ≤ 40 → r.length ≤ 40 → azB l = true → azB r = true → BoxAt H' b (d + 100) → SB b H H' → Q (.ref p) H'
section
variable {P : Program} {w : World} {K : PySem.W.Frag} {mg : Str → Option Value} {base : Heap} {f : Addr} {fd : FuncData}
theorem ok_letters (F : Fun K "_law_letters" "_law_letters" s__law_letters f fd) (z : Z mg) (c__law_take : Cal P w K mg base "_law_take" ["box", "many"] 1 spTake) : FnOk P w K mg base CX0 2 f fd ["box"] spLetters := by
  refine F.ok sc__law_letters (fun vs H Q E h => ?_) (fun cdv A outer s H vs Q E hr h => ?_)
  · obtain ⟨b, d, rfl, _⟩ := h; rfl
  · obtain ⟨b, d, rfl, B, hd, k⟩ := h
    refine ⟨_, (pss_one (ps_ret (pe_lc (own := [("k", 1)]) (g := gName 1) (tt := tYes) rfl sc__law_letters.nd (pi_range1 (by rfl) z.range (pa_cons pe_int pa_nil)) (blkOk_by (own := [("k", 1)]) (N := n__law_letters) (sc := defScope s__law_letters) (by decide +kernel)) (fun _ _ _ _ _ => (pg_name (i := 1) sc__law_letters.nd rfl (.inl rfl))) (fun _ _ _ _ _ => pts_nil) (fun _ _ _ _ _ => (pe_ix ix_S (pe_strS (l := [97, 98, 99, 100, 101, 102, 103, 104, 105, 106, 107, 108, 109, 110, 111, 112, 113, 114, 115, 116, 117, 118, 119, 120, 121, 122]) (by decide +kernel)) (pe_cal c__law_take hr (pa_cons (pv 0) (pa_cons pe_int pa_nil))) (fun _ _ => rfl)))))), ?_⟩
    walk_at "rd"
    refine i_rng (by omega) (by omega) ?_
    refine go_lc walk_rangeZ (fun p i H2 => ∃ cs : List Nat, cs.length = i ∧ azB cs = true ∧ H2 p = some (.lst (cs.map fun c => .str (S [c]))) ∧ BoxAt H2 b (d + i) ∧ SB b H H2)
      (fun p np => ⟨[], rfl, rfl, upd_same, (BoxAt.same B (same_upd np)).mono (by omega), SB.of (same_upd np)⟩) (fun _ _ _ _ _ => trivial) (fun p np i v H2 H3 hi q y => ?_) (fun pl H2 npl q => ?_)
    · obtain ⟨cs, lc, zc, ec, B2, s2⟩ := q
      obtain ⟨rfl, rfl⟩ := y
      walk_at "rd"
      refine ⟨rfl, i_yes (iteT ?_)⟩
      walk_at "rd"
      refine ⟨b, 26, _, rfl, B2, by omega, by omega, by omega, fun j H4 j0 j1 B4 s4 => ?_⟩
      refine i_ixSI j0 (letters_get j.toNat (by omega)) (by decide) ?_
      have npb : p ≠ b := B.ne_new np
      refine ⟨_, s4 _ _ npb ec, by rw [List.length_map]; exact Nat.lt_of_le_of_lt (show cs.length ≤ 1000 by omega) (by decide), cs ++ [97 + j.toNat], by rw [List.length_append, lc]; rfl, by rw [azB_app, zc, azB_one (by omega)]; rfl, ?_, (B4.upd_ne npb).mono (by omega), ?_⟩
      · rw [upd_same, List.map_append]; rfl
      · refine fun a o na ha => ?_
        by_cases e : a = p
        · rw [e] at ha; rw [np] at ha; cases ha
        · rw [L2.upd_ne e]; exact (s2.trans s4) a o na ha
    obtain ⟨cs, lc, zc, el, B2, s2⟩ := q
    obtain ⟨c1, c2, c3, rfl⟩ : ∃ c1 c2 c3, cs = [c1, c2, c3] := by
      rcases cs with _ | ⟨a, _ | ⟨b, _ | ⟨c, _ | ⟨x, cs⟩⟩⟩⟩
      · cases lc
      · cases lc
      · cases lc
      · exact ⟨a, b, c, rfl⟩
      · simp at lc
    have zz : azB [c1] = true ∧ azB [c2] = true ∧ azB [c3] = true := by
      unfold azB at *
      simpa using zc
    exact k _ _ npl ⟨c1, c2, c3, el, zz⟩ (B2.mono (by omega)) s2
theorem ok_word (F : Fun K "_law_text" "_law_text" s__law_text f fd) (z : Z mg) (c__law_take : Cal P w K mg base "_law_take" ["box", "many"] 1 spTake) : FnOk P w K mg base CX0 2 f fd ["box", "letters", "many"] spWord := by
  refine F.ok sc__law_text (fun vs H Q E h => ?_) (fun cdv A outer s H vs Q E hr h => ?_)
  · obtain ⟨b, lp, m, d, rfl, _⟩ := h; rfl
  · obtain ⟨b, lp, m, d, rfl, L, hm, B, hd, k⟩ := h
    refine ⟨_, (pss_one (ps_ret (pe_m1 PySem.F.slot_str_join PySem.F.type_str_join mt_joinS (pe_strS (l := []) (by decide +kernel)) (pe_lc (own := [("k", 3)]) (g := gName 3) (tt := tYes) rfl sc__law_text.nd (pi_range1 (by rfl) z.range (pa_cons (pv 2) pa_nil)) (blkOk_by (own := [("k", 3)]) (N := n__law_text) (sc := defScope s__law_text) (by decide +kernel)) (fun _ _ _ _ _ => (pg_name (i := 3) sc__law_text.nd rfl (.inl rfl))) (fun _ _ _ _ _ => pts_nil) (fun _ _ _ _ _ => (pe_ix (r := rIxL K) ix_list (pv 1) (pe_cal c__law_take hr (pa_cons (pv 0) (pa_cons pe_int pa_nil))) (fun _ _ => rfl))))))), ?_⟩
    walk_at "rd"
    refine i_rng (by omega) (by omega) ?_
    refine go_lc walk_rangeZ (fun p i H2 => ∃ cs : List Nat, cs.length = i ∧ azB cs = true ∧ H2 p = some (.lst (cs.map fun c => .str (S [c]))) ∧ BoxAt H2 b (d + i) ∧ SB b H H2)
      (fun p np => ⟨[], rfl, rfl, upd_same, (BoxAt.same B (same_upd np)).mono (by omega), SB.of (same_upd np)⟩) (fun _ _ _ _ _ => trivial) (fun p np i v H2 H3 hi q y => ?_) (fun pw H2 npw q => ?_)
    · obtain ⟨cs, lc, zc, ec, B2, s2⟩ := q
      obtain ⟨rfl, rfl⟩ := y
      walk_at "rd"
      refine ⟨rfl, i_yes (iteT ?_)⟩
      walk_at "rd"
      refine ⟨b, 3, _, rfl, B2, by omega, by omega, by omega, fun j H4 j0 j1 B4 s4 => ?_⟩
      have npb : p ≠ b := B.ne_new np
      refine (L.sb B (s2.trans s4)).at j0 j1 fun c zc' => ?_
      refine ⟨_, s4 _ _ npb ec, by rw [List.length_map]; exact Nat.lt_of_le_of_lt (show cs.length ≤ 1000 by omega) (by decide), cs ++ [c], by rw [List.length_append, lc]; rfl, by rw [azB_app, zc, zc']; rfl, ?_, (B4.upd_ne npb).mono (by omega), ?_⟩
      · rw [upd_same, List.map_append]; rfl
      · refine fun a o na ha => ?_
        by_cases e : a = p
        · rw [e] at ha; rw [np] at ha; cases ha
        · rw [L2.upd_ne e]; exact (s2.trans s4) a o na ha
    obtain ⟨t, lt, zt, ew, BX, sX⟩ := q
    refine i_joinS (ws := t.map fun c => [c]) (by rw [List.map_map]; exact ew) (by rw [flat_one]; omega) ?_
    rw [flat_one]
    exact k t _ (by omega) zt (BX.mono (by omega)) sX
theorem ok_changed (F : Fun K "_law_changed" "_law_changed" s__law_changed f fd) (z : Z mg) (c__law_take : Cal P w K mg base "_law_take" ["box", "many"] 1 spTake) : FnOk P w K mg base CX0 2 f fd ["box", "letters", "text"] spChanged := by
  refine F.ok sc__law_changed (fun vs H Q E h => ?_) (fun cdv A outer s H vs Q E hr h => ?_)
  · obtain ⟨b, lp, t, d, rfl, _⟩ := h; rfl
  · obtain ⟨b, lp, t, d, rfl, hL, zt, ht, B, hd, k⟩ := h
    refine ⟨_, (pss_cons (ps_set (i := 3) sc__law_changed.nd rfl (.inl rfl) (pv 2))
      (pss_cons (ps_for PassesOwn.never rfl (pi_range1 (by rfl) z.range (pa_cons (pe_op op_add pe_int (pe_cal c__law_take hr (pa_cons (pv 0) (pa_cons pe_int pa_nil)))) pa_nil)) (pg_name (i := 4) sc__law_changed.nd rfl (.inl rfl))
        (pss_cons (ps_par (i := 5) (j := 6) rfl sc__law_changed.nd rfl rfl (by decide) rfl rfl (pa_cons (pe_cal c__law_take hr (pa_cons (pv 0) (pa_cons (pe_op op_add (pe_callB call_lenS (by rfl) z.len PySem.boot_len (pa_cons (pv 3) pa_nil)) pe_int) pa_nil))) (pa_cons (pe_cal c__law_take hr (pa_cons (pv 0) (pa_cons pe_int pa_nil))) pa_nil)) (by rfl))
        (pss_cons (ps_set (i := 7) sc__law_changed.nd rfl (.inl rfl) (pe_ix ix_list (pv 1) (pe_cal c__law_take hr (pa_cons (pv 0) (pa_cons pe_int pa_nil))) (fun _ _ => rfl)))
        (pss_one (ps_if (pt_cmpR op_eq (pv 6) pe_int (nomark _))
          (pss_one (ps_set (i := 3) sc__law_changed.nd rfl (.inl rfl) (pe_op op_addS (pe_op op_addS (pe_slice sl_S (pv 3) po_none (po_some (pv 5))) (pv 7)) (pe_slice sl_S (pv 3) (po_some (pv 5)) po_none))))
          (pss_one (ps_if (pt_cmpR op_eq (pv 6) pe_int (nomark _))
            (pss_one (ps_set (i := 3) sc__law_changed.nd rfl (.inl rfl) (pe_op op_addS (pe_slice sl_S (pv 3) po_none (po_some (pv 5))) (pe_slice sl_S (pv 3) (po_some (pe_op op_add (pv 5) pe_int)) po_none))))
            (pss_one (ps_set (i := 3) sc__law_changed.nd rfl (.inl rfl) (pe_op op_addS (pe_op op_addS (pe_slice sl_S (pv 3) po_none (po_some (pv 5))) (pv 7)) (pe_slice sl_S (pv 3) (po_some (pe_op op_add (pv 5) pe_int)) po_none)))))))))))
      (pss_one (ps_ret (pv 3))))), ?_⟩
    walk_at "rd"
    refine ⟨b, 4, d, rfl, B, by omega, by omega, by omega, fun r H1 r0 r1 B1 s1 => ?_⟩
    obtain ⟨n, rfl⟩ : ∃ n : Nat, r = n := ⟨r.toNat, by omega⟩
    walk_at "rd"
    rw [show (1 : Int) + (n : Int) = ((1 + n : Nat) : Int) by omega]
    refine i_rng (by omega) (by omega) ?_
    rw [Int.toNat_natCast]
    refine go_for walk_rangeZ (fun i σ H2 => ∃ (u : List Nat) (u4 u5 u6 u7 : Option V), σ = [some (.ref b), some (.ref lp), some (.str (S t)), some (.str (S u)), u4, u5, u6, u7] ∧ SB b H H2 ∧ BoxAt H2 b (d + 1 + 3 * i) ∧ u.length ≤ t.length + i ∧ azB u = true)
      ⟨t, none, none, none, none, rfl, s1, B1.mono (by omega), by omega, zt⟩ (fun _ _ _ _ _ => trivial) (fun i v σ H2 H3 hi h y => ?_) (fun σ H2 h => ?_)
    · obtain ⟨u, u4, u5, u6, u7, rfl, s2, B2, lu, zu⟩ := h
      obtain ⟨rfl, rfl⟩ := y
      walk_at "rd"
      refine ⟨b, (u.length : Int) + 1, _, rfl, B2, by omega, by omega, by omega, fun at' H4 a0 a1 B4 s4 => ?_⟩
      obtain ⟨at', rfl⟩ : ∃ n : Nat, at' = n := ⟨at'.toNat, by omega⟩
      walk_at "rd"
      refine ⟨b, 3, _, rfl, B4, by omega, by omega, by omega, fun way H5 w0 w1 B5 s5 => ?_⟩
      walk_at "rd"
      refine ⟨b, 3, _, rfl, B5, by omega, by omega, by omega, fun j H6 j0 j1 B6 s6 => ?_⟩
      have s26 := s2.trans (s4.trans (s5.trans s6))
      have L6 := hL.sb B s26
      refine L6.at j0 j1 fun c zc => ?_
      walk_at "rd"
      refine iteB (fun _ => ?_) (fun _ => ?_)
      · walk_at "rd"
        refine ⟨_, _, _, _, _, rfl, s26, B6.mono (by omega), ?_, ?_⟩
        · simp only [List.length_append, List.length_take, List.length_drop, List.length_cons, List.length_nil]; omega
        · rw [azB_app, azB_app, azB_take zu, zc, azB_drop zu]; rfl
      walk_at "rd"
      refine iteB (fun _ => ?_) (fun _ => ?_)
      · walk_at "rd"
        refine ⟨_, _, _, _, _, rfl, s26, B6.mono (by omega), ?_, ?_⟩
        · simp only [List.length_append, List.length_take, List.length_drop, List.length_cons, List.length_nil]; omega
        · rw [azB_app, azB_take zu, azB_drop zu]; rfl
      · walk_at "rd"
        refine ⟨_, _, _, _, _, rfl, s26, B6.mono (by omega), ?_, ?_⟩
        · simp only [List.length_append, List.length_take, List.length_drop, List.length_cons, List.length_nil]; omega
        · rw [azB_app, azB_app, azB_take zu, zc, azB_drop zu]; rfl
    · obtain ⟨u, u4, u5, u6, u7, rfl, s2, B2, lu, zu⟩ := h
      walk_at "rd"
      exact k u _ (by omega) zu (B2.mono (by omega)) s2
theorem ok_texts (F : Fun K "_law_texts" "_law_texts" s__law_texts f fd) (z : Z mg) (c__law_take : Cal P w K mg base "_law_take" ["box", "many"] 1 spTake) (c__law_letters : Cal P w K mg base "_law_letters" ["box"] 2 spLetters) (c__law_text : Cal P w K mg base "_law_text" ["box", "letters", "many"] 2 spWord) (c__law_changed : Cal P w K mg base "_law_changed" ["box", "letters", "text"] 2 spChanged) : FnOk P w K mg base CX0 3 f fd ["box"] spTexts := by
  refine F.ok sc__law_texts (fun vs H Q E h => ?_) (fun cdv A outer s H vs Q E hr h => ?_)
  · obtain ⟨b, d, rfl, _⟩ := h; rfl
  · obtain ⟨b, d, rfl, B, hd, k⟩ := h
    refine ⟨_, (pss_cons (ps_par (i := 1) (j := 2) rfl sc__law_texts.nd rfl rfl (by decide) rfl rfl (pa_cons (pe_cal c__law_take hr (pa_cons (pv 0) (pa_cons pe_int pa_nil))) (pa_cons (pe_cal c__law_letters hr (pa_cons (pv 0) pa_nil)) pa_nil)) (by rfl))
      (pss_cons (ps_set (i := 3) sc__law_texts.nd rfl (.inl rfl) (pe_ix ix_list (pe_lst (pa_cons pe_int (pa_cons pe_int (pa_cons pe_int (pa_cons pe_int (pa_cons pe_int (pa_cons pe_int (pa_cons pe_int (pa_cons pe_int pa_nil))))))))) (pe_cal c__law_take hr (pa_cons (pv 0) (pa_cons pe_int pa_nil))) (fun _ _ => rfl)))
      (pss_cons (ps_set (i := 4) sc__law_texts.nd rfl (.inl rfl) (pe_cal c__law_text hr (pa_cons (pv 0) (pa_cons (pv 2) (pa_cons (pe_ifExp (pt_cmpR op_eq (pv 3) pe_int (nomark _)) (pv 3) (pe_cal c__law_take hr (pa_cons (pv 0) (pa_cons (pe_op op_add (pv 3) pe_int) pa_nil)))) pa_nil)))))
      (pss_cons (ps_if (pt_cmpR op_lt (pv 1) pe_int (nomark _))
        (pss_one (ps_ret (pe_lst (pa_cons (pv 4) (pa_cons (pe_cal c__law_changed hr (pa_cons (pv 0) (pa_cons (pv 2) (pa_cons (pv 4) pa_nil)))) pa_nil)))))
        pss_nil)
      (pss_cons (ps_set (i := 5) sc__law_texts.nd rfl (.inl rfl) (pe_cal c__law_take hr (pa_cons (pv 0) (pa_cons (pe_op op_add (pe_callB call_lenS (by rfl) z.len PySem.boot_len (pa_cons (pv 4) pa_nil)) pe_int) pa_nil))))
      (pss_cons (ps_if (pt_cmpR op_eq (pv 1) pe_int (nomark _))
        (pss_one (ps_ret (pe_lst (pa_cons (pv 4) (pa_cons (pe_op op_addS (pe_slice sl_S (pv 4) (po_some (pv 5)) po_none) (pe_slice sl_S (pv 4) po_none (po_some (pv 5)))) pa_nil)))))
        pss_nil)
      (pss_cons (ps_if (pt_cmpR op_eq (pv 1) pe_int (nomark _))
        (pss_one (ps_ret (pe_lst (pa_cons (pv 4) (pa_cons (pe_slice sl_S (pv 4) po_none (po_some (pv 5))) pa_nil)))))
        pss_nil)
      (pss_cons (ps_if (pt_cmpR op_eq (pv 1) pe_int (nomark _))
        (pss_one (ps_ret (pe_lst (pa_cons (pv 4) (pa_cons (pe_op op_addS (pe_slice sl_S (pv 4) (po_some (pv 5)) po_none) (pv 4)) pa_nil)))))
        pss_nil)
      (pss_cons (ps_if (pt_cmpR op_eq (pv 1) pe_int (nomark _))
        (pss_one (ps_ret (pe_lst (pa_cons (pv 4) (pa_cons (pe_ix ix_list (pe_lst (pa_cons (pv 4) (pa_cons (pe_strS (l := []) (by decide +kernel)) pa_nil))) (pe_cal c__law_take hr (pa_cons (pv 0) (pa_cons pe_int pa_nil))) (fun _ _ => rfl)) pa_nil)))))
        pss_nil)
      (pss_one (ps_ret (pe_lst (pa_cons (pv 4) (pa_cons (pe_cal c__law_text hr (pa_cons (pv 0) (pa_cons (pv 2) (pa_cons (pe_cal c__law_take hr (pa_cons (pv 0) (pa_cons pe_int pa_nil))) pa_nil)))) pa_nil)))))))))))))), ?_⟩
    walk_at "rd"
    refine ⟨b, 10, d, rfl, B, by omega, by omega, by omega, fun way H1 w0 w1 B1 s1 => ?_⟩
    walk_at "rd"
    refine ⟨b, _, rfl, B1, by omega, fun pl H2 npl L2 B2 s2 => ?_⟩
    walk_at "rd"
    refine ⟨Nat.le_of_ble_eq_true rfl, fun p1 n1 => ?_⟩
    have e1 := upd_same (H := H2) (a := p1) (o := .lst [.int 4, .int 7, .int 12, .int 12, .int 9, .int 20, .int 2, .int 0])
    have t1 := same_upd (o := .lst [.int 4, .int 7, .int 12, .int 12, .int 9, .int 20, .int 2, .int 0]) n1
    have p1b := B2.ne_new n1
    have L6 := L2.same t1
    have B6 := B2.same t1
    generalize upd H2 p1 (.lst [.int 4, .int 7, .int 12, .int 12, .int 9, .int 20, .int 2, .int 0]) = H6 at *
    walk_at "rd"
    refine ⟨b, 8, _, rfl, B6, by omega, by omega, by omega, fun q8 H7 q0 q1 B7 s7 => ?_⟩
    have e17 := s7 _ _ p1b e1
    have L7 := L6.sb B6 s7
    have s17 := s1.trans (s2.trans ((SB.of t1).trans s7))
    obtain ⟨n, en, hn⟩ : ∃ n : Nat, ([.int 4, .int 7, .int 12, .int 12, .int 9, .int 20, .int 2, .int 0] : List V)[q8.toNat]? = some (.int n) ∧ n ≤ 20 := by
      have hw : q8 = 0 ∨ q8 = 1 ∨ q8 = 2 ∨ q8 = 3 ∨ q8 = 4 ∨ q8 = 5 ∨ q8 = 6 ∨ q8 = 7 := by omega
      rcases hw with rfl | rfl | rfl | rfl | rfl | rfl | rfl | rfl
      · exact ⟨4, rfl, by omega⟩
      · exact ⟨7, rfl, by omega⟩
      · exact ⟨12, rfl, by omega⟩
      · exact ⟨12, rfl, by omega⟩
      · exact ⟨9, rfl, by omega⟩
      · exact ⟨20, rfl, by omega⟩
      · exact ⟨2, rfl, by omega⟩
      · exact ⟨0, rfl, by omega⟩
    refine i_ixLv e17 q0 en ?_
    walk_at "rd"
    refine iteC (fun _ => ?_) (fun _ => ?_)
    · walk_at "rd"
      refine ⟨b, pl, n, _, rfl, L7, by omega, B7, by omega, fun t H8 lt zt B8 s78 => ?_⟩
      replace lt : t.length ≤ 20 := by omega
      replace B8 : BoxAt H8 b (d + 30) := B8.mono (by omega)
      have L8 := L7.sb B7 s78
      have s18 := s17.trans s78
      walk_at "rd"
      refine iteB (fun _ => ?_) (fun _ => ?_)
      · walk_at "rd"
        refine ⟨b, pl, t, _, rfl, L8, zt, by omega, B8, by omega, fun u H9 lu zu B9 s9 => ?_⟩
        walk_at "rd"
        refine ⟨Nat.le_of_ble_eq_true rfl, fun p np => ?_⟩
        exact k p t _ _ ((s18.trans s9).free B9 np) upd_same (by omega) (by omega) zt zu ((B9.same (same_upd np)).mono (by omega)) ((s18.trans s9).trans (SB.of (same_upd np)))
      walk_at "rd"
      refine ⟨b, (t.length : Int) + 1, _, rfl, B8, by omega, by omega, by omega, fun at' H9 a0 a1 B9 s9 => ?_⟩
      obtain ⟨at', rfl⟩ : ∃ n : Nat, at' = n := ⟨at'.toNat, by omega⟩
      have s19 := s18.trans s9
      walk_at "rd"
      refine iteB (fun _ => ?_) (fun _ => ?_)
      · walk_at "rd"
        refine ⟨Nat.le_of_ble_eq_true rfl, fun p np => ?_⟩
        exact k p t _ _ (s19.free B9 np) upd_same (by omega) (by simp only [List.length_append, List.length_take, List.length_drop]; omega) zt (by rw [azB_app, azB_drop zt, azB_take zt]; rfl) ((B9.same (same_upd np)).mono (by omega)) (s19.trans (SB.of (same_upd np)))
      walk_at "rd"
      refine iteB (fun _ => ?_) (fun _ => ?_)
      · walk_at "rd"
        refine ⟨Nat.le_of_ble_eq_true rfl, fun p np => ?_⟩
        exact k p t _ _ (s19.free B9 np) upd_same (by omega) (by simp only [List.length_take]; omega) zt (azB_take zt _) ((B9.same (same_upd np)).mono (by omega)) (s19.trans (SB.of (same_upd np)))
      walk_at "rd"
      refine iteB (fun _ => ?_) (fun _ => ?_)
      · walk_at "rd"
        refine ⟨Nat.le_of_ble_eq_true rfl, fun p np => ?_⟩
        exact k p t _ _ (s19.free B9 np) upd_same (by omega) (by simp only [List.length_append, List.length_drop]; omega) zt (by rw [azB_app, azB_drop zt, zt]; rfl) ((B9.same (same_upd np)).mono (by omega)) (s19.trans (SB.of (same_upd np)))
      walk_at "rd"
      refine iteB (fun _ => ?_) (fun _ => ?_)
      · walk_at "rd"
        refine ⟨Nat.le_of_ble_eq_true rfl, fun p2 n2 => ?_⟩
        have e2 := upd_same (H := H9) (a := p2) (o := .lst [.str (S t), .str (S [])])
        have p2b := B9.ne_new n2
        walk_at "rd"
        refine ⟨b, 2, _, rfl, B9.same (same_upd n2), by omega, by omega, by omega, fun q3 HA q30 q31 BA sA => ?_⟩
        have e29 := sA _ _ p2b e2
        have s1A := s19.trans ((SB.of (same_upd n2)).trans sA)
        obtain ⟨u, eu, lu, zu⟩ : ∃ u, ([.str (S t), .str (S [])] : List V)[q3.toNat]? = some (.str (S u)) ∧ u.length ≤ 20 ∧ azB u = true := by
          have hw : q3 = 0 ∨ q3 = 1 := by omega
          rcases hw with rfl | rfl
          · exact ⟨t, rfl, by omega, zt⟩
          · exact ⟨[], rfl, by simp, rfl⟩
        refine i_ixLv e29 q30 eu ?_
        walk_at "rd"
        refine ⟨Nat.le_of_ble_eq_true rfl, fun p np => ?_⟩
        exact k p t u _ (s1A.free BA np) upd_same (by omega) (by omega) zt zu ((BA.same (same_upd np)).mono (by omega)) (s1A.trans (SB.of (same_upd np)))
      walk_at "rd"
      refine ⟨b, 13, _, rfl, B9, by omega, by omega, by omega, fun m HA m0 m1 BA sA => ?_⟩
      obtain ⟨m, rfl⟩ : ∃ n : Nat, m = n := ⟨m.toNat, by omega⟩
      walk_at "rd"
      refine ⟨b, pl, m, _, rfl, (L8.sb B8 s9).sb B9 sA, by omega, BA, by omega, fun u HB lu zu BB sB => ?_⟩
      have s1B := s19.trans (sA.trans sB)
      walk_at "rd"
      refine ⟨Nat.le_of_ble_eq_true rfl, fun p np => ?_⟩
      exact k p t u _ (s1B.free BB np) upd_same (by omega) (by omega) zt zu ((BB.same (same_upd np)).mono (by omega)) (s1B.trans (SB.of (same_upd np)))
    · walk_at "rd"
      refine ⟨b, (n : Int) + 1, _, rfl, B7, by omega, by omega, by omega, fun m HM m0 m1 BM sM => ?_⟩
      obtain ⟨m, rfl⟩ : ∃ n : Nat, m = n := ⟨m.toNat, by omega⟩
      walk_at "rd"
      refine ⟨b, pl, m, _, rfl, L7.sb B7 sM, by omega, BM, by omega, fun t H8 lt zt B8 s8 => ?_⟩
      have s78 := sM.trans s8
      replace lt : t.length ≤ 20 := by omega
      replace B8 : BoxAt H8 b (d + 30) := B8.mono (by omega)
      have L8 := L7.sb B7 s78
      have s18 := s17.trans s78
      walk_at "rd"
      refine iteB (fun _ => ?_) (fun _ => ?_)
      · walk_at "rd"
        refine ⟨b, pl, t, _, rfl, L8, zt, by omega, B8, by omega, fun u H9 lu zu B9 s9 => ?_⟩
        walk_at "rd"
        refine ⟨Nat.le_of_ble_eq_true rfl, fun p np => ?_⟩
        exact k p t _ _ ((s18.trans s9).free B9 np) upd_same (by omega) (by omega) zt zu ((B9.same (same_upd np)).mono (by omega)) ((s18.trans s9).trans (SB.of (same_upd np)))
      walk_at "rd"
      refine ⟨b, (t.length : Int) + 1, _, rfl, B8, by omega, by omega, by omega, fun at' H9 a0 a1 B9 s9 => ?_⟩
      obtain ⟨at', rfl⟩ : ∃ n : Nat, at' = n := ⟨at'.toNat, by omega⟩
      have s19 := s18.trans s9
      walk_at "rd"
      refine iteB (fun _ => ?_) (fun _ => ?_)
      · walk_at "rd"
        refine ⟨Nat.le_of_ble_eq_true rfl, fun p np => ?_⟩
        exact k p t _ _ (s19.free B9 np) upd_same (by omega) (by simp only [List.length_append, List.length_take, List.length_drop]; omega) zt (by rw [azB_app, azB_drop zt, azB_take zt]; rfl) ((B9.same (same_upd np)).mono (by omega)) (s19.trans (SB.of (same_upd np)))
      walk_at "rd"
      refine iteB (fun _ => ?_) (fun _ => ?_)
      · walk_at "rd"
        refine ⟨Nat.le_of_ble_eq_true rfl, fun p np => ?_⟩
        exact k p t _ _ (s19.free B9 np) upd_same (by omega) (by simp only [List.length_take]; omega) zt (azB_take zt _) ((B9.same (same_upd np)).mono (by omega)) (s19.trans (SB.of (same_upd np)))
      walk_at "rd"
      refine iteB (fun _ => ?_) (fun _ => ?_)
      · walk_at "rd"
        refine ⟨Nat.le_of_ble_eq_true rfl, fun p np => ?_⟩
        exact k p t _ _ (s19.free B9 np) upd_same (by omega) (by simp only [List.length_append, List.length_drop]; omega) zt (by rw [azB_app, azB_drop zt, zt]; rfl) ((B9.same (same_upd np)).mono (by omega)) (s19.trans (SB.of (same_upd np)))
      walk_at "rd"
      refine iteB (fun _ => ?_) (fun _ => ?_)
      · walk_at "rd"
        refine ⟨Nat.le_of_ble_eq_true rfl, fun p2 n2 => ?_⟩
        have e2 := upd_same (H := H9) (a := p2) (o := .lst [.str (S t), .str (S [])])
        have p2b := B9.ne_new n2
        walk_at "rd"
        refine ⟨b, 2, _, rfl, B9.same (same_upd n2), by omega, by omega, by omega, fun q3 HA q30 q31 BA sA => ?_⟩
        have e29 := sA _ _ p2b e2
        have s1A := s19.trans ((SB.of (same_upd n2)).trans sA)
        obtain ⟨u, eu, lu, zu⟩ : ∃ u, ([.str (S t), .str (S [])] : List V)[q3.toNat]? = some (.str (S u)) ∧ u.length ≤ 20 ∧ azB u = true := by
          have hw : q3 = 0 ∨ q3 = 1 := by omega
          rcases hw with rfl | rfl
          · exact ⟨t, rfl, by omega, zt⟩
          · exact ⟨[], rfl, by simp, rfl⟩
        refine i_ixLv e29 q30 eu ?_
        walk_at "rd"
        refine ⟨Nat.le_of_ble_eq_true rfl, fun p np => ?_⟩
        exact k p t u _ (s1A.free BA np) upd_same (by omega) (by omega) zt zu ((BA.same (same_upd np)).mono (by omega)) (s1A.trans (SB.of (same_upd np)))
      walk_at "rd"
      refine ⟨b, 13, _, rfl, B9, by omega, by omega, by omega, fun m HA m0 m1 BA sA => ?_⟩
      obtain ⟨m, rfl⟩ : ∃ n : Nat, m = n := ⟨m.toNat, by omega⟩
      walk_at "rd"
      refine ⟨b, pl, m, _, rfl, (L8.sb B8 s9).sb B9 sA, by omega, BA, by omega, fun u HB lu zu BB sB => ?_⟩
      have s1B := s19.trans (sA.trans sB)
      walk_at "rd"
      refine ⟨Nat.le_of_ble_eq_true rfl, fun p np => ?_⟩
      exact k p t u _ (s1B.free BB np) upd_same (by omega) (by omega) zt zu ((BB.same (same_upd np)).mono (by omega)) (s1B.trans (SB.of (same_upd np)))
end
end Sw
namespace Sw
open PySem PySem.Spec PyProof.Rows L2
local macro_rules | `(tactic| walk_at "hp") => `(tactic| first
  | (with_reducible assumption) | (with_reducible exact upd_same)
  | ((with_reducible refine' upd_old ?q1 ?q2); (case q1 => (with_reducible assumption)); (case q2 => walk_at "hp"))
  | ((with_reducible refine' Same.at ?q1 ?q2); (case q1 => (with_reducible assumption)); (case q2 => walk_at "hp"))
  | ((with_reducible refine' upd_skip ?q1 ?q2); (case q1 => walk_at "ne"); (case q2 => walk_at "hp"))
  | fail)
local macro_rules | `(tactic| walk_at "ne") => `(tactic| first
  | (with_reducible assumption) | (with_reducible exact Ne.symm (by assumption))
  | ((with_reducible refine' ne_of_none ?q1 ?q2); (case q2 => (with_reducible assumption)); (case q1 => walk_at "hp"))
  | fail)
local macro_rules | `(tactic| walk_at "ci") => `(tactic| first | assumption | (show (0 : Int) < _; first | decide | (with_reducible omega)) | exact ⟨by decide, by decide⟩ | exact .inl ⟨by decide, by decide⟩ | exact .inr ⟨by decide, by decide⟩)
local macro_rules | `(tactic| walk_at "ln") => `(tactic| first | (with_reducible assumption) | (with_reducible omega) | (simp only [List.length_append, List.length_take, List.length_drop, List.length_reverse, List.length_cons, List.length_nil]; with_reducible omega))
local macro_rules | `(tactic| walk_at "rd1") => `(tactic| first
  | (with_reducible refine i_seq ?_) | (with_reducible refine i_asg ?_) | (with_reducible refine i_ret ?_) | (with_reducible refine i_name ?_) | ((with_reducible refine' i_var ?q1 ?_); (case q1 => exact rfl)) | (with_reducible refine i_c ?_) | (with_reducible refine i_op ?_) | (with_reducible refine i_un ?_)
  | (with_reducible refine i_rI0 ?_) | (with_reducible refine i_cb ?_) | (with_reducible refine i_cons ?_) | (with_reducible refine i_nil ?_) | (with_reducible refine i_call ?_) | (with_reducible refine i_if ?_) | (with_reducible refine i_ifE ?_) | (with_reducible refine i_test ?_) | (with_reducible refine i_bl ?_)
  | (with_reducible refine i_and ?_) | (with_reducible refine i_or ?_) | (with_reducible refine i_not ?_) | (with_reducible refine i_lst ?_) | (with_reducible refine i_tup ?_) | (with_reducible refine i_next ?_) | (with_reducible refine i_drop ?_) | (with_reducible refine i_sub ?_)
  | (with_reducible refine i_bm ?_) | (with_reducible refine i_sl ?_) | (with_reducible refine i_part ?_) | (with_reducible refine i_nopart ?_) | (with_reducible refine i_exI ?_) | (with_reducible refine i_chain ?_) | ((with_reducible refine' i_aug ?q1 ?_); (case q1 => exact rfl)) | (with_reducible refine i_ip ?_)
  | (with_reducible refine i_par ?_) | (with_reducible refine i_pair ?_) | (with_reducible refine i_andV ?_) | (with_reducible refine i_orV ?_) | (with_reducible refine i_notV ?_) | (with_reducible refine i_m1 ?_) | (with_reducible refine i_str ?_)
  | (with_reducible refine iteF ?_) | (with_reducible refine iteT ?_) | (with_reducible refine iteNT ?_) | (with_reducible refine iteNF ?_) | (with_reducible refine i_tyS ?_) | (with_reducible refine i_tB ?_) | (with_reducible refine i_retN ?_) | (with_reducible refine i_par3 ?_) | (with_reducible refine i_trip ?_) | (with_reducible refine i_gCons ?_) | (with_reducible refine i_gNil ?_) | (with_reducible refine i_lstRg ?_) | (with_reducible refine i_rg1 ?_)
  | (with_reducible refine i_lc ?_) | (with_reducible refine i_for ?_) | (with_reducible refine i_iList ?_) | (with_reducible refine i_iTup ?_) | (with_reducible refine i_iStr ?_) | (with_reducible refine i_iRng1 ?_) | (with_reducible refine i_iEnS ?_)
  | ((with_reducible refine' i_ixTH ?q1 ?q2 ?_); (case q1 => walk_at "hp"); (case q2 => exact rfl))
  | ((with_reducible refine' i_ixLH ?q1 ?q2 ?_); (case q1 => walk_at "hp"); (case q2 => exact rfl))
  | ((with_reducible refine i_addS ?q1 ?_); (case q1 => walk_at "ln")) | ((with_reducible refine i_lenSS ?q1 ?_); (case q1 => walk_at "ln")) | ((with_reducible refine i_slFrom ?q1 ?q2 ?_); (case q1 => walk_at "ln"); (case q2 => walk_at "ln")) | ((with_reducible refine i_slTo ?q1 ?q2 ?_); (case q1 => walk_at "ln"); (case q2 => walk_at "ln"))
  | ((with_reducible refine' i_tyL ?q1 ?_); (case q1 => walk_at "hp"))
  | ((with_reducible refine' i_gTupH ?q1 ?q2 ?_); (case q1 => walk_at "hp"); (case q2 => exact rfl))
  | (with_reducible refine i_dnew ?_) | (with_reducible refine i_init ?_) | (with_reducible refine i_fst ?_) | (with_reducible refine i_mk ?_) | (with_reducible refine i_raise ?_) | (with_reducible refine i_callS ?_) | (with_reducible refine i_kwS ?_)
  | (with_reducible refine i_revT ?_) | (with_reducible refine i_kw ?_) | ((with_reducible refine' ⟨_, _, rfl, sqT_of ?q1, ?_⟩); (case q1 => walk_at "hp"))
  | (with_reducible refine i_revS ?_) | ((with_reducible refine i_revSS ?q1 ?_); (case q1 => walk_at "ln"))
  | (with_reducible refine i_startS ?_) | (with_reducible refine i_inSg ?_) | (with_reducible refine i_absN ?_) | (with_reducible refine i_min2 ?_) | (with_reducible refine i_max2 ?_) | (with_reducible refine i_min3 ?_) | (with_reducible refine i_intN ?_) | (with_reducible refine i_intNB ?_)
  | ((with_reducible refine' i_lenL ?q1 ?_); (case q1 => walk_at "hp")) | ((with_reducible refine' i_lenT ?q1 ?_); (case q1 => walk_at "hp"))
  | (with_reducible refine i_eqI ?_) | (with_reducible refine i_neI ?_) | (with_reducible refine i_eqS ?_) | (with_reducible refine i_neS ?_) | (with_reducible refine i_isNoI ?_) | (with_reducible refine i_isNoN ?_) | (with_reducible refine i_isNoR ?_)
  | ((with_reducible refine i_pow ?q1 ?q2 ?q3 ?_); (case q1 => decide); (case q2 => decide); (case q3 => (with_reducible omega)))
  | ((with_reducible refine i_rI ?q1 ?_); (case q1 => walk_at "ci"))
  | (with_reducible refine Or.inl ⟨_, rfl, ?_⟩) | (with_reducible refine Or.inr ⟨_, rfl, ?_⟩) | (with_reducible refine ⟨_, rfl, ?_⟩) | (with_reducible refine ⟨_, _, rfl, ?_⟩) | (with_reducible refine ⟨_, _, rfl, rfl, ?_⟩)
  | ((with_reducible refine' ⟨_, _, rfl, Or.inl (sqL_of ?q1), ?_⟩); (case q1 => walk_at "hp")) | ((with_reducible refine' ⟨_, _, rfl, Or.inr (sqT_of ?q1), ?_⟩); (case q1 => walk_at "hp")) | fail)
local macro_rules | `(tactic| walk_at "rd") => `(tactic| repeat' walk_at "rd1")

open Lev (lev)
theorem isT_str {K : PySem.W.Frag} {H : Hp} (l : List Nat) (h : l.length ≤ 100000) : IsT K H (.str (S l)) (azB l) := .inl ⟨l, rfl, h, rfl⟩
/-! ### data of which repr is asked -/
structure Small (n w : Nat) (d : PyData) : Prop where
  lay : d.canLay0 = true
  dep : d.depth ≤ n
  wei : d.weight ≤ w
  sh : d.showable = true
  int : d.intsShort 13 = true
  nd : d.hasDict = false
theorem Small.mono {n w n' w' : Nat} {d : PyData} (s : Small n w d) (h1 : n ≤ n') (h2 : w ≤ w') : Small n' w' d := ⟨s.lay, Nat.le_trans s.dep h1, Nat.le_trans s.wei h2, s.sh, s.int, s.nd⟩
theorem strOk_lt {l : List Nat} (h : ∀ c ∈ l, c ≤ 1000) : PyData.strOk (S l) = true := by
  unfold PyData.strOk
  rw [Array.all_eq_true]
  intro i hi
  have q := h (l[i]'(by simpa [S] using hi)) (List.getElem_mem _)
  have e : (S l).cps[i] = l[i]'(by simpa [S] using hi) := by simp [S]
  rw [e]
  exact decide_eq_true (by omega)
theorem azB_le {l : List Nat} (h : azB l = true) : ∀ c ∈ l, c ≤ 1000 := by
  unfold azB at h
  rw [List.all_eq_true] at h
  intro c hc
  have := of_decide_eq_true (h c hc)
  omega
theorem small_str {l : List Nat} (h : ∀ c ∈ l, c ≤ 1000) (n : l.length ≤ 1000) : Small 0 1000 (.str (S l)) :=
  ⟨by simp only [PyData.canLay0]; exact strOk_lt h, by simp only [PyData.depth]; omega, by simp only [PyData.weight, S_size]; exact n, by simp only [PyData.showable], by simp only [PyData.intsShort], by simp only [PyData.hasDict]⟩
theorem small_non : Small 0 1000 .none := ⟨by simp only [PyData.canLay0], by simp only [PyData.depth]; omega, by simp only [PyData.weight]; omega, by simp only [PyData.showable], by simp only [PyData.intsShort], by simp only [PyData.hasDict]⟩
theorem small_all {n w : Nat} : ∀ {ds : List PyData}, (∀ d ∈ ds, Small n w d) → PyData.canLayAll0 ds = true ∧ PyData.depthAll ds ≤ n ∧ PyData.weightAll ds ≤ ds.length * (w + 1) ∧ PyData.showableAll ds = true ∧ PyData.intsShortAll 13 ds = true ∧ PyData.hasDictAll ds = false
  | [], _ => ⟨by simp only [PyData.canLayAll0], by simp only [PyData.depthAll]; omega, by simp only [PyData.weightAll]; omega, by simp only [PyData.showableAll], by simp only [PyData.intsShortAll], by simp only [PyData.hasDictAll]⟩
  | d :: ds, h => by
    obtain ⟨a1, a2, a3, a4, a5, a6⟩ := h d List.mem_cons_self
    obtain ⟨b1, b2, b3, b4, b5, b6⟩ := small_all (ds := ds) fun x hx => h x (List.mem_cons_of_mem _ hx)
    refine ⟨by simp only [PyData.canLayAll0, a1, b1, Bool.and_self], by simp only [PyData.depthAll]; omega, ?_, by simp only [PyData.showableAll, a4, b4, Bool.and_self], by simp only [PyData.intsShortAll, a5, b5, Bool.and_self], by simp only [PyData.hasDictAll, a6, b6, Bool.or_self]⟩
    simp only [PyData.weightAll, List.length_cons, Nat.succ_mul]
    omega
theorem small_lst {n w : Nat} {ds : List PyData} (h : ∀ d ∈ ds, Small n w d) : Small (n + 1) (ds.length * (w + 1)) (.list ds) := by
  obtain ⟨b1, b2, b3, b4, b5, b6⟩ := small_all h
  exact ⟨by simp only [PyData.canLay0, b1], by simp only [PyData.depth]; omega, by simp only [PyData.weight]; exact b3, by simp only [PyData.showable, b4], by simp only [PyData.intsShort, b5], by simp only [PyData.hasDict, b6]⟩
theorem small_tup {n w : Nat} {ds : List PyData} (h : ∀ d ∈ ds, Small n w d) : Small (n + 1) (ds.length * (w + 1)) (.tuple ds) := by
  obtain ⟨b1, b2, b3, b4, b5, b6⟩ := small_all h
  exact ⟨by simp only [PyData.canLay0, b1], by simp only [PyData.depth]; omega, by simp only [PyData.weight]; exact b3, by simp only [PyData.showable, b4], by simp only [PyData.intsShort, b5], by simp only [PyData.hasDict, b6]⟩
theorem Small.shaped {n w : Nat} {d : PyData} (s : Small n w d) (h : n ≤ 60) : (PyData.canLay0 d && decide (PyData.depth d ≤ 64)) = true := by
  rw [s.lay, Bool.true_and]
  exact decide_eq_true (Nat.le_trans s.dep (by omega))
theorem i_rep {K : PySem.W.Frag} {M : Hp} {x : V} {d : PyData} {n w : Nat} {R : VK} (h1 : Dp K M x d) (s : Small n w d) (hn : n ≤ 60) (hw : w ≤ 1000000) (h : R (.str d.shown) M) : rRepD K [x] M R := by
  refine ⟨x, d, rfl, h1, s.sh, s.nd, Nat.le_trans s.dep hn, ?_, h⟩
  have l : PyData.layable0 d = true := by
    unfold PyData.layable0
    rw [s.lay, decide_eq_true (Nat.le_trans s.dep (by omega)), decide_eq_true (Nat.le_trans s.wei (by omega))]
    rfl
  exact Nat.le_trans (shown_le13 l s.int) (by decide)
mutual
theorem dp_same {K : PySem.W.Frag} {H H' : Hp} (s : Same H H') : ∀ {v : V} {d : PyData}, Dp K H v d → Dp K H' v d
  | _, _, .non => .non
  | _, _, .bl b => .bl b
  | _, _, .int i => .int i
  | _, _, .str x => .str x
  | _, _, .lst h1 h2 => .lst (Same.sqL s h1) (dpAll_same s h2)
  | _, _, .tup h1 h2 => .tup (Same.sqT s h1) (dpAll_same s h2)
theorem dpAll_same {K : PySem.W.Frag} {H H' : Hp} (s : Same H H') : ∀ {vs : List V} {ds : List PyData}, DpAll K H vs ds → DpAll K H' vs ds
  | _, _, .nil => .nil
  | _, _, .cons h1 h2 => .cons (dp_same s h1) (dpAll_same s h2)
end
theorem dp_strs {K : PySem.W.Frag} {H : Hp} : ∀ ws : List (List Nat), DpAll K H (ws.map fun l => V.str (S l)) (ws.map fun l => PyData.str (S l))
  | [] => .nil
  | l :: ws => .cons (.str _) (dp_strs ws)
theorem Fun.okG0 {P : Program} {w : World} {K : PySem.W.Frag} {mg : Str → Option Value} {base : Heap} {k : Nat} {f : Addr} {fd : FuncData} {ps : List Str} {sp : Sp} {x qual : Str} {st : Stmt} {N : List Str} (F : Fun K x qual st f fd) (S : FnScope N ps (defScope st)) (len : ∀ xs M R X, sp xs M R X → xs.length = ps.length)
    (body : ∀ (cdv : Value) (A : Around) (out : List Env) (t : Shared) (M : Hp) (xs : List V) (R : VK) (X : XK), Room k (A.deeper (envOfC qual (defScope st) t.heap.objs.size f cdv)) → A.guards = some [] → sp xs M R X →
      ∃ r, PSs (cxOf CX0 P w K mg base N qual (defScope st) f cdv A out t M X).nox (defBody st) r ∧ r { nx := fun _ M' => R .non M', rt := R } (start N xs) M) : FnG P w K mg base CX0 (k + 1) f fd ps sp :=
  Sw.Fun.okG F S len fun cdv A out t M xs R X room quiet prom => by
    obtain ⟨r, h, q⟩ := body cdv A out t M xs R X room quiet prom
    exact ⟨r, h.nox, q⟩
theorem small_nat {n : Nat} (h : n ≤ 1000) : Small 0 1000 (.int (n : Int)) := by
  have lg : n.log2 ≤ 10 := by
    rcases Nat.eq_zero_or_pos n with e | e
    · subst e; decide
    · have := (Nat.log2_lt (by omega) (k := 11)).mpr (show n < 2 ^ 11 by omega)
      omega
  refine ⟨by simp only [PyData.canLay0], by simp only [PyData.depth]; omega, ?_, ?_, ?_, by simp only [PyData.hasDict]⟩
  · simp only [PyData.weight]
    split
    · omega
    · simp only [Int.natAbs_natCast]; omega
  · simp only [PyData.showable, Int.natAbs_natCast]
    exact decide_eq_true (by omega)
  · simp only [PyData.intsShort]
    have : ∀ m : Nat, m < 1001 → (PyData.int (m : Int)).shown.length ≤ 13 := by decide +kernel
    exact decide_eq_true (this n (by omega))
def rev2 {α : Type} : List α → List α → List α
  | [], [b, a] => [a, b]
  | _, _ => []
theorem rev2_inv {α : Type} {us ws : List α} (h : (rev2 us ws).length = 2) : us = [] ∧ ∃ b a, ws = [b, a] := by
  unfold rev2 at h
  split at h
  · exact ⟨rfl, _, _, rfl⟩
  · cases h
theorem rev2_rel {vs : List V} {us : List Value} {zs : List V} {ws : List Value} (r : Vals vs us) (r2 : Vals zs ws) : Vals (rev2 vs zs) (rev2 us ws) := by
  unfold rev2
  cases r with
  | cons _ _ => exact .nil
  | nil =>
    cases r2 with
    | nil => exact .nil
    | cons a r2 =>
      cases r2 with
      | nil => exact .nil
      | cons b r2 =>
        cases r2 with
        | nil => exact .cons b (.cons a .nil)
        | cons _ _ => exact .nil
theorem names_T {P : Program} {w : World} {K : PySem.W.Frag} {mg : Str → Option Value} {base : Heap} {X : Cx} {C : Addr} (xt : XT P w K mg base C) (hm : X.mg = mg := by rfl) (hg : Gl X "InvalidText" := by rfl) : Names X "InvalidText" (.ref C) := ⟨hg, by decide, .inl (by rw [hm]; exact xt.hm)⟩

theorem first2_fun {l r u v : V} {bl br : Bool} (h : first2 l r bl br u) (h' : first2 l r bl br v) : u = v := by
  unfold first2 at h h'
  by_cases c : bl = false
  · rw [if_pos c] at h h'; rw [h, h']
  · rw [if_neg c] at h h'; rw [h.2, h'.2]
def turnKs : List Str := ["other", "one"]
def nearKs : List Str := ["most", "other", "one"]
def back3 {α : Type} : List α → List α → List α
  | [], [c, b, a] => [a, b, c]
  | _, _ => []
theorem back3_inv {α : Type} {us ws : List α} (h : (back3 us ws).length = 3) : us = [] ∧ ∃ c b a, ws = [c, b, a] := by
  unfold back3 at h
  split at h
  · exact ⟨rfl, _, _, _, rfl⟩
  · cases h
theorem back3_rel {vs : List V} {us : List Value} {zs : List V} {ws : List Value} (r : Vals vs us) (r2 : Vals zs ws) : Vals (back3 vs zs) (back3 us ws) := by
  unfold back3
  cases r with
  | cons _ _ => exact .nil
  | nil =>
    cases r2 with
    | nil => exact .nil
    | cons a r2 =>
      cases r2 with
      | nil => exact .nil
      | cons b r2 =>
        cases r2 with
        | nil => exact .nil
        | cons c r2 =>
          cases r2 with
          | nil => exact .cons c (.cons b (.cons a .nil))
          | cons _ _ => exact .nil
def told : List Nat := [116, 111, 108, 100]
def text : List Nat := [116, 101, 120, 116]
def count : List Nat := [99, 111, 117, 110, 116]
/-- _law_met(which, first, second, number) -/
def spMet (K : PySem.W.Frag) : Sp := fun vs H Q _ => ∃ (i : Int) (l r m : V) (bl br bm : Bool), vs = [.int i, l, r, m] ∧ IsT K H l bl ∧ IsT K H r br ∧ IsC K H m bm ∧ (bl = true → ∀ x, l = .str (S x) → x.length ≤ 1000) ∧ (br = true → ∀ x, r = .str (S x) → x.length ≤ 1000) ∧ (bm = true → ∀ n : Nat, m = .int (n : Int) → n ≤ 10000) ∧
  (∀ a b, l = .str (S a) → r = .str (S b) → bl = true → br = true → (i = 0 ∨ i = 1) → ∀ t H', Same H H' → H t = none → H' t = some (.lst [.str (S told), .int (lev a b : Nat)]) → Q (.ref t) H') ∧
  (∀ a b (n : Nat), l = .str (S a) → r = .str (S b) → m = .int (n : Int) → bl = true → br = true → bm = true → ¬ (i = 0 ∨ i = 1) → ∀ t H', Same H H' → H t = none → H' t = some (.lst [.str (S told), optI (Lev.within a b n)]) → Q (.ref t) H') ∧
  (∀ v, first2 l r bl br v → ∀ t H', Same H H' → H t = none → H' t = some (.lst [.str (S text), v]) → Q (.ref t) H') ∧
  (bl = true → br = true → bm = false → ¬ (i = 0 ∨ i = 1) → ∀ t H', Same H H' → H t = none → H' t = some (.lst [.str (S count), m]) → Q (.ref t) H')
/-- data, or an empty dict -/
def Dc (n w : Nat) (K : PySem.W.Frag) (H : Hp) (v : V) (d : PyData) : Prop := (Dp K H v d ∧ Small n w d) ∨ ∃ (a : Addr), v = .ref a ∧ H a = some (.dK []) ∧ d = .dict []
def rRepW (K : PySem.W.Frag) : List V → Hp → VK → Prop := fun xs M R => ∃ x d n w, xs = [x] ∧ Dc n w K M x d ∧ n ≤ 60 ∧ w ≤ 1000000 ∧ R (.str d.shown) M
theorem call_repW {X : Cx} (quiet : X.A.guards = some []) (hu : X.A.units + 64 < cLine) : CallR X (.builtin "repr") (rRepW X.K) := by
  intro pins s σ M xs us R I r h
  obtain ⟨x, d, n, w, rfl, hd, hn, hw, q⟩ := h
  rcases hd with ⟨hd, sd⟩ | ⟨a, rfl, ha, rfl⟩
  · exact call_repD quiet hu pins s σ M [x] us R I r (i_rep hd sd hn hw q)
  · obtain ⟨u, rfl, ru⟩ := vals1 r
    cases ru
    have there : ObjOk X.prog X.w M s.heap a (.dK []) := I.hok a _ ha
    obtain ⟨_, notSys, vs, kv, o, es, ep, ho, ex, hd, _, pr, _⟩ := there
    cases kv
    have none' : es.toList = [] := by
      generalize es.toList = l at pr
      cases pr
      rfl
    have rd : Reads s.heap (.ref a) (.dict []) (a :: [] ++ []) := .dict ho ex.1 hd (by rw [none']; exact .nil) (by rw [none']; exact .nil)
    refine repr_of_reads' rd (by decide +kernel) (fun _ z => ?_) quiet (by show X.A.units + (_ + 1) < cLine; simp only [PyData.depth, PyData.depthKv]; omega) (fun _ _ e => e) (fun h' t tk keep => ⟨.str _, M, I.kept (t' := tk) keep, ⟨t, rfl⟩, q⟩) (by decide +kernel)
    have z' : sysModules = a := by simpa using z
    rw [← z'] at notSys
    exact absurd notSys (by decide)
theorem i_repW {K : PySem.W.Frag} {M : Hp} {x : V} {d : PyData} {n w : Nat} {R : VK} (h : Dc n w K M x d) (hn : n ≤ 60) (hw : w ≤ 1000000) (k : R (.str d.shown) M) : rRepW K [x] M R := ⟨x, d, n, w, rfl, h, hn, hw, k⟩
theorem Dc.same {n w : Nat} {K : PySem.W.Frag} {H H' : Hp} {v : V} {d : PyData} (s : Same H H') (h : Dc n w K H v d) : Dc n w K H' v d := by
  rcases h with ⟨h1, h2⟩ | ⟨a, e, h1, h2⟩
  · exact .inl ⟨dp_same s h1, h2⟩
  · exact .inr ⟨a, e, s _ _ h1, h2⟩
theorem small_bl (b : Bool) : Small 0 1000 (.bool b) := ⟨by simp only [PyData.canLay0], by simp only [PyData.depth]; omega, by simp only [PyData.weight]; omega, by simp only [PyData.showable], by simp only [PyData.intsShort], by simp only [PyData.hasDict]⟩
section
variable {P : Program} {w : World} {K : PySem.W.Frag} {mg : Str → Option Value} {base : Heap} {f : Addr} {fd : FuncData}
theorem ok_met {C D : Addr} (F : Fun K "_law_met" "_law_met" s__law_met f fd) (xt : XT P w K mg base C) (xc : XN P w K mg base D) (hDC : PySem.W.exmOne K (.ref D) (.ref C) = some false) (x_distance : CalX P w K mg base "distance" ["one", "other"] 5 (spDistX K C)) (kx_distance : CalKX P w K mg base "distance" ["one", "other"] 5 (spDistX K C) turnKs rev2 rev2)
    (x_near : CalX P w K mg base "near" ["one", "other", "most"] 5 (spNearX K C D)) (kx_near : CalKX P w K mg base "near" ["one", "other", "most"] 5 (spNearX K C D) nearKs back3 back3) :
    FnOk P w K mg base CX0 6 f fd ["which", "first", "second", "number"] (spMet K) := by
  refine F.ok sc__law_met (fun vs H Q E h => ?_) (fun cdv A outer s H vs Q E hr h => ?_)
  · obtain ⟨i, l, r, m, _, _, _, rfl, _⟩ := h; rfl
  · obtain ⟨i, l, r, m, bl, br, bm, rfl, hl, hr', hm, nl, nr, nm, k1, k2, k3, k4⟩ := h
    refine ⟨_, (pss_one (ps_tries (Wo := fun _ _ _ _ => False) rfl rfl sc__law_met.nd takes_none (fun W pn xe tk po => (pss_cons (ps_if (pt_cmpR op_eq (pv 0) pe_int (nomark _))
          (pss_one (ps_ret (pe_lst (pa_cons (pe_strS (l := [116, 111, 108, 100]) (by decide +kernel)) (pa_cons (pe_calX x_distance hr tk (pa_cons (pv 1) (pa_cons (pv 2) pa_nil))) pa_nil)))))
          pss_nil)
        (pss_cons (ps_if (pt_cmpR op_eq (pv 0) pe_int (nomark _))
          (pss_one (ps_ret (pe_lst (pa_cons (pe_strS (l := [116, 111, 108, 100]) (by decide +kernel)) (pa_cons (pe_calKX kx_distance hr tk (pk_cons (pv 2) (pk_cons (pv 1) pk_nil))) pa_nil)))))
          pss_nil)
        (pss_cons (ps_if (pt_cmpR op_eq (pv 0) pe_int (nomark _))
          (pss_one (ps_ret (pe_lst (pa_cons (pe_strS (l := [116, 111, 108, 100]) (by decide +kernel)) (pa_cons (pe_calX x_near hr tk (pa_cons (pv 1) (pa_cons (pv 2) (pa_cons (pv 3) pa_nil)))) pa_nil)))))
          pss_nil)
        (pss_one (ps_ret (pe_lst (pa_cons (pe_strS (l := [116, 111, 108, 100]) (by decide +kernel)) (pa_cons (pe_calKX kx_near hr tk (pk_cons (pv 3) (pk_cons (pv 2) (pk_cons (pv 1) pk_nil)))) pa_nil)))))))))
      (.cons (i := 4) rfl rfl (names_T xt) (fun a oe cls d pn hz hf => (pss_one (ps_ret (pe_lst (pa_cons (pe_strS (l := [116, 101, 120, 116]) (by decide +kernel)) (pa_cons (pe_xf xt.xf xt.no hz hf (pv 4)) pa_nil)))))) (.cons (i := 4) rfl rfl (names_C xc) (fun a oe cls d pn hz hf => (pss_one (ps_ret (pe_lst (pa_cons (pe_strS (l := [99, 111, 117, 110, 116]) (by decide +kernel)) (pa_cons (pe_xf xc.xf xc.no hz hf (pv 4)) pa_nil)))))) .nil)))), ?_⟩
    walk_at "rd"
    refine iteB (fun c0 => ?_) (fun c0 => ?_)
    · walk_at "rd"
      refine ⟨l, r, bl, br, rfl, hl, hr', nl, nr, fun a b ea eb e1 e2 H1 s1 => ?_, fun v hv dx H1 nx s1 ed => ?_⟩
      · walk_at "rd"
        refine ⟨Nat.le_of_ble_eq_true rfl, fun t nt => ?_⟩
        exact k1 a b ea eb e1 e2 (by omega) t _ (Same.upd_new s1 nt) (s1.free nt) upd_same
      · refine ⟨true, xt.me, fun _ a na => ?_, fun z => by cases z⟩
        walk_at "rd"
        refine ⟨_, rfl, rfl, rfl, dx, _, v, rfl, ed, rfl, ?_⟩
        walk_at "rd"
        refine ⟨Nat.le_of_ble_eq_true rfl, fun t nt => ?_⟩
        exact k3 v hv t _ (Same.upd_new s1 nt) (s1.free nt) upd_same
    walk_at "rd"
    refine iteB (fun c1 => ?_) (fun c1 => ?_)
    · walk_at "rd"
      refine ⟨l, r, bl, br, rfl, hl, hr', nl, nr, fun a b ea eb e1 e2 H1 s1 => ?_, fun v hv dx H1 nx s1 ed => ?_⟩
      · walk_at "rd"
        refine ⟨Nat.le_of_ble_eq_true rfl, fun t nt => ?_⟩
        exact k1 a b ea eb e1 e2 (by omega) t _ (Same.upd_new s1 nt) (s1.free nt) upd_same
      · refine ⟨true, xt.me, fun _ a na => ?_, fun z => by cases z⟩
        walk_at "rd"
        refine ⟨_, rfl, rfl, rfl, dx, _, v, rfl, ed, rfl, ?_⟩
        walk_at "rd"
        refine ⟨Nat.le_of_ble_eq_true rfl, fun t nt => ?_⟩
        exact k3 v hv t _ (Same.upd_new s1 nt) (s1.free nt) upd_same
    have no : ¬ (i = 0 ∨ i = 1) := by omega
    walk_at "rd"
    refine iteB (fun c2 => ?_) (fun c2 => ?_)
    · walk_at "rd"
      refine ⟨l, r, m, bl, br, bm, rfl, hl, hr', hm, nl, nr, nm, fun a b n ea eb em e1 e2 e3 H1 s1 => ?_, fun v hv dx H1 nx s1 ed => ?_, fun e1 e2 e3 dx H1 nx s1 ed => ?_⟩
      · walk_at "rd"
        refine ⟨Nat.le_of_ble_eq_true rfl, fun t nt => ?_⟩
        exact k2 a b n ea eb em e1 e2 e3 no t _ (Same.upd_new s1 nt) (s1.free nt) upd_same
      · refine ⟨true, xt.me, fun _ a na => ?_, fun z => by cases z⟩
        walk_at "rd"
        refine ⟨_, rfl, rfl, rfl, dx, _, v, rfl, ed, rfl, ?_⟩
        walk_at "rd"
        refine ⟨Nat.le_of_ble_eq_true rfl, fun t nt => ?_⟩
        exact k3 v hv t _ (Same.upd_new s1 nt) (s1.free nt) upd_same
      · refine ⟨false, hDC, (fun z => by cases z), fun _ => ⟨true, xc.me, fun _ a na => ?_, fun z => by cases z⟩⟩
        walk_at "rd"
        refine ⟨_, rfl, rfl, rfl, dx, _, m, rfl, ed, rfl, ?_⟩
        walk_at "rd"
        refine ⟨Nat.le_of_ble_eq_true rfl, fun t nt => ?_⟩
        exact k4 e1 e2 e3 no t _ (Same.upd_new s1 nt) (s1.free nt) upd_same
    · walk_at "rd"
      refine ⟨l, r, m, bl, br, bm, rfl, hl, hr', hm, nl, nr, nm, fun a b n ea eb em e1 e2 e3 H1 s1 => ?_, fun v hv dx H1 nx s1 ed => ?_, fun e1 e2 e3 dx H1 nx s1 ed => ?_⟩
      · walk_at "rd"
        refine ⟨Nat.le_of_ble_eq_true rfl, fun t nt => ?_⟩
        exact k2 a b n ea eb em e1 e2 e3 no t _ (Same.upd_new s1 nt) (s1.free nt) upd_same
      · refine ⟨true, xt.me, fun _ a na => ?_, fun z => by cases z⟩
        walk_at "rd"
        refine ⟨_, rfl, rfl, rfl, dx, _, v, rfl, ed, rfl, ?_⟩
        walk_at "rd"
        refine ⟨Nat.le_of_ble_eq_true rfl, fun t nt => ?_⟩
        exact k3 v hv t _ (Same.upd_new s1 nt) (s1.free nt) upd_same
      · refine ⟨false, hDC, (fun z => by cases z), fun _ => ⟨true, xc.me, fun _ a na => ?_, fun z => by cases z⟩⟩
        walk_at "rd"
        refine ⟨_, rfl, rfl, rfl, dx, _, m, rfl, ed, rfl, ?_⟩
        walk_at "rd"
        refine ⟨Nat.le_of_ble_eq_true rfl, fun t nt => ?_⟩
        exact k4 e1 e2 e3 no t _ (Same.upd_new s1 nt) (s1.free nt) upd_same
end
end Sw
namespace Sw
open PySem PySem.Spec PyProof.Rows L2
local macro_rules | `(tactic| walk_at "hp") => `(tactic| first
  | (with_reducible assumption) | (with_reducible exact upd_same)
  | ((with_reducible refine' upd_old ?q1 ?q2); (case q1 => (with_reducible assumption)); (case q2 => walk_at "hp"))
  | ((with_reducible refine' Same.at ?q1 ?q2); (case q1 => (with_reducible assumption)); (case q2 => walk_at "hp"))
  | ((with_reducible refine' upd_skip ?q1 ?q2); (case q1 => walk_at "ne"); (case q2 => walk_at "hp"))
  | fail)
local macro_rules | `(tactic| walk_at "ne") => `(tactic| first
  | (with_reducible assumption) | (with_reducible exact Ne.symm (by assumption))
  | ((with_reducible refine' ne_of_none ?q1 ?q2); (case q2 => (with_reducible assumption)); (case q1 => walk_at "hp"))
  | fail)
local macro_rules | `(tactic| walk_at "ci") => `(tactic| first | assumption | (show (0 : Int) < _; first | decide | (with_reducible omega)) | exact ⟨by decide, by decide⟩ | exact .inl ⟨by decide, by decide⟩ | exact .inr ⟨by decide, by decide⟩)
local macro_rules | `(tactic| walk_at "ln") => `(tactic| first | (with_reducible assumption) | (with_reducible omega) | (simp only [List.length_append, List.length_take, List.length_drop, List.length_reverse, List.length_cons, List.length_nil]; with_reducible omega))
local macro_rules | `(tactic| walk_at "rd1") => `(tactic| first
  | (with_reducible refine i_seq ?_) | (with_reducible refine i_asg ?_) | (with_reducible refine i_ret ?_) | (with_reducible refine i_name ?_) | ((with_reducible refine' i_var ?q1 ?_); (case q1 => exact rfl)) | (with_reducible refine i_c ?_) | (with_reducible refine i_op ?_) | (with_reducible refine i_un ?_)
  | (with_reducible refine i_rI0 ?_) | (with_reducible refine i_cb ?_) | (with_reducible refine i_cons ?_) | (with_reducible refine i_nil ?_) | (with_reducible refine i_call ?_) | (with_reducible refine i_if ?_) | (with_reducible refine i_ifE ?_) | (with_reducible refine i_test ?_) | (with_reducible refine i_bl ?_)
  | (with_reducible refine i_and ?_) | (with_reducible refine i_or ?_) | (with_reducible refine i_not ?_) | (with_reducible refine i_lst ?_) | (with_reducible refine i_tup ?_) | (with_reducible refine i_next ?_) | (with_reducible refine i_drop ?_) | (with_reducible refine i_sub ?_)
  | (with_reducible refine i_bm ?_) | (with_reducible refine i_sl ?_) | (with_reducible refine i_part ?_) | (with_reducible refine i_nopart ?_) | (with_reducible refine i_exI ?_) | (with_reducible refine i_chain ?_) | ((with_reducible refine' i_aug ?q1 ?_); (case q1 => exact rfl)) | (with_reducible refine i_ip ?_)
  | (with_reducible refine i_par ?_) | (with_reducible refine i_pair ?_) | (with_reducible refine i_andV ?_) | (with_reducible refine i_orV ?_) | (with_reducible refine i_notV ?_) | (with_reducible refine i_m1 ?_) | (with_reducible refine i_str ?_)
  | (with_reducible refine iteF ?_) | (with_reducible refine iteT ?_) | (with_reducible refine iteNT ?_) | (with_reducible refine iteNF ?_) | (with_reducible refine i_tyS ?_) | (with_reducible refine i_tB ?_) | (with_reducible refine i_retN ?_) | (with_reducible refine i_par3 ?_) | (with_reducible refine i_trip ?_) | (with_reducible refine i_gCons ?_) | (with_reducible refine i_gNil ?_) | (with_reducible refine i_lstRg ?_) | (with_reducible refine i_rg1 ?_)
  | (with_reducible refine i_lc ?_) | (with_reducible refine i_for ?_) | (with_reducible refine i_iList ?_) | (with_reducible refine i_iTup ?_) | (with_reducible refine i_iStr ?_) | (with_reducible refine i_iRng1 ?_) | (with_reducible refine i_iEnS ?_)
  | ((with_reducible refine' i_ixTH ?q1 ?q2 ?_); (case q1 => walk_at "hp"); (case q2 => exact rfl))
  | ((with_reducible refine' i_ixLH ?q1 ?q2 ?_); (case q1 => walk_at "hp"); (case q2 => exact rfl))
  | ((with_reducible refine i_addS ?q1 ?_); (case q1 => walk_at "ln")) | ((with_reducible refine i_lenSS ?q1 ?_); (case q1 => walk_at "ln")) | ((with_reducible refine i_slFrom ?q1 ?q2 ?_); (case q1 => walk_at "ln"); (case q2 => walk_at "ln")) | ((with_reducible refine i_slTo ?q1 ?q2 ?_); (case q1 => walk_at "ln"); (case q2 => walk_at "ln"))
  | ((with_reducible refine' i_tyL ?q1 ?_); (case q1 => walk_at "hp"))
  | ((with_reducible refine' i_gTupH ?q1 ?q2 ?_); (case q1 => walk_at "hp"); (case q2 => exact rfl))
  | (with_reducible refine i_dnew ?_) | (with_reducible refine i_init ?_) | (with_reducible refine i_fst ?_) | (with_reducible refine i_mk ?_) | (with_reducible refine i_raise ?_) | (with_reducible refine i_callS ?_) | (with_reducible refine i_kwS ?_)
  | (with_reducible refine i_revT ?_) | (with_reducible refine i_kw ?_) | ((with_reducible refine' ⟨_, _, rfl, sqT_of ?q1, ?_⟩); (case q1 => walk_at "hp"))
  | (with_reducible refine i_revS ?_) | ((with_reducible refine i_revSS ?q1 ?_); (case q1 => walk_at "ln"))
  | (with_reducible refine i_startS ?_) | (with_reducible refine i_inSg ?_) | (with_reducible refine i_absN ?_) | (with_reducible refine i_min2 ?_) | (with_reducible refine i_max2 ?_) | (with_reducible refine i_min3 ?_) | (with_reducible refine i_intN ?_) | (with_reducible refine i_intNB ?_)
  | ((with_reducible refine' i_lenL ?q1 ?_); (case q1 => walk_at "hp")) | ((with_reducible refine' i_lenT ?q1 ?_); (case q1 => walk_at "hp"))
  | (with_reducible refine i_eqI ?_) | (with_reducible refine i_neI ?_) | (with_reducible refine i_eqS ?_) | (with_reducible refine i_neS ?_) | (with_reducible refine i_isNoI ?_) | (with_reducible refine i_isNoN ?_) | (with_reducible refine i_isNoR ?_)
  | ((with_reducible refine i_pow ?q1 ?q2 ?q3 ?_); (case q1 => decide); (case q2 => decide); (case q3 => (with_reducible omega)))
  | ((with_reducible refine i_rI ?q1 ?_); (case q1 => walk_at "ci"))
  | (with_reducible refine Or.inl ⟨_, rfl, ?_⟩) | (with_reducible refine Or.inr ⟨_, rfl, ?_⟩) | (with_reducible refine ⟨_, rfl, ?_⟩) | (with_reducible refine ⟨_, _, rfl, ?_⟩) | (with_reducible refine ⟨_, _, rfl, rfl, ?_⟩)
  | ((with_reducible refine' ⟨_, _, rfl, Or.inl (sqL_of ?q1), ?_⟩); (case q1 => walk_at "hp")) | ((with_reducible refine' ⟨_, _, rfl, Or.inr (sqT_of ?q1), ?_⟩); (case q1 => walk_at "hp")) | fail)
local macro_rules | `(tactic| walk_at "rd") => `(tactic| repeat' walk_at "rd1")

open Lev (lev)
def optD : Option Nat → PyData
  | some n => .int (n : Int)
  | none => .none
/-- ['told', n or None] -/
def toldD (o : Option Nat) : PyData := .list [.str (S told), optD o]
theorem told_small {o : Option Nat} (h : ∀ n, o = some n → n ≤ 1000) : Small 1 2002 (toldD o) := by
  refine (small_lst (n := 0) (w := 1000) fun x hx => ?_).mono (by omega) (by simp)
  simp only [List.mem_cons, List.not_mem_nil, or_false] at hx
  rcases hx with rfl | rfl
  · exact small_str (by decide) (by decide)
  · rcases o with _ | n
    · exact small_non
    · exact small_nat (h n rfl)
theorem told_dp {K : PySem.W.Frag} {H : Hp} {t : Addr} {o : Option Nat} (h : H t = some (.lst [.str (S told), optI o])) : Dp K H (.ref t) (toldD o) := by
  refine .lst (sqL_of h) (.cons (.str _) (.cons ?_ .nil))
  rcases o with _ | n
  · exact .non
  · exact .int _
theorem first2_no {l r v : V} (h : first2 l r true true v) : False := by
  unfold first2 at h
  rw [if_neg (by simp)] at h
  exact absurd h.1 (by simp)
theorem isC_nat {K : PySem.W.Frag} {H : Hp} (n : Nat) : IsC K H (.int (n : Int)) true := .inl ⟨n, rfl, by simp⟩
theorem nl_text {l : List Nat} (ll : l.length ≤ 1000) : true = true → ∀ x, V.str (S l) = .str (S x) → x.length ≤ 1000 := fun _ x e => by
  cases S_inj.mp (V.str.inj e); exact ll
/-- a good call of _law_met for the distance -/
theorem met_dist {K : PySem.W.Frag} {H : Hp} {Q : VK} {E : XK} {i : Int} {l r : List Nat} {n : Nat} (hi : i = 0 ∨ i = 1) (zl : azB l = true) (zr : azB r = true) (ll : l.length ≤ 1000) (lr : r.length ≤ 1000) (ln : n ≤ 10000) (k : ∀ t H', Same H H' → H t = none → H' t = some (.lst [.str (S told), optI (some (lev l r))]) → Q (.ref t) H') : spMet K [.int i, .str (S l), .str (S r), .int (n : Int)] H Q E := by
  refine ⟨i, _, _, _, true, true, true, rfl, by have := isT_str (K := K) (H := H) l (by omega); rwa [zl] at this, by have := isT_str (K := K) (H := H) r (by omega); rwa [zr] at this, isC_nat n, nl_text ll, nl_text lr, fun _ m e => ?_, fun a b ea eb _ _ _ t H' s n e => ?_, fun a b n _ _ _ _ _ _ no => (no hi).elim, fun v hv => (first2_no hv).elim, fun _ _ z => by cases z⟩
  · cases e; exact ln
  · cases S_inj.mp (V.str.inj ea)
    cases S_inj.mp (V.str.inj eb)
    exact k t H' s n e
/-- a good call of _law_met for near -/
theorem met_near {K : PySem.W.Frag} {H : Hp} {Q : VK} {E : XK} {i : Int} {l r : List Nat} {n : Nat} (hi : ¬ (i = 0 ∨ i = 1)) (zl : azB l = true) (zr : azB r = true) (ll : l.length ≤ 1000) (lr : r.length ≤ 1000) (ln : n ≤ 10000) (k : ∀ t H', Same H H' → H t = none → H' t = some (.lst [.str (S told), optI (Lev.within l r n)]) → Q (.ref t) H') : spMet K [.int i, .str (S l), .str (S r), .int (n : Int)] H Q E := by
  refine ⟨i, _, _, _, true, true, true, rfl, by have := isT_str (K := K) (H := H) l (by omega); rwa [zl] at this, by have := isT_str (K := K) (H := H) r (by omega); rwa [zr] at this, isC_nat n, nl_text ll, nl_text lr, fun _ m e => ?_, fun a b _ _ _ _ no => (hi no).elim, fun a b n ea eb en _ _ _ _ t H' s n e => ?_, fun v hv => (first2_no hv).elim, fun _ _ z => by cases z⟩
  · cases e; exact ln
  · cases S_inj.mp (V.str.inj ea)
    cases S_inj.mp (V.str.inj eb)
    cases en
    exact k t H' s n e
theorem within_symm (a b : List Nat) (n : Nat) : Lev.within a b n = Lev.within b a n := by
  unfold Lev.within
  rw [Lev.lev_symm a b]
theorem within_yes {a b : List Nat} {n : Nat} (h : (lev a b : Int) ≤ (n : Int)) : Lev.within a b n = some (lev a b) := by
  unfold Lev.within
  rw [if_pos (by omega)]
theorem within_no {a b : List Nat} {n : Nat} (h : ¬ (lev a b : Int) ≤ (n : Int)) : Lev.within a b n = none := by
  unfold Lev.within
  rw [if_neg (by omega)]
theorem within_some {a b : List Nat} {n m : Nat} (h : Lev.within a b n = some m) : m = lev a b := by
  unfold Lev.within at h
  split at h
  · exact (Option.some.inj h).symm
  · cases h
/-- _law_right(box, first, second) -/
def spRight : Sp := fun vs H Q _ => ∃ (b : Addr) (l r : List Nat) (d : Int), vs = [.ref b, .str (S l), .str (S r)] ∧ azB l = true ∧ azB r = true ∧ l.length ≤ 40 ∧ r.length ≤ 40 ∧ BoxAt H b d ∧ d + 20 ≤ 1000000 ∧
  ∀ H', BoxAt H' b (d + 20) → SB b H H' → Q (.bl true) H'
section
variable {P : Program} {w : World} {K : PySem.W.Frag} {mg : Str → Option Value} {base : Heap} {f : Addr} {fd : FuncData}
theorem ok_right (F : Fun K "_law_right" "_law_right" s__law_right f fd) (z : Z mg) (c__law_take : Cal P w K mg base "_law_take" ["box", "many"] 1 spTake) (c__law_met : Cal P w K mg base "_law_met" ["which", "first", "second", "number"] 6 (spMet K)) (c__law_table : Cal P w K mg base "_law_table" ["first", "second"] 1 spTable) : FnG P w K mg base CX0 7 f fd ["box", "first", "second"] spRight := by
  refine Sw.Fun.okG0 F sc__law_right (fun vs H Q E h => ?_) (fun cdv A outer s H vs Q E hr quiet h => ?_)
  · obtain ⟨b, l, r, d, rfl, _⟩ := h; rfl
  · obtain ⟨b, l, r, d, rfl, zl, zr, ll, lr, B, hd, k⟩ := h
    have lm : lev l r ≤ 40 := by
      have c := Lev.lev_le_max l r
      omega
    have smS : Small 1 2002 (toldD (some (lev l r))) := told_small fun n e => by cases e; omega
    have smN : Small 1 2002 (toldD none) := told_small fun n e => by cases e
    refine ⟨_, (pss_cons (ps_par (i := 3) (j := 4) rfl sc__law_right.nd rfl rfl (by decide) rfl rfl (pa_cons (pe_cal c__law_table hr (pa_cons (pv 1) (pa_cons (pv 2) pa_nil))) (pa_cons (pe_cal c__law_take hr (pa_cons (pv 0) (pa_cons pe_int pa_nil))) pa_nil)) (by rfl))
      (pss_cons (ps_if (pt_cmpR op_ne (pe_callB (call_repD quiet hr.units) (by rfl) z.repr (by decide +kernel) (pa_cons (pe_cal c__law_met hr (pa_cons (pv 4) (pa_cons (pv 1) (pa_cons (pv 2) (pa_cons pe_int pa_nil))))) pa_nil)) (pe_callB (call_repD quiet hr.units) (by rfl) z.repr (by decide +kernel) (pa_cons (pe_lst (pa_cons (pe_strS (l := [116, 111, 108, 100]) (by decide +kernel)) (pa_cons (pv 3) pa_nil))) pa_nil)) (nomark _))
        (pss_one (ps_ret pe_bl))
        pss_nil)
      (pss_cons (ps_for PassesOwn.never rfl (pi_list (pe_lst (pa_cons (pv 3) (pa_cons (pe_callB (call_max2N rfl) (by rfl) z.max_ (by decide +kernel) (pa_cons pe_int (pa_cons (pe_op op_sub (pv 3) pe_int) pa_nil))) (pa_cons (pe_op op_add (pv 3) pe_int) (pa_cons (pe_cal c__law_take hr (pa_cons (pv 0) (pa_cons pe_int pa_nil))) (pa_cons (pe_ix ix_list (pe_lst (pa_cons pe_int (pa_cons pe_int pa_nil))) (pe_cal c__law_take hr (pa_cons (pv 0) (pa_cons pe_int pa_nil))) (fun _ _ => rfl)) pa_nil))))))) (pg_name (i := 5) sc__law_right.nd rfl (.inl rfl))
        (pss_cons (ps_par (i := 6) (j := 7) rfl sc__law_right.nd rfl rfl (by decide) rfl rfl (pa_cons (pe_callB (call_repD quiet hr.units) (by rfl) z.repr (by decide +kernel) (pa_cons (pe_lst (pa_cons (pe_strS (l := [116, 111, 108, 100]) (by decide +kernel)) (pa_cons (pe_ifExp (pt_cmpR op_le (pv 3) (pv 5) (nomark _)) (pv 3) pe_non) pa_nil))) pa_nil)) (pa_cons (pe_cmpR op_eq (pe_cal c__law_take hr (pa_cons (pv 0) (pa_cons pe_int pa_nil))) pe_int (nomark _)) pa_nil)) (by rfl))
        (pss_cons (ps_set (i := 8) sc__law_right.nd rfl (.inl rfl) (pe_cal c__law_met hr (pa_cons (pe_op op_add pe_int (pe_cal c__law_take hr (pa_cons (pv 0) (pa_cons pe_int pa_nil)))) (pa_cons (pe_ifExp (pt_val (pv 7)) (pv 2) (pv 1)) (pa_cons (pe_ifExp (pt_val (pv 7)) (pv 1) (pv 2)) (pa_cons (pv 5) pa_nil))))))
        (pss_one (ps_if (pt_cmpR op_ne (pe_callB (call_repD quiet hr.units) (by rfl) z.repr (by decide +kernel) (pa_cons (pv 8) pa_nil)) (pv 6) (nomark _))
          (pss_one (ps_ret pe_bl))
          pss_nil)))))
      (pss_cons (ps_if (pt_cmpR op_ne (pe_callB (call_repD quiet hr.units) (by rfl) z.repr (by decide +kernel) (pa_cons (pe_cal c__law_met hr (pa_cons (pe_op op_sub pe_int (pv 4)) (pa_cons (pv 2) (pa_cons (pv 1) (pa_cons pe_int pa_nil))))) pa_nil)) (pe_callB (call_repD quiet hr.units) (by rfl) z.repr (by decide +kernel) (pa_cons (pe_lst (pa_cons (pe_strS (l := [116, 111, 108, 100]) (by decide +kernel)) (pa_cons (pv 3) pa_nil))) pa_nil)) (nomark _))
        (pss_one (ps_ret pe_bl))
        pss_nil)
      (pss_one (ps_ret (pe_cmpR op_eq (pe_callB (call_repD quiet hr.units) (by rfl) z.repr (by decide +kernel) (pa_cons (pe_cal c__law_met hr (pa_cons (pv 4) (pa_cons (pv 1) (pa_cons (pv 1) (pa_cons pe_int pa_nil))))) pa_nil)) (pe_callB (call_repD quiet hr.units) (by rfl) z.repr (by decide +kernel) (pa_cons (pe_lst (pa_cons (pe_strS (l := [116, 111, 108, 100]) (by decide +kernel)) (pa_cons pe_int pa_nil))) pa_nil)) (nomark _)))))))), ?_⟩
    walk_at "rd"
    refine ⟨l, r, rfl, by omega, by omega, fun H1 s1 => ?_⟩
    walk_at "rd"
    refine ⟨b, 2, d, rfl, B.same s1, by omega, by omega, by omega, fun wh H2 w0 w1 B2 s2 => ?_⟩
    have s12 := (SB.of s1).trans s2
    have hwh : wh = 0 ∨ wh = 1 := by omega
    walk_at "rd"
    refine met_dist (n := 0) hwh zl zr (by omega) (by omega) (by omega) fun t3 H3 s3 n3 e3 => ?_
    walk_at "rd"
    refine i_rep (told_dp e3) smS (by omega) (by omega) ?_
    walk_at "rd"
    refine ⟨Nat.le_of_ble_eq_true rfl, fun p4 n4 => ?_⟩
    walk_at "rd"
    refine i_rep (told_dp (o := some _) upd_same) smS (by omega) (by omega) ?_
    walk_at "rd"
    refine ⟨rfl, ?_⟩
    rw [decide_eq_true rfl]
    walk_at "rd"
    have t34 := s3.trans (same_upd (o := .lst [.str (S told), .int (lev l r : Nat)]) n4)
    have B4 := B2.same t34
    have s14 := s12.trans (SB.of t34)
    refine ⟨b, 13, _, rfl, B4, by omega, by omega, by omega, fun q5 H5 q50 q51 B5 s5 => ?_⟩
    obtain ⟨q5, rfl⟩ : ∃ n : Nat, q5 = n := ⟨q5.toNat, by omega⟩
    walk_at "rd"
    refine ⟨Nat.le_of_ble_eq_true rfl, fun p6 n6 => ?_⟩
    have e6 := upd_same (H := H5) (a := p6) (o := .lst [.int 0, .int 400])
    have t6 := same_upd (o := .lst [.int 0, .int 400]) n6
    have p6b := B5.ne_new n6
    have B6 := B5.same t6
    generalize upd H5 p6 (.lst [.int 0, .int 400]) = H6 at *
    walk_at "rd"
    refine ⟨b, 2, _, rfl, B6, by omega, by omega, by omega, fun q7 H7 q70 q71 B7 s7 => ?_⟩
    have e67 := s7 _ _ p6b e6
    obtain ⟨q8, eq8, hq8⟩ : ∃ n : Nat, ([.int 0, .int 400] : List V)[q7.toNat]? = some (.int n) ∧ n ≤ 400 := by
      have hw : q7 = 0 ∨ q7 = 1 := by omega
      rcases hw with rfl | rfl
      · exact ⟨0, rfl, by omega⟩
      · exact ⟨400, rfl, by omega⟩
    refine i_ixLv e67 q70 eq8 ?_
    walk_at "rd"
    refine ⟨Nat.le_of_ble_eq_true rfl, fun pl npl => ?_⟩
    rw [show max 0 ((lev l r : Int) - 1) = ((lev l r - 1 : Nat) : Int) by omega, show (lev l r : Int) + 1 = ((lev l r + 1 : Nat) : Int) by omega]
    have hall : ∀ (j : Nat) (x : V), ([.int (lev l r : Nat), .int (lev l r - 1 : Nat), .int (lev l r + 1 : Nat), .int q5, .int q8] : List V)[j]? = some x → j < 5 → ∃ n : Nat, x = .int n ∧ n ≤ 1000 := by
      intro j x hx hj
      have hj5 : j = 0 ∨ j = 1 ∨ j = 2 ∨ j = 3 ∨ j = 4 := by omega
      rcases hj5 with rfl | rfl | rfl | rfl | rfl <;> cases hx <;> exact ⟨_, rfl, by omega⟩
    have el := upd_same (H := H7) (a := pl) (o := .lst [.int (lev l r : Nat), .int (lev l r - 1 : Nat), .int (lev l r + 1 : Nat), .int q5, .int q8])
    have t8 := same_upd (o := .lst [.int (lev l r : Nat), .int (lev l r - 1 : Nat), .int (lev l r + 1 : Nat), .int q5, .int q8]) npl
    have plb := B7.ne_new npl
    have B8 := B7.same t8
    generalize upd H7 pl (.lst [.int (lev l r : Nat), .int (lev l r - 1 : Nat), .int (lev l r + 1 : Nat), .int q5, .int q8]) = H8 at *
    have s18 := s14.trans (s5.trans ((SB.of t6).trans (s7.trans (SB.of t8))))
    refine ⟨pl, rfl, i_sqL (sqL_of el) ?_⟩
    refine go_for (walk_list (xs := [.int (lev l r : Nat), .int (lev l r - 1 : Nat), .int (lev l r + 1 : Nat), .int q5, .int q8])) (fun j σ H9 => ∃ (u5 u6 u7 u8 : Option V), σ = [some (.ref b), some (.str (S l)), some (.str (S r)), some (.int (lev l r : Nat)), some (.int wh), u5, u6, u7, u8] ∧ SB b H8 H9 ∧ BoxAt H9 b (d + 3 + 2 * j)) ⟨_, _, _, _, rfl, SB.refl _, B8.mono (by omega)⟩ (fun j σ H9 _ h => ?_) (fun j x σ H9 HA hj h y => ?_) (fun σ H9 h => ?_)
    · obtain ⟨_, _, _, _, _, s9, _⟩ := h
      exact sqL_of (s9 _ _ plb el)
    · obtain ⟨u5, u6, u7, u8, rfl, s9, B9⟩ := h
      obtain ⟨rfl, hx⟩ := y
      have hj5 : j < 5 := hj
      obtain ⟨n, rfl, hn⟩ := hall j x hx hj5
      walk_at "rd"
      refine iteC (fun c => ?_) (fun c => ?_)
      · walk_at "rd"
        refine ⟨Nat.le_of_ble_eq_true rfl, fun p1 n1 => ?_⟩
        have wi : Lev.within l r n = some (lev l r) := within_yes (of_decide_eq_true c)
        walk_at "rd"
        refine i_rep (told_dp (o := some (lev l r)) upd_same) smS (by omega) (by omega) ?_
        have t1 := same_upd (o := .lst [.str (S told), optI (some (lev l r))]) n1
        walk_at "rd"
        refine ⟨b, 2, _, rfl, B9.same t1, by omega, by omega, by omega, fun sw HB sw0 sw1 BB sB => ?_⟩
        walk_at "rd"
        refine ⟨b, 2, _, rfl, BB, by omega, by omega, by omega, fun wq HC wq0 wq1 BC sC => ?_⟩
        have s9C := s9.trans ((SB.of t1).trans (sB.trans sC))
        walk_at "rd"
        refine iteC (fun cs => ?_) (fun cs => ?_)
        · walk_at "rd"
          refine iteC (fun _ => ?_) (fun c' => Bool.noConfusion (cs.symm.trans c'))
          walk_at "rd"
          refine met_near (by omega) zr zl (by omega) (by omega) (by omega) fun t5 HD s5' n5' e5 => ?_
          rw [within_symm, wi] at e5
          walk_at "rd"
          refine i_rep (told_dp e5) smS (by omega) (by omega) ?_
          walk_at "rd"
          refine ⟨rfl, ?_⟩
          rw [decide_eq_true rfl]
          walk_at "rd"
          exact ⟨_, _, _, _, rfl, s9C.trans (SB.of s5'), (BC.same s5').mono (by omega)⟩
        · walk_at "rd"
          refine iteC (fun c' => Bool.noConfusion (cs.symm.trans c')) (fun _ => ?_)
          walk_at "rd"
          refine met_near (by omega) zl zr (by omega) (by omega) (by omega) fun t5 HD s5' n5' e5 => ?_
          rw [wi] at e5
          walk_at "rd"
          refine i_rep (told_dp e5) smS (by omega) (by omega) ?_
          walk_at "rd"
          refine ⟨rfl, ?_⟩
          rw [decide_eq_true rfl]
          walk_at "rd"
          exact ⟨_, _, _, _, rfl, s9C.trans (SB.of s5'), (BC.same s5').mono (by omega)⟩
      · walk_at "rd"
        refine ⟨Nat.le_of_ble_eq_true rfl, fun p1 n1 => ?_⟩
        have wi : Lev.within l r n = none := within_no (of_decide_eq_false c)
        walk_at "rd"
        refine i_rep (told_dp (o := none) upd_same) smN (by omega) (by omega) ?_
        have t1 := same_upd (o := .lst [.str (S told), optI (none)]) n1
        walk_at "rd"
        refine ⟨b, 2, _, rfl, B9.same t1, by omega, by omega, by omega, fun sw HB sw0 sw1 BB sB => ?_⟩
        walk_at "rd"
        refine ⟨b, 2, _, rfl, BB, by omega, by omega, by omega, fun wq HC wq0 wq1 BC sC => ?_⟩
        have s9C := s9.trans ((SB.of t1).trans (sB.trans sC))
        walk_at "rd"
        refine iteC (fun cs => ?_) (fun cs => ?_)
        · walk_at "rd"
          refine iteC (fun _ => ?_) (fun c' => Bool.noConfusion (cs.symm.trans c'))
          walk_at "rd"
          refine met_near (by omega) zr zl (by omega) (by omega) (by omega) fun t5 HD s5' n5' e5 => ?_
          rw [within_symm, wi] at e5
          walk_at "rd"
          refine i_rep (told_dp e5) smN (by omega) (by omega) ?_
          walk_at "rd"
          refine ⟨rfl, ?_⟩
          rw [decide_eq_true rfl]
          walk_at "rd"
          exact ⟨_, _, _, _, rfl, s9C.trans (SB.of s5'), (BC.same s5').mono (by omega)⟩
        · walk_at "rd"
          refine iteC (fun c' => Bool.noConfusion (cs.symm.trans c')) (fun _ => ?_)
          walk_at "rd"
          refine met_near (by omega) zl zr (by omega) (by omega) (by omega) fun t5 HD s5' n5' e5 => ?_
          rw [wi] at e5
          walk_at "rd"
          refine i_rep (told_dp e5) smN (by omega) (by omega) ?_
          walk_at "rd"
          refine ⟨rfl, ?_⟩
          rw [decide_eq_true rfl]
          walk_at "rd"
          exact ⟨_, _, _, _, rfl, s9C.trans (SB.of s5'), (BC.same s5').mono (by omega)⟩
    · obtain ⟨u5, u6, u7, u8, rfl, s9, B9⟩ := h
      replace B9 : BoxAt H9 b (d + 13) := B9.mono (by simp only [List.length_cons, List.length_nil]; omega)
      walk_at "rd"
      refine met_dist (n := 0) (by omega) zr zl (by omega) (by omega) (by omega) fun t3 HA sA nA eA => ?_
      rw [Lev.lev_symm] at eA
      walk_at "rd"
      refine i_rep (told_dp eA) smS (by omega) (by omega) ?_
      walk_at "rd"
      refine ⟨Nat.le_of_ble_eq_true rfl, fun p4 n4 => ?_⟩
      walk_at "rd"
      refine i_rep (told_dp (o := some _) upd_same) smS (by omega) (by omega) ?_
      walk_at "rd"
      refine ⟨rfl, ?_⟩
      rw [decide_eq_true rfl]
      walk_at "rd"
      refine met_dist (n := 0) hwh zl zl (by omega) (by omega) (by omega) fun t3 HB sB nB eB => ?_
      rw [Lev.lev_self] at eB
      have sm0 : Small 1 2002 (toldD (some 0)) := told_small fun n e => by cases e; omega
      walk_at "rd"
      refine i_rep (told_dp eB) sm0 (by omega) (by omega) ?_
      walk_at "rd"
      refine ⟨Nat.le_of_ble_eq_true rfl, fun p5 n5 => ?_⟩
      walk_at "rd"
      refine i_rep (told_dp (o := some 0) upd_same) sm0 (by omega) (by omega) ?_
      refine ⟨rfl, ?_⟩
      rw [decide_eq_true rfl]
      have sAB := (sA.trans (same_upd (o := .lst [.str (S told), .int (lev l r : Nat)]) n4)).trans (sB.trans (same_upd (o := .lst [.str (S told), .int (0 : Nat)]) n5))
      exact k _ ((B9.same sAB).mono (by omega)) (s18.trans (s9.trans (SB.of sAB)))
end
end Sw
namespace Sw
open PySem PySem.Spec PyProof.Rows L2
local macro_rules | `(tactic| walk_at "hp") => `(tactic| first
  | (with_reducible assumption) | (with_reducible exact upd_same)
  | ((with_reducible refine' upd_old ?q1 ?q2); (case q1 => (with_reducible assumption)); (case q2 => walk_at "hp"))
  | ((with_reducible refine' Same.at ?q1 ?q2); (case q1 => (with_reducible assumption)); (case q2 => walk_at "hp"))
  | ((with_reducible refine' upd_skip ?q1 ?q2); (case q1 => walk_at "ne"); (case q2 => walk_at "hp"))
  | fail)
local macro_rules | `(tactic| walk_at "ne") => `(tactic| first
  | (with_reducible assumption) | (with_reducible exact Ne.symm (by assumption))
  | ((with_reducible refine' ne_of_none ?q1 ?q2); (case q2 => (with_reducible assumption)); (case q1 => walk_at "hp"))
  | fail)
local macro_rules | `(tactic| walk_at "ci") => `(tactic| first | assumption | (show (0 : Int) < _; first | decide | (with_reducible omega)) | exact ⟨by decide, by decide⟩ | exact .inl ⟨by decide, by decide⟩ | exact .inr ⟨by decide, by decide⟩)
local macro_rules | `(tactic| walk_at "ln") => `(tactic| first | (with_reducible assumption) | (with_reducible omega) | (simp only [List.length_append, List.length_take, List.length_drop, List.length_reverse, List.length_cons, List.length_nil]; with_reducible omega))
local macro_rules | `(tactic| walk_at "rd1") => `(tactic| first
  | (with_reducible refine i_seq ?_) | (with_reducible refine i_asg ?_) | (with_reducible refine i_ret ?_) | (with_reducible refine i_name ?_) | ((with_reducible refine' i_var ?q1 ?_); (case q1 => exact rfl)) | (with_reducible refine i_c ?_) | (with_reducible refine i_op ?_) | (with_reducible refine i_un ?_)
  | (with_reducible refine i_rI0 ?_) | (with_reducible refine i_cb ?_) | (with_reducible refine i_cons ?_) | (with_reducible refine i_nil ?_) | (with_reducible refine i_call ?_) | (with_reducible refine i_if ?_) | (with_reducible refine i_ifE ?_) | (with_reducible refine i_test ?_) | (with_reducible refine i_bl ?_)
  | (with_reducible refine i_and ?_) | (with_reducible refine i_or ?_) | (with_reducible refine i_not ?_) | (with_reducible refine i_lst ?_) | (with_reducible refine i_tup ?_) | (with_reducible refine i_next ?_) | (with_reducible refine i_drop ?_) | (with_reducible refine i_sub ?_)
  | (with_reducible refine i_bm ?_) | (with_reducible refine i_sl ?_) | (with_reducible refine i_part ?_) | (with_reducible refine i_nopart ?_) | (with_reducible refine i_exI ?_) | (with_reducible refine i_chain ?_) | ((with_reducible refine' i_aug ?q1 ?_); (case q1 => exact rfl)) | (with_reducible refine i_ip ?_)
  | (with_reducible refine i_par ?_) | (with_reducible refine i_pair ?_) | (with_reducible refine i_andV ?_) | (with_reducible refine i_orV ?_) | (with_reducible refine i_notV ?_) | (with_reducible refine i_m1 ?_) | (with_reducible refine i_str ?_)
  | (with_reducible refine iteF ?_) | (with_reducible refine iteT ?_) | (with_reducible refine iteNT ?_) | (with_reducible refine iteNF ?_) | (with_reducible refine i_tyS ?_) | (with_reducible refine i_tB ?_) | (with_reducible refine i_retN ?_) | (with_reducible refine i_par3 ?_) | (with_reducible refine i_trip ?_) | (with_reducible refine i_gCons ?_) | (with_reducible refine i_gNil ?_) | (with_reducible refine i_lstRg ?_) | (with_reducible refine i_rg1 ?_)
  | (with_reducible refine i_lc ?_) | (with_reducible refine i_for ?_) | (with_reducible refine i_iList ?_) | (with_reducible refine i_iTup ?_) | (with_reducible refine i_iStr ?_) | (with_reducible refine i_iRng1 ?_) | (with_reducible refine i_iEnS ?_)
  | ((with_reducible refine' i_ixTH ?q1 ?q2 ?_); (case q1 => walk_at "hp"); (case q2 => exact rfl))
  | ((with_reducible refine' i_ixLH ?q1 ?q2 ?_); (case q1 => walk_at "hp"); (case q2 => exact rfl))
  | ((with_reducible refine i_addS ?q1 ?_); (case q1 => walk_at "ln")) | ((with_reducible refine i_lenSS ?q1 ?_); (case q1 => walk_at "ln")) | ((with_reducible refine i_slFrom ?q1 ?q2 ?_); (case q1 => walk_at "ln"); (case q2 => walk_at "ln")) | ((with_reducible refine i_slTo ?q1 ?q2 ?_); (case q1 => walk_at "ln"); (case q2 => walk_at "ln"))
  | ((with_reducible refine' i_tyL ?q1 ?_); (case q1 => walk_at "hp"))
  | ((with_reducible refine' i_gTupH ?q1 ?q2 ?_); (case q1 => walk_at "hp"); (case q2 => exact rfl))
  | (with_reducible refine i_dnew ?_) | (with_reducible refine i_init ?_) | (with_reducible refine i_fst ?_) | (with_reducible refine i_mk ?_) | (with_reducible refine i_raise ?_) | (with_reducible refine i_callS ?_) | (with_reducible refine i_kwS ?_)
  | (with_reducible refine i_revT ?_) | (with_reducible refine i_kw ?_) | ((with_reducible refine' ⟨_, _, rfl, sqT_of ?q1, ?_⟩); (case q1 => walk_at "hp"))
  | (with_reducible refine i_revS ?_) | ((with_reducible refine i_revSS ?q1 ?_); (case q1 => walk_at "ln"))
  | (with_reducible refine i_startS ?_) | (with_reducible refine i_inSg ?_) | (with_reducible refine i_absN ?_) | (with_reducible refine i_min2 ?_) | (with_reducible refine i_max2 ?_) | (with_reducible refine i_min3 ?_) | (with_reducible refine i_intN ?_) | (with_reducible refine i_intNB ?_)
  | ((with_reducible refine' i_lenL ?q1 ?_); (case q1 => walk_at "hp")) | ((with_reducible refine' i_lenT ?q1 ?_); (case q1 => walk_at "hp"))
  | (with_reducible refine i_eqI ?_) | (with_reducible refine i_neI ?_) | (with_reducible refine i_eqS ?_) | (with_reducible refine i_neS ?_) | (with_reducible refine i_isNoI ?_) | (with_reducible refine i_isNoN ?_) | (with_reducible refine i_isNoR ?_)
  | ((with_reducible refine i_pow ?q1 ?q2 ?q3 ?_); (case q1 => decide); (case q2 => decide); (case q3 => (with_reducible omega)))
  | ((with_reducible refine i_rI ?q1 ?_); (case q1 => walk_at "ci"))
  | (with_reducible refine Or.inl ⟨_, rfl, ?_⟩) | (with_reducible refine Or.inr ⟨_, rfl, ?_⟩) | (with_reducible refine ⟨_, rfl, ?_⟩) | (with_reducible refine ⟨_, _, rfl, ?_⟩) | (with_reducible refine ⟨_, _, rfl, rfl, ?_⟩)
  | ((with_reducible refine' ⟨_, _, rfl, Or.inl (sqL_of ?q1), ?_⟩); (case q1 => walk_at "hp")) | ((with_reducible refine' ⟨_, _, rfl, Or.inr (sqT_of ?q1), ?_⟩); (case q1 => walk_at "hp")) | fail)
local macro_rules | `(tactic| walk_at "rd") => `(tactic| repeat' walk_at "rd1")

open Lev (lev)
theorem azB_repl {c : Nat} (h : azB [c] = true) (n : Nat) : azB (List.replicate n c) = true := by
  rw [← Lev.flat_rep]
  exact azB_rep h n
/-- _law_long_right(box) -/
def spLong : Sp := fun vs H Q _ => ∃ (b : Addr) (d : Int), vs = [.ref b] ∧ BoxAt H b d ∧ d + 100 ≤ 1000000 ∧ ∀ H', BoxAt H' b (d + 100) → SB b H H' → Q (.bl true) H'
section
variable {P : Program} {w : World} {K : PySem.W.Frag} {mg : Str → Option Value} {base : Heap} {f : Addr} {fd : FuncData}
theorem ok_long (F : Fun K "_law_long_right" "_law_long_right" s__law_long_right f fd) (z : Z mg) (c__law_take : Cal P w K mg base "_law_take" ["box", "many"] 1 spTake) (c__law_met : Cal P w K mg base "_law_met" ["which", "first", "second", "number"] 6 (spMet K)) : FnG P w K mg base CX0 7 f fd ["box"] spLong := by
  refine Sw.Fun.okG0 F sc__law_long_right (fun vs H Q E h => ?_) (fun cdv A outer s H vs Q E hr quiet h => ?_)
  · obtain ⟨b, d, rfl, _⟩ := h; rfl
  · obtain ⟨b, d, rfl, B, hd, k⟩ := h
    refine ⟨_, (pss_cons (ps_set (i := 1) sc__law_long_right.nd rfl (.inl rfl) (pe_ix ix_list (pe_lst (pa_cons pe_int (pa_cons (pe_cal c__law_take hr (pa_cons (pv 0) (pa_cons pe_int pa_nil))) (pa_cons (pe_op op_add pe_int (pe_cal c__law_take hr (pa_cons (pv 0) (pa_cons pe_int pa_nil)))) pa_nil)))) (pe_cal c__law_take hr (pa_cons (pv 0) (pa_cons pe_int pa_nil))) (fun _ _ => rfl)))
      (pss_cons (ps_set (i := 2) sc__law_long_right.nd rfl (.inl rfl) (pe_cal c__law_take hr (pa_cons (pv 0) (pa_cons (pe_op op_add (pe_callB (call_min2N rfl) (by rfl) z.min_ (by decide +kernel) (pa_cons pe_int (pa_cons (pe_op op_fdiv pe_int (pe_op op_add (pv 1) pe_int)) pa_nil))) pe_int) pa_nil))))
      (pss_cons (ps_asg (pe_ix ix_list (pe_lst (pa_cons (pe_strS (l := [97, 98]) (by decide +kernel)) (pa_cons (pe_strS (l := [97, 97]) (by decide +kernel)) (pa_cons (pe_strS (l := [113, 122]) (by decide +kernel)) pa_nil)))) (pe_cal c__law_take hr (pa_cons (pv 0) (pa_cons pe_int pa_nil))) (fun _ _ => rfl)) (pg_str2 rfl (pgs_cons (pg_name (i := 3) sc__law_long_right.nd rfl (.inl rfl)) (pgs_cons (pg_name (i := 4) sc__law_long_right.nd rfl (.inl rfl)) pgs_nil))))
      (pss_cons (ps_asg (pe_ix ix_list (pe_lst (pa_cons (pe_lst (pa_cons (pe_op op_mulS (pv 3) (pv 1)) (pa_cons (pe_op op_mulS (pv 4) (pv 2)) pa_nil))) (pa_cons (pe_lst (pa_cons (pe_op op_mulS (pv 4) (pv 2)) (pa_cons (pe_op op_mulS (pv 3) (pv 1)) pa_nil))) pa_nil))) (pe_cal c__law_take hr (pa_cons (pv 0) (pa_cons pe_int pa_nil))) (fun _ _ => rfl)) (pg_lst rfl (pgs_cons (pg_name (i := 5) sc__law_long_right.nd rfl (.inl rfl)) (pgs_cons (pg_name (i := 6) sc__law_long_right.nd rfl (.inl rfl)) pgs_nil))))
      (pss_cons (ps_set (i := 7) sc__law_long_right.nd rfl (.inl rfl) (pe_ifExp (pt_cmpR op_ne (pv 3) (pv 4) (nomark _)) (pe_callB (call_max2N rfl) (by rfl) z.max_ (by decide +kernel) (pa_cons (pv 1) (pa_cons (pv 2) pa_nil))) (pe_callB call_absN (by rfl) z.abs (by decide +kernel) (pa_cons (pe_op op_sub (pv 1) (pv 2)) pa_nil))))
      (pss_cons (ps_for PassesOwn.never rfl (pi_list (pe_lst (pa_cons (pv 7) (pa_cons (pe_callB (call_max2N rfl) (by rfl) z.max_ (by decide +kernel) (pa_cons pe_int (pa_cons (pe_op op_sub (pv 7) pe_int) pa_nil))) (pa_cons (pe_cal c__law_take hr (pa_cons (pv 0) (pa_cons pe_int pa_nil))) pa_nil))))) (pg_name (i := 8) sc__law_long_right.nd rfl (.inl rfl))
        (pss_one (ps_if (pt_cmpR op_ne (pe_callB (call_repD quiet hr.units) (by rfl) z.repr (by decide +kernel) (pa_cons (pe_cal c__law_met hr (pa_cons (pe_op op_add pe_int (pe_cal c__law_take hr (pa_cons (pv 0) (pa_cons pe_int pa_nil)))) (pa_cons (pv 5) (pa_cons (pv 6) (pa_cons (pv 8) pa_nil))))) pa_nil)) (pe_callB (call_repD quiet hr.units) (by rfl) z.repr (by decide +kernel) (pa_cons (pe_lst (pa_cons (pe_strS (l := [116, 111, 108, 100]) (by decide +kernel)) (pa_cons (pe_ifExp (pt_cmpR op_le (pv 7) (pv 8) (nomark _)) (pv 7) pe_non) pa_nil))) pa_nil)) (nomark _))
          (pss_one (ps_ret pe_bl))
          pss_nil)))
      (pss_one (ps_ret (pe_cmpR op_eq (pe_callB (call_repD quiet hr.units) (by rfl) z.repr (by decide +kernel) (pa_cons (pe_cal c__law_met hr (pa_cons (pe_cal c__law_take hr (pa_cons (pv 0) (pa_cons pe_int pa_nil))) (pa_cons (pv 5) (pa_cons (pv 6) (pa_cons pe_int pa_nil))))) pa_nil)) (pe_callB (call_repD quiet hr.units) (by rfl) z.repr (by decide +kernel) (pa_cons (pe_lst (pa_cons (pe_strS (l := [116, 111, 108, 100]) (by decide +kernel)) (pa_cons (pv 7) pa_nil))) pa_nil)) (nomark _)))))))))), ?_⟩
    walk_at "rd"
    refine ⟨b, 401, d, rfl, B, by omega, by omega, by omega, fun q1 H1 q10 q11 B1 s1 => ?_⟩
    obtain ⟨q1, rfl⟩ : ∃ n : Nat, q1 = n := ⟨q1.toNat, by omega⟩
    walk_at "rd"
    refine ⟨b, 50, _, rfl, B1, by omega, by omega, by omega, fun q2 H2 q20 q21 B2 s2 => ?_⟩
    obtain ⟨q2, rfl⟩ : ∃ n : Nat, q2 = n := ⟨q2.toNat, by omega⟩
    walk_at "rd"
    rw [show (41 : Int) + (q2 : Int) = ((41 + q2 : Nat) : Int) by omega]
    refine ⟨Nat.le_of_ble_eq_true rfl, fun p3 n3 => ?_⟩
    have e3 := upd_same (H := H2) (a := p3) (o := .lst [.int 400, .int (q1 : Nat), .int (41 + q2 : Nat)])
    have t3 := same_upd (o := .lst [.int 400, .int (q1 : Nat), .int (41 + q2 : Nat)]) n3
    have p3b := B2.ne_new n3
    have B3 := B2.same t3
    generalize upd H2 p3 (.lst [.int 400, .int (q1 : Nat), .int (41 + q2 : Nat)]) = H3 at *
    walk_at "rd"
    refine ⟨b, 3, _, rfl, B3, by omega, by omega, by omega, fun q4 H4 q40 q41 B4 s4 => ?_⟩
    have e34 := s4 _ _ p3b e3
    obtain ⟨n, en, hn⟩ : ∃ n : Nat, ([.int 400, .int (q1 : Nat), .int (41 + q2 : Nat)] : List V)[q4.toNat]? = some (.int n) ∧ n ≤ 400 := by
      have hw : q4 = 0 ∨ q4 = 1 ∨ q4 = 2 := by omega
      rcases hw with rfl | rfl | rfl
      · exact ⟨400, rfl, by omega⟩
      · exact ⟨q1, rfl, by omega⟩
      · exact ⟨41 + q2, rfl, by omega⟩
    refine i_ixLv e34 q40 en ?_
    have s14 := s1.trans (s2.trans ((SB.of t3).trans s4))
    walk_at "rd"
    refine i_rI ⟨by omega, by omega⟩ ?_
    have hq := Int.ediv_nonneg (show (0 : Int) ≤ 6000 by omega) (show (0 : Int) ≤ (n : Int) + 1 by omega)
    generalize (6000 : Int) / ((n : Int) + 1) = qq at *
    walk_at "rd"
    refine ⟨b, _, _, rfl, B4, by omega, by omega, by omega, fun m H5 m0 m1 B5 s5 => ?_⟩
    obtain ⟨m, rfl⟩ : ∃ n : Nat, m = n := ⟨m.toNat, by omega⟩
    have hm : m ≤ 400 := by omega
    walk_at "rd"
    refine ⟨Nat.le_of_ble_eq_true rfl, fun p6 n6 => ?_⟩
    have e6 := upd_same (H := H5) (a := p6) (o := .lst [.str (S [97, 98]), .str (S [97, 97]), .str (S [113, 122])])
    have t6 := same_upd (o := .lst [.str (S [97, 98]), .str (S [97, 97]), .str (S [113, 122])]) n6
    have p6b := B5.ne_new n6
    have B6 := B5.same t6
    generalize upd H5 p6 (.lst [.str (S [97, 98]), .str (S [97, 97]), .str (S [113, 122])]) = H6 at *
    walk_at "rd"
    refine ⟨b, 3, _, rfl, B6, by omega, by omega, by omega, fun q7 H7 q70 q71 B7 s7 => ?_⟩
    have e67 := s7 _ _ p6b e6
    obtain ⟨x, y, exy, zx, zy⟩ : ∃ x y : Nat, ([.str (S [97, 98]), .str (S [97, 97]), .str (S [113, 122])] : List V)[q7.toNat]? = some (.str (S [x, y])) ∧ azB [x] = true ∧ azB [y] = true := by
      have hw : q7 = 0 ∨ q7 = 1 ∨ q7 = 2 := by omega
      rcases hw with rfl | rfl | rfl
      · exact ⟨97, 98, rfl, by decide, by decide⟩
      · exact ⟨97, 97, rfl, by decide, by decide⟩
      · exact ⟨113, 122, rfl, by decide, by decide⟩
    refine i_ixLv e67 q70 exy ?_
    have s17 := s14.trans (s5.trans ((SB.of t6).trans s7))
    walk_at "rd"
    refine i_str2 ?_
    walk_at "rd"
    have lX : (List.replicate n x).length = n := List.length_replicate
    have lY : (List.replicate m y).length = m := List.length_replicate
    have zX := azB_repl zx n
    have zY := azB_repl zy m
    obtain ⟨due, hdue⟩ : ∃ due, lev (List.replicate n x) (List.replicate m y) = due := ⟨_, rfl⟩
    have heq : x = y → due = max n m - min n m := fun e => by rw [← hdue, e, Lev.lev_rep_eq]
    have hne : x ≠ y → due = max n m := fun e => by rw [← hdue, Lev.lev_rep_ne e]
    have ldue : due ≤ 400 := by
      by_cases c : x = y
      · have := heq c; omega
      · have := hne c; omega
    obtain ⟨t1, et1⟩ : ∃ t, List.replicate n x = t := ⟨_, rfl⟩
    obtain ⟨t2, et2⟩ : ∃ t, List.replicate m y = t := ⟨_, rfl⟩
    rw [et1] at lX zX hdue
    rw [et2] at lY zY hdue
    refine i_mulS (n := n) (by simp) (by omega) ?_
    rw [Lev.flat_rep, et1]
    walk_at "rd"
    refine i_mulS (n := m) (by simp) (by omega) ?_
    rw [Lev.flat_rep, et2]
    walk_at "rd"
    refine ⟨Nat.le_of_ble_eq_true rfl, fun p1 n1 => ?_⟩
    walk_at "rd"
    refine i_mulS (n := m) (by simp) (by omega) ?_
    rw [Lev.flat_rep, et2]
    walk_at "rd"
    refine i_mulS (n := n) (by simp) (by omega) ?_
    rw [Lev.flat_rep, et1]
    walk_at "rd"
    refine ⟨Nat.le_of_ble_eq_true rfl, fun p2 n2 => ?_⟩
    walk_at "rd"
    refine ⟨Nat.le_of_ble_eq_true rfl, fun p3 n3 => ?_⟩
    have sA := Same.upd_new (o := .lst [.ref p1, .ref p2]) (Same.upd_new (o := .lst [.str (S t2), .str (S t1)]) (same_upd (o := .lst [.str (S t1), .str (S t2)]) n1) n2) n3
    have e1 := upd_old (o := .lst [.ref p1, .ref p2]) n3 (upd_old (o := .lst [.str (S t2), .str (S t1)]) n2 (upd_same (H := H7) (a := p1) (o := .lst [.str (S t1), .str (S t2)])))
    have e2 := upd_old (o := .lst [.ref p1, .ref p2]) n3 (upd_same (H := upd H7 p1 (.lst [.str (S t1), .str (S t2)])) (a := p2) (o := .lst [.str (S t2), .str (S t1)]))
    have e3' := upd_same (H := upd (upd H7 p1 (.lst [.str (S t1), .str (S t2)])) p2 (.lst [.str (S t2), .str (S t1)])) (a := p3) (o := .lst [.ref p1, .ref p2])
    generalize upd (upd (upd H7 p1 (.lst [.str (S t1), .str (S t2)])) p2 (.lst [.str (S t2), .str (S t1)])) p3 (.lst [.ref p1, .ref p2]) = HA at *
    have BA := B7.same sA
    walk_at "rd"
    refine ⟨b, 2, _, rfl, BA, by omega, by omega, by omega, fun j HB j0 j1 BB sB => ?_⟩
    have f2 : H7 p2 = none := (same_upd n1).free n2
    have f3 : H7 p3 = none := (Same.upd_new (same_upd n1) n2).free n3
    have e1B := sB _ _ (B7.ne_new n1) e1
    have e2B := sB _ _ (B7.ne_new f2) e2
    have e3B := sB _ _ (B7.ne_new f3) e3'
    obtain ⟨pp, u, v, ep, eu, hu, zu, zv, lu, lv⟩ : ∃ (pp : Addr) (u v : List Nat), ([.ref p1, .ref p2] : List V)[j.toNat]? = some (.ref pp) ∧ HB pp = some (.lst [.str (S u), .str (S v)]) ∧ lev u v = due ∧ azB u = true ∧ azB v = true ∧ u.length ≤ 400 ∧ v.length ≤ 400 := by
      have hj : j = 0 ∨ j = 1 := by omega
      rcases hj with rfl | rfl
      · exact ⟨p1, t1, t2, rfl, e1B, hdue, zX, zY, by omega, by omega⟩
      · exact ⟨p2, t2, t1, rfl, e2B, by rw [Lev.lev_symm]; exact hdue, zY, zX, by omega, by omega⟩
    refine i_ixLv e3B j0 ep ?_
    have s1B := s17.trans ((SB.of sA).trans sB)
    walk_at "rd"
    refine ⟨pp, _, rfl, sqL_of eu, rfl, ?_⟩
    walk_at "rd"
    refine iteC (fun c => ?_) (fun c => ?_)
    · have cxy : x ≠ y := fun e => by rw [e] at c; simp at c
      have ed := hne cxy
      walk_at "rd"
      rw [show max (n : Int) (m : Int) = (due : Int) by omega]
      refine ⟨b, 401, _, rfl, BB, by omega, by omega, by omega, fun q9 HC q90 q91 BC sC => ?_⟩
      obtain ⟨q9, rfl⟩ : ∃ n : Nat, q9 = n := ⟨q9.toNat, by omega⟩
      walk_at "rd"
      refine ⟨Nat.le_of_ble_eq_true rfl, fun pl npl => ?_⟩
      rw [show max 0 ((due : Int) - 1) = ((due - 1 : Nat) : Int) by omega]
      have hall : ∀ (j : Nat) (x : V), ([.int (due : Nat), .int (due - 1 : Nat), .int q9] : List V)[j]? = some x → j < 3 → ∃ n : Nat, x = .int n ∧ n ≤ 1000 := by
        intro j x hx hj
        have hj3 : j = 0 ∨ j = 1 ∨ j = 2 := by omega
        rcases hj3 with rfl | rfl | rfl <;> cases hx <;> exact ⟨_, rfl, by omega⟩
      have el := upd_same (H := HC) (a := pl) (o := .lst [.int (due : Nat), .int (due - 1 : Nat), .int q9])
      have t8 := same_upd (o := .lst [.int (due : Nat), .int (due - 1 : Nat), .int q9]) npl
      have plb := BC.ne_new npl
      have B8 := BC.same t8
      generalize upd HC pl (.lst [.int (due : Nat), .int (due - 1 : Nat), .int q9]) = H8 at *
      have s18 := s1B.trans (sC.trans (SB.of t8))
      refine ⟨pl, rfl, i_sqL (sqL_of el) ?_⟩
      refine go_for (walk_list (xs := [.int (due : Nat), .int (due - 1 : Nat), .int q9])) (fun j σ H9 => ∃ (u8 : Option V), σ = [some (.ref b), some (.int n), some (.int m), some (.str (S [x])), some (.str (S [y])), some (.str (S u)), some (.str (S v)), some (.int due), u8] ∧ SB b H8 H9 ∧ BoxAt H9 b (d + 10 + j)) ⟨_, rfl, SB.refl _, B8.mono (by omega)⟩ (fun j σ H9 _ h => ?_) (fun j x' σ H9 HD hj h y' => ?_) (fun σ H9 h => ?_)
      · obtain ⟨_, _, s9, _⟩ := h
        exact sqL_of (s9 _ _ plb el)
      · obtain ⟨u8, rfl, s9, B9⟩ := h
        obtain ⟨rfl, hx⟩ := y'
        have hj3 : j < 3 := hj
        obtain ⟨nn, rfl, hnn⟩ := hall j x' hx hj3
        walk_at "rd"
        refine ⟨b, 2, _, rfl, B9, by omega, by omega, by omega, fun wq HE wq0 wq1 BE sE => ?_⟩
        walk_at "rd"
        refine met_near (by omega) zu zv (by omega) (by omega) (by omega) fun t5 HF s5' n5' e5 => ?_
        have smW : Small 1 2002 (toldD (Lev.within u v nn)) := told_small fun k e => by rw [within_some e, hu]; omega
        walk_at "rd"
        refine i_rep (told_dp e5) smW (by omega) (by omega) ?_
        walk_at "rd"
        refine iteC (fun c => ?_) (fun c => ?_)
        · have wi : Lev.within u v nn = some due := by rw [within_yes (by rw [hu]; exact of_decide_eq_true c), hu]
          walk_at "rd"
          refine ⟨Nat.le_of_ble_eq_true rfl, fun p9 n9 => ?_⟩
          walk_at "rd"
          rw [wi] at smW
          refine i_rep (told_dp (o := some due) upd_same) smW (by omega) (by omega) ?_
          walk_at "rd"
          refine ⟨rfl, ?_⟩
          rw [wi, decide_eq_true rfl]
          walk_at "rd"
          exact ⟨s9.trans (sE.trans (SB.of (s5'.trans (same_upd n9)))), ((BE.same s5').same (same_upd n9)).mono (by omega)⟩
        · have wi : Lev.within u v nn = none := within_no (by rw [hu]; exact of_decide_eq_false c)
          walk_at "rd"
          refine ⟨Nat.le_of_ble_eq_true rfl, fun p9 n9 => ?_⟩
          walk_at "rd"
          rw [wi] at smW
          refine i_rep (told_dp (o := none) upd_same) smW (by omega) (by omega) ?_
          walk_at "rd"
          refine ⟨rfl, ?_⟩
          rw [wi, decide_eq_true rfl]
          walk_at "rd"
          exact ⟨s9.trans (sE.trans (SB.of (s5'.trans (same_upd n9)))), ((BE.same s5').same (same_upd n9)).mono (by omega)⟩
      · obtain ⟨u8, rfl, s9, B9⟩ := h
        replace B9 : BoxAt H9 b (d + 13) := B9.mono (by simp only [List.length_cons, List.length_nil]; omega)
        walk_at "rd"
        refine ⟨b, 2, _, rfl, B9, by omega, by omega, by omega, fun wq HE wq0 wq1 BE sE => ?_⟩
        walk_at "rd"
        refine met_dist (n := 0) (by omega) zu zv (by omega) (by omega) (by omega) fun t3 HF sF nF eF => ?_
        rw [hu] at eF
        have smS : Small 1 2002 (toldD (some due)) := told_small fun n e => by cases e; omega
        walk_at "rd"
        refine i_rep (told_dp eF) smS (by omega) (by omega) ?_
        walk_at "rd"
        refine ⟨Nat.le_of_ble_eq_true rfl, fun p9 n9 => ?_⟩
        walk_at "rd"
        refine i_rep (told_dp (o := some due) upd_same) smS (by omega) (by omega) ?_
        refine ⟨rfl, ?_⟩
        rw [decide_eq_true rfl]
        exact k _ (((BE.same sF).same (same_upd n9)).mono (by omega)) (s18.trans (s9.trans (sE.trans (SB.of (sF.trans (same_upd n9))))))
    · have cxy : x = y := by
        have c' : decide ([x] = [y]) = true := by cases h : decide ([x] = [y]) with
          | true => rfl
          | false => rw [h] at c; cases c
        have := of_decide_eq_true c'
        simpa using this
      have ed := heq cxy
      walk_at "rd"
      rw [show (if (n : Int) - (m : Int) < 0 then -((n : Int) - (m : Int)) else (n : Int) - (m : Int)) = (due : Int) by split <;> omega]
      refine ⟨b, 401, _, rfl, BB, by omega, by omega, by omega, fun q9 HC q90 q91 BC sC => ?_⟩
      obtain ⟨q9, rfl⟩ : ∃ n : Nat, q9 = n := ⟨q9.toNat, by omega⟩
      walk_at "rd"
      refine ⟨Nat.le_of_ble_eq_true rfl, fun pl npl => ?_⟩
      rw [show max 0 ((due : Int) - 1) = ((due - 1 : Nat) : Int) by omega]
      have hall : ∀ (j : Nat) (x : V), ([.int (due : Nat), .int (due - 1 : Nat), .int q9] : List V)[j]? = some x → j < 3 → ∃ n : Nat, x = .int n ∧ n ≤ 1000 := by
        intro j x hx hj
        have hj3 : j = 0 ∨ j = 1 ∨ j = 2 := by omega
        rcases hj3 with rfl | rfl | rfl <;> cases hx <;> exact ⟨_, rfl, by omega⟩
      have el := upd_same (H := HC) (a := pl) (o := .lst [.int (due : Nat), .int (due - 1 : Nat), .int q9])
      have t8 := same_upd (o := .lst [.int (due : Nat), .int (due - 1 : Nat), .int q9]) npl
      have plb := BC.ne_new npl
      have B8 := BC.same t8
      generalize upd HC pl (.lst [.int (due : Nat), .int (due - 1 : Nat), .int q9]) = H8 at *
      have s18 := s1B.trans (sC.trans (SB.of t8))
      refine ⟨pl, rfl, i_sqL (sqL_of el) ?_⟩
      refine go_for (walk_list (xs := [.int (due : Nat), .int (due - 1 : Nat), .int q9])) (fun j σ H9 => ∃ (u8 : Option V), σ = [some (.ref b), some (.int n), some (.int m), some (.str (S [x])), some (.str (S [y])), some (.str (S u)), some (.str (S v)), some (.int due), u8] ∧ SB b H8 H9 ∧ BoxAt H9 b (d + 10 + j)) ⟨_, rfl, SB.refl _, B8.mono (by omega)⟩ (fun j σ H9 _ h => ?_) (fun j x' σ H9 HD hj h y' => ?_) (fun σ H9 h => ?_)
      · obtain ⟨_, _, s9, _⟩ := h
        exact sqL_of (s9 _ _ plb el)
      · obtain ⟨u8, rfl, s9, B9⟩ := h
        obtain ⟨rfl, hx⟩ := y'
        have hj3 : j < 3 := hj
        obtain ⟨nn, rfl, hnn⟩ := hall j x' hx hj3
        walk_at "rd"
        refine ⟨b, 2, _, rfl, B9, by omega, by omega, by omega, fun wq HE wq0 wq1 BE sE => ?_⟩
        walk_at "rd"
        refine met_near (by omega) zu zv (by omega) (by omega) (by omega) fun t5 HF s5' n5' e5 => ?_
        have smW : Small 1 2002 (toldD (Lev.within u v nn)) := told_small fun k e => by rw [within_some e, hu]; omega
        walk_at "rd"
        refine i_rep (told_dp e5) smW (by omega) (by omega) ?_
        walk_at "rd"
        refine iteC (fun c => ?_) (fun c => ?_)
        · have wi : Lev.within u v nn = some due := by rw [within_yes (by rw [hu]; exact of_decide_eq_true c), hu]
          walk_at "rd"
          refine ⟨Nat.le_of_ble_eq_true rfl, fun p9 n9 => ?_⟩
          walk_at "rd"
          rw [wi] at smW
          refine i_rep (told_dp (o := some due) upd_same) smW (by omega) (by omega) ?_
          walk_at "rd"
          refine ⟨rfl, ?_⟩
          rw [wi, decide_eq_true rfl]
          walk_at "rd"
          exact ⟨s9.trans (sE.trans (SB.of (s5'.trans (same_upd n9)))), ((BE.same s5').same (same_upd n9)).mono (by omega)⟩
        · have wi : Lev.within u v nn = none := within_no (by rw [hu]; exact of_decide_eq_false c)
          walk_at "rd"
          refine ⟨Nat.le_of_ble_eq_true rfl, fun p9 n9 => ?_⟩
          walk_at "rd"
          rw [wi] at smW
          refine i_rep (told_dp (o := none) upd_same) smW (by omega) (by omega) ?_
          walk_at "rd"
          refine ⟨rfl, ?_⟩
          rw [wi, decide_eq_true rfl]
          walk_at "rd"
          exact ⟨s9.trans (sE.trans (SB.of (s5'.trans (same_upd n9)))), ((BE.same s5').same (same_upd n9)).mono (by omega)⟩
      · obtain ⟨u8, rfl, s9, B9⟩ := h
        replace B9 : BoxAt H9 b (d + 13) := B9.mono (by simp only [List.length_cons, List.length_nil]; omega)
        walk_at "rd"
        refine ⟨b, 2, _, rfl, B9, by omega, by omega, by omega, fun wq HE wq0 wq1 BE sE => ?_⟩
        walk_at "rd"
        refine met_dist (n := 0) (by omega) zu zv (by omega) (by omega) (by omega) fun t3 HF sF nF eF => ?_
        rw [hu] at eF
        have smS : Small 1 2002 (toldD (some due)) := told_small fun n e => by cases e; omega
        walk_at "rd"
        refine i_rep (told_dp eF) smS (by omega) (by omega) ?_
        walk_at "rd"
        refine ⟨Nat.le_of_ble_eq_true rfl, fun p9 n9 => ?_⟩
        walk_at "rd"
        refine i_rep (told_dp (o := some due) upd_same) smS (by omega) (by omega) ?_
        refine ⟨rfl, ?_⟩
        rw [decide_eq_true rfl]
        exact k _ (((BE.same sF).same (same_upd n9)).mono (by omega)) (s18.trans (s9.trans (sE.trans (SB.of (sF.trans (same_upd n9))))))
end
end Sw
namespace Sw
open PySem PySem.Spec PyProof.Rows L2
local macro_rules | `(tactic| walk_at "hp") => `(tactic| first
  | (with_reducible assumption) | (with_reducible exact upd_same)
  | ((with_reducible refine' upd_old ?q1 ?q2); (case q1 => (with_reducible assumption)); (case q2 => walk_at "hp"))
  | ((with_reducible refine' Same.at ?q1 ?q2); (case q1 => (with_reducible assumption)); (case q2 => walk_at "hp"))
  | ((with_reducible refine' upd_skip ?q1 ?q2); (case q1 => walk_at "ne"); (case q2 => walk_at "hp"))
  | fail)
local macro_rules | `(tactic| walk_at "ne") => `(tactic| first
  | (with_reducible assumption) | (with_reducible exact Ne.symm (by assumption))
  | ((with_reducible refine' ne_of_none ?q1 ?q2); (case q2 => (with_reducible assumption)); (case q1 => walk_at "hp"))
  | fail)
local macro_rules | `(tactic| walk_at "ci") => `(tactic| first | assumption | (show (0 : Int) < _; first | decide | (with_reducible omega)) | exact ⟨by decide, by decide⟩ | exact .inl ⟨by decide, by decide⟩ | exact .inr ⟨by decide, by decide⟩)
local macro_rules | `(tactic| walk_at "ln") => `(tactic| first | (with_reducible assumption) | (with_reducible omega) | (simp only [List.length_append, List.length_take, List.length_drop, List.length_reverse, List.length_cons, List.length_nil]; with_reducible omega))
local macro_rules | `(tactic| walk_at "rd1") => `(tactic| first
  | (with_reducible refine i_seq ?_) | (with_reducible refine i_asg ?_) | (with_reducible refine i_ret ?_) | (with_reducible refine i_name ?_) | ((with_reducible refine' i_var ?q1 ?_); (case q1 => exact rfl)) | (with_reducible refine i_c ?_) | (with_reducible refine i_op ?_) | (with_reducible refine i_un ?_)
  | (with_reducible refine i_rI0 ?_) | (with_reducible refine i_cb ?_) | (with_reducible refine i_cons ?_) | (with_reducible refine i_nil ?_) | (with_reducible refine i_call ?_) | (with_reducible refine i_if ?_) | (with_reducible refine i_ifE ?_) | (with_reducible refine i_test ?_) | (with_reducible refine i_bl ?_)
  | (with_reducible refine i_and ?_) | (with_reducible refine i_or ?_) | (with_reducible refine i_not ?_) | (with_reducible refine i_lst ?_) | (with_reducible refine i_tup ?_) | (with_reducible refine i_next ?_) | (with_reducible refine i_drop ?_) | (with_reducible refine i_sub ?_)
  | (with_reducible refine i_bm ?_) | (with_reducible refine i_sl ?_) | (with_reducible refine i_part ?_) | (with_reducible refine i_nopart ?_) | (with_reducible refine i_exI ?_) | (with_reducible refine i_chain ?_) | ((with_reducible refine' i_aug ?q1 ?_); (case q1 => exact rfl)) | (with_reducible refine i_ip ?_)
  | (with_reducible refine i_par ?_) | (with_reducible refine i_pair ?_) | (with_reducible refine i_andV ?_) | (with_reducible refine i_orV ?_) | (with_reducible refine i_notV ?_) | (with_reducible refine i_m1 ?_) | (with_reducible refine i_str ?_)
  | (with_reducible refine iteF ?_) | (with_reducible refine iteT ?_) | (with_reducible refine iteNT ?_) | (with_reducible refine iteNF ?_) | (with_reducible refine i_tyS ?_) | (with_reducible refine i_tB ?_) | (with_reducible refine i_retN ?_) | (with_reducible refine i_par3 ?_) | (with_reducible refine i_trip ?_) | (with_reducible refine i_gCons ?_) | (with_reducible refine i_gNil ?_) | (with_reducible refine i_lstRg ?_) | (with_reducible refine i_rg1 ?_)
  | (with_reducible refine i_lc ?_) | (with_reducible refine i_for ?_) | (with_reducible refine i_iList ?_) | (with_reducible refine i_iTup ?_) | (with_reducible refine i_iStr ?_) | (with_reducible refine i_iRng1 ?_) | (with_reducible refine i_iEnS ?_)
  | ((with_reducible refine' i_ixTH ?q1 ?q2 ?_); (case q1 => walk_at "hp"); (case q2 => exact rfl))
  | ((with_reducible refine' i_ixLH ?q1 ?q2 ?_); (case q1 => walk_at "hp"); (case q2 => exact rfl))
  | ((with_reducible refine i_addS ?q1 ?_); (case q1 => walk_at "ln")) | ((with_reducible refine i_lenSS ?q1 ?_); (case q1 => walk_at "ln")) | ((with_reducible refine i_slFrom ?q1 ?q2 ?_); (case q1 => walk_at "ln"); (case q2 => walk_at "ln")) | ((with_reducible refine i_slTo ?q1 ?q2 ?_); (case q1 => walk_at "ln"); (case q2 => walk_at "ln"))
  | ((with_reducible refine' i_tyL ?q1 ?_); (case q1 => walk_at "hp"))
  | ((with_reducible refine' i_gTupH ?q1 ?q2 ?_); (case q1 => walk_at "hp"); (case q2 => exact rfl))
  | (with_reducible refine i_dnew ?_) | (with_reducible refine i_init ?_) | (with_reducible refine i_fst ?_) | (with_reducible refine i_mk ?_) | (with_reducible refine i_raise ?_) | (with_reducible refine i_callS ?_) | (with_reducible refine i_kwS ?_)
  | (with_reducible refine i_revT ?_) | (with_reducible refine i_kw ?_) | ((with_reducible refine' ⟨_, _, rfl, sqT_of ?q1, ?_⟩); (case q1 => walk_at "hp"))
  | (with_reducible refine i_revS ?_) | ((with_reducible refine i_revSS ?q1 ?_); (case q1 => walk_at "ln"))
  | (with_reducible refine i_startS ?_) | (with_reducible refine i_inSg ?_) | (with_reducible refine i_absN ?_) | (with_reducible refine i_min2 ?_) | (with_reducible refine i_max2 ?_) | (with_reducible refine i_min3 ?_) | (with_reducible refine i_intN ?_) | (with_reducible refine i_intNB ?_)
  | ((with_reducible refine' i_lenL ?q1 ?_); (case q1 => walk_at "hp")) | ((with_reducible refine' i_lenT ?q1 ?_); (case q1 => walk_at "hp"))
  | (with_reducible refine i_eqI ?_) | (with_reducible refine i_neI ?_) | (with_reducible refine i_eqS ?_) | (with_reducible refine i_neS ?_) | (with_reducible refine i_isNoI ?_) | (with_reducible refine i_isNoN ?_) | (with_reducible refine i_isNoR ?_)
  | ((with_reducible refine i_pow ?q1 ?q2 ?q3 ?_); (case q1 => decide); (case q2 => decide); (case q3 => (with_reducible omega)))
  | ((with_reducible refine i_rI ?q1 ?_); (case q1 => walk_at "ci"))
  | (with_reducible refine Or.inl ⟨_, rfl, ?_⟩) | (with_reducible refine Or.inr ⟨_, rfl, ?_⟩) | (with_reducible refine ⟨_, rfl, ?_⟩) | (with_reducible refine ⟨_, _, rfl, ?_⟩) | (with_reducible refine ⟨_, _, rfl, rfl, ?_⟩)
  | ((with_reducible refine' ⟨_, _, rfl, Or.inl (sqL_of ?q1), ?_⟩); (case q1 => walk_at "hp")) | ((with_reducible refine' ⟨_, _, rfl, Or.inr (sqT_of ?q1), ?_⟩); (case q1 => walk_at "hp")) | fail)
local macro_rules | `(tactic| walk_at "rd") => `(tactic| repeat' walk_at "rd1")

open Lev (lev)
/-- _law_wide_right(box) -/
def spWide : Sp := fun vs H Q _ => ∃ (b : Addr) (d : Int), vs = [.ref b] ∧ BoxAt H b d ∧ d + 1000 ≤ 1000000 ∧ ∀ H', SB b H H' → Q (.bl true) H'
section
variable {P : Program} {w : World} {K : PySem.W.Frag} {mg : Str → Option Value} {base : Heap} {f : Addr} {fd : FuncData}
theorem ok_wide (F : Fun K "_law_wide_right" "_law_wide_right" s__law_wide_right f fd) (z : Z mg) (c__law_take : Cal P w K mg base "_law_take" ["box", "many"] 1 spTake) (c__law_letters : Cal P w K mg base "_law_letters" ["box"] 2 spLetters) (c__law_text : Cal P w K mg base "_law_text" ["box", "letters", "many"] 2 spWord) (c__law_table : Cal P w K mg base "_law_table" ["first", "second"] 1 spTable) (c__law_met : Cal P w K mg base "_law_met" ["which", "first", "second", "number"] 6 (spMet K)) : FnG P w K mg base CX0 7 f fd ["box"] spWide := by
  refine Sw.Fun.okG0 F sc__law_wide_right (fun vs H Q E h => ?_) (fun cdv A outer s H vs Q E hr quiet h => ?_)
  · obtain ⟨b, d, rfl, _⟩ := h; rfl
  · obtain ⟨b, d, rfl, B, hd, k⟩ := h
    refine ⟨_, (pss_cons (ps_par (i := 1) (j := 2) rfl sc__law_wide_right.nd rfl rfl (by decide) rfl rfl (pa_cons (pe_cal c__law_letters hr (pa_cons (pv 0) pa_nil)) (pa_cons (pe_op op_add pe_int (pe_cal c__law_take hr (pa_cons (pv 0) (pa_cons pe_int pa_nil)))) pa_nil)) (by rfl))
      (pss_cons (ps_par (i := 3) (j := 4) rfl sc__law_wide_right.nd rfl rfl (by decide) rfl rfl (pa_cons (pe_cal c__law_text hr (pa_cons (pv 0) (pa_cons (pv 1) (pa_cons (pv 2) pa_nil)))) (pa_cons (pe_cal c__law_take hr (pa_cons (pv 0) (pa_cons pe_int pa_nil))) pa_nil)) (by rfl))
      (pss_cons (ps_set (i := 5) sc__law_wide_right.nd rfl (.inl rfl) (pe_op op_addS (pe_slice sl_S (pv 3) (po_some (pv 4)) po_none) (pe_slice sl_S (pv 3) po_none (po_some (pv 4)))))
      (pss_cons (ps_for PassesOwn.never rfl (pi_range1 (by rfl) z.range (pa_cons (pe_cal c__law_take hr (pa_cons (pv 0) (pa_cons pe_int pa_nil))) pa_nil)) (pg_name (i := 6) sc__law_wide_right.nd rfl (.inl rfl))
        (pss_cons (ps_set (i := 7) sc__law_wide_right.nd rfl (.inl rfl) (pe_cal c__law_take hr (pa_cons (pv 0) (pa_cons (pv 2) pa_nil))))
        (pss_one (ps_set (i := 5) sc__law_wide_right.nd rfl (.inl rfl) (pe_op op_addS (pe_op op_addS (pe_slice sl_S (pv 5) po_none (po_some (pv 7))) (pe_ix ix_list (pv 1) (pe_cal c__law_take hr (pa_cons (pv 0) (pa_cons (pe_callB call_lenQ (by rfl) z.len PySem.boot_len (pa_cons (pv 1) pa_nil)) pa_nil))) (fun _ _ => rfl))) (pe_slice sl_S (pv 5) (po_some (pe_op op_add (pv 7) pe_int)) po_none))))))
      (pss_cons (ps_par (i := 8) (j := 9) rfl sc__law_wide_right.nd rfl rfl (by decide) rfl rfl (pa_cons (pe_cal c__law_table hr (pa_cons (pv 3) (pa_cons (pv 5) pa_nil))) (pa_cons (pe_cal c__law_take hr (pa_cons (pv 0) (pa_cons pe_int pa_nil))) pa_nil)) (by rfl))
      (pss_cons (ps_if (pt_cmpR op_ne (pe_callB (call_repD quiet hr.units) (by rfl) z.repr (by decide +kernel) (pa_cons (pe_cal c__law_met hr (pa_cons (pv 9) (pa_cons (pv 3) (pa_cons (pv 5) (pa_cons pe_int pa_nil))))) pa_nil)) (pe_callB (call_repD quiet hr.units) (by rfl) z.repr (by decide +kernel) (pa_cons (pe_lst (pa_cons (pe_strS (l := [116, 111, 108, 100]) (by decide +kernel)) (pa_cons (pv 8) pa_nil))) pa_nil)) (nomark _))
        (pss_one (ps_ret pe_bl))
        pss_nil)
      (pss_cons (ps_for PassesOwn.never rfl (pi_list (pe_lst (pa_cons (pv 8) (pa_cons (pe_callB (call_max2N rfl) (by rfl) z.max_ (by decide +kernel) (pa_cons pe_int (pa_cons (pe_op op_sub (pv 8) pe_int) pa_nil))) pa_nil)))) (pg_name (i := 10) sc__law_wide_right.nd rfl (.inl rfl))
        (pss_one (ps_if (pt_cmpR op_ne (pe_callB (call_repD quiet hr.units) (by rfl) z.repr (by decide +kernel) (pa_cons (pe_cal c__law_met hr (pa_cons (pe_op op_add pe_int (pv 9)) (pa_cons (pv 5) (pa_cons (pv 3) (pa_cons (pv 10) pa_nil))))) pa_nil)) (pe_callB (call_repD quiet hr.units) (by rfl) z.repr (by decide +kernel) (pa_cons (pe_lst (pa_cons (pe_strS (l := [116, 111, 108, 100]) (by decide +kernel)) (pa_cons (pe_ifExp (pt_cmpR op_le (pv 8) (pv 10) (nomark _)) (pv 8) pe_non) pa_nil))) pa_nil)) (nomark _))
          (pss_one (ps_ret pe_bl))
          pss_nil)))
      (pss_one (ps_ret pe_bl))))))))), ?_⟩
    walk_at "rd"
    refine ⟨b, _, rfl, B, by omega, fun pl H1 npl L1 B1 s1 => ?_⟩
    walk_at "rd"
    refine ⟨b, 76, _, rfl, B1, by omega, by omega, by omega, fun sz H2 sz0 sz1 B2 s2 => ?_⟩
    obtain ⟨sz, rfl⟩ : ∃ n : Nat, sz = n := ⟨sz.toNat, by omega⟩
    have L2' := L1.sb B1 s2
    walk_at "rd"
    rw [show (25 : Int) + (sz : Int) = ((25 + sz : Nat) : Int) by omega]
    refine ⟨b, pl, 25 + sz, _, rfl, L2', by omega, B2, by omega, fun t H3 lt zt B3 s3 => ?_⟩
    have L3 := L2'.sb B2 s3
    walk_at "rd"
    refine ⟨b, 4, _, rfl, B3, by omega, by omega, by omega, fun sp H4 sp0 sp1 B4 s4 => ?_⟩
    obtain ⟨sp, rfl⟩ : ∃ n : Nat, sp = n := ⟨sp.toNat, by omega⟩
    have L4 := L3.sb B3 s4
    have s14 := s1.trans (s2.trans (s3.trans s4))
    walk_at "rd"
    refine ⟨b, 5, _, rfl, B4, by omega, by omega, by omega, fun r H5 r0 r1 B5 s5 => ?_⟩
    obtain ⟨r, rfl⟩ : ∃ n : Nat, r = n := ⟨r.toNat, by omega⟩
    have L5 := L4.sb B4 s5
    have s15 := s14.trans s5
    walk_at "rd"
    refine i_rng (by omega) (by omega) ?_
    rw [Int.toNat_natCast]
    refine go_for walk_rangeZ (fun i σ H6 => ∃ (y : List Nat) (u6 u7 : Option V), σ = [some (.ref b), some (.ref pl), some (.int ((25 + sz : Nat) : Int)), some (.str (S t)), some (.int (sp : Int)), some (.str (S y)), u6, u7, none, none, none] ∧ SB b H5 H6 ∧ BoxAt H6 b (d + 200 + 2 * i) ∧ y.length = 25 + sz ∧ azB y = true)
      ⟨t.drop sp ++ t.take sp, none, none, rfl, SB.refl _, B5.mono (by omega), by simp only [List.length_append, List.length_take, List.length_drop]; omega, by rw [azB_app, azB_drop zt, azB_take zt]; rfl⟩ (fun _ _ _ _ _ => trivial) (fun i v σ H6 H7 hi h y => ?_) (fun σ H6 h => ?_)
    · obtain ⟨yy, u6, u7, rfl, s6, B6, ly, zy⟩ := h
      obtain ⟨rfl, rfl⟩ := y
      walk_at "rd"
      refine ⟨b, _, _, rfl, B6, by omega, by omega, by omega, fun at' H8 a0 a1 B8 s8 => ?_⟩
      obtain ⟨at', rfl⟩ : ∃ n : Nat, at' = n := ⟨at'.toNat, by omega⟩
      have L8 := L5.sb B5 (s6.trans s8)
      obtain ⟨c1, c2, c3, el, zz⟩ := id L8
      walk_at "rd"
      refine ⟨b, 3, _, rfl, B8, by omega, by omega, by omega, fun j H9 j0 j1 B9 s9 => ?_⟩
      refine (L8.sb B8 s9).at j0 j1 fun c zc => ?_
      walk_at "rd"
      refine ⟨_, _, _, rfl, s6.trans (s8.trans s9), B9.mono (by omega), ?_, ?_⟩
      · simp only [List.length_append, List.length_take, List.length_drop, List.length_cons, List.length_nil]; omega
      · rw [azB_app, azB_app, azB_take zy, zc, azB_drop zy]; rfl
    · obtain ⟨y, u6, u7, rfl, s6, B6, ly, zy⟩ := h
      walk_at "rd"
      refine ⟨t, y, rfl, by omega, by omega, fun H7 s7 => ?_⟩
      walk_at "rd"
      refine ⟨b, 2, _, rfl, B6.same s7, by omega, by omega, by omega, fun wh H8 w0 w1 B8 s8 => ?_⟩
      have s18 := s15.trans (s6.trans ((SB.of s7).trans s8))
      obtain ⟨due, hu⟩ : ∃ due, lev t y = due := ⟨_, rfl⟩
      have ldue : due ≤ 200 := by
        have := Lev.lev_le_max t y
        omega
      rw [hu]
      have smS : Small 1 2002 (toldD (some due)) := told_small fun n e => by cases e; omega
      have smN : Small 1 2002 (toldD none) := told_small fun n e => by cases e
      walk_at "rd"
      refine met_dist (n := 0) (by omega) zt zy (by omega) (by omega) (by omega) fun t3 HF sF nF eF => ?_
      rw [hu] at eF
      walk_at "rd"
      refine i_rep (told_dp eF) smS (by omega) (by omega) ?_
      walk_at "rd"
      refine ⟨Nat.le_of_ble_eq_true rfl, fun p9 n9 => ?_⟩
      walk_at "rd"
      refine i_rep (told_dp (o := some due) upd_same) smS (by omega) (by omega) ?_
      walk_at "rd"
      refine ⟨rfl, ?_⟩
      rw [decide_eq_true rfl]
      walk_at "rd"
      have tF9 := sF.trans (same_upd (o := .lst [.str (S told), .int (due : Nat)]) n9)
      have B9 := B8.same tF9
      refine ⟨Nat.le_of_ble_eq_true rfl, fun pq npq => ?_⟩
      rw [show max 0 ((due : Int) - 1) = ((due - 1 : Nat) : Int) by omega]
      have hall : ∀ (j : Nat) (x : V), ([.int (due : Nat), .int (due - 1 : Nat)] : List V)[j]? = some x → j < 2 → ∃ n : Nat, x = .int n ∧ n ≤ 1000 := by
        intro j x hx hj
        have hj3 : j = 0 ∨ j = 1 := by omega
        rcases hj3 with rfl | rfl <;> cases hx <;> exact ⟨_, rfl, by omega⟩
      have el := upd_same (H := upd HF p9 (.lst [.str (S told), .int (due : Nat)])) (a := pq) (o := .lst [.int (due : Nat), .int (due - 1 : Nat)])
      have tq := same_upd (o := .lst [.int (due : Nat), .int (due - 1 : Nat)]) npq
      have B0 := B9.same tq
      refine ⟨pq, rfl, i_sqL (sqL_of el) ?_⟩
      refine go_for (walk_list (xs := [.int (due : Nat), .int (due - 1 : Nat)])) (fun j σ HD => ∃ (u10 : Option V), σ = [some (.ref b), some (.ref pl), some (.int ((25 + sz : Nat) : Int)), some (.str (S t)), some (.int (sp : Int)), some (.str (S y)), u6, u7, some (.int due), some (.int wh), u10] ∧ Same (upd (upd HF p9 (.lst [.str (S told), .int (due : Nat)])) pq (.lst [.int (due : Nat), .int (due - 1 : Nat)])) HD) ⟨_, rfl, Same.refl _⟩ (fun j σ HD _ h => ?_) (fun j x' σ HD HE hj h y' => ?_) (fun σ HD h => ?_)
      · obtain ⟨_, _, sD⟩ := h
        exact sqL_of (sD _ _ el)
      · obtain ⟨u10, rfl, sD⟩ := h
        obtain ⟨rfl, hx⟩ := y'
        have hj2 : j < 2 := hj
        obtain ⟨nn, rfl, hnn⟩ := hall j x' hx hj2
        walk_at "rd"
        refine met_near (by omega) zy zt (by omega) (by omega) (by omega) fun t5 HG sG nG eG => ?_
        rw [within_symm] at eG
        walk_at "rd"
        have smW : Small 1 2002 (toldD (Lev.within t y nn)) := told_small fun k e => by rw [within_some e, hu]; omega
        refine i_rep (told_dp eG) smW (by omega) (by omega) ?_
        walk_at "rd"
        refine iteC (fun c => ?_) (fun c => ?_)
        · have wi : Lev.within t y nn = some due := by rw [within_yes (by rw [hu]; exact of_decide_eq_true c), hu]
          walk_at "rd"
          refine ⟨Nat.le_of_ble_eq_true rfl, fun p9 n9 => ?_⟩
          walk_at "rd"
          refine i_rep (told_dp (o := some due) upd_same) smS (by omega) (by omega) ?_
          walk_at "rd"
          refine ⟨rfl, ?_⟩
          rw [wi, decide_eq_true rfl]
          walk_at "rd"
          exact sD.trans (sG.trans (same_upd n9))
        · have wi : Lev.within t y nn = none := within_no (by rw [hu]; exact of_decide_eq_false c)
          walk_at "rd"
          refine ⟨Nat.le_of_ble_eq_true rfl, fun p9 n9 => ?_⟩
          walk_at "rd"
          refine i_rep (told_dp (o := none) upd_same) smN (by omega) (by omega) ?_
          walk_at "rd"
          refine ⟨rfl, ?_⟩
          rw [wi, decide_eq_true rfl]
          walk_at "rd"
          exact sD.trans (sG.trans (same_upd n9))
      · obtain ⟨u10, rfl, sD⟩ := h
        walk_at "rd"
        exact k _ (s18.trans (SB.of (tF9.trans (tq.trans sD))))
end
end Sw
namespace Sw
open PySem PySem.Spec PyProof.Rows L2
local macro_rules | `(tactic| walk_at "hp") => `(tactic| first
  | (with_reducible assumption) | (with_reducible exact upd_same)
  | ((with_reducible refine' upd_old ?q1 ?q2); (case q1 => (with_reducible assumption)); (case q2 => walk_at "hp"))
  | ((with_reducible refine' Same.at ?q1 ?q2); (case q1 => (with_reducible assumption)); (case q2 => walk_at "hp"))
  | ((with_reducible refine' upd_skip ?q1 ?q2); (case q1 => walk_at "ne"); (case q2 => walk_at "hp"))
  | fail)
local macro_rules | `(tactic| walk_at "ne") => `(tactic| first
  | (with_reducible assumption) | (with_reducible exact Ne.symm (by assumption))
  | ((with_reducible refine' ne_of_none ?q1 ?q2); (case q2 => (with_reducible assumption)); (case q1 => walk_at "hp"))
  | fail)
local macro_rules | `(tactic| walk_at "ci") => `(tactic| first | assumption | (show (0 : Int) < _; first | decide | (with_reducible omega)) | exact ⟨by decide, by decide⟩ | exact .inl ⟨by decide, by decide⟩ | exact .inr ⟨by decide, by decide⟩)
local macro_rules | `(tactic| walk_at "ln") => `(tactic| first | (with_reducible assumption) | (with_reducible omega) | (simp only [List.length_append, List.length_take, List.length_drop, List.length_reverse, List.length_cons, List.length_nil]; with_reducible omega))
local macro_rules | `(tactic| walk_at "rd1") => `(tactic| first
  | (with_reducible refine i_seq ?_) | (with_reducible refine i_asg ?_) | (with_reducible refine i_ret ?_) | (with_reducible refine i_name ?_) | ((with_reducible refine' i_var ?q1 ?_); (case q1 => exact rfl)) | (with_reducible refine i_c ?_) | (with_reducible refine i_op ?_) | (with_reducible refine i_un ?_)
  | (with_reducible refine i_rI0 ?_) | (with_reducible refine i_cb ?_) | (with_reducible refine i_cons ?_) | (with_reducible refine i_nil ?_) | (with_reducible refine i_call ?_) | (with_reducible refine i_if ?_) | (with_reducible refine i_ifE ?_) | (with_reducible refine i_test ?_) | (with_reducible refine i_bl ?_)
  | (with_reducible refine i_and ?_) | (with_reducible refine i_or ?_) | (with_reducible refine i_not ?_) | (with_reducible refine i_lst ?_) | (with_reducible refine i_tup ?_) | (with_reducible refine i_next ?_) | (with_reducible refine i_drop ?_) | (with_reducible refine i_sub ?_)
  | (with_reducible refine i_bm ?_) | (with_reducible refine i_sl ?_) | (with_reducible refine i_part ?_) | (with_reducible refine i_nopart ?_) | (with_reducible refine i_exI ?_) | (with_reducible refine i_chain ?_) | ((with_reducible refine' i_aug ?q1 ?_); (case q1 => exact rfl)) | (with_reducible refine i_ip ?_)
  | (with_reducible refine i_par ?_) | (with_reducible refine i_pair ?_) | (with_reducible refine i_andV ?_) | (with_reducible refine i_orV ?_) | (with_reducible refine i_notV ?_) | (with_reducible refine i_m1 ?_) | (with_reducible refine i_str ?_)
  | (with_reducible refine iteF ?_) | (with_reducible refine iteT ?_) | (with_reducible refine iteNT ?_) | (with_reducible refine iteNF ?_) | (with_reducible refine i_tyS ?_) | (with_reducible refine i_tB ?_) | (with_reducible refine i_retN ?_) | (with_reducible refine i_par3 ?_) | (with_reducible refine i_trip ?_) | (with_reducible refine i_gCons ?_) | (with_reducible refine i_gNil ?_) | (with_reducible refine i_lstRg ?_) | (with_reducible refine i_rg1 ?_)
  | (with_reducible refine i_lc ?_) | (with_reducible refine i_for ?_) | (with_reducible refine i_iList ?_) | (with_reducible refine i_iTup ?_) | (with_reducible refine i_iStr ?_) | (with_reducible refine i_iRng1 ?_) | (with_reducible refine i_iEnS ?_)
  | ((with_reducible refine' i_ixTH ?q1 ?q2 ?_); (case q1 => walk_at "hp"); (case q2 => exact rfl))
  | ((with_reducible refine' i_ixLH ?q1 ?q2 ?_); (case q1 => walk_at "hp"); (case q2 => exact rfl))
  | ((with_reducible refine i_addS ?q1 ?_); (case q1 => walk_at "ln")) | ((with_reducible refine i_lenSS ?q1 ?_); (case q1 => walk_at "ln")) | ((with_reducible refine i_slFrom ?q1 ?q2 ?_); (case q1 => walk_at "ln"); (case q2 => walk_at "ln")) | ((with_reducible refine i_slTo ?q1 ?q2 ?_); (case q1 => walk_at "ln"); (case q2 => walk_at "ln"))
  | ((with_reducible refine' i_tyL ?q1 ?_); (case q1 => walk_at "hp"))
  | ((with_reducible refine' i_gTupH ?q1 ?q2 ?_); (case q1 => walk_at "hp"); (case q2 => exact rfl))
  | (with_reducible refine i_dnew ?_) | (with_reducible refine i_init ?_) | (with_reducible refine i_fst ?_) | (with_reducible refine i_mk ?_) | (with_reducible refine i_raise ?_) | (with_reducible refine i_callS ?_) | (with_reducible refine i_kwS ?_)
  | (with_reducible refine i_revT ?_) | (with_reducible refine i_kw ?_) | ((with_reducible refine' ⟨_, _, rfl, sqT_of ?q1, ?_⟩); (case q1 => walk_at "hp"))
  | (with_reducible refine i_revS ?_) | ((with_reducible refine i_revSS ?q1 ?_); (case q1 => walk_at "ln"))
  | (with_reducible refine i_startS ?_) | (with_reducible refine i_inSg ?_) | (with_reducible refine i_absN ?_) | (with_reducible refine i_min2 ?_) | (with_reducible refine i_max2 ?_) | (with_reducible refine i_min3 ?_) | (with_reducible refine i_intN ?_) | (with_reducible refine i_intNB ?_)
  | ((with_reducible refine' i_lenL ?q1 ?_); (case q1 => walk_at "hp")) | ((with_reducible refine' i_lenT ?q1 ?_); (case q1 => walk_at "hp"))
  | (with_reducible refine i_eqI ?_) | (with_reducible refine i_neI ?_) | (with_reducible refine i_eqS ?_) | (with_reducible refine i_neS ?_) | (with_reducible refine i_isNoI ?_) | (with_reducible refine i_isNoN ?_) | (with_reducible refine i_isNoR ?_)
  | ((with_reducible refine i_pow ?q1 ?q2 ?q3 ?_); (case q1 => decide); (case q2 => decide); (case q3 => (with_reducible omega)))
  | ((with_reducible refine i_rI ?q1 ?_); (case q1 => walk_at "ci"))
  | (with_reducible refine Or.inl ⟨_, rfl, ?_⟩) | (with_reducible refine Or.inr ⟨_, rfl, ?_⟩) | (with_reducible refine ⟨_, rfl, ?_⟩) | (with_reducible refine ⟨_, _, rfl, ?_⟩) | (with_reducible refine ⟨_, _, rfl, rfl, ?_⟩)
  | ((with_reducible refine' ⟨_, _, rfl, Or.inl (sqL_of ?q1), ?_⟩); (case q1 => walk_at "hp")) | ((with_reducible refine' ⟨_, _, rfl, Or.inr (sqT_of ?q1), ?_⟩); (case q1 => walk_at "hp")) | fail)
local macro_rules | `(tactic| walk_at "rd") => `(tactic| repeat' walk_at "rd1")

open Lev (lev)
/-! ### values that are refused -/
/-- what lies in a told row -/
def Elt (x : V) : Prop := (∃ l, x = .str (S l) ∧ (∀ c ∈ l, c ≤ 1000) ∧ l.length ≤ 1000) ∨ ∃ n : Nat, x = .int (n : Int) ∧ n ≤ 1000
theorem Elt.dp {x : V} (h : Elt x) : ∃ d, (∀ (K : PySem.W.Frag) (H : Hp), Dp K H x d) ∧ Small 0 1000 d := by
  rcases h with ⟨l, rfl, h1, h2⟩ | ⟨n, rfl, hn⟩
  · exact ⟨_, fun _ _ => .str _, small_str h1 h2⟩
  · exact ⟨_, fun _ _ => .int _, small_nat hn⟩
theorem elts_dp : ∀ {xs : List V}, (∀ x ∈ xs, Elt x) → ∃ ds, (∀ (K : PySem.W.Frag) (H : Hp), DpAll K H xs ds) ∧ ds.length = xs.length ∧ ∀ d ∈ ds, Small 0 1000 d
  | [], _ => ⟨[], fun _ _ => .nil, rfl, fun d h => by cases h⟩
  | x :: xs, h => by
    obtain ⟨d, d1, d2⟩ := (h x List.mem_cons_self).dp
    obtain ⟨ds, e1, e2, e3⟩ := elts_dp (xs := xs) fun y hy => h y (List.mem_cons_of_mem _ hy)
    refine ⟨d :: ds, fun K H => .cons (d1 K H) (e1 K H), by rw [List.length_cons, List.length_cons, e2], fun y hy => ?_⟩
    rcases List.mem_cons.mp hy with rfl | hy
    · exact d2
    · exact e3 y hy
/-- a told value that is no list -/
def Nl (H : Hp) (v : V) : Prop := v = .non ∨ (∃ b, v = .bl b) ∨ (∃ i : Int, v = .int i ∧ Small 0 1000 (.int i)) ∨ (∃ l, v = .str (S l) ∧ (∀ c ∈ l, c ≤ 1000) ∧ l.length ≤ 1000) ∨
  (∃ (a : Addr) (xs : List V), v = .ref a ∧ H a = some (.tup xs) ∧ xs.length ≤ 2 ∧ ∀ x ∈ xs, Elt x) ∨ ∃ a : Addr, v = .ref a ∧ H a = some (.dK [])
/-- a told value -/
def Vl (H : Hp) (v : V) : Prop := (∃ (a : Addr) (x : V), v = .ref a ∧ H a = some (.lst [x]) ∧ Elt x) ∨ Nl H v
theorem Nl.at {H H' : Hp} {v : V} (h : Nl H v) (k : ∀ p o, v = .ref p → (∀ xs, o ≠ .lst xs) → H p = some o → H' p = some o) : Nl H' v := by
  rcases h with h | h | h | h | ⟨a, xs, rfl, h1, h2, h3⟩ | ⟨a, rfl, h1⟩
  · exact .inl h
  · exact .inr (.inl h)
  · exact .inr (.inr (.inl h))
  · exact .inr (.inr (.inr (.inl h)))
  · exact .inr (.inr (.inr (.inr (.inl ⟨a, xs, rfl, k _ _ rfl (fun _ => HO.noConfusion) h1, h2, h3⟩))))
  · exact .inr (.inr (.inr (.inr (.inr ⟨a, rfl, k _ _ rfl (fun _ => HO.noConfusion) h1⟩))))
theorem Vl.at {H H' : Hp} {v : V} (h : Vl H v) (k : ∀ p o, v = .ref p → H p = some o → H' p = some o) : Vl H' v := by
  rcases h with ⟨a, x, rfl, h1, h2⟩ | h
  · exact .inl ⟨a, x, rfl, k _ _ rfl h1, h2⟩
  · exact .inr (h.at fun p o e _ q => k p o e q)
theorem Vl.here {H : Hp} {p : Addr} (h : Vl H (.ref p)) : ∃ o, H p = some o := by
  rcases h with ⟨a, x, e, h1, _⟩ | h | ⟨_, h⟩ | ⟨_, h, _⟩ | ⟨_, h, _⟩ | ⟨a, xs, e, h1, _⟩ | ⟨a, e, h1⟩
  · cases e; exact ⟨_, h1⟩
  · cases h
  · cases h
  · cases h
  · cases h
  · cases e; exact ⟨_, h1⟩
  · cases e; exact ⟨_, h1⟩
theorem Nl.ty {K : PySem.W.Frag} {H : Hp} {v : V} (h : Nl H v) : ∃ t, TyX K H v t ∧ PySem.W.kitOne K t (.type "list") = some false := by
  rcases h with rfl | ⟨b, rfl⟩ | ⟨i, rfl, _⟩ | ⟨l, rfl, _⟩ | ⟨a, xs, rfl, h1, _⟩ | ⟨a, rfl, h1⟩
  · exact ⟨_, .base .non, kit_ty (by decide +kernel)⟩
  · exact ⟨_, .base (.bl _), kit_ty (by decide +kernel)⟩
  · exact ⟨_, .base (.int _), kit_ty (by decide +kernel)⟩
  · exact ⟨_, .base (.str _), kit_ty (by decide +kernel)⟩
  · exact ⟨_, .base (.tup h1), kit_ty (by decide +kernel)⟩
  · exact ⟨_, .base (.dK h1), kit_ty (by decide +kernel)⟩
theorem small_row {xs : List V} (h : ∀ x ∈ xs, Elt x) (h2 : xs.length ≤ 2) : ∃ ds, (∀ (K : PySem.W.Frag) (H : Hp), DpAll K H xs ds) ∧ Small 1 2002 (.list ds) ∧ Small 1 2002 (.tuple ds) := by
  obtain ⟨ds, d1, d2, d3⟩ := elts_dp h
  have l : ds.length * (1000 + 1) ≤ 2002 := by rw [d2]; omega
  exact ⟨ds, d1, (small_lst d3).mono (by omega) l, (small_tup d3).mono (by omega) l⟩
theorem Nl.dc {K : PySem.W.Frag} {H : Hp} {v : V} (h : Nl H v) : ∃ d, Dc 1 2002 K H v d := by
  rcases h with rfl | ⟨b, rfl⟩ | ⟨i, rfl, h1⟩ | ⟨l, rfl, h1, h2⟩ | ⟨a, xs, rfl, h1, h2, h3⟩ | ⟨a, rfl, h1⟩
  · exact ⟨_, .inl ⟨.non, small_non.mono (by omega) (by omega)⟩⟩
  · exact ⟨_, .inl ⟨.bl b, (small_bl b).mono (by omega) (by omega)⟩⟩
  · exact ⟨_, .inl ⟨.int i, h1.mono (by omega) (by omega)⟩⟩
  · exact ⟨_, .inl ⟨.str _, (small_str h1 h2).mono (by omega) (by omega)⟩⟩
  · obtain ⟨ds, d1, _, d3⟩ := small_row h3 h2
    exact ⟨_, .inl ⟨.tup (sqT_of h1) (d1 K H), d3⟩⟩
  · exact ⟨_, .inr ⟨a, rfl, h1, rfl⟩⟩
/-- no text -/
def BT (H : Hp) (v : V) : Prop := Vl H v ∧ ∀ l, v = .str (S l) → azB l = false
/-- no count -/
def BC (H : Hp) (v : V) : Prop := Vl H v ∧ ∀ i : Int, v = .int i → i < 0
theorem BT.isT {K : PySem.W.Frag} {H : Hp} {v : V} (h : BT H v) : IsT K H v false := by
  obtain ⟨⟨a, x, rfl, h1, h2⟩ | h | ⟨b, rfl⟩ | ⟨i, rfl, _⟩ | ⟨l, rfl, h1, h2⟩ | ⟨a, xs, rfl, h1, _⟩ | ⟨a, rfl, h1⟩, hz⟩ := h
  · exact .inr ⟨_, .base (.lst h1), kit_ty (by decide +kernel), rfl⟩
  · subst h; exact .inr ⟨_, .base .non, kit_ty (by decide +kernel), rfl⟩
  · exact .inr ⟨_, .base (.bl _), kit_ty (by decide +kernel), rfl⟩
  · exact .inr ⟨_, .base (.int _), kit_ty (by decide +kernel), rfl⟩
  · have := isT_str (K := K) (H := H) l (by omega)
    rwa [hz l rfl] at this
  · exact .inr ⟨_, .base (.tup h1), kit_ty (by decide +kernel), rfl⟩
  · exact .inr ⟨_, .base (.dK h1), kit_ty (by decide +kernel), rfl⟩
theorem BC.isC {K : PySem.W.Frag} {H : Hp} {v : V} (h : BC H v) : IsC K H v false := by
  obtain ⟨⟨a, x, rfl, h1, h2⟩ | h | ⟨b, rfl⟩ | ⟨i, rfl, _⟩ | ⟨l, rfl, h1, h2⟩ | ⟨a, xs, rfl, h1, _⟩ | ⟨a, rfl, h1⟩, hz⟩ := h
  · exact .inr (.inr ⟨_, .base (.lst h1), kit_ty (by decide +kernel), rfl⟩)
  · subst h; exact .inr (.inr ⟨_, .base .non, kit_ty (by decide +kernel), rfl⟩)
  · exact .inr (.inl ⟨b, rfl, rfl⟩)
  · have := hz i rfl
    exact .inl ⟨i, rfl, by rw [decide_eq_false (by omega)]⟩
  · exact .inr (.inr ⟨_, .base (.str _), kit_ty (by decide +kernel), rfl⟩)
  · exact .inr (.inr ⟨_, .base (.tup h1), kit_ty (by decide +kernel), rfl⟩)
  · exact .inr (.inr ⟨_, .base (.dK h1), kit_ty (by decide +kernel), rfl⟩)
theorem BT.same {H H' : Hp} {v : V} (h : BT H v) (s : Same H H') : BT H' v := ⟨h.1.at fun p o _ e => s p o e, h.2⟩
theorem BC.same {H H' : Hp} {v : V} (h : BC H v) (s : Same H H') : BC H' v := ⟨h.1.at fun p o _ e => s p o e, h.2⟩
theorem Vl.sb {H H' : Hp} {b : Addr} {d : Int} {v : V} (h : Vl H v) (B : BoxAt H b d) (s : SB b H H') : Vl H' v := by
  obtain ⟨n, g, c, e, hb, _⟩ := B.ex
  refine h.at fun p o ev q => s p o (fun ep => ?_) q
  subst ep
  subst ev
  rcases h with ⟨a, x, e, h1, _⟩ | h | ⟨_, h⟩ | ⟨_, h, _⟩ | ⟨_, h, _⟩ | ⟨a, xs, e, h1, _⟩ | ⟨a, e, h1⟩
  · cases e; rw [h1] at hb; cases hb
  · cases h
  · cases h
  · cases h
  · cases h
  · cases e; rw [h1] at hb; cases hb
  · cases e; rw [h1] at hb; cases hb
/-- all is kept but the list v -/
def KeepL (v : V) (H H' : Hp) : Prop := ∀ p o, (V.ref p ≠ v ∨ ∀ xs, o ≠ .lst xs) → H p = some o → H' p = some o
/-- y is x, or a new list like x -/
def Cp (H H' : Hp) (x y : V) : Prop := (y = x ∧ Nl H x) ∨ ∃ (a a' : Addr) (e : V), x = .ref a ∧ y = .ref a' ∧ H a' = none ∧ H' a' = some (.lst [e]) ∧ Elt e
theorem Cp.bt {H H' : Hp} {x y : V} (c : Cp H H' x y) (s : Same H H') (h : BT H x) : BT H' y := by
  rcases c with ⟨rfl, n⟩ | ⟨a, a', e, rfl, rfl, _, h1, h2⟩
  · exact h.same s
  · exact ⟨.inl ⟨a', e, rfl, h1, h2⟩, fun l q => by cases q⟩
theorem Cp.bc {H H' : Hp} {x y : V} (c : Cp H H' x y) (s : Same H H') (h : BC H x) : BC H' y := by
  rcases c with ⟨rfl, n⟩ | ⟨a, a', e, rfl, rfl, _, h1, h2⟩
  · exact h.same s
  · exact ⟨.inl ⟨a', e, rfl, h1, h2⟩, fun l q => by cases q⟩
theorem Cp.sep {H H' : Hp} {x y z : V} (c : Cp H H' x y) (h : Vl H z) : z ≠ y ∨ Nl H z := by
  rcases c with ⟨rfl, n⟩ | ⟨a, a', e, rfl, rfl, h0, h1, h2⟩
  · by_cases q : z = y
    · rw [q]; exact .inr n
    · exact .inl q
  · refine .inl fun q => ?_
    subst q
    obtain ⟨o, ho⟩ := h.here
    rw [h0] at ho
    cases ho
theorem KeepL.vl {H H' : Hp} {v z : V} (k : KeepL v H H') (h : Vl H z) (q : z ≠ v ∨ Nl H z) : Vl H' z := by
  rcases q with q | q
  · exact h.at fun p o e ho => k p o (.inl fun z' => q (e.trans z')) ho
  · exact .inr (q.at fun p o _ nl ho => k p o (.inr nl) ho)
/-- no list of H is y -/
def Fresh (H : Hp) (y : V) : Prop := ∀ p o, H p = some o → V.ref p ≠ y ∨ ∀ xs, o ≠ .lst xs
theorem Cp.fresh {H H1 : Hp} {x y : V} (c : Cp H H1 x y) : Fresh H y := by
  intro p o ho
  rcases c with ⟨rfl, n⟩ | ⟨a, a', e, rfl, rfl, h0, _⟩
  · by_cases q : V.ref p = y
    · right
      intro xs e
      subst e
      subst q
      rcases n with h | ⟨_, h⟩ | ⟨_, h, _⟩ | ⟨_, h, _⟩ | ⟨a, xs, e, h1, _⟩ | ⟨a, e, h1⟩
      · cases h
      · cases h
      · cases h
      · cases h
      · cases e; rw [h1] at ho; cases ho
      · cases e; rw [h1] at ho; cases ho
    · exact .inl q
  · left
    intro q
    cases q
    rw [h0] at ho
    cases ho
theorem Fresh.back {H0 H : Hp} {y : V} (f : Fresh H y) (s : Same H0 H) : Fresh H0 y := fun p o ho => f p o (s p o ho)
theorem Fresh.kept {H0 H H' : Hp} {y : V} (f : Fresh H0 y) (s : Same H0 H) (k : KeepL y H H') : Same H0 H' := fun p o ho => k p o (f p o ho) (s p o ho)
theorem Nl.keep {H H' : Hp} {v z : V} (h : Nl H z) (k : KeepL v H H') : Nl H' z := h.at fun p o _ nl ho => k p o (.inr nl) ho
theorem sep_flip {H : Hp} {x y : V} (h : x ≠ y ∨ Nl H x) : y ≠ x ∨ Nl H y := by
  rcases h with h | h
  · exact .inl (Ne.symm h)
  · by_cases q : y = x
    · rw [q]; exact .inr h
    · exact .inl q
theorem Nl.same {H H' : Hp} {v : V} (h : Nl H v) (s : Same H H') : Nl H' v := h.at fun p o _ _ e => s p o e
/-- _law_odd(box, text) -/
def spOdd : Sp := fun vs H Q _ => ∃ (b : Addr) (t : List Nat) (d : Int), vs = [.ref b, .str (S t)] ∧ azB t = true ∧ t.length ≤ 500 ∧ BoxAt H b d ∧ d + 2 ≤ 1000000 ∧
  ∀ (v : V) (H' : Hp), BT H' v → BoxAt H' b (d + 2) → SB b H H' → Q v H'
/-- _law_copy(value) -/
def spCopy : Sp := fun vs H Q _ => ∃ x, vs = [x] ∧ Vl H x ∧ ∀ y H', Same H H' → Cp H H' x y → Q y H'
/-- _law_refuses(which, first, second, number, word, odd) -/
def spRefuses (K : PySem.W.Frag) : Sp := fun vs H Q _ => ∃ (i : Int) (l r m odd : V) (w : List Nat) (bl br bm : Bool), vs = [.int i, l, r, m, .str (S w), odd] ∧ IsT K H l bl ∧ IsT K H r br ∧ IsC K H m bm ∧ (bl = true → ∀ x, l = .str (S x) → x.length ≤ 1000) ∧ (br = true → ∀ x, r = .str (S x) → x.length ≤ 1000) ∧ (bm = true → ∀ n : Nat, m = .int (n : Int) → n ≤ 10000) ∧
  ((w = text ∧ first2 l r bl br odd) ∨ (w = count ∧ bl = true ∧ br = true ∧ bm = false ∧ ¬ (i = 0 ∨ i = 1) ∧ odd = m)) ∧ Vl H odd ∧ ∀ H', KeepL odd H H' → Q (.bl true) H'
theorem met_ref {K : PySem.W.Frag} {H : Hp} {Q : VK} {E : XK} {i : Int} {l r m odd : V} {w : List Nat} {bl br bm : Bool} (hl : IsT K H l bl) (hr : IsT K H r br) (hm : IsC K H m bm) (nl : bl = true → ∀ x, l = .str (S x) → x.length ≤ 1000) (nr : br = true → ∀ x, r = .str (S x) → x.length ≤ 1000) (nm : bm = true → ∀ n : Nat, m = .int (n : Int) → n ≤ 10000)
    (hw : (w = text ∧ first2 l r bl br odd) ∨ (w = count ∧ bl = true ∧ br = true ∧ bm = false ∧ ¬ (i = 0 ∨ i = 1) ∧ odd = m)) (k : ∀ t H', Same H H' → H t = none → H' t = some (.lst [.str (S w), odd]) → Q (.ref t) H') : spMet K [.int i, l, r, m] H Q E := by
  rcases hw with ⟨rfl, hf⟩ | ⟨rfl, rfl, rfl, rfl, hi, rfl⟩
  · have no : bl = true → br = true → False := fun e1 e2 => by subst e1; subst e2; exact first2_no hf
    exact ⟨i, l, r, m, bl, br, bm, rfl, hl, hr, hm, nl, nr, nm, fun _ _ _ _ e1 e2 _ => (no e1 e2).elim, fun _ _ _ _ _ _ e1 e2 => (no e1 e2).elim, fun v hv t H' s n e => k t H' s n (by rw [first2_fun hf hv]; exact e), fun e1 e2 => (no e1 e2).elim⟩
  · exact ⟨i, l, r, odd, true, true, false, rfl, hl, hr, hm, nl, nr, nm, fun _ _ _ _ _ _ no => (hi no).elim, fun _ _ _ _ _ _ _ _ z => (by cases z), fun v hv => (first2_no hv).elim, fun _ _ _ _ t H' s n e => k t H' s n e⟩
section
variable {P : Program} {w : World} {K : PySem.W.Frag} {mg : Str → Option Value} {base : Heap} {f : Addr} {fd : FuncData}
theorem ok_odd (F : Fun K "_law_odd" "_law_odd" s__law_odd f fd) (c__law_take : Cal P w K mg base "_law_take" ["box", "many"] 1 spTake) (z : Z mg) : FnOk P w K mg base CX0 2 f fd ["box", "text"] spOdd := by
  refine F.ok sc__law_odd (fun vs H Q E h => ?_) (fun cdv A outer s H vs Q E hr h => ?_)
  · obtain ⟨b, t, d, rfl, _⟩ := h; rfl
  · obtain ⟨b, t, d, rfl, zt, ht, B, hd, k⟩ := h
    refine ⟨_, (pss_cons (ps_par (i := 2) (j := 3) rfl sc__law_odd.nd rfl rfl (by decide) rfl rfl (pa_cons (pe_cal c__law_take hr (pa_cons (pv 0) (pa_cons pe_int pa_nil))) (pa_cons (pe_cal c__law_take hr (pa_cons (pv 0) (pa_cons (pe_op op_add (pe_callB call_lenS (by rfl) z.len PySem.boot_len (pa_cons (pv 1) pa_nil)) pe_int) pa_nil))) pa_nil)) (by rfl))
      (pss_cons (ps_if (pt_cmpR op_lt (pv 2) pe_int (nomark _))
        (pss_one (ps_ret (pe_op op_addS (pe_op op_addS (pe_slice sl_S (pv 1) po_none (po_some (pv 3))) (pe_ix ix_list (pe_lst (pa_cons (pe_strS (l := [65]) (by decide +kernel)) (pa_cons (pe_strS (l := [123]) (by decide +kernel)) (pa_cons (pe_strS (l := [32]) (by decide +kernel)) (pa_cons (pe_strS (l := [48]) (by decide +kernel)) (pa_cons (pe_strS (l := [45]) (by decide +kernel)) (pa_cons (pe_strS (l := [90]) (by decide +kernel)) (pa_cons (pe_strS (l := [10]) (by decide +kernel)) pa_nil)))))))) (pv 2) (fun _ _ => rfl))) (pe_slice sl_S (pv 1) (po_some (pv 3)) po_none))))
        pss_nil)
      (pss_one (ps_ret (pe_ix ix_list (pe_lst (pa_cons pe_non (pa_cons pe_int (pa_cons pe_bl (pa_cons (pe_lst (pa_cons (pv 1) pa_nil)) (pa_cons (pe_tup (pa_cons (pv 1) (pa_cons (pe_strS (l := [97]) (by decide +kernel)) pa_nil))) (pa_cons pe_dnewK pa_nil))))))) (pe_op op_sub (pv 2) pe_int) (fun _ _ => rfl)))))), ?_⟩
    walk_at "rd"
    refine ⟨b, 13, d, rfl, B, by omega, by omega, by omega, fun r H1 r0 r1 B1 s1 => ?_⟩
    walk_at "rd"
    refine ⟨b, (t.length : Int) + 1, d + 1, rfl, B1, by omega, by omega, by omega, fun sp H4 p0 p1 B4 s4 => ?_⟩
    have s14 := s1.trans s4
    walk_at "rd"
    refine iteB (fun hr6 => ?_) (fun hr6 => ?_)
    · walk_at "rd"
      refine ⟨Nat.le_of_ble_eq_true rfl, fun p np => ?_⟩
      walk_at "rd"
      obtain ⟨x, ex, zx, lx⟩ : ∃ x, ([.str (S [65]), .str (S [123]), .str (S [32]), .str (S [48]), .str (S [45]), .str (S [90]), .str (S [10])] : List V)[r.toNat]? = some (.str (S [x])) ∧ azB [x] = false ∧ x ≤ 1000 := by
        have hj : r = 0 ∨ r = 1 ∨ r = 2 ∨ r = 3 ∨ r = 4 ∨ r = 5 ∨ r = 6 := by omega
        rcases hj with rfl | rfl | rfl | rfl | rfl | rfl | rfl
        · exact ⟨_, rfl, by decide, by decide⟩
        · exact ⟨_, rfl, by decide, by decide⟩
        · exact ⟨_, rfl, by decide, by decide⟩
        · exact ⟨_, rfl, by decide, by decide⟩
        · exact ⟨_, rfl, by decide, by decide⟩
        · exact ⟨_, rfl, by decide, by decide⟩
        · exact ⟨_, rfl, by decide, by decide⟩
      refine i_ixLv upd_same r0 ex ?_
      walk_at "rd"
      have za : azB (t.take sp.toNat ++ [x] ++ t.drop sp.toNat) = false := by rw [azB_app, azB_app, zx, Bool.and_false, Bool.false_and]
      have lt : (t.take sp.toNat ++ [x] ++ t.drop sp.toNat).length ≤ 1000 := by simp only [List.length_append, List.length_take, List.length_drop, List.length_cons, List.length_nil]; omega
      have cx : ∀ c ∈ t.take sp.toNat ++ [x] ++ t.drop sp.toNat, c ≤ 1000 := by
        intro c hc
        rcases List.mem_append.mp hc with hc | hc
        · rcases List.mem_append.mp hc with hc | hc
          · exact azB_le zt c (List.mem_of_mem_take hc)
          · rw [List.mem_singleton.mp hc]; exact lx
        · exact azB_le zt c (List.mem_of_mem_drop hc)
      refine k _ _ ⟨.inr (.inr (.inr (.inr (.inl ⟨_, rfl, cx, lt⟩)))), fun l e => ?_⟩ ((B4.same (same_upd np)).mono (by omega)) (s14.trans (SB.of (same_upd np)))
      cases S_inj.mp (V.str.inj e)
      exact za
    · walk_at "rd"
      refine ⟨Nat.le_of_ble_eq_true rfl, fun p1 n1 => ?_⟩
      walk_at "rd"
      refine ⟨Nat.le_of_ble_eq_true rfl, fun p2 n2 => ?_⟩
      walk_at "rd"
      intro p3 n3
      walk_at "rd"
      refine ⟨Nat.le_of_ble_eq_true rfl, fun p4 n4 => ?_⟩
      obtain ⟨q2, q3⟩ : H4 p2 = none ∧ H4 p3 = none := ⟨(same_upd n1).free n2, (Same.upd_new (same_upd n1) n2).free n3⟩
      have sA := Same.upd_new (o := .lst [.non, .int 5, .bl true, .ref p1, .ref p2, .ref p3]) (Same.upd_new (o := .dK []) (Same.upd_new (o := .tup [.str (S t), .str (S [97])]) (same_upd (o := .lst [.str (S t)]) n1) n2) n3) n4
      have e1 := upd_old (o := .lst [.non, .int 5, .bl true, .ref p1, .ref p2, .ref p3]) n4 (upd_old (o := .dK []) n3 (upd_old (o := .tup [.str (S t), .str (S [97])]) n2 (upd_same (H := H4) (a := p1) (o := .lst [.str (S t)]))))
      have e2 := upd_old (o := .lst [.non, .int 5, .bl true, .ref p1, .ref p2, .ref p3]) n4 (upd_old (o := .dK []) n3 (upd_same (H := upd H4 p1 (.lst [.str (S t)])) (a := p2) (o := .tup [.str (S t), .str (S [97])])))
      have e3 := upd_old (o := .lst [.non, .int 5, .bl true, .ref p1, .ref p2, .ref p3]) n4 (upd_same (H := upd (upd H4 p1 (.lst [.str (S t)])) p2 (.tup [.str (S t), .str (S [97])])) (a := p3) (o := .dK []))
      have e4 := upd_same (H := upd (upd (upd H4 p1 (.lst [.str (S t)])) p2 (.tup [.str (S t), .str (S [97])])) p3 (.dK [])) (a := p4) (o := .lst [.non, .int 5, .bl true, .ref p1, .ref p2, .ref p3])
      generalize upd (upd (upd (upd H4 p1 (.lst [.str (S t)])) p2 (.tup [.str (S t), .str (S [97])])) p3 (.dK [])) p4 (.lst [.non, .int 5, .bl true, .ref p1, .ref p2, .ref p3]) = H8 at *
      have BA := (B4.same sA).mono (show d + 1 + 1 ≤ d + 2 by omega)
      have sB := s14.trans (SB.of sA)
      walk_at "rd"
      have az1 : ∀ c ∈ t, c ≤ 1000 := azB_le zt
      have hr : r = 7 ∨ r = 8 ∨ r = 9 ∨ r = 10 ∨ r = 11 ∨ r = 12 := by omega
      rcases hr with rfl | rfl | rfl | rfl | rfl | rfl
      · refine i_ixLv e4 (by omega) rfl ?_
        exact k _ _ ⟨.inr (.inl rfl), fun l e => by cases e⟩ BA sB
      · refine i_ixLv e4 (by omega) rfl ?_
        exact k _ _ ⟨.inr (.inr (.inr (.inl ⟨5, rfl, small_nat (n := 5) (by omega)⟩))), fun l e => by cases e⟩ BA sB
      · refine i_ixLv e4 (by omega) rfl ?_
        exact k _ _ ⟨.inr (.inr (.inl ⟨true, rfl⟩)), fun l e => by cases e⟩ BA sB
      · refine i_ixLv e4 (by omega) rfl ?_
        exact k _ _ ⟨.inl ⟨p1, _, rfl, e1, .inl ⟨t, rfl, az1, by omega⟩⟩, fun l e => by cases e⟩ BA sB
      · refine i_ixLv e4 (by omega) rfl ?_
        refine k _ _ ⟨.inr (.inr (.inr (.inr (.inr (.inl ⟨p2, _, rfl, e2, by simp, fun x hx => ?_⟩))))), fun l e => by cases e⟩ BA sB
        simp only [List.mem_cons, List.not_mem_nil, or_false] at hx
        rcases hx with rfl | rfl
        · exact .inl ⟨t, rfl, az1, by omega⟩
        · exact .inl ⟨[97], rfl, by simp, by simp⟩
      · refine i_ixLv e4 (by omega) rfl ?_
        exact k _ _ ⟨.inr (.inr (.inr (.inr (.inr (.inr ⟨p3, rfl, e3⟩))))), fun l e => by cases e⟩ BA sB
theorem ok_copy (F : Fun K "_law_copy" "_law_copy" s__law_copy f fd) (z : Z mg) : FnOk P w K mg base CX0 1 f fd ["value"] spCopy := by
  refine F.ok sc__law_copy (fun vs H Q E h => ?_) (fun cdv A outer s H vs Q E hr h => ?_)
  · obtain ⟨v, rfl, _⟩ := h; rfl
  · obtain ⟨v, rfl, hv, k⟩ := h
    refine ⟨_, (pss_one (ps_ret (pe_ifExp (pt_val (pe_callB call_isi (by rfl) z.isinstance (by decide +kernel) (pa_cons (pv 0) (pa_cons (pe_bltn (v := .ty "list") (by rfl) z.list (by decide +kernel) rfl) pa_nil)))) (pe_callTy call_list_of (by rfl) z.list (by decide +kernel) (pa_cons (pv 0) pa_nil)) (pv 0)))), ?_⟩
    walk_at "rd"
    rcases hv with ⟨a, x, rfl, ha, hx⟩ | hn
    · refine i_isi true (.base (.lst ha)) (kit_ty (by decide +kernel)) ?_
      walk_at "rd"
      intro p np
      exact k (.ref p) _ (same_upd np) (.inr ⟨a, p, x, rfl, rfl, np, upd_same, hx⟩)
    · obtain ⟨t, h1, h2⟩ := hn.ty (K := K)
      refine i_isi false h1 h2 ?_
      walk_at "rd"
      exact k v _ (Same.refl _) (.inl ⟨rfl, hn⟩)
theorem ok_refuses (F : Fun K "_law_refuses" "_law_refuses" s__law_refuses f fd) (z : Z mg) (c__law_met : Cal P w K mg base "_law_met" ["which", "first", "second", "number"] 6 (spMet K)) : FnG P w K mg base CX0 7 f fd ["which", "first", "second", "number", "word", "odd"] (spRefuses K) := by
  refine Sw.Fun.okG0 F sc__law_refuses (fun vs H Q E h => ?_) (fun cdv A outer s H vs Q E hr quiet h => ?_)
  · obtain ⟨i, l, r, m, odd, w, bl, br, bm, rfl, _⟩ := h; rfl
  · obtain ⟨i, l, r, m, odd, w, bl, br, bm, rfl, hl, hr', hm, nl, nr, nm, hw, hv, k⟩ := h
    refine ⟨_, (pss_cons (ps_set (i := 6) sc__law_refuses.nd rfl (.inl rfl) (pe_cal c__law_met hr (pa_cons (pv 0) (pa_cons (pv 1) (pa_cons (pv 2) (pa_cons (pv 3) pa_nil))))))
      (pss_cons (ps_if (pt_val (pe_callB call_isi (by rfl) z.isinstance (by decide +kernel) (pa_cons (pv 5) (pa_cons (pe_bltn (v := .ty "list") (by rfl) z.list (by decide +kernel) rfl) pa_nil))))
        (pss_one (ps_expr (pe_bm PySem.F.plainAttrs_list PySem.F.slot_list_append PySem.F.type_list_append mt_append (pv 5) (pa_cons (pe_strS (l := [122]) (by decide +kernel)) pa_nil))))
        pss_nil)
      (pss_one (ps_ret (pe_and (pe_cmpR op_eq (pe_ix ix_list (pv 6) pe_int (fun _ _ => rfl)) (pv 4) (nomark _)) (pe_one (pe_cmpR op_eq (pe_callB (call_repW quiet hr.units) (by rfl) z.repr (by decide +kernel) (pa_cons (pe_ix ix_list (pv 6) pe_int (fun _ _ => rfl)) pa_nil)) (pe_callB (call_repW quiet hr.units) (by rfl) z.repr (by decide +kernel) (pa_cons (pv 5) pa_nil)) (nomark _)))))))), ?_⟩
    walk_at "rd"
    refine met_ref hl hr' hm nl nr nm hw fun t H1 s1 nt et => ?_
    walk_at "rd"
    rcases hv with ⟨a, x, rfl, ha, hx⟩ | hn
    · have ha1 := s1 _ _ ha
      refine i_isi true (.base (.lst ha1)) (kit_ty (by decide +kernel)) ?_
      walk_at "rd"
      refine i_append ha1 (by show 1 < sizeLine; decide) ?_
      have nta : t ≠ a := Ne.symm (ne_of_none ha nt)
      have et2 := upd_skip (o := .lst ([x] ++ [.str (S [122])])) nta et
      have ea2 := upd_same (H := H1) (a := a) (o := .lst ([x] ++ [.str (S [122])]))
      have kp : KeepL (.ref a) H (upd H1 a (.lst ([x] ++ [.str (S [122])]))) := fun p o q ho => by
        have pa : p ≠ a := by
          rintro rfl
          rcases q with q | q
          · exact q rfl
          · rw [ha] at ho; cases ho; exact q _ rfl
        rw [L2.upd_ne pa]
        exact s1 p o ho
      generalize upd H1 a (.lst ([x] ++ [.str (S [122])])) = H2 at *
      obtain ⟨ds, d1, d2, _⟩ := small_row (xs := [x] ++ [.str (S [122])]) (fun y hy => by
        simp only [List.cons_append, List.nil_append, List.mem_cons, List.not_mem_nil, or_false] at hy
        rcases hy with rfl | rfl
        · exact hx
        · exact .inl ⟨[122], rfl, by simp, by simp⟩) (by simp)
      have dB : Dc 1 2002 K H2 (.ref a) (.list ds) := .inl ⟨.lst (sqL_of ea2) (d1 K H2), d2⟩
      walk_at "rd"
      rw [decide_eq_true rfl]
      walk_at "rd"
      refine i_repW dB (by omega) (by omega) ?_
      walk_at "rd"
      refine i_repW dB (by omega) (by omega) ?_
      refine ⟨rfl, ?_⟩
      rw [decide_eq_true rfl]
      exact k _ kp
    · obtain ⟨ty, h1, h2⟩ := hn.ty (K := K)
      obtain ⟨dd, h3⟩ := hn.dc (K := K)
      refine i_isi false (TyX.same s1 h1) h2 ?_
      walk_at "rd"
      rw [decide_eq_true rfl]
      walk_at "rd"
      refine i_repW (h3.same s1) (by omega) (by omega) ?_
      walk_at "rd"
      refine i_repW (h3.same s1) (by omega) (by omega) ?_
      refine ⟨rfl, ?_⟩
      rw [decide_eq_true rfl]
      exact k _ fun p o _ ho => s1 p o ho
theorem text_true {K : PySem.W.Frag} {H : Hp} {l : List Nat} (z : azB l = true) (h : l.length ≤ 1000) : IsT K H (.str (S l)) true := by
  have := isT_str (K := K) (H := H) l (by omega)
  rwa [z] at this
theorem small_neg : Small 0 1000 (.int (-1)) ∧ Small 0 1000 (.int (-1000000000)) := by
  refine ⟨⟨?_, ?_, ?_, ?_, ?_, ?_⟩, ⟨?_, ?_, ?_, ?_, ?_, ?_⟩⟩ <;> decide +kernel
/-- _law_refused_right(box, first, second) -/
def spRefused : Sp := fun vs H Q _ => ∃ (b : Addr) (l r : List Nat) (d : Int), vs = [.ref b, .str (S l), .str (S r)] ∧ azB l = true ∧ azB r = true ∧ l.length ≤ 500 ∧ r.length ≤ 500 ∧ BoxAt H b d ∧ d + 5 ≤ 1000000 ∧
  ∀ H', BoxAt H' b (d + 5) → SB b H H' → Q (.bl true) H'
theorem ok_refused (F : Fun K "_law_refused_right" "_law_refused_right" s__law_refused_right f fd) (z : Z mg) (c__law_take : Cal P w K mg base "_law_take" ["box", "many"] 1 spTake) (c__law_odd : Cal P w K mg base "_law_odd" ["box", "text"] 2 spOdd) (c__law_copy : Cal P w K mg base "_law_copy" ["value"] 1 spCopy) (q__law_refuses : CalG P w K mg base "_law_refuses" ["which", "first", "second", "number", "word", "odd"] 7 (spRefuses K)) : FnG P w K mg base CX0 8 f fd ["box", "first", "second"] spRefused := by
  refine Sw.Fun.okG0 F sc__law_refused_right (fun vs H Q E h => ?_) (fun cdv A outer s H vs Q E hr quiet h => ?_)
  · obtain ⟨b, l, r, d, rfl, _⟩ := h; rfl
  · obtain ⟨b, l, r, d, rfl, zl, zr, ll, lr, B, hd, k⟩ := h
    refine ⟨_, (pss_cons (ps_set (i := 3) sc__law_refused_right.nd rfl (.inl rfl) (pe_ix ix_list (pe_lst (pa_cons (pe_un un_neg pe_int) (pa_cons pe_bl (pa_cons pe_non (pa_cons (pe_strS (l := [49]) (by decide +kernel)) (pa_cons (pe_lst (pa_cons pe_int pa_nil)) (pa_cons (pe_tup pa_nil) (pa_cons (pe_op op_sub pe_int (pe_op op_pow pe_int pe_int)) pa_nil)))))))) (pe_cal c__law_take hr (pa_cons (pv 0) (pa_cons pe_int pa_nil))) (fun _ _ => rfl)))
      (pss_cons (ps_par (i := 4) (j := 5) rfl sc__law_refused_right.nd rfl rfl (by decide) rfl rfl (pa_cons (pe_cal c__law_odd hr (pa_cons (pv 0) (pa_cons (pv 1) pa_nil))) (pa_cons (pe_cal c__law_odd hr (pa_cons (pv 0) (pa_cons (pv 2) pa_nil))) pa_nil)) (by rfl))
      (pss_cons (ps_for PassesOwn.never rfl (pi_range1 (by rfl) z.range (pa_cons pe_int pa_nil)) (pg_name (i := 6) sc__law_refused_right.nd rfl (.inl rfl))
        (pss_cons (ps_par3 (i := 7) (j := 8) (l := 9) rfl sc__law_refused_right.nd rfl rfl rfl (by decide) (by decide) (by decide) rfl rfl rfl (pa_cons (pe_cal c__law_copy hr (pa_cons (pv 4) pa_nil)) (pa_cons (pe_cal c__law_copy hr (pa_cons (pv 5) pa_nil)) (pa_cons (pe_cal c__law_copy hr (pa_cons (pv 3) pa_nil)) pa_nil))) (by rfl))
        (pss_cons (ps_if (pt_not (pt_val (pe_calG q__law_refuses hr quiet (pa_cons (pv 6) (pa_cons (pv 7) (pa_cons (pv 2) (pa_cons pe_int (pa_cons (pe_strS (l := [116, 101, 120, 116]) (by decide +kernel)) (pa_cons (pv 7) pa_nil)))))))))
          (pss_one (ps_ret pe_bl))
          pss_nil)
        (pss_cons (ps_set (i := 7) sc__law_refused_right.nd rfl (.inl rfl) (pe_cal c__law_copy hr (pa_cons (pv 4) pa_nil)))
        (pss_cons (ps_if (pt_not (pt_val (pe_calG q__law_refuses hr quiet (pa_cons (pv 6) (pa_cons (pv 1) (pa_cons (pv 8) (pa_cons (pv 9) (pa_cons (pe_strS (l := [116, 101, 120, 116]) (by decide +kernel)) (pa_cons (pv 8) pa_nil)))))))))
          (pss_one (ps_ret pe_bl))
          pss_nil)
        (pss_cons (ps_set (i := 8) sc__law_refused_right.nd rfl (.inl rfl) (pe_cal c__law_copy hr (pa_cons (pv 5) pa_nil)))
        (pss_cons (ps_if (pt_not (pt_val (pe_calG q__law_refuses hr quiet (pa_cons (pv 6) (pa_cons (pv 7) (pa_cons (pv 8) (pa_cons (pv 9) (pa_cons (pe_strS (l := [116, 101, 120, 116]) (by decide +kernel)) (pa_cons (pv 7) pa_nil)))))))))
          (pss_one (ps_ret pe_bl))
          pss_nil)
        (pss_one (ps_if (PW.pt (pw_and (pt_cmpR op_gt (pv 6) pe_int (nomark _)) (pw_and1 (pt_not (pt_val (pe_calG q__law_refuses hr quiet (pa_cons (pv 6) (pa_cons (pv 1) (pa_cons (pv 2) (pa_cons (pv 9) (pa_cons (pe_strS (l := [99, 111, 117, 110, 116]) (by decide +kernel)) (pa_cons (pv 9) pa_nil))))))))))))
          (pss_one (ps_ret pe_bl))
          pss_nil)))))))))
      (pss_one (ps_ret pe_bl))))), ?_⟩
    walk_at "rd"
    refine i_rU ?_
    walk_at "rd"
    refine ⟨Nat.le_of_ble_eq_true rfl, fun p1 n1 => ?_⟩
    walk_at "rd"
    refine ⟨Nat.zero_le _, fun p2 n2 => ?_⟩
    walk_at "rd"
    rw [show (0 : Int) - 10 ^ Int.toNat 9 = -1000000000 from by decide +kernel]
    refine ⟨Nat.le_of_ble_eq_true rfl, fun p3 n3 => ?_⟩
    have sA := Same.upd_new (o := .lst [.int (-1), .bl true, .non, .str (S [49]), .ref p1, .ref p2, .int (-1000000000)]) (Same.upd_new (o := .tup []) (same_upd (o := .lst [.int 2]) n1) n2) n3
    have e1 := upd_old (o := .lst [.int (-1), .bl true, .non, .str (S [49]), .ref p1, .ref p2, .int (-1000000000)]) n3 (upd_old (o := .tup []) n2 (upd_same (H := H) (a := p1) (o := .lst [.int 2])))
    have e2 := upd_old (o := .lst [.int (-1), .bl true, .non, .str (S [49]), .ref p1, .ref p2, .int (-1000000000)]) n3 (upd_same (H := upd H p1 (.lst [.int 2])) (a := p2) (o := .tup []))
    have e3 := upd_same (H := upd (upd H p1 (.lst [.int 2])) p2 (.tup [])) (a := p3) (o := .lst [.int (-1), .bl true, .non, .str (S [49]), .ref p1, .ref p2, .int (-1000000000)])
    have p3b : p3 ≠ b := B.ne_new ((Same.upd_new (o := .tup []) (same_upd (o := .lst [.int 2]) n1) n2).free n3)
    generalize upd (upd (upd H p1 (.lst [.int 2])) p2 (.tup [])) p3 (.lst [.int (-1), .bl true, .non, .str (S [49]), .ref p1, .ref p2, .int (-1000000000)]) = H1 at *
    have B1 := B.same sA
    walk_at "rd"
    refine ⟨b, 7, d, rfl, B1, by omega, by omega, by omega, fun q H2 q0 q1 B2 s2 => ?_⟩
    have e32 := s2 _ _ p3b e3
    obtain ⟨wr, ew, bw1⟩ : ∃ wr, ([.int (-1), .bl true, .non, .str (S [49]), .ref p1, .ref p2, .int (-1000000000)] : List V)[q.toNat]? = some wr ∧ BC H1 wr := by
      have hj : q = 0 ∨ q = 1 ∨ q = 2 ∨ q = 3 ∨ q = 4 ∨ q = 5 ∨ q = 6 := by omega
      rcases hj with rfl | rfl | rfl | rfl | rfl | rfl | rfl
      · exact ⟨_, rfl, .inr (.inr (.inr (.inl ⟨_, rfl, small_neg.1⟩))), fun i e => by cases e; decide⟩
      · exact ⟨_, rfl, .inr (.inr (.inl ⟨_, rfl⟩)), fun i e => by cases e⟩
      · exact ⟨_, rfl, .inr (.inl rfl), fun i e => by cases e⟩
      · exact ⟨_, rfl, .inr (.inr (.inr (.inr (.inl ⟨[49], rfl, by simp, by simp⟩)))), fun i e => by cases e⟩
      · exact ⟨_, rfl, .inl ⟨p1, _, rfl, e1, .inr ⟨2, rfl, by omega⟩⟩, fun i e => by cases e⟩
      · exact ⟨_, rfl, .inr (.inr (.inr (.inr (.inr (.inl ⟨p2, _, rfl, e2, by simp, fun x hx => by cases hx⟩))))), fun i e => by cases e⟩
      · exact ⟨_, rfl, .inr (.inr (.inr (.inl ⟨_, rfl, small_neg.2⟩))), fun i e => by cases e; decide⟩
    refine i_ixLv e32 q0 ew ?_
    have bw2 : BC H2 wr := ⟨bw1.1.sb B1 s2, bw1.2⟩
    have s12 := (SB.of sA).trans s2
    walk_at "rd"
    refine ⟨b, l, _, rfl, zl, by omega, B2, by omega, fun u H3 bu3 B3 s3 => ?_⟩
    have bw3 : BC H3 wr := ⟨bw2.1.sb B2 s3, bw2.2⟩
    walk_at "rd"
    refine ⟨b, r, _, rfl, zr, by omega, B3, by omega, fun v H4 bv B4 s4 => ?_⟩
    have bw : BC H4 wr := ⟨bw3.1.sb B3 s4, bw3.2⟩
    have bu : BT H4 u := ⟨bu3.1.sb B3 s4, bu3.2⟩
    have s14 := s12.trans (s3.trans s4)
    walk_at "rd"
    refine i_rng (by omega) (by omega) ?_
    refine go_for walk_rangeZ (fun i σ H5 => ∃ (u6 u7 u8 u9 : Option V), σ = [some (.ref b), some (.str (S l)), some (.str (S r)), some wr, some u, some v, u6, u7, u8, u9] ∧ Same H4 H5) ⟨_, _, _, _, rfl, Same.refl _⟩ (fun _ _ _ _ _ => trivial) (fun i x σ H5 HA hi h y => ?_) (fun σ H5 h => ?_)
    · obtain ⟨u6, u7, u8, u9, rfl, sA'⟩ := h
      obtain ⟨rfl, rfl⟩ := y
      have tl : IsT K HA (.str (S l)) true := text_true zl (by omega)
      have tr : IsT K HA (.str (S r)) true := text_true zr (by omega)
      walk_at "rd"
      refine ⟨u, rfl, (bu.same sA').1, fun y1 HB sB c1 => ?_⟩
      have sAB := sA'.trans sB
      walk_at "rd"
      refine ⟨v, rfl, (bv.same sAB).1, fun y2 HC sC c2 => ?_⟩
      have sAC := sAB.trans sC
      walk_at "rd"
      refine ⟨wr, rfl, (bw.same sAC).1, fun y3 HD sD c3 => ?_⟩
      have b1B : BT HB y1 := c1.bt sB (bu.same sA')
      have b1C := b1B.same sC
      have b1D := b1C.same sD
      have b2C : BT HC y2 := c2.bt sC (bv.same sAB)
      have b2D := b2C.same sD
      have b3D : BC HD y3 := c3.bc sD (bw.same sAC)
      have q12 := c2.sep b1B.1
      have q13 := c3.sep b1C.1
      have q23 := c3.sep b2C.1
      have f1 : Fresh HA y1 := c1.fresh
      have f2 : Fresh HA y2 := c2.fresh.back sB
      have f3 : Fresh HA y3 := c3.fresh.back (sB.trans sC)
      have sAD := sB.trans (sC.trans sD)
      walk_at "rd"
      refine ⟨i, y1, .str (S r), .int 3, y1, text, false, true, true, rfl, b1D.isT, text_true zr (by omega), isC_nat 3, (fun e => by cases e), nl_text (by omega), (fun _ n e => by cases e; decide), .inl ⟨rfl, by unfold first2; rw [if_pos rfl]⟩, b1D.1, fun HE kE => ?_⟩
      have sAE := f1.kept sAD kE
      have b2E : BT HE y2 := ⟨kE.vl b2D.1 ((sep_flip q12).imp id fun n => (n.same sC).same sD), b2D.2⟩
      have b3E : BC HE y3 := ⟨kE.vl b3D.1 ((sep_flip q13).imp id fun n => n.same sD), b3D.2⟩
      walk_at "rd"
      refine ⟨u, rfl, (bu.same (sA'.trans sAE)).1, fun y4 HF sF c4 => ?_⟩
      have b4F : BT HF y4 := c4.bt sF (bu.same (sA'.trans sAE))
      have q24 := c4.sep b2E.1
      have q34 := c4.sep b3E.1
      have f4 : Fresh HA y4 := c4.fresh.back sAE
      walk_at "rd"
      refine ⟨i, .str (S l), y2, y3, y2, text, true, false, false, rfl, text_true zl (by omega), (b2E.same sF).isT, (b3E.same sF).isC, nl_text (by omega), (fun e => by cases e), (fun e => by cases e), .inl ⟨rfl, by unfold first2; rw [if_neg (by simp)]; exact ⟨rfl, rfl⟩⟩, (b2E.same sF).1, fun HG kG => ?_⟩
      have sAG := f2.kept (sAE.trans sF) kG
      have b3G : BC HG y3 := ⟨kG.vl (b3E.same sF).1 ((sep_flip q23).imp id fun n => ((n.same sD).keep kE).same sF), b3E.2⟩
      have b4G : BT HG y4 := ⟨kG.vl b4F.1 ((sep_flip q24).imp id fun n => n.same sF), b4F.2⟩
      walk_at "rd"
      refine ⟨v, rfl, (bv.same (sA'.trans sAG)).1, fun y5 HI sI c5 => ?_⟩
      have b5I : BT HI y5 := c5.bt sI (bv.same (sA'.trans sAG))
      have b4I := b4G.same sI
      have b3I := b3G.same sI
      walk_at "rd"
      refine ⟨i, y4, y5, y3, y4, text, false, false, false, rfl, b4I.isT, b5I.isT, b3I.isC, (fun e => by cases e), (fun e => by cases e), (fun e => by cases e), .inl ⟨rfl, by unfold first2; rw [if_pos rfl]⟩, b4I.1, fun HJ kJ => ?_⟩
      have sAJ := f4.kept (sAG.trans sI) kJ
      have b3J : BC HJ y3 := ⟨kJ.vl b3I.1 (q34.imp id fun n => ((n.same sF).keep kG).same sI), b3I.2⟩
      walk_at "rd"
      refine iteB (fun c => ?_) (fun c => ?_)
      · walk_at "rd"
        refine ⟨i, .str (S l), .str (S r), y3, y3, count, true, true, false, rfl, text_true zl (by omega), text_true zr (by omega), b3J.isC, nl_text (by omega), nl_text (by omega), (fun e => by cases e), .inr ⟨rfl, rfl, rfl, rfl, by omega, rfl⟩, b3J.1, fun HK kK => ?_⟩
        walk_at "rd"
        exact ⟨_, _, _, _, rfl, sA'.trans (f3.kept sAJ kK)⟩
      · walk_at "rd"
        exact ⟨_, _, _, _, rfl, sA'.trans sAJ⟩
    · obtain ⟨u6, u7, u8, u9, rfl, s5⟩ := h
      walk_at "rd"
      exact k _ ((B4.same s5).mono (by omega)) (s14.trans (SB.of s5))
end
end Sw
namespace Sw
open PySem PySem.Spec PyProof.Rows L2
local macro_rules | `(tactic| walk_at "hp") => `(tactic| first
  | (with_reducible assumption) | (with_reducible exact upd_same)
  | ((with_reducible refine' upd_old ?q1 ?q2); (case q1 => (with_reducible assumption)); (case q2 => walk_at "hp"))
  | ((with_reducible refine' Same.at ?q1 ?q2); (case q1 => (with_reducible assumption)); (case q2 => walk_at "hp"))
  | ((with_reducible refine' upd_skip ?q1 ?q2); (case q1 => walk_at "ne"); (case q2 => walk_at "hp"))
  | fail)
local macro_rules | `(tactic| walk_at "ne") => `(tactic| first
  | (with_reducible assumption) | (with_reducible exact Ne.symm (by assumption))
  | ((with_reducible refine' ne_of_none ?q1 ?q2); (case q2 => (with_reducible assumption)); (case q1 => walk_at "hp"))
  | fail)
local macro_rules | `(tactic| walk_at "ci") => `(tactic| first | assumption | (show (0 : Int) < _; first | decide | (with_reducible omega)) | exact ⟨by decide, by decide⟩ | exact .inl ⟨by decide, by decide⟩ | exact .inr ⟨by decide, by decide⟩)
local macro_rules | `(tactic| walk_at "ln") => `(tactic| first | (with_reducible assumption) | (with_reducible omega) | (simp only [List.length_append, List.length_take, List.length_drop, List.length_reverse, List.length_cons, List.length_nil]; with_reducible omega))
local macro_rules | `(tactic| walk_at "rd1") => `(tactic| first
  | (with_reducible refine i_seq ?_) | (with_reducible refine i_asg ?_) | (with_reducible refine i_ret ?_) | (with_reducible refine i_name ?_) | ((with_reducible refine' i_var ?q1 ?_); (case q1 => exact rfl)) | (with_reducible refine i_c ?_) | (with_reducible refine i_op ?_) | (with_reducible refine i_un ?_)
  | (with_reducible refine i_rI0 ?_) | (with_reducible refine i_cb ?_) | (with_reducible refine i_cons ?_) | (with_reducible refine i_nil ?_) | (with_reducible refine i_call ?_) | (with_reducible refine i_if ?_) | (with_reducible refine i_ifE ?_) | (with_reducible refine i_test ?_) | (with_reducible refine i_bl ?_)
  | (with_reducible refine i_and ?_) | (with_reducible refine i_or ?_) | (with_reducible refine i_not ?_) | (with_reducible refine i_lst ?_) | (with_reducible refine i_tup ?_) | (with_reducible refine i_next ?_) | (with_reducible refine i_drop ?_) | (with_reducible refine i_sub ?_)
  | (with_reducible refine i_bm ?_) | (with_reducible refine i_sl ?_) | (with_reducible refine i_part ?_) | (with_reducible refine i_nopart ?_) | (with_reducible refine i_exI ?_) | (with_reducible refine i_chain ?_) | ((with_reducible refine' i_aug ?q1 ?_); (case q1 => exact rfl)) | (with_reducible refine i_ip ?_)
  | (with_reducible refine i_par ?_) | (with_reducible refine i_pair ?_) | (with_reducible refine i_andV ?_) | (with_reducible refine i_orV ?_) | (with_reducible refine i_notV ?_) | (with_reducible refine i_m1 ?_) | (with_reducible refine i_str ?_)
  | (with_reducible refine iteF ?_) | (with_reducible refine iteT ?_) | (with_reducible refine iteNT ?_) | (with_reducible refine iteNF ?_) | (with_reducible refine i_tyS ?_) | (with_reducible refine i_tB ?_) | (with_reducible refine i_retN ?_) | (with_reducible refine i_par3 ?_) | (with_reducible refine i_trip ?_) | (with_reducible refine i_gCons ?_) | (with_reducible refine i_gNil ?_) | (with_reducible refine i_lstRg ?_) | (with_reducible refine i_rg1 ?_)
  | (with_reducible refine i_lc ?_) | (with_reducible refine i_for ?_) | (with_reducible refine i_iList ?_) | (with_reducible refine i_iTup ?_) | (with_reducible refine i_iStr ?_) | (with_reducible refine i_iRng1 ?_) | (with_reducible refine i_iEnS ?_)
  | ((with_reducible refine' i_ixTH ?q1 ?q2 ?_); (case q1 => walk_at "hp"); (case q2 => exact rfl))
  | ((with_reducible refine' i_ixLH ?q1 ?q2 ?_); (case q1 => walk_at "hp"); (case q2 => exact rfl))
  | ((with_reducible refine i_addS ?q1 ?_); (case q1 => walk_at "ln")) | ((with_reducible refine i_lenSS ?q1 ?_); (case q1 => walk_at "ln")) | ((with_reducible refine i_slFrom ?q1 ?q2 ?_); (case q1 => walk_at "ln"); (case q2 => walk_at "ln")) | ((with_reducible refine i_slTo ?q1 ?q2 ?_); (case q1 => walk_at "ln"); (case q2 => walk_at "ln"))
  | ((with_reducible refine' i_tyL ?q1 ?_); (case q1 => walk_at "hp"))
  | ((with_reducible refine' i_gTupH ?q1 ?q2 ?_); (case q1 => walk_at "hp"); (case q2 => exact rfl))
  | (with_reducible refine i_dnew ?_) | (with_reducible refine i_init ?_) | (with_reducible refine i_fst ?_) | (with_reducible refine i_mk ?_) | (with_reducible refine i_raise ?_) | (with_reducible refine i_callS ?_) | (with_reducible refine i_kwS ?_)
  | (with_reducible refine i_revT ?_) | (with_reducible refine i_kw ?_) | ((with_reducible refine' ⟨_, _, rfl, sqT_of ?q1, ?_⟩); (case q1 => walk_at "hp"))
  | (with_reducible refine i_revS ?_) | ((with_reducible refine i_revSS ?q1 ?_); (case q1 => walk_at "ln"))
  | (with_reducible refine i_startS ?_) | (with_reducible refine i_inSg ?_) | (with_reducible refine i_absN ?_) | (with_reducible refine i_min2 ?_) | (with_reducible refine i_max2 ?_) | (with_reducible refine i_min3 ?_) | (with_reducible refine i_intN ?_) | (with_reducible refine i_intNB ?_)
  | ((with_reducible refine' i_lenL ?q1 ?_); (case q1 => walk_at "hp")) | ((with_reducible refine' i_lenT ?q1 ?_); (case q1 => walk_at "hp"))
  | (with_reducible refine i_eqI ?_) | (with_reducible refine i_neI ?_) | (with_reducible refine i_eqS ?_) | (with_reducible refine i_neS ?_) | (with_reducible refine i_isNoI ?_) | (with_reducible refine i_isNoN ?_) | (with_reducible refine i_isNoR ?_)
  | ((with_reducible refine i_pow ?q1 ?q2 ?q3 ?_); (case q1 => decide); (case q2 => decide); (case q3 => (with_reducible omega)))
  | ((with_reducible refine i_rI ?q1 ?_); (case q1 => walk_at "ci"))
  | (with_reducible refine Or.inl ⟨_, rfl, ?_⟩) | (with_reducible refine Or.inr ⟨_, rfl, ?_⟩) | (with_reducible refine ⟨_, rfl, ?_⟩) | (with_reducible refine ⟨_, _, rfl, ?_⟩) | (with_reducible refine ⟨_, _, rfl, rfl, ?_⟩)
  | ((with_reducible refine' ⟨_, _, rfl, Or.inl (sqL_of ?q1), ?_⟩); (case q1 => walk_at "hp")) | ((with_reducible refine' ⟨_, _, rfl, Or.inr (sqT_of ?q1), ?_⟩); (case q1 => walk_at "hp")) | fail)
local macro_rules | `(tactic| walk_at "rd") => `(tactic| repeat' walk_at "rd1")

/-- law(script) -/
def spLaw (K : PySem.W.Frag) : Sp := fun vs H Q _ => ∃ (a : Addr) (ns : List Int), vs = [.ref a] ∧ SqL K H a (ns.map V.int) ∧ ∀ H', Same H H' → Q (.bl true) H'
section
variable {P : Program} {w : World} {K : PySem.W.Frag} {mg : Str → Option Value} {base : Heap} {f : Addr} {fd : FuncData}
theorem ok_law (F : Fun K "law" "law" s_law f fd) (z : Z mg) (c__law_texts : Cal P w K mg base "_law_texts" ["box"] 3 spTexts) (q__law_right : CalG P w K mg base "_law_right" ["box", "first", "second"] 7 spRight) (q__law_refused_right : CalG P w K mg base "_law_refused_right" ["box", "first", "second"] 8 spRefused) (q__law_long_right : CalG P w K mg base "_law_long_right" ["box"] 7 spLong) (q__law_wide_right : CalG P w K mg base "_law_wide_right" ["box"] 7 spWide)
    (c__law_box : Cal P w K mg base "_law_box" ["great"] 1 spBox) (c__law_cell : Cal P w K mg base "_law_cell" ["script", "k"] 1 (spCell K)) : FnG P w K mg base CX0 9 f fd ["script"] (spLaw K) := by
  refine Sw.Fun.okG0 F sc_law (fun vs H Q E h => ?_) (fun cdv A outer s H vs Q E hr quiet h => ?_)
  · obtain ⟨a, ns, rfl, _⟩ := h; rfl
  · obtain ⟨a, ns, rfl, L, k⟩ := h
    refine ⟨_, (pss_cons (ps_for PassesOwn.never rfl (pi_range1 (by rfl) z.range (pa_cons (pe_callB (call_max2N rfl) (by rfl) z.max_ (by decide +kernel) (pa_cons pe_int (pa_cons (pe_callB (call_min2N rfl) (by rfl) z.min_ (by decide +kernel) (pa_cons pe_int (pa_cons (pe_callB call_lenQ (by rfl) z.len PySem.boot_len (pa_cons (pv 0) pa_nil)) pa_nil))) pa_nil))) pa_nil)) (pg_name (i := 1) sc_law.nd rfl (.inl rfl))
        (pss_cons (ps_set (i := 2) sc_law.nd rfl (.inl rfl) (pe_cal c__law_box hr (pa_cons (pe_cal c__law_cell hr (pa_cons (pv 0) (pa_cons (pv 1) pa_nil))) pa_nil)))
        (pss_cons (ps_asg (pe_cal c__law_texts hr (pa_cons (pv 2) pa_nil)) (pg_lst rfl (pgs_cons (pg_name (i := 3) sc_law.nd rfl (.inl rfl)) (pgs_cons (pg_name (i := 4) sc_law.nd rfl (.inl rfl)) pgs_nil))))
        (pss_cons (ps_if (PW.pt (pw_or (pt_not (pt_val (pe_calG q__law_right hr quiet (pa_cons (pv 2) (pa_cons (pv 3) (pa_cons (pv 4) pa_nil)))))) (pw_or1 (pt_not (pt_val (pe_calG q__law_refused_right hr quiet (pa_cons (pv 2) (pa_cons (pv 3) (pa_cons (pv 4) pa_nil)))))))))
          (pss_one (ps_ret pe_bl))
          pss_nil)
        (pss_one (ps_if (PW.pt (pw_and (pt_cmpR op_eq (pv 1) pe_int (nomark _)) (pw_and1 (pt_not (PW.pt (pw_and (pt_val (pe_calG q__law_long_right hr quiet (pa_cons (pv 2) pa_nil))) (pw_and1 (pt_val (pe_calG q__law_wide_right hr quiet (pa_cons (pv 2) pa_nil))))))))))
          (pss_one (ps_ret pe_bl))
          pss_nil))))))
      (pss_one (ps_ret pe_bl))), ?_⟩
    walk_at "rd"
    refine i_lenK L ?_
    walk_at "rd"
    rw [List.length_map]
    refine i_rng (by omega) (by omega) ?_
    refine go_for walk_rangeZ (fun i σ H2 => ∃ u1 u2 u3 u4, σ = [some (.ref a), u1, u2, u3, u4] ∧ Same H H2) ⟨none, none, none, none, rfl, Same.refl _⟩ (fun _ _ _ _ _ => trivial) (fun i v σ H2 H3 hi p y => ?_) (fun σ H2 p => ?_)
    · obtain ⟨u1, u2, u3, u4, rfl, s2⟩ := p
      obtain ⟨rfl, rfl⟩ := y
      walk_at "rd"
      refine ⟨a, ns, i, rfl, Same.sqL s2 L, by omega, by omega, fun v H4 s4 => ?_⟩
      walk_at "rd"
      refine ⟨v, rfl, fun b H5 nb s5 B5 => ?_⟩
      walk_at "rd"
      refine ⟨b, 0, rfl, B5, by omega, fun pp l r H6 np e6 ll lr zl zr B6 s6 => ?_⟩
      walk_at "rd"
      refine ⟨pp, _, rfl, sqL_of e6, rfl, ?_⟩
      walk_at "rd"
      refine ⟨b, l, r, _, rfl, zl, zr, by omega, by omega, B6, by omega, fun H7 B7 s7 => ?_⟩
      walk_at "rd"
      refine ⟨b, l, r, _, rfl, zl, zr, by omega, by omega, B7, by omega, fun H8 B8 s8 => ?_⟩
      have keep : ∀ {H9 : Hp}, SB b H8 H9 → Same H H9 := fun s9 x o e => by
        have e4 := s4 _ _ (s2 _ _ e)
        have nxb : x ≠ b := ne_of_none e4 nb
        exact s9 _ _ nxb (s8 _ _ nxb (s7 _ _ nxb (s6 _ _ nxb (s5 _ _ e4))))
      walk_at "rd"
      refine iteB (fun _ => ?_) (fun _ => ?_)
      · walk_at "rd"
        refine ⟨b, _, rfl, B8, by omega, fun H9 B9 s9 => ?_⟩
        walk_at "rd"
        refine ⟨b, _, rfl, B9, by omega, fun H10 s10 => ?_⟩
        walk_at "rd"
        exact ⟨_, _, _, _, rfl, keep (s9.trans s10)⟩
      · walk_at "rd"
        exact ⟨_, _, _, _, rfl, keep (SB.refl _)⟩
    · obtain ⟨u1, u2, u3, u4, rfl, s2⟩ := p
      walk_at "rd"
      exact k _ s2
end
end Sw
namespace Sw
open PySem PySem.Spec PyProof.Rows L2
theorem def_mk {K : PySem.W.Frag} {h : Heap} {mg : Str → Option Value} {x : Str} {st : Stmt} {f : Addr} {od an : Option Addr} {sl : Array (Option Value)} {oc kV dc pm cd ct : Value} (X : K.In h) (G : h.Ns mainGlobals mg)
    (a : PySem.W.nsIn K mainGlobals x = some (some (.ref f))) (l : K.lookup f = some ⟨oc, od, .func (PySem.W.fnOf x x (defArgs st) (defBody st) (defScope st) .none kV dc pm an cd ct), sl⟩) (c : PySem.W.codeIn K cd x = true) (k : PySem.W.keepIn K (.ref f) = true) : Def K mg x st :=
  ⟨f, _, fun_mk l c k, PySem.W.mg_of X G a⟩
theorem oex_mk {K : PySem.W.Frag} {C B N : Addr} {nm q : Str} {bs : List Value} {sn : List Str} {sub : List Value} {ab : Bool} {col : Option Bool} {dd : Option Addr} {k0 k1 k2 k3 k5 : Option Value}
    (h : K.lookup C = some (excClassObj nm q C N bs [.ref B, .type "Exception", .type "BaseException", .type "object"] true sn sub ab col dd k0 k1 k2 k3 k5 "Exception.__new__")) (sa : PySem.W.findIn K (.ref C) "__setattr__" = some (some (.builtin "object.__setattr__"))) (exC : PySem.W.subIn K (.ref C) (.type "BaseException") = some true)
    (tyC : PySem.W.typeIn K (.ref C) = some (.type "type")) (kC : PySem.W.keepIn K (.ref C) = true) : OexE K C := ⟨⟨nm, q, N, bs, [B], sn, sub, ab, col, dd, k0, k1, k2, k3, k5, h⟩, sa, exC, tyC, kC⟩
theorem exm_mk {K : PySem.W.Frag} {c : Value} (h1 : PySem.W.subIn K c (.type "BaseException") = some true) (h2 : PySem.W.kitCls K c c = some true) : PySem.W.exmOne K c c = some true := by
  unfold PySem.W.exmOne
  rw [h1]
  exact h2
/-- the class, its own __init__ apart -/
structure XC (K : PySem.W.Frag) (mg : Str → Option Value) (C B : Addr) : Prop where
  T : OexE K C
  xf : XfC K C
  no : PySem.W.findIn K (.ref C) "given" = some none
  hm : mg "InvalidText" = some (.ref C)
  me : PySem.W.exmOne K (.ref C) (.ref C) = some true
  ov : Over K mg B
  ini : ∃ (fI : Addr) (fd : FuncData), PySem.W.findIn K (.ref C) "__init__" = some (some (.ref fI)) ∧ PySem.W.typeIn K (.ref fI) = some (.type "function") ∧ Fun K "__init__" "InvalidText.__init__" s_init fI fd
theorem ini_mk {K : PySem.W.Frag} {C fI : Addr} {od an : Option Addr} {sl : Array (Option Value)} {oc kV dc pm cd ct : Value} (i : PySem.W.findIn K (.ref C) "__init__" = some (some (.ref fI))) (t : PySem.W.typeIn K (.ref fI) = some (.type "function"))
    (l : K.lookup fI = some ⟨oc, od, .func (PySem.W.fnOf "__init__" "InvalidText.__init__" (defArgs s_init) (defBody s_init) (defScope s_init) .none kV dc pm an cd ct), sl⟩) (c : PySem.W.codeIn K cd "InvalidText.__init__" = true) (k : PySem.W.keepIn K (.ref fI) = true) :
    ∃ (fI : Addr) (fd : FuncData), PySem.W.findIn K (.ref C) "__init__" = some (some (.ref fI)) ∧ PySem.W.typeIn K (.ref fI) = some (.type "function") ∧ Fun K "__init__" "InvalidText.__init__" s_init fI fd := ⟨fI, _, i, t, fun_mk l c k⟩
theorem exn_mk {K : PySem.W.Frag} {d c : Value} (h1 : PySem.W.subIn K c (.type "BaseException") = some true) (h2 : PySem.W.kitCls K d c = some false) : PySem.W.exmOne K d c = some false := by
  unfold PySem.W.exmOne
  rw [h1]
  exact h2
/-- the class InvalidCount, its own __init__ apart -/
structure XD (K : PySem.W.Frag) (mg : Str → Option Value) (D : Addr) : Prop where
  T : OexE K D
  xf : XfC K D
  no : PySem.W.findIn K (.ref D) "given" = some none
  hm : mg "InvalidCount" = some (.ref D)
  me : PySem.W.exmOne K (.ref D) (.ref D) = some true
  ini : ∃ (fI : Addr) (fd : FuncData), PySem.W.findIn K (.ref D) "__init__" = some (some (.ref fI)) ∧ PySem.W.typeIn K (.ref fI) = some (.type "function") ∧ Fun K "__init__" "InvalidCount.__init__" s_init2 fI fd
theorem ini2_mk {K : PySem.W.Frag} {C fI : Addr} {od an : Option Addr} {sl : Array (Option Value)} {oc kV dc pm cd ct : Value} (i : PySem.W.findIn K (.ref C) "__init__" = some (some (.ref fI))) (t : PySem.W.typeIn K (.ref fI) = some (.type "function"))
    (l : K.lookup fI = some ⟨oc, od, .func (PySem.W.fnOf "__init__" "InvalidCount.__init__" (defArgs s_init2) (defBody s_init2) (defScope s_init2) .none kV dc pm an cd ct), sl⟩) (c : PySem.W.codeIn K cd "InvalidCount.__init__" = true) (k : PySem.W.keepIn K (.ref fI) = true) :
    ∃ (fI : Addr) (fd : FuncData), PySem.W.findIn K (.ref C) "__init__" = some (some (.ref fI)) ∧ PySem.W.typeIn K (.ref fI) = some (.type "function") ∧ Fun K "__init__" "InvalidCount.__init__" s_init2 fI fd := ⟨fI, _, i, t, fun_mk l c k⟩
theorem all_mk {l : PySem.W.OpenLaw} {w : World} {K : PySem.W.Frag} {mg : Str → Option Value} {fa : Addr} (hfa : mg "law" = some (.ref fa)) (z : Z mg) {t_LETTERS : Tok} (g_LETTERS : mg "LETTERS" = some (.str (("abcdefghijklmnopqrstuvwxyz" : Str)) t_LETTERS)) {C B : Addr} (xc : XC K mg C B) {D : Addr} (xd : XD K mg D) (hDC : PySem.W.exmOne K (.ref D) (.ref C) = some false)
    (d_is_integer : Def K mg "is_integer" s_is_integer) (d_is_count : Def K mg "is_count" s_is_count) (d_is_text : Def K mg "is_text" s_is_text) (d_check_count : Def K mg "check_count" s_check_count) (d_check_text : Def K mg "check_text" s_check_text) (d_common_beginning : Def K mg "common_beginning" s_common_beginning) (d_without_common_ends : Def K mg "without_common_ends" s_without_common_ends) (d_next_band : Def K mg "next_band" s_next_band) (d_distance_within : Def K mg "distance_within" s_distance_within) (d_levenshtein : Def K mg "levenshtein" s_levenshtein) (d_distance : Def K mg "distance" s_distance) (d_near : Def K mg "near" s_near) (d__law_cell : Def K mg "_law_cell" s__law_cell) (d__law_box : Def K mg "_law_box" s__law_box) (d__law_take : Def K mg "_law_take" s__law_take) (d__law_letters : Def K mg "_law_letters" s__law_letters) (d__law_text : Def K mg "_law_text" s__law_text) (d__law_changed : Def K mg "_law_changed" s__law_changed) (d__law_texts : Def K mg "_law_texts" s__law_texts) (d__law_table : Def K mg "_law_table" s__law_table) (d__law_met : Def K mg "_law_met" s__law_met) (d__law_right : Def K mg "_law_right" s__law_right) (d__law_long_right : Def K mg "_law_long_right" s__law_long_right) (d__law_wide_right : Def K mg "_law_wide_right" s__law_wide_right) (d__law_odd : Def K mg "_law_odd" s__law_odd) (d__law_refuses : Def K mg "_law_refuses" s__law_refuses) (d__law_copy : Def K mg "_law_copy" s__law_copy) (d__law_refused_right : Def K mg "_law_refused_right" s__law_refused_right) (d_law : Def K mg "law" s_law) :
    ∃ fd : FuncData, (∀ (s : Shared) (v : Value), BindsTo s fd ⟨[v], []⟩ [("script", v)]) ∧ ∀ base : Heap, K.In base → base.Ns mainGlobals mg → FnG l.prog w K mg base CX0 9 fa fd ["script"] (spLaw K) := by
  obtain ⟨f, fd, F, e⟩ := d_law
  cases hfa.symm.trans e
  have F0 := F
  obtain ⟨oc, od, kV, doc, pm, an, cdv, ct, osl, rfl, lk, hcd⟩ := F.ex
  refine ⟨PySem.W.fnOf "law" "law" (defArgs s_law) (defBody s_law) (defScope s_law) .none kV doc pm an cdv ct, fun s v => .of_eq rfl, fun base _ _ => ?_⟩
  have xt : XT l.prog w K mg base C := by
    obtain ⟨fI, fdI, i1, i2, FI⟩ := xc.ini
    exact ⟨xc.T, xc.xf, xc.no, xc.hm, xc.me, fI, fdI, i1, i2, ok_init FI xc.ov, FI.binds fun _ _ _ _ _ _ us hl => match us, hl with | [_, _], _ => rfl⟩
  have xn : XN l.prog w K mg base D := by
    obtain ⟨fI, fdI, i1, i2, FI⟩ := xd.ini
    exact ⟨xd.T, xd.xf, xd.no, xd.hm, xd.me, fI, fdI, i1, i2, ok_init2 FI xc.ov, FI.binds fun _ _ _ _ _ _ us hl => match us, hl with | [_, _], _ => rfl⟩
  have c_int := Sw.Def.cal (P := l.prog) (w := w) (base := base) d_is_integer (ps := ["value"]) (k := 1) (sp := (spInt K)) (fun _ _ _ _ _ _ us hl => match us, hl with | [_], _ => rfl) fun f fd F => ok_integer F z
  have c_cnt := Sw.Def.cal (P := l.prog) (w := w) (base := base) d_is_count (ps := ["value"]) (k := 2) (sp := (spIsC K)) (fun _ _ _ _ _ _ us hl => match us, hl with | [_], _ => rfl) fun f fd F => ok_count F c_int
  have c_it := Sw.Def.cal (P := l.prog) (w := w) (base := base) d_is_text (ps := ["value"]) (k := 1) (sp := (spIsText K)) (fun _ _ _ _ _ _ us hl => match us, hl with | [_], _ => rfl) fun f fd F => ok_is_text F z g_LETTERS
  have c_is_text := Sw.Def.cal (P := l.prog) (w := w) (base := base) d_is_text (ps := ["value"]) (k := 1) (sp := (spIsT K)) (fun _ _ _ _ _ _ us hl => match us, hl with | [_], _ => rfl) fun f fd F => ok_is_t (ok_is_text F z g_LETTERS)
  have x_cc := Sw.Def.calX (P := l.prog) (w := w) (base := base) d_check_count (ps := ["count"]) (k := 3) (sp := (spCountX K D)) (fun _ _ _ _ _ _ us hl => match us, hl with | [_], _ => rfl) fun f fd F => ok_countX F xn c_cnt
  have x_ct := Sw.Def.calX (P := l.prog) (w := w) (base := base) d_check_text (ps := ["text"]) (k := 3) (sp := (spCheckX K C)) (fun _ _ _ _ _ _ us hl => match us, hl with | [_], _ => rfl) fun f fd F => ok_checkX F xt c_is_text
  have c_cb := Sw.Def.cal (P := l.prog) (w := w) (base := base) d_common_beginning (ps := ["one", "other"]) (k := 1) (sp := spCommon) (fun _ _ _ _ _ _ us hl => match us, hl with | [_, _], _ => rfl) fun f fd F => ok_common F z
  have c_we := Sw.Def.cal (P := l.prog) (w := w) (base := base) d_without_common_ends (ps := ["one", "other"]) (k := 2) (sp := spEnds) (fun _ _ _ _ _ _ us hl => match us, hl with | [_, _], _ => rfl) fun f fd F => ok_ends F z c_cb
  have c_nb := Sw.Def.cal (P := l.prog) (w := w) (base := base) d_next_band (ps := ["band", "letter", "at", "other"]) (k := 1) (sp := (spNext K)) (fun _ _ _ _ _ _ us hl => match us, hl with | [_, _, _, _], _ => rfl) fun f fd F => ok_next F z
  have c_dw := Sw.Def.cal (P := l.prog) (w := w) (base := base) d_distance_within (ps := ["one", "other", "most"]) (k := 3) (sp := spWithin) (fun _ _ _ _ _ _ us hl => match us, hl with | [_, _, _], _ => rfl) fun f fd F => ok_within F z c_we c_nb
  have c_lev := Sw.Def.cal (P := l.prog) (w := w) (base := base) d_levenshtein (ps := ["one", "other"]) (k := 4) (sp := spLev) (fun _ _ _ _ _ _ us hl => match us, hl with | [_, _], _ => rfl) fun f fd F => ok_lev F z c_dw
  have x_di := Sw.Def.calX (P := l.prog) (w := w) (base := base) d_distance (ps := ["one", "other"]) (k := 5) (sp := (spDistX K C)) (fun _ _ _ _ _ _ us hl => match us, hl with | [_, _], _ => rfl) fun f fd F => ok_distX F x_ct c_lev
  have kx_di := Sw.Def.calKX (P := l.prog) (w := w) (base := base) d_distance (ps := ["one", "other"]) (ks := turnKs) (k := 5) (sp := (spDistX K C)) (g := rev2) (gV := rev2)
    (fun kV doc pm an cdv ct us ws hl => by obtain ⟨rfl, b, a, rfl⟩ := rev2_inv hl; rfl) rev2_rel fun f fd F => ok_distX F x_ct c_lev
  have x_ne := Sw.Def.calX (P := l.prog) (w := w) (base := base) d_near (ps := ["one", "other", "most"]) (k := 5) (sp := (spNearX K C D)) (fun _ _ _ _ _ _ us hl => match us, hl with | [_, _, _], _ => rfl) fun f fd F => ok_nearX F x_ct x_cc c_dw
  have kx_ne := Sw.Def.calKX (P := l.prog) (w := w) (base := base) d_near (ps := ["one", "other", "most"]) (ks := nearKs) (k := 5) (sp := (spNearX K C D)) (g := back3) (gV := back3)
    (fun kV doc pm an cdv ct us ws hl => by obtain ⟨rfl, c, b, a, rfl⟩ := back3_inv hl; rfl) back3_rel fun f fd F => ok_nearX F x_ct x_cc c_dw
  have c_cell := Sw.Def.cal (P := l.prog) (w := w) (base := base) d__law_cell (ps := ["script", "k"]) (k := 1) (sp := (spCell K)) (fun _ _ _ _ _ _ us hl => match us, hl with | [_, _], _ => rfl) fun f fd F => ok__law_cell F z
  have c_box := Sw.Def.cal (P := l.prog) (w := w) (base := base) d__law_box (ps := ["great"]) (k := 1) (sp := spBox) (fun _ _ _ _ _ _ us hl => match us, hl with | [_], _ => rfl) fun f fd F => ok__law_box F z
  have c_take := Sw.Def.cal (P := l.prog) (w := w) (base := base) d__law_take (ps := ["box", "many"]) (k := 1) (sp := spTake) (fun _ _ _ _ _ _ us hl => match us, hl with | [_, _], _ => rfl) fun f fd F => ok__law_take F z
  have c_letters := Sw.Def.cal (P := l.prog) (w := w) (base := base) d__law_letters (ps := ["box"]) (k := 2) (sp := spLetters) (fun _ _ _ _ _ _ us hl => match us, hl with | [_], _ => rfl) fun f fd F => ok_letters F z c_take
  have c_text := Sw.Def.cal (P := l.prog) (w := w) (base := base) d__law_text (ps := ["box", "letters", "many"]) (k := 2) (sp := spWord) (fun _ _ _ _ _ _ us hl => match us, hl with | [_, _, _], _ => rfl) fun f fd F => ok_word F z c_take
  have c_changed := Sw.Def.cal (P := l.prog) (w := w) (base := base) d__law_changed (ps := ["box", "letters", "text"]) (k := 2) (sp := spChanged) (fun _ _ _ _ _ _ us hl => match us, hl with | [_, _, _], _ => rfl) fun f fd F => ok_changed F z c_take
  have c_texts := Sw.Def.cal (P := l.prog) (w := w) (base := base) d__law_texts (ps := ["box"]) (k := 3) (sp := spTexts) (fun _ _ _ _ _ _ us hl => match us, hl with | [_], _ => rfl) fun f fd F => ok_texts F z c_take c_letters c_text c_changed
  have c_table := Sw.Def.cal (P := l.prog) (w := w) (base := base) d__law_table (ps := ["first", "second"]) (k := 1) (sp := spTable) (fun _ _ _ _ _ _ us hl => match us, hl with | [_, _], _ => rfl) fun f fd F => ok_table F z
  have c_met := Sw.Def.cal (P := l.prog) (w := w) (base := base) d__law_met (ps := ["which", "first", "second", "number"]) (k := 6) (sp := (spMet K)) (fun _ _ _ _ _ _ us hl => match us, hl with | [_, _, _, _], _ => rfl) fun f fd F => ok_met F xt xn hDC x_di kx_di x_ne kx_ne
  have q_right := Sw.Def.calG (P := l.prog) (w := w) (base := base) d__law_right (ps := ["box", "first", "second"]) (k := 7) (sp := spRight) (fun _ _ _ _ _ _ us hl => match us, hl with | [_, _, _], _ => rfl) fun f fd F => ok_right F z c_take c_met c_table
  have q_long := Sw.Def.calG (P := l.prog) (w := w) (base := base) d__law_long_right (ps := ["box"]) (k := 7) (sp := spLong) (fun _ _ _ _ _ _ us hl => match us, hl with | [_], _ => rfl) fun f fd F => ok_long F z c_take c_met
  have q_wide := Sw.Def.calG (P := l.prog) (w := w) (base := base) d__law_wide_right (ps := ["box"]) (k := 7) (sp := spWide) (fun _ _ _ _ _ _ us hl => match us, hl with | [_], _ => rfl) fun f fd F => ok_wide F z c_take c_letters c_text c_table c_met
  have c_odd := Sw.Def.cal (P := l.prog) (w := w) (base := base) d__law_odd (ps := ["box", "text"]) (k := 2) (sp := spOdd) (fun _ _ _ _ _ _ us hl => match us, hl with | [_, _], _ => rfl) fun f fd F => ok_odd F c_take z
  have c_copy := Sw.Def.cal (P := l.prog) (w := w) (base := base) d__law_copy (ps := ["value"]) (k := 1) (sp := spCopy) (fun _ _ _ _ _ _ us hl => match us, hl with | [_], _ => rfl) fun f fd F => ok_copy F z
  have q_ref := Sw.Def.calG (P := l.prog) (w := w) (base := base) d__law_refuses (ps := ["which", "first", "second", "number", "word", "odd"]) (k := 7) (sp := (spRefuses K)) (fun _ _ _ _ _ _ us hl => match us, hl with | [_, _, _, _, _, _], _ => rfl) fun f fd F => ok_refuses F z c_met
  have q_refused := Sw.Def.calG (P := l.prog) (w := w) (base := base) d__law_refused_right (ps := ["box", "first", "second"]) (k := 8) (sp := spRefused) (fun _ _ _ _ _ _ us hl => match us, hl with | [_, _, _], _ => rfl) fun f fd F => ok_refused F z c_take c_odd c_copy q_ref
  exact ok_law F0 z c_texts q_right q_refused q_long q_wide c_box c_cell
end Sw
open PySem PySem.W PyProof.Rows
set_option maxHeartbeats 0 in
theorem PySem.Challenge.cw_spoiltways_k07_distances_holds : PySem.Challenge.rw_spoiltways_k07_distances.Holds := by
  w_on; o_law; k_head; (case hw => w_witness2)
  k_fill
  refine Sw.walk_G (l := PySem.Challenge.rw_spoiltways_k07_distances) (n := 63) (k := 9) (x := "script") (sp := Sw.spLaw) rfl (by decide) rfl ⟨rfl, by decide, by decide⟩ (fun w h Y => PySem.W.kIn_of Y) ?F (fun _ _ a ns hl _ hS => ⟨a, ns, rfl, hS, fun _ _ => rfl⟩)
  case F =>
    intro w mg fa h KX G hmg
    have z : Sw.Z mg := by
      refine' ⟨PySem.W.mg_none_of KX G ?z0, PySem.W.mg_none_of KX G ?z1, PySem.W.mg_none_of KX G ?z2, PySem.W.mg_none_of KX G ?z3, PySem.W.mg_none_of KX G ?z4, PySem.W.mg_none_of KX G ?z5, PySem.W.mg_none_of KX G ?z6, PySem.W.mg_none_of KX G ?z7, PySem.W.mg_none_of KX G ?z8, PySem.W.mg_none_of KX G ?z9, PySem.W.mg_none_of KX G ?z10, PySem.W.mg_none_of KX G ?z11, PySem.W.mg_none_of KX G ?z12, PySem.W.mg_none_of KX G ?z13, PySem.W.mg_none_of KX G ?z14⟩
      (case z0 => k_is)
      (case z1 => k_is)
      (case z2 => k_is)
      (case z3 => k_is)
      (case z4 => k_is)
      (case z5 => k_is)
      (case z6 => k_is)
      (case z7 => k_is)
      (case z8 => k_is)
      (case z9 => k_is)
      (case z10 => k_is)
      (case z11 => k_is)
      (case z12 => k_is)
      (case z13 => k_is)
      (case z14 => k_is)
    obtain ⟨v_LETTERS, gv_LETTERS, t_LETTERS, rfl⟩ : ∃ v, mg "LETTERS" = some v ∧ ∃ t, v = .str (("abcdefghijklmnopqrstuvwxyz" : Str)) t := by
      refine' ⟨_, PySem.W.mg_of KX G ?a, ?b⟩
      (case a => k_is)
      (case b => first | exact ⟨_, rfl⟩ | exact ⟨_, congrArg (fun y => PySem.Value.str y _) (by decide +kernel)⟩)
    refine' Sw.all_mk hmg z gv_LETTERS ?xc ?xd ?ne ?d_is_integer ?d_is_count ?d_is_text ?d_check_count ?d_check_text ?d_common_beginning ?d_without_common_ends ?d_next_band ?d_distance_within ?d_levenshtein ?d_distance ?d_near ?d__law_cell ?d__law_box ?d__law_take ?d__law_letters ?d__law_text ?d__law_changed ?d__law_texts ?d__law_table ?d__law_met ?d__law_right ?d__law_long_right ?d__law_wide_right ?d__law_odd ?d__law_refuses ?d__law_copy ?d__law_refused_right ?d_law
    case xc =>
      refine' ⟨Sw.oex_mk ?h1 ?h2 ?h3 ?h4 ?h5, ⟨?f1, ?f2, ?f3, ?f4⟩, ?no, PySem.W.mg_of KX G ?hm, Sw.exm_mk ?me1 ?me2, ⟨PySem.W.mg_of KX G ?b1, ?b2, ?b3, ?b4, ?b5⟩, Sw.ini_mk ?i1 ?i2 ?i3 ?i4 ?i5⟩
      (case hm => k_is)
      (case b1 => k_is)
      (case h1 => k_is)
      (case h2 => k_is)
      (case h3 => k_is)
      (case h4 => k_is)
      (case h5 => k_is)
      (case f1 => k_is)
      (case f2 => k_is)
      (case f3 => k_is)
      (case f4 => k_is)
      (case no => k_is)
      (case me1 => k_is)
      (case me2 => first | k_is | rfl | decide +kernel)
      (case b2 => k_is)
      (case b3 => k_is)
      (case b4 => k_is)
      (case b5 => k_is)
      (case i1 => k_is)
      (case i2 => k_is)
      (case i3 => k_is)
      (case i4 => k_is)
      (case i5 => k_is)
    case xd =>
      refine' ⟨Sw.oex_mk ?h1 ?h2 ?h3 ?h4 ?h5, ⟨?f1, ?f2, ?f3, ?f4⟩, ?no, PySem.W.mg_of KX G ?hm, Sw.exm_mk ?me1 ?me2, Sw.ini2_mk ?i1 ?i2 ?i3 ?i4 ?i5⟩
      (case hm => k_is)
      (case h1 => k_is)
      (case h2 => k_is)
      (case h3 => k_is)
      (case h4 => k_is)
      (case h5 => k_is)
      (case f1 => k_is)
      (case f2 => k_is)
      (case f3 => k_is)
      (case f4 => k_is)
      (case no => k_is)
      (case me1 => k_is)
      (case me2 => first | k_is | rfl | decide +kernel)
      (case i1 => k_is)
      (case i2 => k_is)
      (case i3 => k_is)
      (case i4 => k_is)
      (case i5 => k_is)
    case ne =>
      refine' Sw.exn_mk ?n1 ?n2
      (case n1 => k_is)
      (case n2 => first | k_is | rfl | decide +kernel)
    case d_is_integer =>
      refine' Sw.def_mk KX G ?a ?l ?c ?k
      (case a => k_is)
      (case l => k_is)
      (case c => k_is)
      (case k => k_is)
    case d_is_count =>
      refine' Sw.def_mk KX G ?a ?l ?c ?k
      (case a => k_is)
      (case l => k_is)
      (case c => k_is)
      (case k => k_is)
    case d_is_text =>
      refine' Sw.def_mk KX G ?a ?l ?c ?k
      (case a => k_is)
      (case l => k_is)
      (case c => k_is)
      (case k => k_is)
    case d_check_count =>
      refine' Sw.def_mk KX G ?a ?l ?c ?k
      (case a => k_is)
      (case l => k_is)
      (case c => k_is)
      (case k => k_is)
    case d_check_text =>
      refine' Sw.def_mk KX G ?a ?l ?c ?k
      (case a => k_is)
      (case l => k_is)
      (case c => k_is)
      (case k => k_is)
    case d_common_beginning =>
      refine' Sw.def_mk KX G ?a ?l ?c ?k
      (case a => k_is)
      (case l => k_is)
      (case c => k_is)
      (case k => k_is)
    case d_without_common_ends =>
      refine' Sw.def_mk KX G ?a ?l ?c ?k
      (case a => k_is)
      (case l => k_is)
      (case c => k_is)
      (case k => k_is)
    case d_next_band =>
      refine' Sw.def_mk KX G ?a ?l ?c ?k
      (case a => k_is)
      (case l => k_is)
      (case c => k_is)
      (case k => k_is)
    case d_distance_within =>
      refine' Sw.def_mk KX G ?a ?l ?c ?k
      (case a => k_is)
      (case l => k_is)
      (case c => k_is)
      (case k => k_is)
    case d_levenshtein =>
      refine' Sw.def_mk KX G ?a ?l ?c ?k
      (case a => k_is)
      (case l => k_is)
      (case c => k_is)
      (case k => k_is)
    case d_distance =>
      refine' Sw.def_mk KX G ?a ?l ?c ?k
      (case a => k_is)
      (case l => k_is)
      (case c => k_is)
      (case k => k_is)
    case d_near =>
      refine' Sw.def_mk KX G ?a ?l ?c ?k
      (case a => k_is)
      (case l => k_is)
      (case c => k_is)
      (case k => k_is)
    case d__law_cell =>
      refine' Sw.def_mk KX G ?a ?l ?c ?k
      (case a => k_is)
      (case l => k_is)
      (case c => k_is)
      (case k => k_is)
    case d__law_box =>
      refine' Sw.def_mk KX G ?a ?l ?c ?k
      (case a => k_is)
      (case l => k_is)
      (case c => k_is)
      (case k => k_is)
    case d__law_take =>
      refine' Sw.def_mk KX G ?a ?l ?c ?k
      (case a => k_is)
      (case l => k_is)
      (case c => k_is)
      (case k => k_is)
    case d__law_letters =>
      refine' Sw.def_mk KX G ?a ?l ?c ?k
      (case a => k_is)
      (case l => k_is)
      (case c => k_is)
      (case k => k_is)
    case d__law_text =>
      refine' Sw.def_mk KX G ?a ?l ?c ?k
      (case a => k_is)
      (case l => k_is)
      (case c => k_is)
      (case k => k_is)
    case d__law_changed =>
      refine' Sw.def_mk KX G ?a ?l ?c ?k
      (case a => k_is)
      (case l => k_is)
      (case c => k_is)
      (case k => k_is)
    case d__law_texts =>
      refine' Sw.def_mk KX G ?a ?l ?c ?k
      (case a => k_is)
      (case l => k_is)
      (case c => k_is)
      (case k => k_is)
    case d__law_table =>
      refine' Sw.def_mk KX G ?a ?l ?c ?k
      (case a => k_is)
      (case l => k_is)
      (case c => k_is)
      (case k => k_is)
    case d__law_met =>
      refine' Sw.def_mk KX G ?a ?l ?c ?k
      (case a => k_is)
      (case l => k_is)
      (case c => k_is)
      (case k => k_is)
    case d__law_right =>
      refine' Sw.def_mk KX G ?a ?l ?c ?k
      (case a => k_is)
      (case l => k_is)
      (case c => k_is)
      (case k => k_is)
    case d__law_long_right =>
      refine' Sw.def_mk KX G ?a ?l ?c ?k
      (case a => k_is)
      (case l => k_is)
      (case c => k_is)
      (case k => k_is)
    case d__law_wide_right =>
      refine' Sw.def_mk KX G ?a ?l ?c ?k
      (case a => k_is)
      (case l => k_is)
      (case c => k_is)
      (case k => k_is)
    case d__law_odd =>
      refine' Sw.def_mk KX G ?a ?l ?c ?k
      (case a => k_is)
      (case l => k_is)
      (case c => k_is)
      (case k => k_is)
    case d__law_refuses =>
      refine' Sw.def_mk KX G ?a ?l ?c ?k
      (case a => k_is)
      (case l => k_is)
      (case c => k_is)
      (case k => k_is)
    case d__law_copy =>
      refine' Sw.def_mk KX G ?a ?l ?c ?k
      (case a => k_is)
      (case l => k_is)
      (case c => k_is)
      (case k => k_is)
    case d__law_refused_right =>
      refine' Sw.def_mk KX G ?a ?l ?c ?k
      (case a => k_is)
      (case l => k_is)
      (case c => k_is)
      (case k => k_is)
    case d_law =>
      refine' Sw.def_mk KX G ?a ?l ?c ?k
      (case a => k_is)
      (case l => k_is)
      (case c => k_is)
      (case k => k_is)
