import PyProof.Rows.All
import Wide.All
import OpenK.AllK
import Wide.FinOn
import HandS.ForMost
import HandS.Wide
import HandS.Style
import HandS.IsInst
import HandS.Conv
import HandS.Walk
import HandS.Codes
import HandS.TupAny
import HandS.RaiseMore
import HandS.Flt
import HandS.Flow
import KE.GoesMore
import HandS.Ends
import HandS.ExcInit
import HandS.ExcField
import HandS.ExcOwn
import PySem.Challenge.RW_spoiltways_k74_lags_and_texts_refused
set_option Elab.async false
set_option linter.all false
set_option maxRecDepth 100000
set_option maxHeartbeats 4000000
namespace Lev
/-- the fewest changes between two lists of signs -/
def lev : List Nat → List Nat → Nat
  | [], ys => ys.length
  | _ :: xs, [] => xs.length + 1
  | x :: xs, y :: ys => min (lev xs ys + if x = y then 0 else 1) (min (lev xs (y :: ys) + 1) (lev (x :: xs) ys + 1))
termination_by xs ys => xs.length + ys.length

/-- some changes, told by their number -/
inductive Ed : List Nat → List Nat → Nat → Prop
  | nil : Ed [] [] 0
  | keep {a xs ys n} : Ed xs ys n → Ed (a :: xs) (a :: ys) n
  | swap {a b xs ys n} : Ed xs ys n → Ed (a :: xs) (b :: ys) (n + 1)
  | drop {a xs ys n} : Ed xs ys n → Ed (a :: xs) ys (n + 1)
  | add {b xs ys n} : Ed xs ys n → Ed xs (b :: ys) (n + 1)

theorem Ed.adds : ∀ ys : List Nat, Ed [] ys ys.length
  | [] => .nil
  | _ :: ys => .add (Ed.adds ys)
theorem Ed.drops : ∀ xs : List Nat, Ed xs [] xs.length
  | [] => .nil
  | _ :: xs => .drop (Ed.drops xs)
theorem Ed.refl : ∀ xs : List Nat, Ed xs xs 0
  | [] => .nil
  | _ :: xs => .keep (Ed.refl xs)
theorem Ed.symm {xs ys n} (h : Ed xs ys n) : Ed ys xs n := by
  induction h with
  | nil => exact .nil
  | keep _ ih => exact .keep ih
  | swap _ ih => exact .swap ih
  | drop _ ih => exact .add ih
  | add _ ih => exact .drop ih
theorem Ed.app {xs ys n} (h : Ed xs ys n) {us vs m} (k : Ed us vs m) : Ed (xs ++ us) (ys ++ vs) (n + m) := by
  induction h with
  | nil => simpa using k
  | keep _ ih => exact .keep ih
  | swap _ ih => have := Ed.swap (a := ‹_›) (b := ‹_›) ih; simp only [List.cons_append]; rw [Nat.add_right_comm]; exact .swap ih
  | drop _ ih => simp only [List.cons_append]; rw [Nat.add_right_comm]; exact .drop ih
  | add _ ih => simp only [List.cons_append]; rw [Nat.add_right_comm]; exact .add ih
theorem Ed.rev {xs ys n} (h : Ed xs ys n) : Ed xs.reverse ys.reverse n := by
  induction h with
  | nil => exact .nil
  | keep _ ih => simpa using ih.app (.keep .nil)
  | swap _ ih => simpa using ih.app (.swap .nil)
  | drop _ ih => simpa using ih.app (.drop .nil)
  | add _ ih => simpa using ih.app (.add .nil)
theorem Ed.lens {xs ys n} (h : Ed xs ys n) : xs.length ≤ ys.length + n ∧ ys.length ≤ xs.length + n := by
  induction h with
  | nil => simp
  | keep _ ih => simp only [List.length_cons]; omega
  | swap _ ih => simp only [List.length_cons]; omega
  | drop _ ih => simp only [List.length_cons]; omega
  | add _ ih => simp only [List.length_cons]; omega

theorem lev_ed : ∀ xs ys : List Nat, Ed xs ys (lev xs ys) := by
  intro xs ys
  fun_induction lev xs ys with
  | case1 ys => exact Ed.adds ys
  | case2 x xs => exact Ed.drops (x :: xs)
  | case3 x xs y ys i1 i2 i3 =>
    rcases Nat.le_total (lev xs ys + if x = y then 0 else 1) (min (lev xs (y :: ys) + 1) (lev (x :: xs) ys + 1)) with h | h
    · rw [Nat.min_eq_left h]
      by_cases e : x = y
      · subst e; simpa using Ed.keep i1
      · rw [if_neg e]; exact .swap i1
    · rw [Nat.min_eq_right h]
      rcases Nat.le_total (lev xs (y :: ys) + 1) (lev (x :: xs) ys + 1) with h | h
      · rw [Nat.min_eq_left h]; exact .drop i2
      · rw [Nat.min_eq_right h]; exact .add i3
theorem lev_nil (ys : List Nat) : lev [] ys = ys.length := by rw [lev]
theorem lev_nil' : ∀ xs : List Nat, lev xs [] = xs.length
  | [] => by rw [lev_nil]
  | x :: xs => by rw [lev]; rfl
theorem lev_cons (x y : Nat) (xs ys : List Nat) : lev (x :: xs) (y :: ys) = min (lev xs ys + if x = y then 0 else 1) (min (lev xs (y :: ys) + 1) (lev (x :: xs) ys + 1)) := by rw [lev]
theorem lev_drop (x : Nat) (xs ys : List Nat) : lev (x :: xs) ys ≤ lev xs ys + 1 := by
  cases ys with
  | nil => rw [lev_nil', lev_nil']; simp
  | cons y ys => rw [lev_cons]; omega
theorem lev_add (y : Nat) (xs ys : List Nat) : lev xs (y :: ys) ≤ lev xs ys + 1 := by
  cases xs with
  | nil => rw [lev_nil, lev_nil]; simp
  | cons x xs => rw [lev_cons]; omega
theorem lev_swap (x y : Nat) (xs ys : List Nat) : lev (x :: xs) (y :: ys) ≤ lev xs ys + 1 := by
  rw [lev_cons]; split <;> omega
/-- dropping a letter on one side changes the distance by at most one -/
theorem lev_undrop (x : Nat) (xs ys : List Nat) : lev xs ys ≤ lev (x :: xs) ys + 1 := by
  induction ys generalizing xs x with
  | nil => rw [lev_nil', lev_nil']; simp; omega
  | cons y ys ih =>
    have a := lev_cons x y xs ys
    have b := lev_add y xs ys
    have c := ih x xs
    rw [a]
    split <;> omega
theorem lev_unadd (y : Nat) (xs ys : List Nat) : lev xs ys ≤ lev xs (y :: ys) + 1 := by
  induction xs generalizing ys y with
  | nil => rw [lev_nil, lev_nil]; simp; omega
  | cons x xs ih =>
    have a := lev_cons x y xs ys
    have b := lev_drop x xs ys
    have c := ih y ys
    rw [a]
    split <;> omega
theorem lev_keep (a : Nat) (xs ys : List Nat) : lev (a :: xs) (a :: ys) = lev xs ys := by
  rw [lev_cons]
  have h1 := lev_unadd a xs ys
  have h2 := lev_undrop a xs ys
  simp
  omega
theorem lev_least {xs ys n} (h : Ed xs ys n) : lev xs ys ≤ n := by
  induction h with
  | nil => rw [lev_nil]; simp
  | keep _ ih => rw [lev_keep]; exact ih
  | swap _ ih => exact Nat.le_trans (lev_swap _ _ _ _) (by omega)
  | drop _ ih => exact Nat.le_trans (lev_drop _ _ _) (by omega)
  | add _ ih => exact Nat.le_trans (lev_add _ _ _) (by omega)
theorem lev_symm (xs ys : List Nat) : lev xs ys = lev ys xs :=
  Nat.le_antisymm (lev_least (lev_ed ys xs).symm) (lev_least (lev_ed xs ys).symm)
theorem lev_rev (xs ys : List Nat) : lev xs.reverse ys.reverse = lev xs ys :=
  Nat.le_antisymm (lev_least (lev_ed xs ys).rev) (by
    have h := lev_least (lev_ed xs.reverse ys.reverse).rev
    simpa using h)
theorem lev_self (xs : List Nat) : lev xs xs = 0 := Nat.le_zero.mp (lev_least (Ed.refl xs))
theorem lev_app (xs ys us vs : List Nat) : lev (xs ++ us) (ys ++ vs) ≤ lev xs ys + lev us vs := lev_least ((lev_ed xs ys).app (lev_ed us vs))
theorem lev_lens (xs ys : List Nat) : xs.length ≤ ys.length + lev xs ys ∧ ys.length ≤ xs.length + lev xs ys := (lev_ed xs ys).lens
theorem lev_le_max (xs ys : List Nat) : lev xs ys ≤ max xs.length ys.length := by
  induction xs generalizing ys with
  | nil => rw [lev_nil]; simp
  | cons x xs ih =>
    cases ys with
    | nil => rw [lev_nil']; simp
    | cons y ys =>
      have h := lev_swap x y xs ys
      have k := ih ys
      simp only [List.length_cons]
      omega
theorem lev_pre (a xs ys : List Nat) : lev (a ++ xs) (a ++ ys) = lev xs ys := by
  induction a with
  | nil => rfl
  | cons x a ih => rw [List.cons_append, List.cons_append, lev_keep, ih]
theorem lev_suf (a xs ys : List Nat) : lev (xs ++ a) (ys ++ a) = lev xs ys := by
  rw [← lev_rev, List.reverse_append, List.reverse_append, lev_pre, lev_rev]
/-- from behind -/
theorem lev_snoc (x y : Nat) (xs ys : List Nat) : lev (xs ++ [x]) (ys ++ [y]) = min (lev xs ys + if x = y then 0 else 1) (min (lev xs (ys ++ [y]) + 1) (lev (xs ++ [x]) ys + 1)) := by
  rw [← lev_rev (xs ++ [x]), ← lev_rev xs ys, ← lev_rev xs (ys ++ [y]), ← lev_rev (xs ++ [x]) ys]
  simp only [List.reverse_append, List.reverse_cons, List.reverse_nil, List.nil_append, List.singleton_append]
  rw [lev_cons]
/-- the triangle -/
theorem Ed.trans {xs ys n} (h : Ed xs ys n) : ∀ {zs m}, Ed ys zs m → ∃ k, k ≤ n + m ∧ Ed xs zs k := by
  induction h with
  | nil => exact fun {zs m} q => ⟨m, by omega, q⟩
  | @drop a xs ys n _ ih =>
    intro zs m q
    obtain ⟨k, h1, h2⟩ := ih q
    exact ⟨k + 1, by omega, .drop h2⟩
  | @keep a xs ys n p ih =>
    intro zs m q
    generalize e : a :: ys = ws at q
    induction q with
    | nil => cases e
    | keep q _ =>
      cases e
      obtain ⟨k, h1, h2⟩ := ih q
      exact ⟨k, h1, .keep h2⟩
    | swap q _ =>
      cases e
      obtain ⟨k, h1, h2⟩ := ih q
      exact ⟨k + 1, by omega, .swap h2⟩
    | drop q _ =>
      cases e
      obtain ⟨k, h1, h2⟩ := ih q
      exact ⟨k + 1, by omega, .drop h2⟩
    | add q jh =>
      obtain ⟨k, h1, h2⟩ := jh e
      exact ⟨k + 1, by omega, .add h2⟩
  | @swap a b xs ys n p ih =>
    intro zs m q
    generalize e : b :: ys = ws at q
    induction q with
    | nil => cases e
    | keep q _ =>
      cases e
      obtain ⟨k, h1, h2⟩ := ih q
      exact ⟨k + 1, by omega, .swap h2⟩
    | swap q _ =>
      cases e
      obtain ⟨k, h1, h2⟩ := ih q
      exact ⟨k + 1, by omega, .swap h2⟩
    | drop q _ =>
      cases e
      obtain ⟨k, h1, h2⟩ := ih q
      exact ⟨k + 1, by omega, .drop h2⟩
    | add q jh =>
      obtain ⟨k, h1, h2⟩ := jh e
      exact ⟨k + 1, by omega, .add h2⟩
  | @add b xs ys n p ih =>
    intro zs m q
    generalize e : b :: ys = ws at q
    induction q with
    | nil => cases e
    | keep q _ =>
      cases e
      obtain ⟨k, h1, h2⟩ := ih q
      exact ⟨k + 1, by omega, .add h2⟩
    | swap q _ =>
      cases e
      obtain ⟨k, h1, h2⟩ := ih q
      exact ⟨k + 1, by omega, .add h2⟩
    | drop q _ =>
      cases e
      obtain ⟨k, h1, h2⟩ := ih q
      exact ⟨k, by omega, h2⟩
    | add q jh =>
      obtain ⟨k, h1, h2⟩ := jh e
      exact ⟨k + 1, by omega, .add h2⟩
theorem lev_tri (xs ys zs : List Nat) : lev xs zs ≤ lev xs ys + lev ys zs := by
  obtain ⟨k, h1, h2⟩ := (lev_ed xs ys).trans (lev_ed ys zs)
  exact Nat.le_trans (lev_least h2) h1
end Lev
namespace Lev
/-- what stands at place k of the band behind at letters -/
def cell (M : Nat) (l r : List Nat) (at' k : Nat) : Int :=
  if M ≤ at' + k ∧ at' + k ≤ M + r.length then ((min (lev (l.take at') (r.take (at' + k - M))) (M + 1) : Nat) : Int) else (M : Int) + 1
def band (M : Nat) (l r : List Nat) (at' : Nat) : List Int := (List.range (2 * M + 1)).map (cell M l r at')
theorem band_len (M : Nat) (l r : List Nat) (a : Nat) : (band M l r a).length = 2 * M + 1 := by simp [band]
theorem band_get {M : Nat} {l r : List Nat} {a k : Nat} (h : k < 2 * M + 1) : (band M l r a)[k]? = some (cell M l r a k) := by
  simp [band, List.getElem?_map, List.getElem?_range h]
theorem cell_first {M : Nat} {l r : List Nat} {k : Nat} (h : k < 2 * M + 1) : cell M l r 0 k = if M ≤ k ∧ k ≤ M + r.length then (k : Int) - M else (M : Int) + 1 := by
  unfold cell
  by_cases c : M ≤ 0 + k ∧ 0 + k ≤ M + r.length
  · rw [if_pos c, if_pos (by omega), List.take_zero, lev_nil, List.length_take]
    omega
  · rw [if_neg c, if_neg (by omega)]
/-- the ways to a place -/
def ways (M : Nat) (l r : List Nat) (a : Nat) (x : Nat) (k : Nat) : List Int :=
  let place : Int := (a : Int) + 1 + k - M
  [(M : Int) + 1] ++ (if 0 < place ∧ place ≤ r.length then [cell M l r a k + (if some x = r[(place - 1).toNat]? then 0 else 1)] else [])
    ++ (if (0 < place ∧ place ≤ r.length) ∧ 0 < k then [cell M l r (a + 1) (k - 1) + 1] else [])
    ++ (if (0 ≤ place ∧ place ≤ r.length) ∧ k < 2 * M then [cell M l r a (k + 1) + 1] else [])
theorem take_snoc {l : List Nat} {a x : Nat} (h : l[a]? = some x) : l.take (a + 1) = l.take a ++ [x] := by
  rw [List.take_add_one, h]; rfl
theorem way_least {M : Nat} {l r : List Nat} {a x k : Nat} (hx : l[a]? = some x) (hk : k < 2 * M + 1) {m : Int} (hm : m ∈ ways M l r a x k) (hl : ∀ y, y ∈ ways M l r a x k → m ≤ y) :
    m = cell M l r (a + 1) k := by
  have ha : a < l.length := (List.getElem?_eq_some_iff.mp hx).1
  have el := take_snoc hx
  unfold ways at hm hl
  simp only [List.mem_append, List.mem_singleton] at hm hl
  by_cases c0 : a + 1 + k < M
  · -- left of the text
    have n1 : ¬ (0 < (a : Int) + 1 + k - M ∧ (a : Int) + 1 + k - M ≤ r.length) := by omega
    have n2 : ¬ (0 ≤ (a : Int) + 1 + k - M ∧ (a : Int) + 1 + k - M ≤ r.length) := by omega
    rw [if_neg n1, if_neg (fun z => n1 z.1), if_neg (fun z => n2 z.1)] at hm
    simp only [List.not_mem_nil, or_false] at hm
    unfold cell
    rw [if_neg (by omega)]; exact hm
  by_cases c1 : M + r.length < a + 1 + k
  · have n1 : ¬ (0 < (a : Int) + 1 + k - M ∧ (a : Int) + 1 + k - M ≤ r.length) := by omega
    have n2 : ¬ (0 ≤ (a : Int) + 1 + k - M ∧ (a : Int) + 1 + k - M ≤ r.length) := by omega
    rw [if_neg n1, if_neg (fun z => n1 z.1), if_neg (fun z => n2 z.1)] at hm
    simp only [List.not_mem_nil, or_false] at hm
    unfold cell
    rw [if_neg (by omega)]; exact hm
  have hc : cell M l r (a + 1) k = ((min (lev (l.take (a + 1)) (r.take (a + 1 + k - M))) (M + 1) : Nat) : Int) := by
    unfold cell; rw [if_pos (by omega)]
  by_cases c2 : a + 1 + k = M
  · -- ahead of the first letter
    have n1 : ¬ (0 < (a : Int) + 1 + k - M ∧ (a : Int) + 1 + k - M ≤ r.length) := by omega
    have n2 : (0 ≤ (a : Int) + 1 + k - M ∧ (a : Int) + 1 + k - M ≤ r.length) := by omega
    have n3 : k < 2 * M := by omega
    have e1 : cell M l r a (k + 1) = (a : Int) := by
      unfold cell
      rw [if_pos (by omega), show a + (k + 1) - M = 0 by omega, List.take_zero, lev_nil', List.length_take]
      omega
    have e2 : cell M l r (a + 1) k = (a : Int) + 1 := by
      rw [hc, show a + 1 + k - M = 0 by omega, List.take_zero, lev_nil', List.length_take]
      omega
    have n5 : ¬ ((0 < (a : Int) + 1 + k - M ∧ (a : Int) + 1 + k - M ≤ r.length) ∧ 0 < k) := fun z => n1 z.1
    have n6 : ((0 ≤ (a : Int) + 1 + k - M ∧ (a : Int) + 1 + k - M ≤ r.length) ∧ k < 2 * M) := ⟨n2, n3⟩
    simp only [if_neg n1, if_neg n5, if_pos n6, List.not_mem_nil, or_false, List.mem_singleton] at hm hl
    rw [e1] at hm hl
    rw [e2]
    have := hl _ (.inr rfl)
    have := hl _ (.inl rfl)
    omega
  · obtain ⟨p, hp⟩ : ∃ p, a + k = M + p := ⟨a + k - M, by omega⟩
    have hpr : p < r.length := by omega
    obtain ⟨y, hy⟩ : ∃ y, r[p]? = some y := ⟨r[p], List.getElem?_eq_getElem hpr⟩
    have er := take_snoc hy
    have n1 : (0 < (a : Int) + 1 + k - M ∧ (a : Int) + 1 + k - M ≤ r.length) := by omega
    have n2 : (0 ≤ (a : Int) + 1 + k - M ∧ (a : Int) + 1 + k - M ≤ r.length) := by omega
    have ep : ((a : Int) + 1 + k - M - 1).toNat = p := by omega
    have hsn := lev_snoc x y (l.take a) (r.take p)
    rw [← el, ← er] at hsn
    have e0 : cell M l r (a + 1) k = ((min (lev (l.take (a + 1)) (r.take (p + 1))) (M + 1) : Nat) : Int) := by
      rw [hc, show a + 1 + k - M = p + 1 by omega]
    have eA : cell M l r a k = ((min (lev (l.take a) (r.take p)) (M + 1) : Nat) : Int) := by
      unfold cell; rw [if_pos (by omega), show a + k - M = p by omega]
    have hlA := lev_lens (l.take a) (r.take (p + 1))
    have hlC := lev_lens (l.take (a + 1)) (r.take p)
    simp only [List.length_take] at hlA hlC
    have n3 : ((0 < (a : Int) + 1 + k - M ∧ (a : Int) + 1 + k - M ≤ r.length) ∧ 0 < k) = (0 < k) := propext ⟨And.right, fun z => ⟨n1, z⟩⟩
    have n4 : ((0 ≤ (a : Int) + 1 + k - M ∧ (a : Int) + 1 + k - M ≤ r.length) ∧ k < 2 * M) = (k < 2 * M) := propext ⟨And.right, fun z => ⟨n2, z⟩⟩
    simp only [if_pos n1, n3, n4, ep, hy, Option.some.injEq, List.mem_singleton] at hm hl
    rw [e0]
    have hδ : (if x = y then (0:Int) else 1) = ((if x = y then 0 else 1 : Nat) : Int) := by split <;> rfl
    rw [hδ, eA] at hm hl
    generalize (if x = y then 0 else 1 : Nat) = δ at *
    generalize lev (l.take a) (r.take p) = A at *
    by_cases k0 : 0 < k
    · have eC : cell M l r (a + 1) (k - 1) = ((min (lev (l.take (a + 1)) (r.take p)) (M + 1) : Nat) : Int) := by
        unfold cell; rw [if_pos (by omega), show a + 1 + (k - 1) - M = p by omega]
      rw [eC] at hm hl
      by_cases k1 : k < 2 * M
      · have eB : cell M l r a (k + 1) = ((min (lev (l.take a) (r.take (p + 1))) (M + 1) : Nat) : Int) := by
          unfold cell; rw [if_pos (by omega), show a + (k + 1) - M = p + 1 by omega]
        rw [eB] at hm hl
        simp only [k0, k1, if_true, List.mem_singleton] at hm hl
        have h1 := hl _ (.inl (.inl (.inl rfl)))
        have h2 := hl _ (.inl (.inl (.inr rfl)))
        have h3 := hl _ (.inl (.inr rfl))
        have h4 := hl _ (.inr rfl)
        clear hl
        rw [hsn]
        omega
      · simp only [k0, k1, if_true, if_false, List.not_mem_nil, or_false, List.mem_singleton] at hm hl
        have h1 := hl _ (.inl (.inl rfl))
        have h2 := hl _ (.inl (.inr rfl))
        have h3 := hl _ (.inr rfl)
        clear hl
        rw [hsn]
        omega
    · by_cases k1 : k < 2 * M
      · have eB : cell M l r a (k + 1) = ((min (lev (l.take a) (r.take (p + 1))) (M + 1) : Nat) : Int) := by
          unfold cell; rw [if_pos (by omega), show a + (k + 1) - M = p + 1 by omega]
        rw [eB] at hm hl
        simp only [k0, k1, if_true, if_false, List.not_mem_nil, or_false, List.mem_singleton] at hm hl
        have h1 := hl _ (.inl (.inl rfl))
        have h2 := hl _ (.inl (.inr rfl))
        have h3 := hl _ (.inr rfl)
        clear hl
        rw [hsn]
        omega
      · simp only [k0, k1, if_false, List.not_mem_nil, or_false, List.mem_singleton] at hm hl
        have h1 := hl _ (.inl rfl)
        have h2 := hl _ (.inr rfl)
        clear hl
        rw [hsn]
        omega
theorem band_last {M : Nat} {l r : List Nat} (h : l.length ≤ r.length) (h2 : r.length ≤ M + l.length) : (band M l r l.length)[r.length - l.length + M]? = some ((min (lev l r) (M + 1) : Nat) : Int) := by
  rw [band_get (by omega)]
  unfold cell
  rw [if_pos (by omega), show l.length + (r.length - l.length + M) - M = r.length by omega, List.take_length, List.take_length]
/-- the distance within most, or none -/
def within (xs ys : List Nat) (most : Nat) : Option Nat := if lev xs ys ≤ most then some (lev xs ys) else none
end Lev
namespace Sw
open PySem PySem.Spec PyProof.Rows L2

/-! ### texts as lists of signs -/
def S (l : List Nat) : Str := ⟨l.toArray⟩
theorem S_len (l : List Nat) : (S l).length = l.length := by simp [S, Str.length]
theorem S_size (l : List Nat) : (S l).cps.size = l.length := by simp [S]
theorem S_list (l : List Nat) : (S l).cps.toList = l := by simp [S]
theorem S_app (a b : List Nat) : S a ++ S b = S (a ++ b) := by
  show Str.append _ _ = _
  simp [S, Str.append]
theorem S_get (l : List Nat) (i : Nat) : (S l).cps[i]? = l[i]? := by simp [S]
theorem S_inj {a b : List Nat} : S a = S b ↔ a = b := by
  constructor
  · intro h
    have e : (S a).cps.toList = (S b).cps.toList := by rw [h]
    rwa [S_list, S_list] at e
  · rintro rfl; rfl
theorem S_dec (a b : List Nat) : decide (V.str (S a) = V.str (S b)) = decide (a = b) := by
  by_cases h : a = b
  · subst h; simp
  · rw [decide_eq_false h, decide_eq_false]
    intro e
    exact h (S_inj.mp (V.str.inj e))

/-! ### calls of own defs -/
section
variable (P : Program) (w : World) (K : PySem.W.Frag) (mg : Str → Option Value) (base : Heap)
/-- the def x of the text st stands -/
def Def (x : Str) (st : Stmt) : Prop := ∃ (f : Addr) (fd : FuncData), Fun K x x st f fd ∧ mg x = some (.ref f)
/-- the def x keeps its promise -/
def Cal (x : Str) (ps : List Str) (k : Nat) (sp : Sp) : Prop := ∃ (f : Addr) (fd : FuncData), FnOk P w K mg base CX0 k f fd ps sp ∧ mg x = some (.ref f) ∧ PySem.W.keepIn K (.ref f) = true ∧ Binds K fd ps []
end
section
variable {P : Program} {w : World} {K : PySem.W.Frag} {mg : Str → Option Value} {base : Heap}
theorem Def.cal {x : Str} {st : Stmt} {ps : List Str} {k : Nat} {sp : Sp} (d : Def K mg x st)
    (b : ∀ (kV doc pm : Value) (an : Option Addr) (cdv ct : Value) (us : List Value), us.length = ps.length → bindArgs (PySem.W.fnOf x x (defArgs st) (defBody st) (defScope st) .none kV doc pm an cdv ct) ⟨us, []⟩ = pure (ps.zip us))
    (ok : ∀ (f : Addr) (fd : FuncData), Fun K x x st f fd → FnOk P w K mg base CX0 k f fd ps sp) : Cal P w K mg base x ps k sp := by
  obtain ⟨f, fd, F, m⟩ := d
  exact ⟨f, fd, ok f fd F, m, F.kp, F.binds b⟩
end
section
variable {X : Cx} {x : Str} {ps : List Str} {k n : Nat} {sp : Sp} {e : Expr} {es : List Expr} {t : TA} {p pos : Pos}
theorem pe_cal (c : Cal X.prog X.w X.K X.mg X.base x ps k sp) (hr : Room n X.A) (ha : PA X (e :: es) t) (hg : Gl X x := by rfl) (hk : k ≤ n := by decide)
    (hdb : (x == ("__debug__" : Str)) = false := by decide) (he : starEach (e :: es) X.env = (false, eval e X.env) :: starEach es X.env := by rfl) (hpl : (backTo pos (starEach es X.env)).any (·.1) = false := by rfl) :
    PE X (.Call (.Name x p) (e :: es) [] pos) (tCall sp [] E0 t) := by
  obtain ⟨f, fd, F, m, kp, b⟩ := c
  exact pe_call F (hr.mono hk) hg m kp b .nil pass0 ha hdb he hpl
end

/-! ### answers to readings -/
section
variable {σ : L2.St} {H : Hp} {Q : VK} {D : Ends}
theorem i_seq {t u : TS} (h : t { D with nx := u D } σ H) : tSeq t u D σ H := h
theorem i_asg {te : TE} {g : TG} (h : te σ H fun x H1 => g x σ H1 D.nx) : tAsg te g D σ H := h
theorem i_name {i : Nat} {v : V} {R : L2.St → Hp → Prop} (h : R (σ.set i (some v)) H) : gName i v σ H R := h
theorem i_ret {te : TE} (h : te σ H D.rt) : tRet te D σ H := h
theorem i_var {i : Nat} {v : V} (e : σ[i]? = some (some v)) (h : Q v H) : tVar i σ H Q := ⟨v, e, h⟩
theorem i_c {v : V} (h : Q v H) : tC v σ H Q := h
theorem i_op {r : R2} {ta tb : TE} (h : ta σ H fun x H1 => tb σ H1 fun y H2 => r x y H2 Q) : tOp r ta tb σ H Q := h
theorem i_un {r : V → Hp → VK → Prop} {ta : TE} (h : ta σ H fun x H1 => r x H1 Q) : tUn r ta σ H Q := h
theorem i_rI {C : Int → Int → Prop} {g : Int → Int → V} {a b : Int} (c : C a b) (h : Q (g a b) H) : rI C g (.int a) (.int b) H Q := ⟨a, b, rfl, rfl, c, h⟩
theorem i_rI0 {g : Int → Int → V} {a b : Int} (h : Q (g a b) H) : rI0 g (.int a) (.int b) H Q := ⟨a, b, rfl, rfl, h⟩
theorem i_cb {r : List V → Hp → VK → Prop} {t : TA} (h : t σ H fun vs H1 => r vs H1 Q) : tCB r t σ H Q := h
theorem i_cons {ta : TE} {tr : TA} {R : List V → Hp → Prop} (h : ta σ H fun x H1 => tr σ H1 fun xs H2 => R (x :: xs) H2) : tCons ta tr σ H R := h
theorem i_nil {R : List V → Hp → Prop} (h : R [] H) : tNil σ H R := h
theorem i_call {sp : Sp} {dvs : List V} {E : XK} {t : TA} (h : t σ H fun vs H1 => sp (vs ++ dvs) H1 Q E) : tCall sp dvs E t σ H Q := h
theorem i_if {c : TT} {t u : TS} (h : c σ H fun b H1 => if b = true then t D σ H1 else u D σ H1) : tIfS c t u D σ H := h
theorem i_ifE {c : TT} {t u : TE} (h : c σ H fun b H1 => if b = true then t σ H1 Q else u σ H1 Q) : tIf c t u σ H Q := h
theorem i_test {t : TE} {R : Bool → Hp → Prop} (h : t σ H fun x H1 => ∃ k, x = .bl k ∧ R k H1) : tTest t σ H R := h
theorem i_bl {k : Bool} {R : Bool → Prop} (h : R k) : ∃ k', V.bl k = .bl k' ∧ R k' := ⟨k, rfl, h⟩
theorem i_and {t u : TT} {R : Bool → Hp → Prop} (h : t σ H fun c H1 => if c = true then u σ H1 R else R false H1) : tAnd t u σ H R := h
theorem i_or {t u : TT} {R : Bool → Hp → Prop} (h : t σ H fun c H1 => if c = true then R true H1 else u σ H1 R) : tOr t u σ H R := h
theorem i_not {t : TT} {R : Bool → Hp → Prop} (h : t σ H fun c H1 => R (!c) H1) : tNot t σ H R := h
theorem i_lst {t : TA} (h : t σ H fun xs H1 => xs.length ≤ sizeLine ∧ ∀ p, H1 p = none → Q (.ref p) (upd H1 p (.lst xs))) : tLst t σ H Q := h
theorem i_tup {t : TA} (h : t σ H fun xs H1 => xs.length ≤ sizeLine ∧ ∀ p, H1 p = none → Q (.ref p) (upd H1 p (.tup xs))) : tTup t σ H Q := h
theorem iteB {p : Prop} [Decidable p] {A B : Prop} (h1 : p → A) (h2 : ¬ p → B) : if decide p = true then A else B := by
  by_cases h : p
  · rw [decide_eq_true h]; exact iteT (h1 h)
  · rw [decide_eq_false h]; exact iteF (h2 h)
theorem iteC {c : Bool} {A B : Prop} (h1 : c = true → A) (h2 : c = false → B) : if c = true then A else B := by
  cases c with
  | true => exact iteT (h1 rfl)
  | false => exact iteF (h2 rfl)
/-- xs[i], xs a list of which the item is known -/
theorem i_ixL {K : PySem.W.Frag} {p : Addr} {xs : List V} {i : Int} {v : V} (h1 : SqL K H p xs) (h2 : atI xs i = some v) (h : Q v H) : rIxL K (.ref p) (.int i) H Q := ⟨p, xs, i, v, rfl, rfl, h1, h2, h⟩
theorem i_ixT {K : PySem.W.Frag} {p : Addr} {xs : List V} {i : Int} {v : V} (h1 : SqT K H p xs) (h2 : atI xs i = some v) (h : Q v H) : rIxT K (.ref p) (.int i) H Q := ⟨p, xs, i, v, rfl, rfl, h1, h2, h⟩
end

/-! ### the box of draws -/
/-- the box at b: the rest n of a great cell, whether it is one, the seed c, the draws d so far -/
structure BoxAt (H : Hp) (b : Addr) (d : Int) : Prop where
  ex : ∃ (n : Int) (g : Bool) (c e : Int), H b = some (.lst [.int n, .bl g, .int c, .int e]) ∧ 0 ≤ n ∧ 0 ≤ c ∧ c < 2147483629 ∧ 0 ≤ e ∧ e ≤ d
/-- all but the object at b is as it was -/
def SB (b : Addr) (H H' : Hp) : Prop := ∀ a o, a ≠ b → H a = some o → H' a = some o
theorem SB.refl {b : Addr} (H : Hp) : SB b H H := fun _ _ _ h => h
theorem SB.trans {b : Addr} {H H1 H2 : Hp} (x : SB b H H1) (y : SB b H1 H2) : SB b H H2 := fun a o n h => y a o n (x a o n h)
theorem SB.of {b : Addr} {H H' : Hp} (s : Same H H') : SB b H H' := fun a o _ h => s a o h
theorem SB.upd {b : Addr} {H : Hp} {o : HO} : SB b H (upd H b o) := fun a u n h => by rw [upd_ne n]; exact h
theorem BoxAt.mono {H : Hp} {b : Addr} {d d' : Int} (x : BoxAt H b d) (h : d ≤ d') : BoxAt H b d' := by
  obtain ⟨n, g, c, e, h1, h2, h3, h4, h5, h6⟩ := x.ex
  exact ⟨n, g, c, e, h1, h2, h3, h4, h5, by omega⟩
theorem BoxAt.same {H H' : Hp} {b : Addr} {d : Int} (x : BoxAt H b d) (s : Same H H') : BoxAt H' b d := by
  obtain ⟨n, g, c, e, h1, h⟩ := x.ex
  exact ⟨n, g, c, e, s _ _ h1, h⟩
theorem same_upd {H : Hp} {p : Addr} {o : HO} (h : H p = none) : Same H (upd H p o) := fun b x e => by
  rw [upd_ne (ne_of_none e h)]
  exact e
/-- _law_take(box, many): a number below many; the box is one draw further at most -/
def spTake : Sp := fun vs H Q _ => ∃ (b : Addr) (m d : Int), vs = [.ref b, .int m] ∧ BoxAt H b d ∧ d ≤ 1000000 ∧ 0 < m ∧ m < 2 ^ 64 ∧
  ∀ (r : Int) (H' : Hp), 0 ≤ r → r < m → BoxAt H' b (d + 1) → SB b H H' → Q (.int r) H'
/-- _law_box(great) -/
def spBox : Sp := fun vs H Q _ => ∃ n : Int, vs = [.int n] ∧ ∀ (b : Addr) (H' : Hp), H b = none → Same H H' → BoxAt H' b 0 → Q (.ref b) H'
/-- _law_cell(script, k) -/
def spCell (K : PySem.W.Frag) : Sp := fun vs H Q _ => ∃ (a : Addr) (ns : List Int) (k : Int), vs = [.ref a, .int k] ∧ SqL K H a (ns.map V.int) ∧ 0 ≤ k ∧ k < 1000 ∧
  ∀ (n : Int) (H' : Hp), Same H H' → Q (.int n) H'
/-! ### more answers -/
section
variable {σ : L2.St} {H : Hp} {Q : VK} {D : Ends} {K : PySem.W.Frag}
theorem i_next (h : D.nx σ H) : tNext D σ H := h
theorem i_drop {te : TE} (h : te σ H fun _ H1 => D.nx σ H1) : tDrop te D σ H := h
theorem i_sub {to ti : TE} {t : TSet} {v : V} {R : L2.St → Hp → Prop} (h : to σ H fun o H1 => ti σ H1 fun i H2 => t o i v H2 fun H3 => R σ H3) : gSub to ti t v σ H R := h
theorem i_setL {p : Addr} {xs : List V} {k : Int} {j : Nat} {v : V} {R : Hp → Prop} (h1 : H p = some (.lst xs)) (h2 : ixN xs.length k = some j) (h : R (upd H p (.lst (xs.set j v)))) : rSetL (.ref p) (.int k) v H R := ⟨p, xs, k, j, rfl, rfl, h1, h2, h⟩
theorem i_int {i : Int} (h : Q (.int i) H) : (∃ j, [V.int i] = [.int j] ∧ Q (.int j) H) ∨ ∃ k, [V.int i] = [.bl k] ∧ Q (.int (if k = true then 1 else 0)) H := .inl ⟨i, rfl, h⟩
theorem i_intB {b : Bool} (h : Q (.int (if b = true then 1 else 0)) H) : (∃ j, [V.bl b] = [.int j] ∧ Q (.int j) H) ∨ ∃ k, [V.bl b] = [.bl k] ∧ Q (.int (if k = true then 1 else 0)) H := .inr ⟨b, rfl, h⟩
theorem i_ix1 {α : Type} {P : α → Prop} {x : α} {R : α → Prop} (h : R x) : ∃ y, x = y ∧ R y := ⟨x, rfl, h⟩
theorem i_abs {i : Int} (h : Q (.int (if i < 0 then -i else i)) H) : ∃ j, [V.int i] = [.int j] ∧ Q (.int (if j < 0 then -j else j)) H := ⟨i, rfl, h⟩
theorem i_two {R : Int → Int → Prop} {i j : Int} (h : R i j) : ∃ a b, [V.int i, V.int j] = [.int a, .int b] ∧ R a b := ⟨i, j, rfl, h⟩
theorem i_one {R : Int → Prop} {i : Int} (h : R i) : ∃ a, [V.int i] = [.int a] ∧ R a := ⟨i, rfl, h⟩
theorem i_cmod {i m : Int} (h : 0 < m) : (fun (_ j : Int) => 0 < j) i m := h
theorem i_bm {T : String} {r : V → List V → Hp → VK → Prop} {to : TE} {t : TA} (h : to σ H fun x H1 => tyV K T x H1 ∧ t σ H1 fun xs H2 => r x xs H2 Q) : tBM K T r to t σ H Q := h
theorem i_tyL {p : Addr} {xs : List V} {R : Prop} (h1 : H p = some (.lst xs)) (h : R) : tyV K "list" (.ref p) H ∧ R := ⟨.inl ⟨rfl, xs, .inl (.inl h1)⟩, h⟩
theorem i_tyS {z : Str} {R : Prop} (h : R) : tyV K "str" (.str z) H ∧ R := ⟨rfl, h⟩
theorem i_append {p : Addr} {xs : List V} {y : V} (h1 : H p = some (.lst xs)) (h2 : xs.length < sizeLine) (h : Q .non (upd H p (.lst (xs ++ [y])))) : rAppend (.ref p) [y] H Q := ⟨p, xs, y, rfl, rfl, h1, h2, h⟩
theorem i_sl {r : V → Option Int → Option Int → Hp → VK → Prop} {te : TE} {tl th : TO} (h : te σ H fun x H1 => tl σ H1 fun l H2 => th σ H2 fun u H3 => r x l u H3 Q) : L2.tSl r te tl th σ H Q := h
theorem i_part {t : TE} {R : Option Int → Hp → Prop} (h : t σ H fun x H1 => ∃ i, x = .int i ∧ R (some i) H1) : tPart t σ H R := h
theorem i_nopart {R : Option Int → Hp → Prop} (h : R none H) : tNoPart σ H R := h
theorem i_exI {R : Int → Prop} {i : Int} (h : R i) : ∃ j, V.int i = .int j ∧ R j := ⟨i, rfl, h⟩
theorem i_chain {r r' : R2} {ta tb tc : TE} (h : ta σ H fun x H1 => tb σ H1 fun y H2 => r x y H2 fun z H3 => ∃ k, z = .bl k ∧ (if k = true then tc σ H3 fun w' H4 => r' y w' H4 Q else Q (.bl false) H3)) : tChain r r' ta tb tc σ H Q := h
theorem i_aug {i : Nat} {te : TE} {ti : TIp} {x : V} (e : σ[i]? = some (some x)) (h : te σ H fun y H1 => ti x y H1 fun z H2 => D.nx (σ.set i (some z)) H2) : tAug i te ti D σ H := ⟨x, e, h⟩
theorem i_ip {g : Int → Int → Int} {a b : Int} (h : Q (.int (g a b)) H) : ipI g (.int a) (.int b) H Q := ⟨a, b, rfl, rfl, h⟩
theorem i_par {i j : Nat} {ta : TA} (h : ta σ H fun vs H1 => ∃ v w, vs = [v, w] ∧ D.nx ((σ.set i (some v)).set j (some w)) H1) : tPar i j ta D σ H := h
theorem i_pair {R : V → V → Prop} {a b : V} (h : R a b) : ∃ v w, [a, b] = [v, w] ∧ R v w := ⟨a, b, rfl, h⟩
theorem i_andV {ta tb : TE} (h : ta σ H fun x H1 => ∃ c, x = .bl c ∧ if c = true then tb σ H1 Q else Q (.bl false) H1) : tAndV ta tb σ H Q := h
theorem i_orV {ta tb : TE} (h : ta σ H fun x H1 => ∃ c, x = .bl c ∧ if c = true then Q (.bl true) H1 else tb σ H1 Q) : tOrV ta tb σ H Q := h
theorem i_notV {ta : TE} (h : ta σ H fun x H1 => ∃ c, x = .bl c ∧ Q (.bl (!c)) H1) : tNotV ta σ H Q := h
theorem i_m1 {r : V → List V → Hp → VK → Prop} {to te : TE} (h : to σ H fun x H1 => (∃ a, x = .str a) ∧ te σ H1 fun y H2 => r x [y] H2 Q) : tM1 r to te σ H Q := h
theorem i_str {z : Str} {R : Prop} (h : R) : (∃ a, V.str z = .str a) ∧ R := ⟨⟨z, rfl⟩, h⟩
theorem i_len {p : Addr} {ys : List V} (h1 : SqL K H p ys ∨ SqT K H p ys) (h : Q (.int ys.length) H) : ∃ q zs, [V.ref p] = [.ref q] ∧ (SqL K H q zs ∨ SqT K H q zs) ∧ Q (.int zs.length) H := ⟨p, ys, rfl, h1, h⟩
theorem i_lenS {l : List Nat} (h1 : l.length ≤ sizeLine) (h : Q (.int (l.length : Int)) H) : ∃ z, [V.str (S l)] = [.str z] ∧ z.length ≤ sizeLine ∧ Q (.int z.length) H := ⟨S l, rfl, by rw [S_len]; exact h1, by rw [S_len]; exact h⟩
end
theorem sqL_of {K : PySem.W.Frag} {H : Hp} {a : Addr} {xs : List V} (h : H a = some (.lst xs)) : SqL K H a xs := .inl (.inl h)
theorem sqT_of {K : PySem.W.Frag} {H : Hp} {a : Addr} {xs : List V} (h : H a = some (.tup xs)) : SqT K H a xs := .inl (.inl h)
/-- the part of a text between two places -/
def cut (l : List Nat) (lo hi : Option Int) : List Nat := (l.drop (HT.sIx l.length 0 lo)).take (HT.sIx l.length l.length hi - HT.sIx l.length 0 lo)
theorem cutS_S (l : List Nat) (lo hi : Option Int) : cutS (S l) lo hi = S (cut l lo hi) := by
  unfold cutS cut
  rw [S_list, S_len]; rfl
theorem cut_from (l : List Nat) (k : Nat) : cut l (some (k : Int)) none = l.drop k := by
  unfold cut
  rw [HT.sIx_nat, HT.sIx_none]
  rcases Nat.le_total k l.length with h | h
  · rw [Nat.min_eq_left h, List.take_of_length_le (by rw [List.length_drop]; omega)]
  · rw [Nat.min_eq_right h, List.drop_length, List.drop_of_length_le h, List.take_nil]
theorem cut_to (l : List Nat) (k : Nat) : cut l none (some (k : Int)) = l.take k := by
  unfold cut
  rw [HT.sIx_nat, HT.sIx_none, List.drop_zero, Nat.sub_zero]
  rcases Nat.le_total k l.length with h | h
  · rw [Nat.min_eq_left h]
  · rw [Nat.min_eq_right h, List.take_length, List.take_of_length_le h]
theorem i_slS {l : List Nat} {lo hi : Option Int} {H : Hp} {Q : VK} (h1 : l.length ≤ sizeLine) (h : Q (.str (S (cut l lo hi))) H) : rSlS (.str (S l)) lo hi H Q := ⟨S l, rfl, by rw [S_len]; exact h1, by rw [cutS_S]; exact h⟩
theorem i_tB {t : TE} {R : Bool → Hp → Prop} {σ : L2.St} {H : Hp} (h : t σ H fun x H1 => ∃ c, x = .bl c ∧ R c H1) : tB t σ H R := h
theorem i_retN {σ : L2.St} {H : Hp} {D : Ends} (h : D.rt .non H) : tRetN D σ H := h
theorem i_par3 {i j l : Nat} {ta : TA} {σ : L2.St} {H : Hp} {D : Ends} (h : ta σ H fun vs H1 => ∃ u v w, vs = [u, v, w] ∧ D.nx (((σ.set i (some u)).set j (some v)).set l (some w)) H1) : tPar3 i j l ta D σ H := h
theorem i_trip {R : V → V → V → Prop} {a b c : V} (h : R a b c) : ∃ u v w, [a, b, c] = [u, v, w] ∧ R u v w := ⟨a, b, c, rfl, h⟩
theorem i_gTup {K : PySem.W.Frag} {n : Nat} {t : TGs} {a : Addr} {xs : List V} {σ : L2.St} {H : Hp} {R : L2.St → Hp → Prop} (h1 : SqT K H a xs) (h2 : xs.length = n) (h : t xs σ H R) : gTup K n t (.ref a) σ H R := ⟨a, xs, rfl, h1, h2, h⟩
theorem i_gCons {t : TG} {u : TGs} {v : V} {r : List V} {σ : L2.St} {H : Hp} {R : L2.St → Hp → Prop} (h : t v σ H fun σ' H' => u r σ' H' R) : gCons t u (v :: r) σ H R := ⟨v, r, rfl, h⟩
theorem i_gNil {σ : L2.St} {H : Hp} {R : L2.St → Hp → Prop} (h : R σ H) : gNil [] σ H R := ⟨rfl, h⟩
theorem i_lstRg {te : L2.St → Hp → (Int → Int → Hp → Prop) → Prop} {σ : L2.St} {H : Hp} {Q : VK} (h : te σ H fun a b H1 => RgOk a b ∧ ∀ q, H1 q = none → Q (.ref q) (upd H1 q (.lst (rgV a b)))) : tLstRg te σ H Q := h
theorem i_rg1 {ta : TE} {σ : L2.St} {H : Hp} {R : Int → Int → Hp → Prop} (h : ta σ H fun x H1 => ∃ n, x = .int n ∧ R 0 n H1) : tRg1 ta σ H R := h
theorem i_pow {g : Int → Int → V} {a b : Int} {H : Hp} {Q : VK} (h1 : 0 ≤ b) (h2 : b ≤ 1000000) (h3 : a.natAbs < 2 ^ 64) (h : Q (g a b) H) : rI CPow g (.int a) (.int b) H Q := ⟨a, b, rfl, rfl, ⟨h1, h2, h3⟩, h⟩
theorem S_le {l : List Nat} (h : l.length ≤ 100000) : (S l).length ≤ sizeLine := Nat.le_trans h (by decide)
theorem ints_get {ns : List Int} {j : Nat} {v : V} (h : (ns.map V.int)[j]? = some v) : ∃ i, ns[j]? = some i ∧ v = .int i := by
  rw [List.getElem?_map] at h
  cases e : ns[j]? with
  | none => rw [e] at h; cases h
  | some i => rw [e] at h; exact ⟨i, rfl, (Option.some.inj h).symm⟩
theorem ints_at {ns : List Int} {j : Nat} (h : j < ns.length) : (ns.map V.int)[j]? = some (.int ns[j]) := by
  rw [List.getElem?_map, List.getElem?_eq_getElem h]; rfl
theorem atI_ints {ns : List Int} {i : Int} (h0 : 0 ≤ i) (h1 : i < ns.length) : atI (ns.map V.int) i = some (.int (ns[i.toNat]'(by omega))) := by
  have h := atI_nat (xs := ns.map V.int) (ints_at (ns := ns) (show i.toNat < ns.length by omega))
  rwa [show ((i.toNat : Nat) : Int) = i by omega] at h
end Sw
namespace Sw
open PySem PySem.Spec PyProof.Rows L2
/-! ### x[::-1] of a text -/
def tRevS (te : TE) : TE := fun σ H Q => te σ H fun x H1 => ∃ l, x = .str (S l) ∧ l.length ≤ sizeLine ∧ Q (.str (S l.reverse)) H1
theorem fmap_map {α β : Type} {f : α → Option β} {g : α → β} : ∀ {l : List α}, (∀ a ∈ l, f a = some (g a)) → l.filterMap f = l.map g
  | [], _ => rfl
  | a :: l, h => by
    rw [List.filterMap_cons, h a List.mem_cons_self, List.map_cons, fmap_map fun b hb => h b (List.mem_cons_of_mem _ hb)]
theorem rev_list (l : List Nat) : ((Builtin.Str.strSliceIndices none none (-1) l.length).filterMap (l.toArray[·]?)) = l.reverse := by
  rw [PyProof.Rows.picked_rev, List.filterMap_map]
  apply List.ext_getElem?
  intro k
  have hf : List.filterMap ((fun x => l.toArray[x]?) ∘ fun k => l.length - 1 - k) (List.range l.length) = (List.range l.length).map fun k => l.getD (l.length - 1 - k) 0 := by
    refine fmap_map fun a ha => ?_
    have ha' : a < l.length := List.mem_range.mp ha
    have hb : l.length - 1 - a < l.length := by omega
    show l.toArray[l.length - 1 - a]? = some (l.getD (l.length - 1 - a) 0)
    rw [List.getElem?_toArray, List.getD_eq_getElem?_getD, List.getElem?_eq_getElem hb]
    rfl
  rw [hf, List.getElem?_map]
  by_cases hk : k < l.length
  · have hb : l.length - 1 - k < l.length := by omega
    rw [List.getElem?_range hk, List.getElem?_reverse hk]
    show some (l.getD (l.length - 1 - k) 0) = _
    rw [List.getD_eq_getElem?_getD, List.getElem?_eq_getElem hb]
    rfl
  · rw [List.getElem?_eq_none (by rw [List.length_range]; omega), List.getElem?_eq_none (by rw [List.length_reverse]; omega)]
    rfl
theorem pe_revS {X : Cx} {e : Expr} {te : TE} {k : Nat} {p1 p2 p3 pos : Pos} (he : PE X e te) :
    PE X (.Subscript e (.Slice none none (some (.UnaryOp .USub (.Constant (.int 1) k p1) p2)) p3) pos) (tRevS te) := by
  constructor
  intro pins s σ H Q I h
  refine Subscript_ (thn (he.run pins s σ H _ I h) fun v s1 ⟨x, H1, I1, r1, l, ex, hl, q⟩ => ?_)
  subst ex
  obtain ⟨tk, rfl⟩ := r1
  have st : PO X (some (.UnaryOp .USub (.Constant (.int 1) k p1) p2)) (tPart (tUn (rU fun i => .int (-i)) (tC (.int 1)))) := po_some (pe_un un_neg pe_int)
  refine wpAny_Slice (thn (po_none.run pins s1 σ H1 (fun o G => o = none ∧ G = H1) I1 ⟨rfl, rfl⟩) fun w1 s2 ⟨o1, G1, J1, z1, a1, b1⟩ => ?_)
  subst a1 b1
  refine thn (po_none.run pins s2 σ G1 (fun o G => o = none ∧ G = G1) J1 ⟨rfl, rfl⟩) fun w2 s3 ⟨o2, G2, J2, z2, a2, b2⟩ => ?_
  subst a2 b2
  refine thn (st.run pins s3 σ G2 (fun o G => o = some (-1) ∧ G = G2) J2 ⟨1, rfl, -1, rfl, rfl, rfl⟩) fun w3 s4 ⟨o3, G3, J3, z3, a3, b3⟩ => ?_
  subst a3 b3
  have J4 : Inv X pins σ G3 { s4 with heap := s4.heap.push { cls := .type "slice", data := .fields #[w1, w2, w3] } } := J3.kept (t' := s4.toks) fun b ob q => Heap.get?_push_of_some _ q
  obtain ⟨y1, rfl, f1⟩ := IsPart.raw z1
  obtain ⟨y2, rfl, f2⟩ := IsPart.raw z2
  obtain ⟨y3, rfl, f3⟩ := IsPart.raw z3
  cases y1 with
  | some y => cases f1
  | none =>
  cases y2 with
  | some y => cases f2
  | none =>
  cases y3 with
  | none => cases f3
  | some y =>
  obtain ⟨m, u⟩ := y
  have em : m = -1 := Option.some.inj f3
  subst em
  refine tail_any (T := "str") (id := _) (ops := [.str (S l) tk, .ref s4.heap.objs.size]) (typeIs_str _ _ _) F.slot_str_getitem.lookup ?_ (by with_unfolding_all rfl)
  refine wpAny_getItem_str_slice (l := none) (u := none) (st := some (-1, u)) ⟨_, Heap.get?_push_size _ rfl, rfl, rfl⟩ rfl ?_
  show Made.post (if ((-1 : Int) == 1 && (Builtin.Str.strSliceIndices none none (-1) (S l).length).length == (S l).length) = true then Made.val (.str (S l) tk)
    else Made.str ⟨((Builtin.Str.strSliceIndices none none (-1) (S l).length).filterMap ((S l).cps[·]?)).toArray⟩) (EP X pins σ Q) _
  rw [if_neg (by rw [show ((-1 : Int) == 1) = false from rfl, Bool.false_and]; exact Bool.false_ne_true)]
  have e : ((Builtin.Str.strSliceIndices none none (-1) (S l).length).filterMap ((S l).cps[·]?)) = l.reverse := by
    rw [S_len]
    exact rev_list l
  rw [e]
  refine ⟨by show (S l.reverse).length ≤ sizeLine; rw [S_len, List.length_reverse]; exact hl, .str (S l.reverse), G3, J4.tok _, ⟨_, rfl⟩, q⟩
/-! ### enumerate(text) -/
/-- a text's signs, each in a new pair with its number -/
def ItE (x : Str) : It := ⟨fun i _ => i < x.cps.size, fun i H v H' => ∃ T c, v = .ref T ∧ H T = none ∧ x.cps[i]? = some c ∧ H' = upd H T (.tup [.int (i : Nat), .str ⟨#[c]⟩]), fun i _ => i = x.cps.size⟩
theorem turn_enumS {P : Program} {w : World} {K : PySem.W.Frag} {elts : List Expr} {kk : Nat} {tpos : Pos} (x : Str) (t : Tok) (e it : Addr) (hne : e ≠ it) :
    Turn P w K (.Tuple elts kk tpos) (ItE x) [e, it] e (fun i h => (∃ old, IsEnum h e it ((i : Nat) : Int) old) ∧ h.IsStrIter it (strIterType x) x t i) := by
  refine ⟨by simp, fun i h st b hb => ?_, fun i h h' st k => ?_, ?_, ?_, fun A i s Q E st h => ?_⟩
  · obtain ⟨⟨old, he⟩, o, ho, hc, hd⟩ := st
    have e' : b = e ∨ b = it := by simpa using hb
    rcases e' with rfl | rfl
    · exact ⟨_, he, fun v q => nomatch q⟩
    · exact ⟨o, ho, fun v q => by rw [hd] at q; cases q⟩
  · obtain ⟨⟨old, he⟩, o, ho, z⟩ := st
    exact ⟨⟨old, k e (by simp) _ he⟩, o, k it (by simp) o ho, z⟩
  · rintro X rfl rfl rfl hc i pins s σ H E I hf ⟨⟨old, he⟩, hit⟩ hg
    have hh : X.A.in1.handled = none := I.ok.hd hc
    have DD := Draws.text (prog := X.prog) (w := X.w) (A := X.A.in1) hh it x t
    have l1 : e < s.heap.objs.size := Heap.lt_size he
    have l2 : it < s.heap.objs.size := by obtain ⟨_, q, _⟩ := hit; exact Heap.lt_size q
    refine wpAny_pyNext_enum_itemD DD he hit hg hne (by simpa using hne) fun v h1 tk hv ho hit' hT hsz hk => ?_
    obtain ⟨c, u, hc', rfl⟩ := hv
    refine ⟨_, rfl, wpAny_letOwnedTupleGo_enum (s := { s with heap := h1, toks := tk + 1 }) ho fun h2 he' sb => ?_⟩
    have nT := Nat.ne_of_gt l1
    have gT : h2.get? s.heap.objs.size = some { cls := .type "tuple", data := .seq #[.int i tk, .str ⟨#[c]⟩ u] } := (sb.2 _ nT).trans hT
    have fresh : H s.heap.objs.size = none := I.hok.fresh (Nat.le_refl _)
    have new : ObjOk X.prog X.w (upd H s.heap.objs.size (.tup [.int (i : Nat), .str ⟨#[c]⟩])) h2 s.heap.objs.size (.tup [.int (i : Nat), .str ⟨#[c]⟩]) :=
      ⟨Nat.le_of_ble_eq_true rfl, [.int i tk, .str ⟨#[c]⟩ u], .cons ⟨_, rfl⟩ (.cons ⟨_, rfl⟩ .nil), _, gT, rfl, _, rfl⟩
    have J : Inv X pins σ (upd H s.heap.objs.size (.tup [.int (i : Nat), .str ⟨#[c]⟩])) { s with heap := h2, toks := tk + 1 } := by
      refine I.turnedNew (ch := [e, it]) (fun b ob hb q => ?_) hf (Nat.le_refl _) new
      have n1 : b ≠ e := fun z => hb (by simp [z])
      have n2 : b ≠ it := fun z => hb (by simp [z])
      exact (sb.2 b n1).trans (hk b ob n1 n2 q)
    refine ⟨.ref s.heap.objs.size, _, J, rfl, ⟨_, c, rfl, fresh, hc', rfl⟩, ⟨⟨.str ⟨#[c]⟩ u, ?_⟩, ?_⟩, fun b hb => ?_⟩
    · rw [show ((i + 1 : Nat) : Int) = (i : Int) + 1 by omega]
      exact he'
    · obtain ⟨o, g1, g2⟩ := hit'
      exact ⟨o, (sb.2 it (Ne.symm hne)).trans g1, g2⟩
    · have lb : b < s.heap.objs.size := by
        have e' : b = e ∨ b = it := by simpa using hb
        rcases e' with rfl | rfl <;> assumption
      rw [upd_ne (Nat.ne_of_lt lb)]
      exact (hf b hb).1
  · rintro X rfl rfl rfl hc i pins s σ H E I hf ⟨⟨old, he⟩, hit⟩ hg
    have hh : X.A.in1.handled = none := I.ok.hd hc
    have DD := Draws.text (prog := X.prog) (w := X.w) (A := X.A.in1) hh it x t
    have hi : i = x.cps.size := hg
    subst hi
    obtain ⟨f0, f1, f2, f3, f4, f5⟩ := hf it (by simp)
    exact wpAny_pyNext_enum_endD DD he hit fun h1 eb => ⟨rfl, I.turned (t' := s.toks) (fun b o hb q => eb b o hb q) f0 f1 f3 f4 f5⟩
  · obtain ⟨⟨old, he⟩, _⟩ := st
    exact wpAny_pyIter_enum he h
def iEnS (ta : TA) : TI := fun σ H R => ta σ H fun vs H1 => ∃ x, vs = [.str x] ∧ R (ItE x) H1
theorem pi_enumS {X : Cx} {e : Expr} {ta : TA} {p pos tpos : Pos} {elts : List Expr} {kk : Nat} (hg : Gl X "enumerate") (hm : X.mg "enumerate" = none) (ha : PA X [e] ta) (hs : starEach [e] X.env = [(false, eval e X.env)] := by rfl) :
    PI X (.Tuple elts kk tpos) (.Call (.Name "enumerate" p) [e] [] pos) (iEnS ta) := by
  constructor
  intro pins s σ H R I h
  refine Call_ (ld_blt I hg hm boot_enumerate (PyProof.Rows.callWith_type1 (thn (ha.run pos pins s σ H _ I h) fun us s1 q1 => ?_) hs rfl))
  obtain ⟨vs, H1, I1, r1, x, rfl, q⟩ := q1
  cases r1 with
  | cons r rr =>
    cases rr
    obtain ⟨t, rfl⟩ := r
    refine call_enumerate_str fun h1 he hit hsz hk => wpAny_pyIter_enum he ?_
    have J : Inv X pins σ H1 { s1 with heap := h1 } := I1.kept (t' := s1.toks) hk
    refine ⟨s1.heap.objs.size + 1, [s1.heap.objs.size + 1, s1.heap.objs.size], _, ItE x, H1, rfl, J, turn_enumS x t _ _ (Nat.succ_ne_self _), ⟨⟨.none, he⟩, hit⟩, fun b hb => ?_, q⟩
    have lb : s1.heap.objs.size ≤ b := by
      have e' : b = s1.heap.objs.size + 1 ∨ b = s1.heap.objs.size := by simpa using hb
      rcases e' with rfl | rfl
      · exact Nat.le_succ _
      · exact Nat.le_refl _
    exact I1.fpOk lb (I1.hok.fresh lb)
theorem walk_enumS {x : Str} : Walk (ItE x) x.cps.size (fun _ => True) (fun i H v H' => ∃ T c, v = .ref T ∧ H T = none ∧ x.cps[i]? = some c ∧ H' = upd H T (.tup [.int (i : Nat), .str ⟨#[c]⟩])) :=
  ⟨fun _ _ hi _ => hi, fun _ _ => rfl, fun _ _ _ _ _ _ y => y⟩
end Sw
namespace Sw
open PySem PySem.Spec PyProof.Rows L2
/-! ### comprehensions that leave all as it was -/
theorem lc_map {J : It} {n : Nat} {G : Hp → Prop} {Y : Nat → Hp → V → Hp → Prop} {g : TG} {te : TE} {vs : List Nat} {σ : L2.St} {H1 : Hp} {D : Addr} {Qd : Hp → Prop} (w : Walk J n G Y) (f : Nat → V)
    (hn : n ≤ 1000000) (nD : H1 D = none) (hG : ∀ H, Same H1 H → G H)
    (hs : ∀ i x H H', i < n → Same H1 H → Y i H x H' → ∀ R : V → Hp → Prop, (∀ H4, Same H H4 → R (f i) H4) → g x (wipe σ vs) H' fun σ2 H2 => wipe σ2 vs = wipe σ vs ∧ te σ2 H2 R)
    (hd : ∀ H, Same H1 H → H D = some (.lst ((List.range n).map f)) → Qd H)
    (hmono : ∀ x σ H (R R' : L2.St → Hp → Prop), (∀ σ' H', R σ' H' → R' σ' H') → g x σ H R → g x σ H R') :
    ∃ W : Nat → Nat → Hp → Prop, (∃ m, W 0 m (upd H1 D (.lst []))) ∧ ∀ i m H, W i m H →
      (J.stop i H ∧ Qd H) ∨ (J.go i H ∧ ∃ Nx : Hp → Prop, (∀ H', Nx H' → ∃ m', m' < m ∧ W (i + 1) m' H') ∧ ∀ x H', J.yld i H x H' → g x (wipe σ vs) H' fun σ2 H2 => wipe σ2 vs = wipe σ vs ∧ tYes σ2 H2 fun b H3 =>
        if b = true then te σ2 H3 fun y H4 => ∃ acc, H4 D = some (.lst acc) ∧ acc.length < sizeLine ∧ Nx (upd H4 D (.lst (acc ++ [y]))) else Nx H3) := by
  refine lc_it w (fun i H => Same H1 H ∧ H D = some (.lst ((List.range i).map f))) ⟨same_upd nD, upd_same⟩ (fun i H _ p => hG H p.1) (fun i x H H' hi p y => ?_) (fun H p => hd H p.1 p.2)
  refine hmono _ _ _ _ _ (fun σ2 H2 q => ?_) (hs i x H H' hi p.1 y (fun y H4 => ∃ acc, H4 D = some (.lst acc) ∧ acc.length < sizeLine ∧ (Same H1 (upd H4 D (.lst (acc ++ [y]))) ∧ (upd H4 D (.lst (acc ++ [y]))) D = some (.lst ((List.range (i + 1)).map f)))) (fun H4 s4 => ?_))
  · refine ⟨q.1, ?_⟩
    unfold tYes
    dsimp only
    rw [if_pos rfl]
    exact q.2
  · refine ⟨_, s4 _ _ p.2, ?_, fun b o e => ?_, ?_⟩
    · rw [List.length_map, List.length_range]
      exact Nat.lt_of_lt_of_le hi (Nat.le_trans hn (by decide))
    · rw [upd_ne (ne_of_none e nD)]
      exact s4 _ _ (p.1 _ _ e)
    · rw [upd_same, List.range_succ, List.map_append]
      rfl
theorem mono_name {i : Nat} (x : V) (σ : L2.St) (H : Hp) (R R' : L2.St → Hp → Prop) (h : ∀ σ' H', R σ' H' → R' σ' H') (q : gName i x σ H R) : gName i x σ H R' := h _ _ q
theorem range_map_get {α β : Type} (l : List α) (F : Nat → β) (g : α → β) (h : ∀ i x, l[i]? = some x → F i = g x) : (List.range l.length).map F = l.map g := by
  apply List.ext_getElem?
  intro i
  rw [List.getElem?_map, List.getElem?_map]
  by_cases hi : i < l.length
  · rw [List.getElem?_range hi, List.getElem?_eq_getElem hi]
    show some (F i) = some (g l[i])
    rw [h i _ (List.getElem?_eq_getElem hi)]
  · rw [List.getElem?_eq_none (by rw [List.length_range]; omega), List.getElem?_eq_none (by omega)]; rfl
/-! ### isinstance -/
theorem i_isi {K : PySem.W.Frag} {H : Hp} {Q : VK} {x : V} {t : Value} {n : String} (b : Bool) (h1 : TyX K H x t) (h2 : PySem.W.kitOne K t (.type n) = some b) (h : Q (.bl b) H) : rIsi K [x, .ty n] H Q := ⟨x, .ty n, t, .type n, b, rfl, .ty n, h1, h2, h⟩
/-! ### texts of letters -/
def azB (l : List Nat) : Bool := l.all fun c => decide (97 ≤ c ∧ c ≤ 122)
theorem azB_app (a b : List Nat) : azB (a ++ b) = (azB a && azB b) := by simp [azB, List.all_append]
theorem azB_take {l : List Nat} (h : azB l = true) (n : Nat) : azB (l.take n) = true := by
  unfold azB at *
  rw [List.all_eq_true] at *
  exact fun x hx => h x (List.mem_of_mem_take hx)
theorem azB_drop {l : List Nat} (h : azB l = true) (n : Nat) : azB (l.drop n) = true := by
  unfold azB at *
  rw [List.all_eq_true] at *
  exact fun x hx => h x (List.mem_of_mem_drop hx)
theorem az_letters : (("abcdefghijklmnopqrstuvwxyz" : Str)).cps.toList = List.range' 97 26 := by decide +kernel
theorem az_in (c : Nat) : decide (c ∈ (("abcdefghijklmnopqrstuvwxyz" : Str)).cps.toList) = decide (97 ≤ c ∧ c ≤ 122) := by
  rw [az_letters]
  by_cases h : 97 ≤ c ∧ c ≤ 122
  · rw [decide_eq_true h, decide_eq_true]
    exact List.mem_range'_1.mpr ⟨h.1, by omega⟩
  · rw [decide_eq_false h, decide_eq_false]
    intro q
    have := List.mem_range'_1.mp q
    omega
theorem e_empty : (("" : Str)) = S [] := by decide +kernel
theorem starts_S (a b : List Nat) : Txt.startswith (S a) (S b) = decide (a.take b.length = b) := by
  unfold Txt.startswith Builtin.Str.subAt
  rw [S_len, S_len]
  show (decide (0 + b.length ≤ a.length) && ((a.toArray.extract 0 (0 + b.length)) == b.toArray)) = _
  rw [Nat.zero_add]
  have e : (a.toArray.extract 0 b.length) = (a.take b.length).toArray := by
    rw [List.extract_toArray, List.extract_eq_take_drop]
    simp
  rw [e]
  by_cases h : a.take b.length = b
  · rw [h, decide_eq_true rfl, beq_self_eq_true, Bool.and_true, decide_eq_true]
    have := congrArg List.length h
    rw [List.length_take] at this
    omega
  · rw [decide_eq_false h]
    have : ((a.take b.length).toArray == b.toArray) = false := by
      rw [beq_eq_false_iff_ne]
      intro q
      exact h (by simpa using q)
    rw [this, Bool.and_false]
/-! ### what is known of a heap stays -/
theorem Same.at {H H' : Hp} {a : Addr} {o : HO} (s : Same H H') (h : H a = some o) : H' a = some o := s a o h
theorem Same.sqT {K : PySem.W.Frag} {H H' : Hp} {a : Addr} {xs : List V} (e : Same H H') (h : SqT K H a xs) : SqT K H' a xs := by
  rcases h with (h | ⟨o, h⟩) | h
  · exact .inl (.inl (e _ _ h))
  · exact .inl (.inr ⟨o, e _ _ h⟩)
  · exact .inr h
theorem Same.sqL {K : PySem.W.Frag} {H H' : Hp} {a : Addr} {xs : List V} (e : Same H H') (h : SqL K H a xs) : SqL K H' a xs := e.seq h
theorem Same.upd_new {H H1 : Hp} {p : Addr} {o : HO} (s : Same H H1) (n : H1 p = none) : Same H (upd H1 p o) := s.trans (same_upd n)
/-- an object that is new since H is written: what was tracked at H stays -/
theorem Same.set_new {H H1 : Hp} {p : Addr} {o : HO} (s : Same H H1) (n : H p = none) : Same H (upd H1 p o) := fun b x e => by
  rw [upd_ne (ne_of_none e n)]
  exact s _ _ e
/-! ### loops and comprehensions, their source apart -/
def LcGo (J : It) (g : TG) (tt : TT) (te : TE) (vs : List Nat) (σ : L2.St) (H : Hp) (Q : VK) : Prop := tLc (fun _ H R => R J H) g tt te vs σ H Q
def ForGo (J : It) (g : TG) (tb : TS) (D : Ends) (σ : L2.St) (H : Hp) : Prop := tFor (fun _ H R => R J H) g tb D σ H
theorem i_lc {wi : TI} {g : TG} {tt : TT} {te : TE} {vs : List Nat} {σ : L2.St} {H : Hp} {Q : VK} (h : wi σ H fun J H1 => LcGo J g tt te vs σ H1 Q) : tLc wi g tt te vs σ H Q := h
theorem i_for {wi : TI} {g : TG} {tb : TS} {D : Ends} {σ : L2.St} {H : Hp} (h : wi σ H fun J H1 => ForGo J g tb D σ H1) : tFor wi g tb D σ H := h
theorem i_iList {K : PySem.W.Frag} {tl : TE} {R : It → Hp → Prop} {σ : L2.St} {H : Hp} (h : tl σ H fun x H1 => ∃ a, x = .ref a ∧ (∃ xs, SqL K H1 a xs) ∧ R (Itl K a) H1) : iList K tl σ H R := h
theorem i_iTup {K : PySem.W.Frag} {tl : TE} {R : It → Hp → Prop} {σ : L2.St} {H : Hp} (h : tl σ H fun x H1 => ∃ a, x = .ref a ∧ (∃ xs, SqT K H1 a xs) ∧ R (Itt K a) H1) : iTup K tl σ H R := h
theorem i_iStr {te : TE} {R : It → Hp → Prop} {σ : L2.St} {H : Hp} (h : te σ H fun v H1 => ∃ x, v = .str x ∧ R (Its x) H1) : iStr te σ H R := h
theorem i_iRng1 {ta : TA} {R : It → Hp → Prop} {σ : L2.St} {H : Hp} (h : ta σ H fun vs H1 => ∃ j : Int, vs = [.int j] ∧ -(2 ^ 62) ≤ j ∧ j < 2 ^ 62 ∧ R (Itr 0 j.toNat) H1) : iRng1 ta σ H R := h
theorem i_iEnS {ta : TA} {R : It → Hp → Prop} {σ : L2.St} {H : Hp} (h : ta σ H fun vs H1 => ∃ x, vs = [.str x] ∧ R (ItE x) H1) : iEnS ta σ H R := h
theorem i_rng {j : Int} {A : Prop} (h0 : 0 ≤ j) (h1 : j ≤ 1000000) (h : A) : -(2 ^ 62) ≤ j ∧ j < 2 ^ 62 ∧ A := ⟨by omega, by omega, h⟩
theorem i_sqL {K : PySem.W.Frag} {H : Hp} {a : Addr} {xs : List V} {A : Prop} (h1 : SqL K H a xs) (h : A) : (∃ xs, SqL K H a xs) ∧ A := ⟨⟨xs, h1⟩, h⟩
section
variable {J : It} {n : Nat} {G : Hp → Prop} {Y : Nat → Hp → V → Hp → Prop} {g : TG} {tt : TT} {te : TE} {tb : TS} {vs : List Nat} {σ : L2.St} {H1 : Hp} {D : Ends} {Q : VK}
theorem go_map (w : Walk J n G Y) (f : Nat → V) (hn : n ≤ 1000000) (hG : ∀ H, Same H1 H → G H)
    (hs : ∀ i x H H', i < n → Same H1 H → Y i H x H' → ∀ R : V → Hp → Prop, (∀ H4, Same H H4 → R (f i) H4) → g x (wipe σ vs) H' fun σ2 H2 => wipe σ2 vs = wipe σ vs ∧ te σ2 H2 R)
    (hmono : ∀ x σ H (R R' : L2.St → Hp → Prop), (∀ σ' H', R σ' H' → R' σ' H') → g x σ H R → g x σ H R')
    (hd : ∀ p H, H1 p = none → Same H1 H → H p = some (.lst ((List.range n).map f)) → Q (.ref p) H) : LcGo J g tYes te vs σ H1 Q :=
  fun p np => lc_map w f hn np hG hs (fun H s e => hd p H np s e) hmono
theorem go_lc (w : Walk J n G Y) (Pv : Addr → Nat → Hp → Prop) (h0 : ∀ p, H1 p = none → Pv p 0 (upd H1 p (.lst []))) (hG : ∀ p i H, i ≤ n → Pv p i H → G H)
    (hs : ∀ p, H1 p = none → ∀ i x H H', i < n → Pv p i H → Y i H x H' → g x (wipe σ vs) H' fun σ2 H2 => wipe σ2 vs = wipe σ vs ∧ tt σ2 H2 fun b H3 =>
      if b = true then te σ2 H3 fun y H4 => ∃ acc, H4 p = some (.lst acc) ∧ acc.length < sizeLine ∧ Pv p (i + 1) (upd H4 p (.lst (acc ++ [y]))) else Pv p (i + 1) H3)
    (hd : ∀ p H, H1 p = none → Pv p n H → Q (.ref p) H) : LcGo J g tt te vs σ H1 Q :=
  fun p np => lc_it w (Pv p) (h0 p np) (hG p) (hs p np) fun H q => hd p H np q
theorem go_for (w : Walk J n G Y) (Pv : Nat → L2.St → Hp → Prop) (h0 : Pv 0 σ H1) (hG : ∀ i σ H, i ≤ n → Pv i σ H → G H)
    (hs : ∀ i x σ H H', i < n → Pv i σ H → Y i H x H' → g x σ H' fun σ2 H2 => tb { D with nx := Pv (i + 1), ct := Pv (i + 1), bk := D.nx } σ2 H2) (hd : ∀ σ H, Pv n σ H → D.nx σ H) : ForGo J g tb D σ H1 :=
  for_it w Pv h0 hG hs hd
end
theorem i_all {K : PySem.W.Frag} {p : Addr} {bs : List Bool} {H : Hp} {Q : VK} (h1 : H p = some (.lst (bs.map V.bl))) (h : Q (.bl (bs.all id)) H) : rAll K [.ref p] H Q := ⟨p, bs, rfl, sqL_of h1, h⟩
theorem i_inSeq {K : PySem.W.Frag} {p : Addr} {xs : List V} {x : V} {H : Hp} {Q : VK} (h1 : SqL K H p xs ∨ SqT K H p xs) (h2 : flatV x = true) (h3 : xs.all flatV = true) (h : Q (.bl (inV x xs)) H) : rIn K false x (.ref p) H Q := ⟨p, xs, rfl, h1, h2, h3, h⟩
theorem i_ixLH {K : PySem.W.Frag} {p : Addr} {xs : List V} {i : Int} {v : V} {H : Hp} {Q : VK} (h1 : H p = some (.lst xs)) (h2 : atI xs i = some v) (h : Q v H) : rIxL K (.ref p) (.int i) H Q := i_ixL (sqL_of h1) h2 h
theorem i_ixTH {K : PySem.W.Frag} {p : Addr} {xs : List V} {i : Int} {v : V} {H : Hp} {Q : VK} (h1 : H p = some (.tup xs)) (h2 : atI xs i = some v) (h : Q v H) : rIxT K (.ref p) (.int i) H Q := i_ixT (sqT_of h1) h2 h
theorem upd_old {H : Hp} {p a : Addr} {o u : HO} (n : H p = none) (h : H a = some u) : upd H p o a = some u := by rw [upd_ne (ne_of_none h n)]; exact h
theorem upd_skip {H : Hp} {p a : Addr} {o u : HO} (n : a ≠ p) (h : H a = some u) : upd H p o a = some u := by rw [upd_ne n]; exact h
theorem iteNT {A B : Prop} (h : B) : if (!true) = true then A else B := iteF h
theorem iteNF {A B : Prop} (h : A) : if (!false) = true then A else B := iteT h
theorem iteNB {p : Prop} [Decidable p] {A B : Prop} (h1 : ¬ p → A) (h2 : p → B) : if (!decide p) = true then A else B := by
  by_cases h : p
  · rw [decide_eq_true h]; exact iteF (h2 h)
  · rw [decide_eq_false h]; exact iteT (h1 h)
theorem iteNC {c : Bool} {A B : Prop} (h1 : c = false → A) (h2 : c = true → B) : if (!c) = true then A else B := by
  cases c with
  | true => exact iteF (h2 rfl)
  | false => exact iteT (h1 rfl)
/-! ### rules whose readings have names, over texts S l -/
section
variable {X : Cx} {H : Hp} {Q : VK} {K : PySem.W.Frag}
theorem pe_strS {x : Str} {j pos} {l : List Nat} (e : x = S l) : PE X (.Constant (.str x) j pos) (tC (.str (S l))) := by rw [e]; exact pe_str
def rAddS : R2 := fun x y H Q => ∃ a b, x = .str (S a) ∧ y = .str (S b) ∧ a.length + b.length ≤ 1000000 ∧ Q (.str (S (a ++ b))) H
theorem op_addS : OpR X (binaryOp .Add) rAddS := fun pins s σ H x y v u Q I rx ry h => by
  obtain ⟨a, b, e1, e2, hz, q⟩ := h
  exact op_add_str pins s σ H x y v u Q I rx ry ⟨S a, S b, e1, e2, by rw [S_len, S_len]; exact Nat.le_trans hz (by decide), by rw [S_app]; exact q⟩
theorem i_addS {a b : List Nat} (h1 : a.length + b.length ≤ 1000000) (h : Q (.str (S (a ++ b))) H) : rAddS (.str (S a)) (.str (S b)) H Q := ⟨a, b, rfl, rfl, h1, h⟩
def rIxSS : V → V → Hp → VK → Prop := fun x y H Q => ∃ l i c, x = .str (S l) ∧ y = .int i ∧ l.length ≤ 1000000 ∧ atI l i = some c ∧ Q (.str (S [c])) H
theorem ix_S : IxR X rIxSS := fun pins s σ H x y v u b Q I rx ry hb h => by
  obtain ⟨l, i, c, e1, e2, hz, hc, q⟩ := h
  exact ix_str pins s σ H x y v u b Q I rx ry hb ⟨S l, i, c, e1, e2, by rw [S_len]; exact Nat.le_trans hz (by decide), by rw [S_list]; exact hc, q⟩
theorem i_ixSS {l : List Nat} {i : Int} {c : Nat} (h1 : l.length ≤ 1000000) (h2 : atI l i = some c) (h : Q (.str (S [c])) H) : rIxSS (.str (S l)) (.int i) H Q := ⟨l, i, c, rfl, rfl, h1, h2, h⟩
def rSlSS : V → Option Int → Option Int → Hp → VK → Prop := fun x lo hi H Q => ∃ l, x = .str (S l) ∧ l.length ≤ 1000000 ∧ Q (.str (S (cut l lo hi))) H
theorem sl_S : SlR X rSlSS := fun pins s σ H x v vl vu lo hi sl Q I rx hs pl pu h => by
  obtain ⟨l, e1, hz, q⟩ := h
  exact sl_str pins s σ H x v vl vu lo hi sl Q I rx hs pl pu ⟨S l, e1, by rw [S_len]; exact Nat.le_trans hz (by decide), by rw [cutS_S]; exact q⟩
theorem i_slFrom {l : List Nat} {k : Int} (h0 : 0 ≤ k) (h1 : l.length ≤ 1000000) (h : Q (.str (S (l.drop k.toNat))) H) : rSlSS (.str (S l)) (some k) none H Q :=
  ⟨l, rfl, h1, by rw [show k = ((k.toNat : Nat) : Int) by omega, cut_from]; exact h⟩
theorem i_slTo {l : List Nat} {k : Int} (h0 : 0 ≤ k) (h1 : l.length ≤ 1000000) (h : Q (.str (S (l.take k.toNat))) H) : rSlSS (.str (S l)) none (some k) H Q :=
  ⟨l, rfl, h1, by rw [show k = ((k.toNat : Nat) : Int) by omega, cut_to]; exact h⟩
def rLenSS : List V → Hp → VK → Prop := fun xs H Q => ∃ l, xs = [.str (S l)] ∧ l.length ≤ 1000000 ∧ Q (.int (l.length : Int)) H
theorem call_lenS : CallR X (.builtin "len") rLenSS := fun pins s σ H xs us Q I r h => by
  obtain ⟨l, e1, hz, q⟩ := h
  exact call_len_str pins s σ H xs us Q I r ⟨S l, e1, by rw [S_len]; exact Nat.le_trans hz (by decide), by rw [S_len]; exact q⟩
theorem i_lenSS {l : List Nat} (h1 : l.length ≤ 1000000) (h : Q (.int (l.length : Int)) H) : rLenSS [.str (S l)] H Q := ⟨l, rfl, h1, h⟩
def rStartS : V → List V → Hp → VK → Prop := fun x xs H Q => ∃ a b, x = .str (S a) ∧ xs = [.str (S b)] ∧ Q (.bl (decide (a.take b.length = b))) H
theorem mt_startsS : MtR X "str.startswith" rStartS := fun pins s σ H x xs v us Q I rx rv h => by
  obtain ⟨a, b, e1, e2, q⟩ := h
  exact mt_startswith pins s σ H x xs v us Q I rx rv ⟨S a, S b, e1, e2, by rw [starts_S]; exact q⟩
theorem i_startS {a b : List Nat} (h : Q (.bl (decide (a.take b.length = b))) H) : rStartS (.str (S a)) [.str (S b)] H Q := ⟨a, b, rfl, rfl, h⟩
def rInSg : R2 := fun x y H Q => ∃ (c : Nat) (z : Str), x = .str (S [c]) ∧ y = .str z ∧ Q (.bl (decide (c ∈ z.cps.toList))) H
theorem op_inSg : OpR X (compareOp .In) rInSg := op_in_sign
theorem i_inSg {c : Nat} {z : Str} (h : Q (.bl (decide (c ∈ z.cps.toList))) H) : rInSg (.str (S [c])) (.str z) H Q := ⟨c, z, rfl, rfl, h⟩
def rAbs : List V → Hp → VK → Prop := fun xs H Q => ∃ i, xs = [.int i] ∧ Q (.int (if i < 0 then -i else i)) H
theorem call_absN : CallR X (.builtin "abs") rAbs := call_abs
theorem i_absN {i : Int} (h : Q (.int (if i < 0 then -i else i)) H) : rAbs [.int i] H Q := ⟨i, rfl, h⟩
def rMin2 : List V → Hp → VK → Prop := fun xs H Q => ∃ i j, xs = [.int i, .int j] ∧ Q (.int (if j < i then j else i)) H
theorem call_min2N (hc : X.calm = true) : CallR X (.builtin "min") rMin2 := call_min2 hc
theorem i_min2 {i j : Int} (h : Q (.int (min i j)) H) : rMin2 [.int i, .int j] H Q := ⟨i, j, rfl, by
  by_cases c : j < i
  · rw [if_pos c]; rw [show min i j = j by omega] at h; exact h
  · rw [if_neg c]; rw [show min i j = i by omega] at h; exact h⟩
def rMax2 : List V → Hp → VK → Prop := fun xs H Q => ∃ i j, xs = [.int i, .int j] ∧ Q (.int (if j > i then j else i)) H
theorem call_max2N (hc : X.calm = true) : CallR X (.builtin "max") rMax2 := call_max2 hc
theorem i_max2 {i j : Int} (h : Q (.int (max i j)) H) : rMax2 [.int i, .int j] H Q := ⟨i, j, rfl, by
  by_cases c : j > i
  · rw [if_pos c]; rw [show max i j = j by omega] at h; exact h
  · rw [if_neg c]; rw [show max i j = i by omega] at h; exact h⟩
def rMin3 : List V → Hp → VK → Prop := fun xs H Q => ∃ i j k, xs = [.int i, .int j, .int k] ∧ Q (.int (min (min i j) k)) H
theorem nuMin2_int (i j : Int) : nuMin2 (.int i) (.int j) = some (.int (min i j)) := by
  show some (if decide (j < i) = true then V.int j else V.int i) = some (.int (min i j))
  by_cases c : j < i
  · rw [decide_eq_true c, if_pos rfl, show min i j = j by omega]
  · rw [decide_eq_false c, if_neg Bool.false_ne_true, show min i j = i by omega]
theorem call_min3N (hc : X.calm = true) : CallR X (.builtin "min") rMin3 := fun pins s σ H xs us Q I r h => by
  obtain ⟨i, j, k, e1, q⟩ := h
  exact call_min3Nu hc pins s σ H xs us Q I r ⟨_, _, _, _, e1, by unfold nuMin3; rw [nuMin2_int]; show nuMin2 (.int (min i j)) (.int k) = _; rw [nuMin2_int], q⟩
theorem i_min3 {i j k : Int} (h : Q (.int (min (min i j) k)) H) : rMin3 [.int i, .int j, .int k] H Q := ⟨i, j, k, rfl, h⟩
def rInt : List V → Hp → VK → Prop := fun xs H Q => (∃ i, xs = [.int i] ∧ Q (.int i) H) ∨ ∃ k, xs = [.bl k] ∧ Q (.int (if k then 1 else 0)) H
theorem call_intN : CallR X (.type "int") rInt := call_int1
theorem i_intN {i : Int} (h : Q (.int i) H) : rInt [.int i] H Q := .inl ⟨i, rfl, h⟩
theorem i_intNB {k : Bool} (h : Q (.int (if k then 1 else 0)) H) : rInt [.bl k] H Q := .inr ⟨k, rfl, h⟩
def rLenQ (K : PySem.W.Frag) : List V → Hp → VK → Prop := fun xs H Q => ∃ p ys, xs = [.ref p] ∧ (SqL K H p ys ∨ SqT K H p ys) ∧ Q (.int ys.length) H
theorem call_lenQ : CallR X (.builtin "len") (rLenQ X.K) := call_len_seq
theorem i_lenL {p : Addr} {ys : List V} (h1 : H p = some (.lst ys)) (h : Q (.int ys.length) H) : rLenQ K [.ref p] H Q := ⟨p, ys, rfl, .inl (sqL_of h1), h⟩
theorem i_lenT {p : Addr} {ys : List V} (h1 : H p = some (.tup ys)) (h : Q (.int ys.length) H) : rLenQ K [.ref p] H Q := ⟨p, ys, rfl, .inr (sqT_of h1), h⟩
theorem i_lenK {p : Addr} {ys : List V} (h1 : SqL K H p ys) (h : Q (.int ys.length) H) : rLenQ K [.ref p] H Q := ⟨p, ys, rfl, .inl h1, h⟩
theorem dec_inj {α β : Type} [DecidableEq α] [DecidableEq β] {f : α → β} (hf : ∀ a b, f a = f b → a = b) (a b : α) : decide (f a = f b) = decide (a = b) := by
  by_cases h : a = b
  · subst h; simp
  · rw [decide_eq_false h, decide_eq_false (fun e => h (hf a b e))]
theorem dec_I (a b : Int) : decide (V.int a = V.int b) = decide (a = b) := dec_inj (fun _ _ e => V.int.inj e) a b
theorem i_eqI {a b : Int} (h : Q (.bl (decide (a = b))) H) : rEq (.int a) (.int b) H Q := ⟨rfl, by rw [dec_I]; exact h⟩
theorem i_neI {a b : Int} (h : Q (.bl (!decide (a = b))) H) : rNe (.int a) (.int b) H Q := ⟨rfl, by rw [dec_I]; exact h⟩
theorem i_eqS {a b : List Nat} (h : Q (.bl (decide (a = b))) H) : rEq (.str (S a)) (.str (S b)) H Q := ⟨rfl, by rw [S_dec]; exact h⟩
theorem i_neS {a b : List Nat} (h : Q (.bl (!decide (a = b))) H) : rNe (.str (S a)) (.str (S b)) H Q := ⟨rfl, by rw [S_dec]; exact h⟩
def rIsNo : R2 := fun x y H Q => y = .non ∧ Q (.bl (decide (x = .non))) H
theorem op_isNo : OpR X (compareOp .Is) rIsNo := op_isN
theorem i_isNoI {i : Int} (h : Q (.bl false) H) : rIsNo (.int i) .non H Q := ⟨rfl, h⟩
theorem i_isNoN (h : Q (.bl true) H) : rIsNo .non .non H Q := ⟨rfl, h⟩
theorem i_isNoR {a : Addr} (h : Q (.bl false) H) : rIsNo (.ref a) .non H Q := ⟨rfl, h⟩
def rRepI : List V → Hp → VK → Prop := fun xs H Q => ∃ i, xs = [.int i] ∧ i.natAbs.log2 < 1920 ∧ Q (.str (toString i)) H
theorem call_repI : CallR X (.builtin "repr") rRepI := SkE.call_repr_int
end
theorem walk_S {l : List Nat} : Walk (Its (S l)) l.length (fun _ => True) (fun i H v H' => H' = H ∧ ∃ c, l[i]? = some c ∧ v = .str (S [c])) := by
  have w := walk_str (z := S l)
  rw [S_size] at w
  exact w.mono (fun _ _ => trivial) fun i H x H' _ _ y => by
    obtain ⟨e, c, hc, ev⟩ := y
    rw [S_get] at hc
    exact ⟨e, c, hc, ev⟩
theorem walk_eS {l : List Nat} : Walk (ItE (S l)) l.length (fun _ => True) (fun i H v H' => ∃ T c, v = .ref T ∧ H T = none ∧ l[i]? = some c ∧ H' = upd H T (.tup [.int (i : Nat), .str (S [c])])) := by
  have w := walk_enumS (x := S l)
  rw [S_size] at w
  exact w.mono (fun _ _ => trivial) fun i H x H' _ _ y => by
    obtain ⟨T, c, e, n, hc, eh⟩ := y
    rw [S_get] at hc
    exact ⟨T, c, e, n, hc, eh⟩
theorem go_while {c : TT} {tb : TS} {D : Ends} {σ : L2.St} {H : Hp} (Pv : Nat → L2.St → Hp → Prop) (m0 : Nat) (h0 : Pv m0 σ H)
    (hs : ∀ m σ H, Pv m σ H → c σ H fun b H1 => if b = true then ∃ N : L2.St → Hp → Prop, (∀ σ' H', N σ' H' → ∃ m', m' < m ∧ Pv m' σ' H') ∧ tb { D with nx := N, ct := N, bk := D.nx } σ H1 else D.nx σ H1) : tWhile c tb D σ H :=
  ⟨Pv, ⟨m0, h0⟩, hs⟩
theorem next_turn {m : Nat} {Pv : Nat → L2.St → Hp → Prop} {A : (L2.St → Hp → Prop) → Prop} (h : A fun σ' H' => ∃ m', m' < m ∧ Pv m' σ' H') : ∃ N : L2.St → Hp → Prop, (∀ σ' H', N σ' H' → ∃ m', m' < m ∧ Pv m' σ' H') ∧ A N := ⟨_, fun _ _ q => q, h⟩
def rRevS : V → Hp → VK → Prop := fun x H Q => ∃ l, x = .str (S l) ∧ l.length ≤ sizeLine ∧ Q (.str (S l.reverse)) H
theorem i_revS {te : TE} {σ : L2.St} {H : Hp} {Q : VK} (h : te σ H fun x H1 => rRevS x H1 Q) : tRevS te σ H Q := h
theorem i_revSS {l : List Nat} {H : Hp} {Q : VK} (h1 : l.length ≤ 1000000) (h : Q (.str (S l.reverse)) H) : rRevS (.str (S l)) H Q := ⟨l, rfl, Nat.le_trans h1 (by decide), h⟩
theorem i_cut {t u : TS} {D : Ends} {σ : L2.St} {H : Hp} (Mid : L2.St → Hp → Prop) (h1 : t { D with nx := Mid } σ H) (h2 : ∀ σ' H', Mid σ' H' → u D σ' H') : C8.tCut t u D σ H := ⟨Mid, h1, h2⟩
theorem i_minL {K : PySem.W.Frag} {p : Addr} {ns : List Int} {H : Hp} {Q : VK} (h1 : H p = some (.lst (ns.map V.int))) (h2 : 0 < ns.length) (h : ∀ m, m ∈ ns → (∀ y, y ∈ ns → m ≤ y) → Q (.int m) H) : rMin K [.ref p] H Q := ⟨p, ns, rfl, sqL_of h1, h2, h⟩
/-- one half of an if: what is appended, or nothing -/
theorem i_chainLL {g : Int → Int → Bool} {g' : Int → Int → Bool} {σ : L2.St} {H : Hp} {R : Bool → Hp → Prop} {i j k : Int}
    (h : R (g i j && g' j k) H) : rI0 (fun a b => .bl (g a b)) (.int i) (.int j) H fun z H3 => ∃ c, z = .bl c ∧ (if c = true then rI0 (fun a b => .bl (g' a b)) (.int j) (.int k) H3 fun x H4 => ∃ d, x = .bl d ∧ R d H4 else ∃ d, V.bl false = .bl d ∧ R d H3) := by
  refine ⟨i, j, rfl, rfl, g i j, rfl, ?_⟩
  cases e : g i j with
  | true => rw [e] at h; exact iteT ⟨j, k, rfl, rfl, g' j k, rfl, h⟩
  | false => rw [e] at h; exact iteF ⟨false, rfl, h⟩
theorem walk_rangeZ {n : Nat} : Walk (Itr 0 n) n (fun _ => True) (YFn fun i => .int (i : Int)) :=
  (walk_range (lo := 0) (n := n)).mono (fun _ h => h) fun i H x H' _ _ y => ⟨y.1, by rw [y.2]; show V.int (0 + (i : Int)) = V.int (i : Int); rw [Int.zero_add]⟩
theorem i_ixLI {K : PySem.W.Frag} {p : Addr} {ns : List Int} {i v : Int} {H : Hp} {Q : VK} (h1 : H p = some (.lst (ns.map V.int))) (h0 : 0 ≤ i) (h2 : ns[i.toNat]? = some v) (h : Q (.int v) H) : rIxL K (.ref p) (.int i) H Q := by
  refine i_ixLH h1 ?_ h
  have e := atI_nat (xs := ns.map V.int) (j := i.toNat) (v := .int v) (by rw [List.getElem?_map, h2]; rfl)
  rwa [show ((i.toNat : Nat) : Int) = i by omega] at e
theorem i_ixSI {l : List Nat} {i : Int} {c : Nat} {H : Hp} {Q : VK} (h0 : 0 ≤ i) (h2 : l[i.toNat]? = some c) (h1 : l.length ≤ 1000000) (h : Q (.str (S [c])) H) : rIxSS (.str (S l)) (.int i) H Q := by
  refine i_ixSS h1 ?_ h
  have e := atI_nat (xs := l) (j := i.toNat) (v := c) h2
  rwa [show ((i.toNat : Nat) : Int) = i by omega] at e
theorem i_appI {p : Addr} {ns : List Int} {v : Int} {H : Hp} {Q : VK} (h1 : H p = some (.lst (ns.map V.int))) (h2 : ns.length ≤ 1000000) (h : Q .non (upd H p (.lst ((ns ++ [v]).map V.int)))) : rAppend (.ref p) [.int v] H Q := by
  refine i_append h1 (by rw [List.length_map]; exact Nat.lt_of_le_of_lt h2 (by decide)) ?_
  rw [List.map_append] at h
  exact h
theorem i_gTupH {K : PySem.W.Frag} {n : Nat} {t : TGs} {a : Addr} {xs : List V} {σ : L2.St} {H : Hp} {R : L2.St → Hp → Prop} (h1 : H a = some (.tup xs)) (h2 : xs.length = n) (h : t xs σ H R) : gTup K n t (.ref a) σ H R := ⟨a, xs, rfl, sqT_of h1, h2, h⟩
theorem join_S (ws : List (List Nat)) : Txt.join (S []) (ws.map S) = S ws.flatten := by
  unfold Txt.join
  rw [StrLaws.glued_eq_join]
  induction ws with
  | nil => rfl
  | cons w ws ih =>
    cases ws with
    | nil => simp [Str.join]
    | cons v ws =>
      show S w ++ S [] ++ Str.join (S []) ((v :: ws).map S) = _
      rw [ih, S_app, S_app, List.append_nil]
      rfl
theorem sum_lens (ws : List (List Nat)) : ((ws.map S).map (·.length)).sum = ws.flatten.length := by
  induction ws with
  | nil => rfl
  | cons w ws ih =>
    rw [List.map_cons, List.map_cons, List.sum_cons, ih, List.flatten_cons, List.length_append, S_len]
def rJoinS (K : PySem.W.Frag) : V → List V → Hp → VK → Prop := fun x xs H Q => ∃ p, ∃ ws : List (List Nat), x = .str (S []) ∧ xs = [.ref p] ∧ (SqL K H p (ws.map fun l => .str (S l)) ∨ SqT K H p (ws.map fun l => .str (S l))) ∧ ws.flatten.length ≤ 1000000 ∧ Q (.str (S ws.flatten)) H
theorem mt_joinS {X : Cx} : MtR X "str.join" (rJoinS X.K) := fun pins s σ H x xs v us Q I rx rv h => by
  obtain ⟨p, ws, e1, e2, hp, hl, q⟩ := h
  have e3 : (ws.map fun l => V.str (S l)) = (ws.map S).map V.str := by rw [List.map_map]; rfl
  rw [e3] at hp
  refine mt_join pins s σ H x xs v us Q I rx rv ⟨S [], p, ws.map S, e1, e2, hp, ?_, by rw [join_S]; exact q⟩
  rw [sum_lens, show (S []).length = 0 from rfl, Nat.mul_zero, Nat.add_zero]
  omega
theorem i_joinS {K : PySem.W.Frag} {p : Addr} {ws : List (List Nat)} {H : Hp} {Q : VK} (h1 : H p = some (.lst (ws.map fun l => .str (S l)))) (h2 : ws.flatten.length ≤ 1000000) (h : Q (.str (S ws.flatten)) H) : rJoinS K (.str (S [])) [.ref p] H Q :=
  ⟨p, ws, rfl, rfl, .inl (sqL_of h1), h2, h⟩
theorem atI_neg1 {α : Type} {xs : List α} {v : α} {n : Nat} (h : xs.length = n + 1) (h2 : xs[n]? = some v) : atI xs (-1) = some v := by
  have e : xs = xs.dropLast ++ [v] := by
    have hne : xs ≠ [] := by intro z; rw [z] at h; cases h
    have := List.dropLast_concat_getLast hne
    have e2 : xs.getLast hne = v := by
      rw [List.getLast_eq_getElem]
      have := List.getElem?_eq_some_iff.mp h2
      obtain ⟨_, q⟩ := this
      simpa [h] using q
    rw [e2] at this
    exact this.symm
  rw [e]
  exact atI_last _ _
theorem i_ixLv {K : PySem.W.Frag} {p : Addr} {xs : List V} {i : Int} {v : V} {H : Hp} {Q : VK} (h1 : H p = some (.lst xs)) (h0 : 0 ≤ i) (h2 : xs[i.toNat]? = some v) (h : Q v H) : rIxL K (.ref p) (.int i) H Q := by
  refine i_ixLH h1 ?_ h
  have e := atI_nat (xs := xs) (j := i.toNat) (v := v) h2
  rwa [show ((i.toNat : Nat) : Int) = i by omega] at e
theorem i_rU {g : Int → V} {i : Int} {H : Hp} {Q : VK} (h : Q (g i) H) : rU g (.int i) H Q := ⟨i, rfl, h⟩
end Sw
namespace Sw
open PySem PySem.Spec PyProof.Rows L2
/-! ### t[::-1] of a tuple -/
theorem back_adjust (n : Nat) : Builtin.Slice.sliceAdjust none none (-1) (n : Int) = ((n : Int) - 1, -1) := by
  unfold Builtin.Slice.sliceAdjust
  simp
theorem back_places (n : Nat) : Builtin.Slice.slicePlaces ((n : Int) - 1) (-1) (-1) = n := by
  unfold Builtin.Slice.slicePlaces
  simp only [show ¬ ((-1 : Int) > 0) by decide, if_false]
  split <;> simp <;> omega
theorem fm_congr {α β : Type} {f g : α → Option β} : ∀ {l : List α}, (∀ a ∈ l, f a = g a) → l.filterMap f = l.filterMap g
  | [], _ => rfl
  | a :: l, h => by
    rw [List.filterMap_cons, List.filterMap_cons, h a List.mem_cons_self, fm_congr fun b hb => h b (List.mem_cons_of_mem _ hb)]
theorem back_pick {α : Type} (l : List α) : ((List.range l.length).filterMap fun (k : Nat) => l.toArray[(((l.length : Int) - 1) + (k : Int) * (-1)).toNat]?) = l.reverse := by
  have e : ∀ k ∈ List.range l.length, l.toArray[(((l.length : Int) - 1) + (k : Int) * (-1)).toNat]? = l.reverse[k]? := by
    intro k hk
    have hk := List.mem_range.mp hk
    rw [List.getElem?_reverse hk, List.getElem?_toArray]
    congr 1
    omega
  rw [fm_congr e]
  have h2 : ∀ m : List α, (List.range m.length).filterMap (fun k => m[k]?) = m := by
    intro m
    induction m with
    | nil => rfl
    | cons a m ih =>
      rw [List.length_cons, List.range_succ_eq_map, List.filterMap_cons, List.filterMap_map]
      show a :: List.filterMap ((fun k => (a :: m)[k]?) ∘ Nat.succ) (List.range m.length) = a :: m
      congr 1
  have := h2 l.reverse
  rwa [List.length_reverse] at this
theorem getItem_tuple_back {prog : Program} {w : World} {A : Around} {E : Value → Shared → Prop} {s : Shared} {t sl : Addr} {ys : List Value} {u : Tok} {Q : Value → Shared → Prop} (ht : IsTup s.heap t ys.toArray)
    (hs : ∃ os, s.heap.get? sl = some os ∧ os.cls = .type "slice" ∧ os.data = .fields #[.none, .none, .int (-1) u])
    (h : Q (.ref s.heap.objs.size) { s with heap := s.heap.push { cls := .type "tuple", data := .seq ys.reverse.toArray } }) (hz : ys.length ≤ sizeLine) : wpAny (model prog w) A (getItem (.ref t) (.ref sl)) Q E s := by
  have hno' : sizeOk (.seq ys.reverse.toArray) := by
    show ys.reverse.toArray.size ≤ sizeLine
    rw [List.size_toArray, List.length_reverse]
    exact hz
  obtain ⟨os, hos, hcs, hds⟩ := hs
  have hTs : s.TypeIs (.ref sl) "slice" := ⟨os, hos, hcs⟩
  unfold getItem
  try with_reducible refine wpAny_holding ?_
  first | refine wpAny_bind (wpAny_pure ?_) | skip
  refine wpAny_bind (wpAny_sequenceKey ht.typeIs (by decide) ?_)
  refine wpAny_bind (wpAny_callSpecial?_slot (name := Str.ofString "__getitem__") ht.typeIs PyProof.Rows.slot_tuple_getitem (wpAny_call_entry PyProof.Rows.slot_tuple_getitem ht.typeIs entry_tuple_getitem ?_ (args_tuple_getitem _ _)))
  show wpAny _ _ (Builtin.Tuple.tupleItemsOf (.ref t) >>= _) _ _ s
  refine wpAny_bind (tupleItemsOf_ ht ?_)
  refine wpAny_bind (wpAny_typeOf hTs ?_)
  rw [if_pos (by decide)]
  have ap : ∀ {R : Int × Int × Nat → Shared → Prop}, R (((ys.toArray.size : Nat) : Int) - 1, -1, ys.toArray.size) s → wpAny (model prog w) A.in1 (Builtin.Slice.sliceApplied (.ref sl) (pure ((ys.toArray.size : Nat) : Int))) R E s := by
    intro R hR
    unfold Builtin.Slice.sliceApplied Builtin.Slice.sliceFields
    refine wpAny_bind (wpAny_bind (wpAny_field hos hds (x := .none) rfl (wpAny_bind (wpAny_field hos hds (x := .none) rfl (wpAny_bind (wpAny_field hos hds (x := .int (-1) u) rfl (wpAny_pure ?_)))))))
    refine wpAny_bind (slicePart_int ?_)
    show wpAny _ _ (if ((-1 : Int) == 0) = true then _ else _) _ _ s
    rw [if_neg (by decide)]
    refine wpAny_bind (slicePart_none (wpAny_bind (slicePart_none (wpAny_bind (wpAny_pure ?_)))))
    show wpAny _ _ (match Builtin.Slice.sliceAdjust none none (-1) ((ys.toArray.size : Nat) : Int) with | (lo, hi) => pure (lo, (-1 : Int), Builtin.Slice.slicePlaces lo hi (-1))) _ _ s
    rw [back_adjust]
    show wpAny _ _ (pure (((ys.toArray.size : Nat) : Int) - 1, (-1 : Int), Builtin.Slice.slicePlaces (((ys.toArray.size : Nat) : Int) - 1) (-1) (-1))) _ _ s
    rw [back_places]
    exact wpAny_pure hR
  refine wpAny_bind (ap ?_)
  show wpAny _ _ (if (((ys.toArray.size : Nat) : Int) - 1 == 0 && (-1 : Int) == 1 && ys.toArray.size == ys.toArray.size) = true then _ else _) _ _ s
  rw [if_neg (by simp)]
  have e := back_pick ys
  rw [show ys.length = ys.toArray.size from List.size_toArray.symm] at e
  rw [e]
  first
    | exact wpAny_bind (m := Builtin.Tuple.tupleExact _) (wpAny_newObj_type (wpAny_pure ⟨_, rfl, wpAny_pure h⟩) hno')
    | exact wpAny_bind (m := Builtin.Tuple.tupleExact _) (wpAny_newObj_type (wpAny_bind (wpAny_pure (wpAny_pure ⟨_, rfl, wpAny_pure h⟩))) hno')
    | exact wpAny_bind (wpAny_bind (m := Builtin.Tuple.tupleExact _) (wpAny_newObj_type (wpAny_pure (wpAny_pure ⟨_, rfl, wpAny_pure h⟩)) hno'))
def tRevT (K : PySem.W.Frag) (te : TE) : TE := fun σ H Q => te σ H fun x H1 => ∃ a xs, x = .ref a ∧ SqT K H1 a xs ∧ ∀ p, H1 p = none → Q (.ref p) (upd H1 p (.tup xs.reverse))
theorem Vals.back {xs : List V} {us : List Value} (r : Vals xs us) : Vals xs.reverse us.reverse := by
  induction r with
  | nil => exact .nil
  | cons r1 _ ih =>
    rw [List.reverse_cons, List.reverse_cons]
    exact ih.append (.cons r1 .nil)
theorem pe_revT {X : Cx} {e : Expr} {te : TE} {k : Nat} {p1 p2 p3 pos : Pos} (he : PE X e te) :
    PE X (.Subscript e (.Slice none none (some (.UnaryOp .USub (.Constant (.int 1) k p1) p2)) p3) pos) (tRevT X.K te) := by
  constructor
  intro pins s σ H Q I h
  refine Subscript_ (thn (he.run pins s σ H _ I h) fun v s1 ⟨x, H1, I1, r1, a, xs, ex, hx, q⟩ => ?_)
  subst ex
  cases r1
  have st : PO X (some (.UnaryOp .USub (.Constant (.int 1) k p1) p2)) (tPart (tUn (rU fun i => .int (-i)) (tC (.int 1)))) := po_some (pe_un un_neg pe_int)
  refine wpAny_Slice (thn (po_none.run pins s1 σ H1 (fun o G => o = none ∧ G = H1) I1 ⟨rfl, rfl⟩) fun w1 s2 ⟨o1, G1, J1, z1, a1, b1⟩ => ?_)
  subst a1 b1
  refine thn (po_none.run pins s2 σ G1 (fun o G => o = none ∧ G = G1) J1 ⟨rfl, rfl⟩) fun w2 s3 ⟨o2, G2, J2, z2, a2, b2⟩ => ?_
  subst a2 b2
  refine thn (st.run pins s3 σ G2 (fun o G => o = some (-1) ∧ G = G2) J2 ⟨1, rfl, -1, rfl, rfl, rfl⟩) fun w3 s4 ⟨o3, G3, J3, z3, a3, b3⟩ => ?_
  subst a3 b3
  have J4 : Inv X pins σ G3 { s4 with heap := s4.heap.push { cls := .type "slice", data := .fields #[w1, w2, w3] } } := J3.kept (t' := s4.toks) fun b ob q => Heap.get?_push_of_some _ q
  obtain ⟨y1, rfl, f1⟩ := IsPart.raw z1
  obtain ⟨y2, rfl, f2⟩ := IsPart.raw z2
  obtain ⟨y3, rfl, f3⟩ := IsPart.raw z3
  cases y1 with
  | some y => cases f1
  | none =>
  cases y2 with
  | some y => cases f2
  | none =>
  cases y3 with
  | none => cases f3
  | some y =>
  obtain ⟨m, u⟩ := y
  have em : m = -1 := Option.some.inj f3
  subst em
  obtain ⟨its, r, ht, hz⟩ := J4.tuple hx
  refine tail_any (T := "tuple") (id := _) (ops := [.ref a, .ref s4.heap.objs.size]) ht.typeIs PyProof.Rows.slot_tuple_getitem.lookup ?_ (by with_unfolding_all rfl)
  have hz' : its.length ≤ sizeLine := by rw [← r.length]; exact hz
  refine getItem_tuple_back (u := u) ht ⟨_, Heap.get?_push_size _ rfl, rfl, rfl⟩ ?_ hz'
  refine ⟨.ref _, _, J4.laid (t' := s4.toks) (o := .tup xs.reverse) (fun b ob q => Heap.get?_push_of_some _ q) (Nat.le_refl _) ?_, rfl, q _ (J4.hok.fresh (Nat.le_refl _))⟩
  exact ⟨by rw [List.length_reverse]; exact hz, _, Vals.back r, IsTup.new _ _⟩
theorem i_revT {K : PySem.W.Frag} {te : TE} {σ : L2.St} {H : Hp} {Q : VK} (h : te σ H fun x H1 => ∃ a xs, x = .ref a ∧ SqT K H1 a xs ∧ ∀ p, H1 p = none → Q (.ref p) (upd H1 p (.tup xs.reverse))) : tRevT K te σ H Q := h
/-! ### text * int -/
def rMulS : R2 := fun x y H Q => ∃ (l : List Nat) (n : Nat), x = .str (S l) ∧ y = .int (n : Int) ∧ l.length ≤ 1000 ∧ n ≤ 1000 ∧ Q (.str (S (List.replicate n l).flatten)) H
theorem mul_S (l : List Nat) (n : Nat) : Txt.mul (S l) (n : Int) = S (List.replicate n l).flatten := by
  unfold Txt.mul
  by_cases h0 : n = 0
  · subst h0; simp [S, Str.empty]
  · rw [if_neg (by omega)]
    by_cases h1 : (((n : Int) == 1 || (S l).length == 0) = true)
    · rw [if_pos h1]
      rcases Bool.or_eq_true_iff.mp h1 with h1 | h1
      · have : n = 1 := by have := eq_of_beq h1; omega
        subst this; simp
      · have e : l = [] := by have := eq_of_beq h1; rw [S_len] at this; exact List.length_eq_zero_iff.mp this
        subst e
        simp
    · rw [if_neg h1]
      show (⟨(List.replicate n l.toArray).foldl (· ++ ·) #[]⟩ : Str) = ⟨(List.replicate n l).flatten.toArray⟩
      congr 1
      have : ∀ (m : Nat) (b : Array Nat), (List.replicate m l.toArray).foldl (· ++ ·) b = b ++ (List.replicate m l).flatten.toArray := by
        intro m
        induction m with
        | zero => intro b; simp
        | succ m ih =>
          intro b
          rw [List.replicate_succ, List.foldl_cons, ih, List.replicate_succ, List.flatten_cons]
          simp
      rw [this]
      simp
theorem op_mulS {X : Cx} : OpR X (binaryOp .Mult) rMulS := fun pins s σ H x y v u Q I rx ry h => by
  obtain ⟨l, n, rfl, rfl, h1, h2, q⟩ := h
  obtain ⟨t, rfl⟩ := rx
  obtain ⟨t', rfl⟩ := ry
  refine SB.mul ⟨?_, ?_, ?_⟩ fun t' tk => ⟨.str (S (List.replicate n l).flatten), H, I.tok _, ⟨_, by rw [mul_S]⟩, q⟩
  · rw [Bool.or_eq_false_iff]; exact ⟨decide_eq_false (by omega), decide_eq_false (by omega)⟩
  · intro hn _
    rw [S_len]
    have : (n : Int) * (l.length : Int) ≤ 2 ^ 63 - 1 := by
      have := Nat.mul_le_mul h2 h1
      have e : (n : Int) * (l.length : Int) = ((n * l.length : Nat) : Int) := by simp
      rw [e]; omega
    have := (Int.le_ediv_iff_mul_le (a := (l.length : Int)) (b := 2 ^ 63 - 1) (c := (n : Int)) (by omega)).mpr (by rw [Int.mul_comm]; exact this)
    omega
  · intro _ _
    rw [S_len, Int.toNat_natCast]
    have := Nat.mul_le_mul h1 h2
    unfold Builtin.Str.tooLong
    exact decide_eq_false (by rw [show sizeLine = 16777216 from rfl]; omega)
theorem i_mulS {l : List Nat} {n : Nat} {H : Hp} {Q : VK} (h1 : l.length ≤ 1000) (h2 : n ≤ 1000) (h : Q (.str (S (List.replicate n l).flatten)) H) : rMulS (.str (S l)) (.int (n : Int)) H Q := ⟨l, n, rfl, rfl, h1, h2, h⟩
/-! ### a def called by names alone -/
def tKw (sp : Sp) (gV : List V → List V → List V) (tk : TA) : TE := fun σ H Q => tk σ H fun zs H1 => sp (gV [] zs) H1 Q E0
section
variable (P : Program) (w : World) (K : PySem.W.Frag) (mg : Str → Option Value) (base : Heap)
def CalK (x : Str) (ps : List Str) (k : Nat) (sp : Sp) (ks : List Str) (g : List Value → List Value → List Value) (gV : List V → List V → List V) : Prop := ∃ (f : Addr) (fd : FuncData), FnOk P w K mg base CX0 k f fd ps sp ∧ mg x = some (.ref f) ∧ PySem.W.keepIn K (.ref f) = true ∧ KBinds K fd ps ks g gV
end
theorem Def.calK {P : Program} {w : World} {K : PySem.W.Frag} {mg : Str → Option Value} {base : Heap} {x : Str} {st : Stmt} {ps ks : List Str} {k : Nat} {sp : Sp} {g : List Value → List Value → List Value} {gV : List V → List V → List V} (d : Def K mg x st)
    (b : ∀ (kV doc pm : Value) (an : Option Addr) (cdv ct : Value) (us ws : List Value), (g us ws).length = ps.length → bindArgs (PySem.W.fnOf x x (defArgs st) (defBody st) (defScope st) .none kV doc pm an cdv ct) ⟨us, ks.zip ws⟩ = pure (ps.zip (g us ws)))
    (rel : ∀ {vs : List V} {us : List Value} {zs : List V} {ws : List Value}, Vals vs us → Vals zs ws → Vals (gV vs zs) (g us ws))
    (ok : ∀ (f : Addr) (fd : FuncData), Fun K x x st f fd → FnOk P w K mg base CX0 k f fd ps sp) : CalK P w K mg base x ps k sp ks g gV := by
  obtain ⟨f, fd, F, m⟩ := d
  have O := ok f fd F
  have kp := F.kp
  obtain ⟨oc, od, kV, doc, pm, an, cdv, ct, osl, rfl, lk, hcd⟩ := F.ex
  exact ⟨f, _, O, m, kp, fun s us ws _ hl => .of_eq (b kV doc pm an cdv ct us ws hl), rel⟩
section
variable {X : Cx} {x : Str} {ps ks : List Str} {k n : Nat} {sp : Sp} {g : List Value → List Value → List Value} {gV : List V → List V → List V} {kws : List Keyword} {tk : TA} {p pos : Pos}
theorem pe_calK (c : CalK X.prog X.w X.K X.mg X.base x ps k sp ks g gV) (hr : Room n X.A) (hkw : PK X kws tk) (hg : Gl X x := by rfl) (hk : k ≤ n := by decide)
    (hall : (backToKw pos (keywordEach kws X.env)).all (·.1.isSome) = true := by rfl) (hks : (backToKw pos (keywordEach kws X.env)).filterMap (·.1) = ks := by rfl) (hdb : (x == ("__debug__" : Str)) = false := by decide)
    (hpl : ((backTo pos (starEach [] X.env)).any (·.1) || (backToKw pos (keywordEach kws X.env)).any (·.1.isNone)) = false := by rfl) :
    PE X (.Call (.Name x p) [] kws pos) (tKw sp gV tk) := by
  obtain ⟨f, fd, F, m, kp, b⟩ := c
  refine ⟨fun pins s σ H Q I h => ?_⟩
  refine wpAny_Call_Name_kw (ld_glob I hg m ?_ hdb)
  refine PySem.W.callWith_KW0 (h₀ := X.base) I.ok.mod.kin kp hall (thn (hkw.run pos pins s σ H _ I h) fun ws s2 ⟨zs, H2, I2, rz, q2⟩ => ⟨I2.kIn, ?_⟩) hpl
  rw [hks]
  exact run_fnk F (hr.mono hk) b pass0 I2 .nil rz q2
theorem i_kw {σ : L2.St} {H : Hp} {Q : VK} (h : tk σ H fun zs H1 => sp (gV [] zs) H1 Q E0) : tKw sp gV tk σ H Q := h
end
end Sw
namespace Sw
open PySem PySem.Spec PyProof.Rows L2
/-! ### promises of defs that are called where nothing is being shown (repr) -/
structure FnG (P : Program) (w : World) (K : PySem.W.Frag) (mg : Str → Option Value) (base : Heap) (CX : CXT) (k : Nat) (f : Addr) (fd : FuncData) (ps : List Str) (sp : Sp) : Prop where
  len : ∀ xs M R X, sp xs M R X → xs.length = ps.length
  go : ∀ (A : Around) (out : List Env) (t : Shared) (M : Hp) (args : Args) (us : List Value) (xs : List V) (R : VK) (X : XK), Room k A → A.guards = some [] → Env0 P w K mg base A out t M → BindsTo t fd args (ps.zip us) → Vals xs us → sp xs M R X →
    codeAny (model P w) A (.call (.ref f) args) (CR CX out P w M t R X) t
section
variable {P : Program} {w : World} {K : PySem.W.Frag} {mg : Str → Option Value} {base : Heap} {CX : CXT} {k : Nat} {f : Addr} {fd : FuncData} {ps : List Str} {sp : Sp}
theorem FnG.of (F : FnOk P w K mg base CX k f fd ps sp) : FnG P w K mg base CX k f fd ps sp := ⟨F.len, fun A out t M args us xs R X room _ => F.run A out t M args us xs R X room⟩
theorem FnG.low {j : Nat} (F : FnG P w K mg base CX j f fd ps sp) (h : j ≤ k) : FnG P w K mg base CX k f fd ps sp := ⟨F.len, fun A out t M args us xs R X room => F.go A out t M args us xs R X (room.mono h)⟩
theorem Fun.okG {x qual : Str} {st : Stmt} {N : List Str} (F : Fun K x qual st f fd) (S : FnScope N ps (defScope st)) (len : ∀ xs M R X, sp xs M R X → xs.length = ps.length)
    (body : ∀ (cdv : Value) (A : Around) (out : List Env) (t : Shared) (M : Hp) (xs : List V) (R : VK) (X : XK), Room k (A.deeper (envOfC qual (defScope st) t.heap.objs.size f cdv)) → A.guards = some [] → sp xs M R X →
      ∃ r, PSs (cxOf CX P w K mg base N qual (defScope st) f cdv A out t M X) (defBody st) r ∧ r { nx := fun _ M' => R .non M', rt := R } (start N xs) M) : FnG P w K mg base CX (k + 1) f fd ps sp := by
  obtain ⟨oc, od, kV, doc, pm, an, cdv, ct, osl, rfl, found, coded⟩ := F.ex
  constructor
  · exact len
  intro A out t M args us xs R X room quiet env bind rel prom
  have count := len xs M R X prom
  have inHeap := env.mod.kin.keeps fun b o e => (env.bs b o e).1
  have quota := env.mod.nolimit.keeps fun b o e => (env.bs b o e).1
  have kinds : ∀ z ∈ ps.zip us, (defScope st).names.lookup z.1 = some .local ∨ ((defScope st).names.lookup z.1 = some .cell ∧ ((cellsFrom (t.heap.objs.size + 1) (defScope st).names []).lookup z.1).isSome = true) := by
    rintro ⟨n, v⟩ hz
    have hn := (List.of_mem_zip hz).1
    rcases S.par n hn with l | c
    · left; exact l
    · right; exact ⟨c, PySem.W.cellsFrom_some _ _ _ (.inl c)⟩
  apply codeAny_call_function room.depth (inHeap _ _ found) rfl S.co S.gen rfl (PySem.W.codeRec_of inHeap coded) (bind _ _ _ _ ?_)
  apply wpAny_newFunctionEnv_cells S.kind kinds
  intro env2 e2 t1 entry
  subst e2
  refine ⟨quota.keeps entry.toInCall.keep, codeAny_func ?_⟩
  obtain ⟨r, hr, runs⟩ := body cdv A out t M xs R X (room.deeper _) quiet prom
  have I := inv_start (CX := CX) (E := X) S room.hd env count rel entry
  apply wpAny_mono (hr.run [] t1 (start N xs) M _ I runs)
  · intro fl t' leaves
    cases fl with
    | ret u =>
      obtain ⟨v, σ', M', J, rv, q⟩ := leaves
      exact ⟨v, M', J.os, J.bare, J.base, J.hok, rv, q⟩
    | next =>
      obtain ⟨σ', M', J, q⟩ := leaves
      exact ⟨V.non, M', J.os, J.bare, J.base, J.hok, rfl, q⟩
    | brk => obtain ⟨_, _, _, q⟩ := leaves; exact q.elim
    | cont => obtain ⟨_, _, _, q⟩ := leaves; exact q.elim
  · exact fun _ _ z => z
end
section
variable {X : Cx} {ps : List Str} {k : Nat} {f : Addr} {fd : FuncData} {sp : Sp} {ds : List Value} {dvs : List V} {CX : CXT} {E : XK}
theorem run_G {pins : List (Addr × Obj)} {σ : L2.St} {M : Hp} {t : Shared} {R : VK} {us : List Value} {xs : List V} (F : FnG X.prog X.w X.K X.mg X.base CX k f fd ps sp) (room : Room k X.A) (quiet : X.A.guards = some []) (b : Binds X.K fd ps ds) (hd : Vals dvs ds) (px : Passes CX X E)
    (I : Inv X pins σ M t) (r : Vals xs us) (h : sp (xs ++ dvs) M R E) : wpAny (model X.prog X.w) X.A (call (.ref f) us) (EP X pins σ R) X.xe t := by
  have both := r.append hd
  have count : (us ++ ds).length = ps.length := both.length.symm.trans (F.len _ _ _ _ h)
  apply wpAny_call
  apply codeAny_mono (F.go X.A X.stack t M ⟨us, []⟩ (us ++ ds) (xs ++ dvs) R E room quiet I.env0 (b t us I.kIn count) both h)
  intro o t' q
  rcases o with e | fl
  · exact px pins σ M t e t' I q
  · cases fl with
    | ret u => exact I.after q
    | next => exact q.elim
    | brk => exact q.elim
    | cont => exact q.elim
end
section
variable (P : Program) (w : World) (K : PySem.W.Frag) (mg : Str → Option Value) (base : Heap)
def CalG (x : Str) (ps : List Str) (k : Nat) (sp : Sp) : Prop := ∃ (f : Addr) (fd : FuncData), FnG P w K mg base CX0 k f fd ps sp ∧ mg x = some (.ref f) ∧ PySem.W.keepIn K (.ref f) = true ∧ Binds K fd ps []
end
theorem Def.calG {P : Program} {w : World} {K : PySem.W.Frag} {mg : Str → Option Value} {base : Heap} {x : Str} {st : Stmt} {ps : List Str} {k : Nat} {sp : Sp} (d : Def K mg x st)
    (b : ∀ (kV doc pm : Value) (an : Option Addr) (cdv ct : Value) (us : List Value), us.length = ps.length → bindArgs (PySem.W.fnOf x x (defArgs st) (defBody st) (defScope st) .none kV doc pm an cdv ct) ⟨us, []⟩ = pure (ps.zip us))
    (ok : ∀ (f : Addr) (fd : FuncData), Fun K x x st f fd → FnG P w K mg base CX0 k f fd ps sp) : CalG P w K mg base x ps k sp := by
  obtain ⟨f, fd, F, m⟩ := d
  exact ⟨f, fd, ok f fd F, m, F.kp, F.binds b⟩
theorem pe_calG {X : Cx} {x : Str} {ps : List Str} {k n : Nat} {sp : Sp} {e : Expr} {es : List Expr} {t : TA} {p pos : Pos} (c : CalG X.prog X.w X.K X.mg X.base x ps k sp) (hr : Room n X.A) (quiet : X.A.guards = some []) (ha : PA X (e :: es) t) (hg : Gl X x := by rfl) (hk : k ≤ n := by decide)
    (hdb : (x == ("__debug__" : Str)) = false := by decide) (he : starEach (e :: es) X.env = (false, eval e X.env) :: starEach es X.env := by rfl) (hpl : (backTo pos (starEach es X.env)).any (·.1) = false := by rfl) :
    PE X (.Call (.Name x p) (e :: es) [] pos) (tCall sp [] E0 t) := by
  obtain ⟨f, fd, F, m, kp, b⟩ := c
  constructor
  intro pins s σ M R I h
  apply wpAny_Call_Name_kw (ld_glob I hg m ?_ hdb)
  exact PySem.W.callWith_K (h₀ := X.base) I.ok.mod.kin kp (thn (ha.run pos pins s σ M _ I h) fun us s1 ⟨xs, M1, I1, r, q⟩ => ⟨I1.kIn, run_G F (hr.mono hk) quiet b .nil pass0 I1 r q⟩) he hpl
/-! ### repr of data -/
def rRepD (K : PySem.W.Frag) : List V → Hp → VK → Prop := fun xs M R => ∃ x d, xs = [x] ∧ Dp K M x d ∧ d.showable = true ∧ d.hasDict = false ∧ d.depth ≤ 60 ∧ d.shown.length ≤ sizeLine ∧ R (.str d.shown) M
theorem call_repD {X : Cx} (quiet : X.A.guards = some []) (hu : X.A.units + 64 < cLine) : CallR X (.builtin "repr") (rRepD X.K) := by
  intro pins s σ M xs us R I r h
  obtain ⟨x, d, rfl, hd, sh, nd, dp, sz, q⟩ := h
  obtain ⟨u, rfl, ru⟩ := vals1 r
  obtain ⟨as, rd⟩ := Dp.reads I d x u hd ru
  cases hd with
  | non =>
    cases ru
    exact PySem.P.repr_of_none ⟨.str (PyData.shown .none), M, I.tok _, ⟨_, by simp only [PyData.shown]; rfl⟩, q⟩
  | bl b =>
    cases ru
    exact PySem.P.repr_of_bool ⟨.str (PyData.shown (.bool b)), M, I.tok _, ⟨_, by simp only [PyData.shown]; rfl⟩, q⟩
  | int i =>
    obtain ⟨t, rfl⟩ := ru
    exact PySem.P.repr_of_int (of_decide_eq_true (by simpa only [PyData.showable] using sh)) ⟨.str (PyData.shown (.int i)), M, I.tok _, ⟨_, by simp only [PyData.shown]; rfl⟩, q⟩
  | str z =>
    obtain ⟨t, rfl⟩ := ru
    exact PySem.P.repr_of_str ⟨.str (PyData.shown (.str z)), M, I.tok _, ⟨_, by simp only [PyData.shown]; rfl⟩, q⟩ (by simpa only [PyData.shown] using sz)
  | lst h1 h2 =>
    cases ru
    exact repr_of_reads' rd sh (PyData.noDict_hsm nd) quiet (by omega) (fun _ _ e => e) (fun h' t tk keep => ⟨.str _, M, I.kept (t' := tk) keep, ⟨t, rfl⟩, q⟩) sz
  | tup h1 h2 =>
    cases ru
    exact repr_of_reads' rd sh (PyData.noDict_hsm nd) quiet (by omega) (fun _ _ e => e) (fun h' t tk keep => ⟨.str _, M, I.kept (t' := tk) keep, ⟨t, rfl⟩, q⟩) sz
end Sw
namespace Sw
open PySem PySem.Spec PyProof.Rows L2
/-! ### the end of a law whose def is called where nothing is being shown -/
theorem law_G {P : Program} {w : World} {K : PySem.W.Frag} {mg mb : Str → Option Value} {k : Nat} {fa a : Addr} {fd : FuncData} {x : Str} {sp : Sp} {t : Shared} {vs : List Value} {ns : List Int}
    (inK : K.In t.heap) (gl : t.heap.Ns mainGlobals mg) (bl : t.heap.Ns builtinsNs mb) (bb : ∀ y : Str, y ≠ "__name__" → mb y = bootBuiltins y) (lim : t.heap.NoLimit) (quietGens : t.gens = #[])
    (script : t.heap.get? a = some { cls := .type "list", data := .seq vs.toArray }) (nums : IntsAre vs ns) (short : ns.length ≤ sizeLine) (room : Room k callerA)
    (F : ∀ base : Heap, K.In base → base.Ns mainGlobals mg → FnG P w K mg base CX0 k fa fd [x] sp) (bind : ∀ (s : Shared) (u : Value), BindsTo s fd ⟨[u], []⟩ [(x, u)])
    (prom : ∀ M : Hp, Only M → SqL K M a (ns.map V.int) → sp [.ref a] M (fun v _ => v = .bl true) E0) :
    codeAny (model P w) callerA (.call (.ref fa) ⟨[.ref a], []⟩) (fun r s' => r = .ok (.ret (.bool true)) ∧ OldK t.heap s'.heap ∧ s'.os = t.os ∧ AllBare s'.gens) t := by
  have vals := vals_ints nums
  have sameLen := nums.length
  -- tracked: the script alone, and only if the module does not hold it already
  let M : Hp := fun b => if b = a ∧ K.lookup a = none then some (.frz { cls := .type "list", data := .seq vs.toArray } (.lst (ns.map V.int))) else none
  have at_a : ∀ {b : Addr} {o : HO}, M b = some o → b = a ∧ K.lookup a = none ∧ o = .frz { cls := .type "list", data := .seq vs.toArray } (.lst (ns.map V.int)) := by
    intro b o q
    by_cases c : b = a ∧ K.lookup a = none
    · have q' := (if_pos c).symm.trans q
      exact ⟨c.1, c.2, (Option.some.inj q').symm⟩
    · have q' := (if_neg c).symm.trans q
      cases q'
  have only : Only M := by
    intro b
    by_cases c : b = a ∧ K.lookup a = none
    · right; exact ⟨_, _, if_pos c⟩
    · left; exact if_neg c
  have ok : HOk P w M t.heap := by
    intro b o q
    obtain ⟨rfl, _, rfl⟩ := at_a q
    exact ⟨script, by rw [List.length_map]; exact short, vs, _, vals, script⟩
  have known : SqL K M a (ns.map V.int) := by
    cases hk : K.lookup a with
    | none => exact .inl (.inr ⟨_, if_pos ⟨rfl, hk⟩⟩)
    | some o =>
      have e := inK a o hk
      rw [script] at e
      cases e
      exact .inr ⟨_, vs.toArray, _, hk, rfl, rfl, rfl, by rw [List.size_toArray, sameLen]; exact short, by simpa using vals⟩
  have under : ∀ {b : Addr} {o : Obj}, t.heap.get? b = some o → M b = none → (hidT t.heap M).get? b = some o := fun e n => hidT_get e n
  have dictFree : ∀ {b : Addr} {o : Obj} {es : Array DictEntry} {n : Nat}, t.heap.get? b = some o → o.data = .dict es n → M b = none := by
    intro b o es n e hd
    rcases q : M b with _ | u
    · rfl
    · obtain ⟨rfl, _, _⟩ := at_a q
      rw [script] at e
      cases e
      cases hd
  have names : ∀ {b : Addr} {m : Str → Option Value}, t.heap.Ns b m → (hidT t.heap M).Ns b m := by
    rintro b m ⟨o, es, n, e, hd, r⟩
    exact ⟨o, es, n, under e (dictFree e hd), hd, r⟩
  have baseIn : K.In (hidT t.heap M) := by
    intro b o e
    apply under (inK b o e)
    rcases q : M b with _ | u
    · rfl
    · obtain ⟨rfl, no, _⟩ := at_a q
      rw [no] at e
      cases e
  obtain ⟨mc, lim1, lim2⟩ := lim
  have env : Env0 P w K mg (hidT t.heap M) callerA [] t M :=
    ⟨rfl, ⟨baseIn, names gl, ⟨mb, names bl, bb⟩, ⟨mc, names lim1, lim2⟩⟩, fun b o e => of_hidT e, Nat.le_of_eq (hidT_size _ _), trivial, (fun b z => by have y : b ∈ ([] : List Addr) := z; simp at y), ok, .of_eq quietGens⟩
  apply codeAny_mono ((F _ baseIn (names gl)).go callerA [] t M ⟨[.ref a], []⟩ [.ref a] [.ref a] _ _ room rfl env (bind t (.ref a)) (.cons rfl .nil) (prom M only known))
  intro r s' q
  rcases r with e | fl
  · exact q.elim
  · cases fl with
    | next => exact q.elim
    | brk => exact q.elim
    | cont => exact q.elim
    | ret u =>
      obtain ⟨v, M', os, bare, un, ok', rel, said⟩ := q
      have said' : v = .bl true := said
      subst said'
      have isTrue : u = Value.bool true := rel
      subst isTrue
      refine ⟨rfl, OldK.of_keep ?_, os, bare⟩
      intro b o e
      rcases q : M b with _ | u
      · exact un.keep b o e q (fun z => by have y : b ∈ ([] : List Addr) := z; simp at y) (by simp)
      · obtain ⟨rfl, _, rfl⟩ := at_a q
        obtain ⟨e1, _⟩ := ok _ _ q
        obtain ⟨e2, _⟩ := ok' _ _ (un.frzs _ _ _ q)
        rw [e] at e1
        cases e1
        exact e2
theorem walk_G {l : PySem.W.OpenLaw} {n k : Nat} {q : Program} {loose : List Str} {XP : (Str → Option Value) → Heap → Prop} {YP : World → Heap → Prop} {d : DefRec} {K : Params → PySem.W.Frag} {sp : PySem.W.Frag → Sp} {x : Str}
    (many : l.most = some n) (few : n ≤ sizeLine) (plain : d.params.defaults = []) (room : Room k callerA) (inK : ∀ (w : World) (h : Heap), YP w h → (K w.params).In h)
    (F : ∀ (w : World) (mg : Str → Option Value) (fa : Addr) (h : Heap), (K w.params).In h → h.Ns mainGlobals mg → mg d.name = some (.ref fa) →
      ∃ fd : FuncData, (∀ (s : Shared) (u : Value), BindsTo s fd ⟨[u], []⟩ [(x, u)]) ∧ ∀ base : Heap, (K w.params).In base → base.Ns mainGlobals mg → FnG l.prog w (K w.params) mg base CX0 k fa fd [x] (sp (K w.params)))
    (prom : ∀ (K : PySem.W.Frag) (M : Hp) (a : Addr) (ns : List Int), ns.length ≤ n → Only M → SqL K M a (ns.map V.int) → sp K [.ref a] M (fun v _ => v = .bl true) E0) :
    PySem.W.WalkO q loose XP YP l.row.toRowW d [] (fun f vs => PySem.call f vs) := by
  apply Att.attach_call many plain
  intro w s₀ t mg mb fa o pm cd doc a vs ns G Y _ _ _ named script nums short gens
  have kin := inK w _ Y
  obtain ⟨fd, bind, hF⟩ := F w mg fa _ kin G.T.g named
  exact law_G kin G.T.g G.T.b G.T.builtins G.T.nolimit gens script nums (Nat.le_trans short few) room hF bind fun M o s => prom _ M a ns short o s
end Sw
/-! own exceptions over Exception, by own classes between, with own fields -/
namespace PySem
namespace SwE
open PySem.W PySem.Calls PyProof.Rows PySem.HandSPX
abbrev exT : List Value := [.type "Exception", .type "BaseException", .type "object"]
def over (rs : List Addr) : List Value := rs.map Value.ref ++ exT
theorem over_pass (self : Value) : ∀ rs : List Addr, refuseLoop self "__setattr__" (over rs) = pure ()
  | [] => F.store_Exception.passes self
  | r :: rs => by
    show refuseLoop self "__setattr__" (.ref r :: over rs) = pure ()
    rw [refuseLoop_ref]
    exact over_pass self rs
theorem over_has (T : String) : ∀ rs : List Addr, (over rs).contains (.type T) = exT.contains (.type T)
  | [] => rfl
  | r :: rs => by
    show (Value.ref r :: over rs).contains (.type T) = exT.contains (.type T)
    rw [List.contains_cons, over_has T rs]
    rfl
theorem over_cons (r : Addr) (rs : List Addr) : Value.ref r :: over rs = over (r :: rs) := rfl
section
open Builtin Builtin.ObjectAttr
variable {prog : Program} {w : World} {A : Around} {E : Value → Shared → Prop} {R : Result → Shared → Prop} {hp : Heap} {g : Array GenState} {d : Drawn} {t : Nat} {os : OsState}
/-- the first field of such an exception -/
theorem first_field {K : W.Frag} {name : Str} {tk : Tok} {v : Value} {x C : Addr} {fv : Array Value} {cd : ClassData} {rs : List Addr}
    (inK : K.In hp) (here : hp.get? x = some { cls := .ref C, data := .fields fv }) (cls : W.clsIn K C = some cd) (mro : cd.mro = over rs) (dict : cd.hasDict = true) (none' : W.findIn K (.ref C) name = some none)
    (hq : ∀ h' tk' dx, (∀ b o, b ≠ x → hp.get? b = some o → h'.get? b = some o) → hp.objs.size ≤ dx → dx ≠ x → h'.get? x = some { cls := .ref C, dict := some dx, data := .fields fv } →
      h'.Ns1 dx (fun y => if y = name then some v else none) → R (.ok (.ret .none)) ⟨h', g, d, tk', os⟩) :
    codeAny (model prog w) A (.call (.builtin "object.__setattr__") ⟨[.ref x, .str name tk, v], []⟩) R ⟨hp, g, d, t, os⟩ := by
  have inst : W.InstAt hp x { cls := .ref C, data := .fields fv } C none := ⟨here, rfl, rfl, trivial⟩
  have facts := F.store_object
  have isObj : cd.mro.contains (.type "object") = true := by rw [mro, over_has]; decide +kernel
  have notEmpty : cd.mro.isEmpty = false := by rw [mro]; cases rs <;> rfl
  have apart : x ≠ hp.objs.size := Nat.ne_of_lt (Heap.lt_size here)
  have sub : W.Looks (model prog w) hp (isInstance (.ref x) (.type "object")) true := inst.type.andThen (W.looks_mroIn inK (by unfold W.mroIn; rw [cls, Option.bind_some, if_neg (by rw [notEmpty]; decide), isObj]))
  apply codeAny_call_builtin facts.slot.plain facts.entry (@W.check_slot (model prog w) _ _ ⟨hp, g, d, t, os⟩ "object.__setattr__" "object" "__setattr__" (.ref x) [.str name tk, v] [] _ facts.kind facts.split sub (facts.args (.ref x) (.str name tk) v) ?_)
  have looksMro : W.Looks (model prog w) hp (mroOf (.ref C)) cd.mro := (W.looks_clsIn inK cls).andThen .now
  have noTaker : W.Looks (model prog w) hp (storeTaker? none) none := .now
  have looksCls : W.Looks (model prog w) hp (classData C) cd := W.looks_clsIn inK cls
  rw [W.osa_eq, refuse_eq]
  refine wpAny_bind (wpAny_bind (inst.type.at (wpAny_bind (looksMro.at ?_))))
  rw [mro, over_pass]
  refine wpAny_pure (wpAny_bind (inst.type.at (wpAny_bind ((W.looks_findIn inK none').at (wpAny_bind (noTaker.at ?_))))))
  show wpAny _ _ (storeInOwnDict (.ref x) (.ref C) (.str name tk) name v false) _ _ _
  obtain ⟨nm, bs, mr, ns, qn, hd, sn, sb, ab, col, del⟩ := cd
  dsimp only at dict
  subst dict
  unfold storeInOwnDict ownDictForStores
  repeat (first | with_reducible refine store_in_new ?_ ?_ | with_reducible refine wpAny_loadPart_at here ?_ | with_reducible refine looksCls.at ?_ | wp_step)
  · exact ⟨_, #[], _, (Heap.get?_update_ne _ _ _ _ apart.symm).trans (Heap.get?_push_at rfl rfl), rfl, fun e he => absurd he (by simp), fun _ => rfl⟩
  · intro h' tk' named same
    have still : (hp.push { cls := .type "dict", data := .dict #[] }).get? x = some { cls := .ref C, data := .fields fv } := Heap.get?_push_of_some _ here
    apply hq h' tk' hp.objs.size ?_ (Nat.le_refl _) apart.symm ?_ named
    · intro b o hb ho
      exact (same.2 b (Nat.ne_of_lt (Heap.lt_size ho))).trans ((Heap.get?_update_ne _ _ _ _ hb).trans (Heap.get?_push_of_some _ ho))
    · exact (same.2 x apart).trans (Heap.get?_update_self _ still rfl)
end
end SwE
end PySem
namespace Sw
open PySem PySem.Spec PyProof.Rows L2 PySem.SwE
/-- what the written part says of an own exception class over Exception -/
structure OexE (K : PySem.W.Frag) (C : Addr) : Prop where
  cls : ∃ nm q N bs rs sn sub ab col dd k0 k1 k2 k3 k5, K.lookup C = some (excClassObj nm q C N bs (over rs) true sn sub ab col dd k0 k1 k2 k3 k5 "Exception.__new__")
  sa : PySem.W.findIn K (.ref C) "__setattr__" = some (some (.builtin "object.__setattr__"))
  exC : PySem.W.subIn K (.ref C) (.type "BaseException") = some true
  tyC : PySem.W.typeIn K (.ref C) = some (.type "type")
  kC : PySem.W.keepIn K (.ref C) = true
section
variable {X : Cx} {pins : List (Addr × Obj)} {σ : L2.St} {H : Hp} {s : Shared} {a C dx : Addr} {f : Str} {y : V} {u : Value} {fs : List (Str × V)} {Q : Unit → Shared → Prop} {E : Value → Shared → Prop} {A : Around}
theorem field_new (T : OexE X.K C) (I : Inv X pins σ H s) (e : H a = some (exo a C none)) (no : PySem.W.findIn X.K (.ref C) f = some none) (ry : RelV y u)
    (h : ∀ dx s', H dx = none → dx ≠ a → Inv X pins σ (upd (upd H dx (exd dx [(f, y)])) a (exo a C (some dx))) s' → Q () s') : wpAny (model X.prog X.w) A (setAttr (.ref a) f u) Q E s := by
  obtain ⟨nm, q, N, bs, rs, sn, sub, ab, col, dd, k0, k1, k2, k3, k5, hC⟩ := T.cls
  have data : PySem.W.clsIn X.K C = some { name := nm, bases := bs, mro := .ref C :: over rs, ns := N, qualname := q, hasDict := true, slotNames := sn, subclasses := sub, abstract := ab, collection := col, hasDel := false } := by
    unfold PySem.W.clsIn
    rw [hC] <;> rfl
  obtain ⟨t1, there⟩ := exo_at I.hok e
  obtain ⟨hp, g, d, t, os⟩ := s
  apply PySem.W.set_plain I.kIn (ox := { cls := .ref C, dict := none, data := .fields #[.ref t1, .none, .none, .none, .bool false, .none] }) (od := none) ⟨there, rfl, rfl, trivial⟩ T.sa
  apply first_field I.kIn there data (over_cons C rs) rfl no
  intro h' tk' dx keep new apart now named
  have free : H dx = none := I.hok.fresh new
  have notNew : ∀ {b : Addr} {o : Obj}, hp.get? b = some o → b ≠ dx := fun z => Nat.ne_of_lt (Nat.lt_of_lt_of_le (Heap.lt_size z) new)
  have notIt : ∀ {b : Addr}, H b = none → b ≠ a := by
    rintro b n rfl
    rw [e] at n
    cases n
  have un : Un X.fs [] H (upd (upd H dx (exd dx [(f, y)])) a (exo a C (some dx))) hp h' := by
    constructor
    · exact fun b o z n _ _ => keep b o (notIt n) z
    · exact fun b o z n _ _ => ⟨o.slots, keep b o (notIt n) z⟩
    · intro b o z n _
      rw [upd_ne (notIt n), upd_ne (notNew z)]
      exact n
    · intro b o z _
      by_cases c : b = a
      · exact ⟨_, by rw [c]; exact now⟩
      · exact ⟨o, keep b o c z⟩
    · intro b xs z
      rw [upd_ne (at_ne e z exo_tup), upd_ne (ne_of_none z free)]
      exact z
    · intro b o v z
      rw [upd_ne (at_ne e z exo_frz), upd_ne (ne_of_none z free)]
      exact z
    · exact fun b ps z => ⟨#[], by rw [upd_ne (at_ne e z exo_tbl), upd_ne (ne_of_none z free), z]; simp⟩
  apply h dx _ free apart
  apply I.un (t' := tk') un
  intro b o z
  by_cases c : b = a
  · subst c
    rw [upd_same] at z
    cases z
    exact exo_ok now
  · rw [upd_ne c] at z
    by_cases c2 : b = dx
    · subst c2
      rw [upd_same] at z
      cases z
      exact exd_ok named (relO_put (fs := []) ry fun g => True.intro)
    · rw [upd_ne c2] at z
      apply (I.hok b o z).stay
      · intro cc v hc zz
        apply keep cc v _ zz
        rcases hc with hc | hc
        · rw [hc]; exact c
        · exact at_ne e hc exo_own
      · intro cc hc
        rw [upd_ne (at_ne e hc exo_own), upd_ne (ne_of_none hc free)]
        exact hc
      · intro cc xs hc
        rw [upd_ne (at_ne e hc exo_tup), upd_ne (ne_of_none hc free)]
        exact hc
/-- Exception.__init__(self, ..): nothing of it is told -/
theorem init_plain {us : List Value} {R : Value → Shared → Prop} (T : OexE X.K C) (I : Inv X pins σ H s) (e : H a = some (exo a C none)) (few : us.length ≤ sizeLine) (h : ∀ s', Inv X pins σ H s' → R .none s') :
    wpAny (model X.prog X.w) A (call (.builtin "Exception.__init__") (.ref a :: us)) R E s := by
  obtain ⟨nm, q, N, bs, rs, sn, sub, ab, col, dd, k0, k1, k2, k3, k5, hC⟩ := T.cls
  obtain ⟨t1, there⟩ := exo_at I.hok e
  obtain ⟨hp, g, d, t, os⟩ := s
  apply wpAny_call (PySem.HandSPX.init_base F.excBase_Exception (fun Y => over_has Y rs) (I.kIn _ _ hC) there few ?_)
  intro h' t2 keep now
  have J := I.write (t' := t) (x := a) (e := a) (o := exo a C none) (by rw [e]; exact True.intro) (.inl rfl) keep ⟨_, now⟩ (exo_ok now)
  have same : upd H a (exo a C none) = H := by
    funext b
    by_cases c : b = a
    · rw [c, upd_same, e]
    · rw [upd_ne c]
  rw [same] at J
  exact h _ J
end
/-- B.__init__(self, ..), B's own one being Exception's -/
def tInit (K : PySem.W.Frag) (ta : TA) : TE := fun σ H Q => ta σ H fun vs H1 => ∃ (a C : Addr) (ws : List V), vs = .ref a :: ws ∧ ws.length ≤ 1000 ∧ OexE K C ∧ H1 a = some (exo a C none) ∧ Q .non H1
/-- self.f = e, the first field -/
def tFst (K : PySem.W.Frag) (f : Str) (to te : TE) : TS := fun D σ H => te σ H fun y H1 => to σ H1 fun x H2 => ∃ a C : Addr, x = .ref a ∧ OexE K C ∧ PySem.W.findIn K (.ref C) f = some none ∧
  H2 a = some (exo a C none) ∧ ∀ dx, H2 dx = none → dx ≠ a → D.nx σ (upd (upd H2 dx (exd dx [(f, y)])) a (exo a C (some dx)))
section
variable {X : Cx} {o e : Expr} {es : List Expr} {to te : TE} {ta : TA} {f : Str} {p p' p1 p2 pos : Pos}
theorem ps_fst (ho : PE X o to) (he : PE X e te) (hs : swapsWith e (some (.Attribute o f p')) pos.line X.env = pure false := by rfl) : PS X (.Assign [.Attribute o f p'] e pos) (tFst X.K f to te) := by
  constructor
  intro pins s σ H D I h
  apply plainObj_wpAny_Assign_Attribute (thn (he.run pins s σ H _ I h) fun v s1 ⟨y, H1, I1, r1, q1⟩ => thn (ho.run pins s1 σ H1 _ I1 q1) fun u s2 ⟨x, H2, I2, r2, a, C, ex, T, no, ea, q⟩ => ?_) hs
  subst ex
  obtain rfl : u = Value.ref a := r2
  exact field_new T I2 ea no r1 fun dx s' n ne J => ⟨σ, _, J, q dx n ne⟩
theorem ps_init {x : Str} {B : Addr} {pl : Sem Bool} (hg : Gl X x) (hm : X.mg x = some (.ref B)) (ga : PySem.W.specialIn X.K (.ref B) "__getattribute__" = some (some (.builtin "type.__getattribute__"))) (tyB : PySem.W.typeIn X.K (.ref B) = some (.type "type"))
    (rd : PySem.W.readsIn X.K B (.type "type") = true) (fi : PySem.W.findCls X.K (.ref B) (.type "type") "__init__" = some (.val (.builtin "Exception.__init__"))) (ha : PA X (e :: es) ta)
    (hc : eval (.Call (.Attribute (.Name x p1) "__init__" p2) (e :: es) [] pos) X.env = (do
      let ov ← eval (.Name x p1) X.env
      standAt p2.atName
      let (f, first) ← holding [ov] (getMethod ov "__init__" pl)
      callWith pos f first (backTo pos (starEach (e :: es) X.env)) (backToKw pos (keywordEach [] X.env))) := by rfl)
    (hdb : (x == ("__debug__" : Str)) = false := by decide)
    (he : starEach (e :: es) X.env = (false, eval e X.env) :: starEach es X.env := by rfl) (hpl : (backTo pos (starEach es X.env)).any (·.1) = false := by rfl) :
    PE X (.Call (.Attribute (.Name x p1) "__init__" p2) (e :: es) [] pos) (tInit X.K ta) := by
  constructor
  intro pins s σ H Q I h
  apply PySem.W.methodCall_KW (ld_glob I hg hm ?_ hdb) hc
  apply PySem.W.method_cls I.kIn ga
  apply PySem.W.cls_value I.kIn rd fi (by decide +kernel)
  show wpAny _ _ (callWith pos (Value.builtin "Exception.__init__") [] (backTo pos (starEach (e :: es) X.env)) []) _ _ _
  apply PyProof.Rows.callWith_method1 (thn (ha.run pos pins _ σ H _ (I.tok _) h) fun us s1 ⟨vs, H1, I1, r1, a, C, ws, ev, hl, T, ea, q⟩ => ?_) he hpl
  subst ev
  cases r1 with
  | @cons _ u0 _ ur ra rest =>
    obtain rfl : u0 = Value.ref a := ra
    have few : ur.length ≤ sizeLine := by
      rw [← Paired.length rest, sizeLine_eq]
      omega
    exact init_plain T I1 ea few fun s' J => ⟨.non, H1, J, rfl, q⟩
end
end Sw
namespace Sw
open PySem PySem.Spec PyProof.Rows L2 PySem.SwE
section
variable {X : Cx} {e : Expr} {es : List Expr} {ta : TA} {p pos : Pos} {CX : CXT} {x : Str} {C fI : Addr} {k : Nat} {fd : FuncData} {ps : List Str} {sp : Sp}
/-- C(e, ..), C an own exception class over Exception whose __init__ keeps sp -/
theorem pmk_E (T : OexE X.K C) (iC : PySem.W.findIn X.K (.ref C) "__init__" = some (some (.ref fI))) (tI : PySem.W.typeIn X.K (.ref fI) = some (.type "function")) (F1 : FnOk X.prog X.w X.K X.mg X.base CX k fI fd ps sp) (room : Room (k + 1) X.A) (bd : Binds X.K fd ps [])
    (px : Passes CX X E0) (hm : X.mg x = some (.ref C)) (ha : PA X (e :: es) ta) (hg : Gl X x := by rfl)
    (hdb : (x == ("__debug__" : Str)) = false := by decide) (he : starEach (e :: es) X.env = (false, eval e X.env) :: starEach es X.env := by rfl) (hpl : (backTo pos (starEach es X.env)).any (·.1) = false := by rfl) :
    PMk X (.Call (.Name x p) (e :: es) [] pos) (tMkO C sp [] ta) := by
  intro pins s σ H Q I h
  obtain ⟨nm, q, N, bs, rs, sn, sub, ab, col, dd, k0, k1, k2, k3, k5, hC⟩ := T.cls
  refine wpAny_Call_Name_kw (ld_glob I hg hm ?_ hdb)
  refine PySem.W.callWith_K (h₀ := X.base) I.ok.mod.kin T.kC (thn (ha.run pos pins s σ H _ I h) fun us s1 ⟨vs, H1, I1, r1, few, q1⟩ => ⟨I1.kIn, ?_⟩) he hpl
  show wpAny _ _ (call (.ref C) us) _ _ _
  obtain ⟨hp, g, dr, tk, os⟩ := s1
  have le : hp.objs.size ≤ hp.objs.size + 1 := Nat.le_succ _
  have free : H1 (hp.objs.size + 1) = none := I1.hok.fresh le
  have said := q1 (hp.objs.size + 1) free
  have keep : ∀ b o, hp.get? b = some o → ((hp.push (PySem.W.kdv_tup us)).push (PySem.HandSPX.excO C hp.objs.size)).get? b = some o := fun b o z => Heap.get?_push_of_some _ (Heap.get?_push_of_some _ z)
  have made : ((hp.push (PySem.W.kdv_tup us)).push (PySem.HandSPX.excO C hp.objs.size)).get? (hp.objs.size + 1) = some (PySem.HandSPX.excO C hp.objs.size) := by heap_get
  have I2 : Inv X pins σ (upd H1 (hp.objs.size + 1) (exo (hp.objs.size + 1) C none)) ⟨(hp.push (PySem.W.kdv_tup us)).push (PySem.HandSPX.excO C hp.objs.size), g, dr, tk, os⟩ :=
    I1.laid (t' := tk) (a := hp.objs.size + 1) (o := exo (hp.objs.size + 1) C none) (h' := (hp.push (PySem.W.kdv_tup us)).push (PySem.HandSPX.excO C hp.objs.size)) keep le (exo_ok made)
  have both : Vals (V.ref (hp.objs.size + 1) :: (vs ++ [])) (Value.ref (hp.objs.size + 1) :: (us ++ [])) := .cons rfl (r1.append .nil)
  have count : (Value.ref (hp.objs.size + 1) :: us ++ []).length = ps.length := by
    have z := both.length
    rw [F1.len _ _ _ _ said] at z
    exact z.symm
  have bound := bd _ (Value.ref (hp.objs.size + 1) :: us) I2.kIn count
  rw [List.cons_append] at bound
  have few' : us.length ≤ sizeLine := by
    rw [← Paired.length r1, sizeLine_eq]
    omega
  refine wpAny_call (PySem.HandSPX.call_own F.excBase_Exception (fun Y => over_has Y rs) (I1.kIn _ _ hC) (PySem.W.looks_findIn I1.kIn iC) (fun self => PySem.W.bind_fn I1.kIn self tI) few' (codeAny_mono (F1.run _ X.stack _ _ ⟨Value.ref (hp.objs.size + 1) :: us, []⟩ (Value.ref (hp.objs.size + 1) :: (us ++ [])) _ _ E0
    (room.make C us []) (I2.env0.make C us []) bound both said) fun r s' z => ?_))
  rcases r with er | fl
  · exact px pins σ _ _ er s' I2 z
  · cases fl with
    | next => exact z.elim
    | brk => exact z.elim
    | cont => exact z.elim
    | ret u =>
      obtain ⟨v, H2, os2, bare, un, ok, rv, ev, d, fs, ea, ed, hd1, q2⟩ := z
      subst ev
      obtain ⟨h2, g2, d2, t2, os'⟩ := s'
      exact ⟨rv, mk_end (raises_own T.exC T.tyC) I1 le keep un ok os2 bare ea ed hd1 q2⟩
end
end Sw
namespace Sw
open PySem PySem.Spec PyProof.Rows L2 PySem.SwE
/-! ### defs that may let out an exception -/
theorem Fun.okX {P : Program} {w : World} {K : PySem.W.Frag} {mg : Str → Option Value} {base : Heap} {k : Nat} {f : Addr} {fd : FuncData} {ps : List Str} {sp : Sp} {x qual : Str} {st : Stmt} {N : List Str} (F : Fun K x qual st f fd) (S : FnScope N ps (defScope st)) (len : ∀ xs M R X, sp xs M R X → xs.length = ps.length)
    (body : ∀ (cdv : Value) (A : Around) (out : List Env) (t : Shared) (M : Hp) (xs : List V) (R : VK) (E : XK), Room k (A.deeper (envOfC qual (defScope st) t.heap.objs.size f cdv)) → sp xs M R E →
      Takes (cxOf (L2.CX P w) P w K mg base N qual (defScope st) f cdv A out t M E) (fun cls d _ M' => E cls d M') →
      ∃ r, PSs (cxOf (L2.CX P w) P w K mg base N qual (defScope st) f cdv A out t M E) (defBody st) r ∧ r { nx := fun _ M' => R .non M', rt := R } (start N xs) M) : FnOk P w K mg base (L2.CX P w) (k + 1) f fd ps sp := by
  obtain ⟨oc, od, kV, doc, pm, an, cdv, ct, osl, rfl, found, coded⟩ := F.ex
  exact fn_of found coded S len fun A out t M xs R E room prom => body cdv A out t M xs R E room prom (takes_of rfl rfl rfl rfl)
section
variable (P : Program) (w : World) (K : PySem.W.Frag) (mg : Str → Option Value) (base : Heap)
def CalX (x : Str) (ps : List Str) (k : Nat) (sp : Sp) : Prop := ∃ (f : Addr) (fd : FuncData), FnOk P w K mg base (L2.CX P w) k f fd ps sp ∧ mg x = some (.ref f) ∧ PySem.W.keepIn K (.ref f) = true ∧ Binds K fd ps []
def CalKX (x : Str) (ps : List Str) (k : Nat) (sp : Sp) (ks : List Str) (g : List Value → List Value → List Value) (gV : List V → List V → List V) : Prop := ∃ (f : Addr) (fd : FuncData), FnOk P w K mg base (L2.CX P w) k f fd ps sp ∧ mg x = some (.ref f) ∧ PySem.W.keepIn K (.ref f) = true ∧ KBinds K fd ps ks g gV
end
section
variable {P : Program} {w : World} {K : PySem.W.Frag} {mg : Str → Option Value} {base : Heap} {x : Str} {st : Stmt} {ps ks : List Str} {k : Nat} {sp : Sp}
theorem Def.calX (d : Def K mg x st)
    (b : ∀ (kV doc pm : Value) (an : Option Addr) (cdv ct : Value) (us : List Value), us.length = ps.length → bindArgs (PySem.W.fnOf x x (defArgs st) (defBody st) (defScope st) .none kV doc pm an cdv ct) ⟨us, []⟩ = pure (ps.zip us))
    (ok : ∀ (f : Addr) (fd : FuncData), Fun K x x st f fd → FnOk P w K mg base (L2.CX P w) k f fd ps sp) : CalX P w K mg base x ps k sp := by
  obtain ⟨f, fd, F, m⟩ := d
  exact ⟨f, fd, ok f fd F, m, F.kp, F.binds b⟩
theorem Def.calKX {g : List Value → List Value → List Value} {gV : List V → List V → List V} (d : Def K mg x st)
    (b : ∀ (kV doc pm : Value) (an : Option Addr) (cdv ct : Value) (us ws : List Value), (g us ws).length = ps.length → bindArgs (PySem.W.fnOf x x (defArgs st) (defBody st) (defScope st) .none kV doc pm an cdv ct) ⟨us, ks.zip ws⟩ = pure (ps.zip (g us ws)))
    (rel : ∀ {vs : List V} {us : List Value} {zs : List V} {ws : List Value}, Vals vs us → Vals zs ws → Vals (gV vs zs) (g us ws))
    (ok : ∀ (f : Addr) (fd : FuncData), Fun K x x st f fd → FnOk P w K mg base (L2.CX P w) k f fd ps sp) : CalKX P w K mg base x ps k sp ks g gV := by
  obtain ⟨f, fd, F, m⟩ := d
  have O := ok f fd F
  have kp := F.kp
  obtain ⟨oc, od, kV, doc, pm, an, cdv, ct, osl, rfl, lk, hcd⟩ := F.ex
  exact ⟨f, _, O, m, kp, fun s us ws _ hl => .of_eq (b kV doc pm an cdv ct us ws hl), rel⟩
end
def tKwS (sp : Sp) (gV : List V → List V → List V) (E : L2.St → XK) (tk : TA) : TE := fun σ H Q => tk σ H fun zs H1 => sp (gV [] zs) H1 Q (E σ)
section
variable {X : Cx} {x : Str} {ps ks : List Str} {k n : Nat} {sp : Sp} {e : Expr} {es : List Expr} {t : TA} {p pos : Pos} {W : WX} {g : List Value → List Value → List Value} {gV : List V → List V → List V} {kws : List Keyword}
theorem pe_calX (c : CalX X.prog X.w X.K X.mg X.base x ps k sp) (hr : Room n X.A) (tk : Takes X W) (ha : PA X (e :: es) t) (hg : Gl X x := by rfl) (hk : k ≤ n := by decide)
    (hdb : (x == ("__debug__" : Str)) = false := by decide) (he : starEach (e :: es) X.env = (false, eval e X.env) :: starEach es X.env := by rfl) (hpl : (backTo pos (starEach es X.env)).any (·.1) = false := by rfl) :
    PE X (.Call (.Name x p) (e :: es) [] pos) (tCallS sp (WE W) t) := by
  obtain ⟨f, fd, F, m, kp, b⟩ := c
  exact pe_callS F (hr.mono hk) hg m kp b (passAt tk) ha hdb he hpl
theorem i_callS {σ : L2.St} {H : Hp} {Q : VK} {E : L2.St → XK} (h : t σ H fun vs H1 => sp vs H1 Q (E σ)) : tCallS sp E t σ H Q := h
theorem pe_calKX (c : CalKX X.prog X.w X.K X.mg X.base x ps k sp ks g gV) (hr : Room n X.A) (tk : Takes X W) (hkw : PK X kws t) (hg : Gl X x := by rfl) (hk : k ≤ n := by decide)
    (hall : (backToKw pos (keywordEach kws X.env)).all (·.1.isSome) = true := by rfl) (hks : (backToKw pos (keywordEach kws X.env)).filterMap (·.1) = ks := by rfl) (hdb : (x == ("__debug__" : Str)) = false := by decide)
    (hpl : ((backTo pos (starEach [] X.env)).any (·.1) || (backToKw pos (keywordEach kws X.env)).any (·.1.isNone)) = false := by rfl) :
    PE X (.Call (.Name x p) [] kws pos) (tKwS sp gV (WE W) t) := by
  obtain ⟨f, fd, F, m, kp, b⟩ := c
  constructor
  intro pins s σ H Q I h
  apply wpAny_Call_Name_kw (ld_glob I hg m ?_ hdb)
  refine PySem.W.callWith_KW0 (h₀ := X.base) I.ok.mod.kin kp hall (thn (hkw.run pos pins s σ H _ I h) fun ws s2 ⟨zs, H2, I2, rz, q⟩ => ⟨I2.kIn, ?_⟩) hpl
  rw [hks]
  have rel := b.rel (vs := []) (us := []) .nil rz
  have count : (g [] ws).length = ps.length := by rw [← rel.length]; exact F.len _ _ _ _ q
  apply wpAny_call
  apply codeAny_mono (F.run X.A X.stack s2 H2 ⟨[], ks.zip ws⟩ (g [] ws) (gV [] zs) Q (WE W σ) (hr.mono hk) I2.env0 (b.to s2 [] ws I2.kIn count) rel q)
  intro o s' z
  rcases o with er | fl
  · exact passAt tk σ pins H2 s2 er s' I2 z
  · cases fl with
    | ret u => exact I2.after z
    | next => exact z.elim
    | brk => exact z.elim
    | cont => exact z.elim
theorem i_kwS {σ : L2.St} {H : Hp} {Q : VK} {E : L2.St → XK} (h : t σ H fun zs H1 => sp (gV [] zs) H1 Q (E σ)) : tKwS sp gV E t σ H Q := h
end
theorem takes_none {X : Cx} : Takes X (fun _ _ _ _ => False) := fun u s' z => by
  obtain ⟨a, B, sI, pins, σ, H, cls, d, e, I, nb, up, sky, na, os, ag, w⟩ := z
  exact w.elim
end Sw
namespace Sw
open PySem PySem.Spec PyProof.Rows L2 PySem.SwE
/-- InvalidText.__init__(self, given) -/
def spInit (K : PySem.W.Frag) : Sp := fun vs H Q _ => ∃ (a C : Addr) (v : V), vs = [.ref a, v] ∧ H a = some (exo a C none) ∧ OexE K C ∧ PySem.W.findIn K (.ref C) "given" = some none ∧
  ∀ dx, H dx = none → dx ≠ a → Q .non (upd (upd H dx (exd dx [("given", v)])) a (exo a C (some dx)))
/-- what the written part says of the class that is called over -/
structure Over (K : PySem.W.Frag) (mg : Str → Option Value) (B : Addr) : Prop where
  hm : mg "CodecError" = some (.ref B)
  ga : PySem.W.specialIn K (.ref B) "__getattribute__" = some (some (.builtin "type.__getattribute__"))
  ty : PySem.W.typeIn K (.ref B) = some (.type "type")
  rd : PySem.W.readsIn K B (.type "type") = true
  fi : PySem.W.findCls K (.ref B) (.type "type") "__init__" = some (.val (.builtin "Exception.__init__"))
theorem i_init {K : PySem.W.Frag} {ta : TA} {σ : L2.St} {H : Hp} {Q : VK} (h : ta σ H fun vs H1 => ∃ (a C : Addr) (ws : List V), vs = .ref a :: ws ∧ ws.length ≤ 1000 ∧ OexE K C ∧ H1 a = some (exo a C none) ∧ Q .non H1) : tInit K ta σ H Q := h
theorem i_fst {K : PySem.W.Frag} {f : Str} {to te : TE} {D : Ends} {σ : L2.St} {H : Hp} (h : te σ H fun y H1 => to σ H1 fun x H2 => ∃ a C : Addr, x = .ref a ∧ OexE K C ∧ PySem.W.findIn K (.ref C) f = some none ∧
  H2 a = some (exo a C none) ∧ ∀ dx, H2 dx = none → dx ≠ a → D.nx σ (upd (upd H2 dx (exd dx [(f, y)])) a (exo a C (some dx)))) : tFst K f to te D σ H := h
/-- the class InvalidText, as it stands behind the top -/
structure XT (P : Program) (w : World) (K : PySem.W.Frag) (mg : Str → Option Value) (base : Heap) (C : Addr) : Prop where
  T : OexE K C
  xf : XfC K C
  no : PySem.W.findIn K (.ref C) "given" = some none
  hm : mg "InvalidText" = some (.ref C)
  me : PySem.W.exmOne K (.ref C) (.ref C) = some true
  ini : ∃ (fI : Addr) (fd : FuncData), PySem.W.findIn K (.ref C) "__init__" = some (some (.ref fI)) ∧ PySem.W.typeIn K (.ref fI) = some (.type "function") ∧ FnOk P w K mg base CX0 1 fI fd ["self", "given"] (spInit K) ∧ Binds K fd ["self", "given"] []
theorem pmk_T {X : Cx} {C : Addr} {n : Nat} {e : Expr} {te : TE} {p pos : Pos} (xt : XT X.prog X.w X.K X.mg X.base C) (hr : Room n X.A) (he : PE X e te) (hn : 2 ≤ n := by decide) (hg : Gl X "InvalidText" := by rfl)
    (he2 : starEach [e] X.env = (false, eval e X.env) :: starEach [] X.env := by rfl) : PMk X (.Call (.Name "InvalidText" p) [e] [] pos) (tMkO C (spInit X.K) [] (tCons te tNil)) := by
  obtain ⟨fI, fd, h1, h2, h3, h4⟩ := xt.ini
  exact pmk_E xt.T h1 h2 h3 (hr.mono hn) h4 pass0 xt.hm (pa_cons he pa_nil he2) hg (by decide) he2 (by rfl)
def Thrown (K : PySem.W.Frag) (C : Addr) (vs : List V) (H1 : Hp) (Q : XK) : Prop := vs.length ≤ 1000 ∧ ∀ a, H1 a = none → spInit K (.ref a :: (vs ++ [])) (upd H1 a (exo a C none))
  (fun v H2 => v = .non ∧ ∃ (d : Addr) (fs : List (Str × V)), H2 a = some (exo a C (some d)) ∧ H2 d = some (exd d fs) ∧ H1 d = none ∧ Q (.ref C) (some d) (upd (del H2 a) d (.xd fs))) (fun _ _ _ => False)
theorem i_mk {K : PySem.W.Frag} {C : Addr} {ta : TA} {σ : L2.St} {H : Hp} {Q : XK} (h : ta σ H fun vs H1 => Thrown K C vs H1 Q) : tMkO C (spInit K) [] ta σ H Q := h
def tRs (t : L2.St → Hp → XK → Prop) (W : WX) : TS := fun _ σ H => t σ H fun cls d H' => W cls d σ H'
theorem ps_rs {X : Cx} {W : WX} {e : Expr} {t : L2.St → Hp → XK → Prop} {pos : Pos} (hc : X.calm = true) (tk : Takes X W) (he : PMk X e t) : PS X (.Raise (some e) none pos) (tRs t W) := L2.ps_raise hc tk he
theorem i_raise {t : L2.St → Hp → XK → Prop} {W : WX} {D : Ends} {σ : L2.St} {H : Hp} (h : t σ H fun cls d H' => W cls d σ H') : tRs t W D σ H := h
theorem i_thrown {K : PySem.W.Frag} {C : Addr} {v : V} {H1 : Hp} {Q : XK} (T : OexE K C) (no : PySem.W.findIn K (.ref C) "given" = some none) (h : ∀ dx, H1 dx = none → Q (.ref C) (some dx) (upd H1 dx (.xd [("given", v)]))) : Thrown K C [v] H1 Q := by
  refine ⟨by simp, fun a na => ⟨a, C, v, rfl, upd_same, T, no, fun dx nx ne => ⟨rfl, dx, [("given", v)], upd_same, ?_, ?_, ?_⟩⟩⟩
  · rw [upd_ne ne, upd_same]
  · rw [upd_ne ne] at nx; exact nx
  · rw [upd_ne ne] at nx
    have e : upd (del (upd (upd (upd H1 a (exo a C none)) dx (exd dx [("given", v)])) a (exo a C (some dx))) a) dx (.xd [("given", v)]) = upd H1 dx (.xd [("given", v)]) := by
      funext b
      by_cases c : b = dx
      · rw [c, upd_same, upd_same]
      · rw [upd_ne c, upd_ne c]
        by_cases c2 : b = a
        · rw [c2, del_same, na]
        · rw [del_ne c2, upd_ne c2, upd_ne c, upd_ne c2]
    rw [e]
    exact h dx nx
theorem i_dnew {σ : L2.St} {H : Hp} {Q : VK} (h : ∀ p, H p = none → Q (.ref p) (upd H p (.dK []))) : tDNewK σ H Q := h
end Sw
namespace Sw
open PySem PySem.Spec PyProof.Rows L2
local macro_rules | `(tactic| walk_at "hp") => `(tactic| first
  | (with_reducible assumption) | (with_reducible exact upd_same)
  | ((with_reducible refine' upd_old ?q1 ?q2); (case q1 => (with_reducible assumption)); (case q2 => walk_at "hp"))
  | ((with_reducible refine' Same.at ?q1 ?q2); (case q1 => (with_reducible assumption)); (case q2 => walk_at "hp"))
  | ((with_reducible refine' upd_skip ?q1 ?q2); (case q1 => walk_at "ne"); (case q2 => walk_at "hp"))
  | fail)
local macro_rules | `(tactic| walk_at "ne") => `(tactic| first
  | (with_reducible assumption) | (with_reducible exact Ne.symm (by assumption))
  | ((with_reducible refine' ne_of_none ?q1 ?q2); (case q2 => (with_reducible assumption)); (case q1 => walk_at "hp"))
  | fail)
local macro_rules | `(tactic| walk_at "ci") => `(tactic| first | assumption | (show (0 : Int) < _; first | decide | (with_reducible omega)) | exact ⟨by decide, by decide⟩ | exact .inl ⟨by decide, by decide⟩ | exact .inr ⟨by decide, by decide⟩)
local macro_rules | `(tactic| walk_at "ln") => `(tactic| first | (with_reducible assumption) | (with_reducible omega) | (simp only [List.length_append, List.length_take, List.length_drop, List.length_reverse, List.length_cons, List.length_nil]; with_reducible omega))
local macro_rules | `(tactic| walk_at "rd1") => `(tactic| first
  | (with_reducible refine i_seq ?_) | (with_reducible refine i_asg ?_) | (with_reducible refine i_ret ?_) | (with_reducible refine i_name ?_) | ((with_reducible refine' i_var ?q1 ?_); (case q1 => exact rfl)) | (with_reducible refine i_c ?_) | (with_reducible refine i_op ?_) | (with_reducible refine i_un ?_)
  | (with_reducible refine i_rI0 ?_) | (with_reducible refine i_cb ?_) | (with_reducible refine i_cons ?_) | (with_reducible refine i_nil ?_) | (with_reducible refine i_call ?_) | (with_reducible refine i_if ?_) | (with_reducible refine i_ifE ?_) | (with_reducible refine i_test ?_) | (with_reducible refine i_bl ?_)
  | (with_reducible refine i_and ?_) | (with_reducible refine i_or ?_) | (with_reducible refine i_not ?_) | (with_reducible refine i_lst ?_) | (with_reducible refine i_tup ?_) | (with_reducible refine i_next ?_) | (with_reducible refine i_drop ?_) | (with_reducible refine i_sub ?_)
  | (with_reducible refine i_bm ?_) | (with_reducible refine i_sl ?_) | (with_reducible refine i_part ?_) | (with_reducible refine i_nopart ?_) | (with_reducible refine i_exI ?_) | (with_reducible refine i_chain ?_) | ((with_reducible refine' i_aug ?q1 ?_); (case q1 => exact rfl)) | (with_reducible refine i_ip ?_)
  | (with_reducible refine i_par ?_) | (with_reducible refine i_pair ?_) | (with_reducible refine i_andV ?_) | (with_reducible refine i_orV ?_) | (with_reducible refine i_notV ?_) | (with_reducible refine i_m1 ?_) | (with_reducible refine i_str ?_)
  | (with_reducible refine iteF ?_) | (with_reducible refine iteT ?_) | (with_reducible refine iteNT ?_) | (with_reducible refine iteNF ?_) | (with_reducible refine i_tyS ?_) | (with_reducible refine i_tB ?_) | (with_reducible refine i_retN ?_) | (with_reducible refine i_par3 ?_) | (with_reducible refine i_trip ?_) | (with_reducible refine i_gCons ?_) | (with_reducible refine i_gNil ?_) | (with_reducible refine i_lstRg ?_) | (with_reducible refine i_rg1 ?_)
  | (with_reducible refine i_lc ?_) | (with_reducible refine i_for ?_) | (with_reducible refine i_iList ?_) | (with_reducible refine i_iTup ?_) | (with_reducible refine i_iStr ?_) | (with_reducible refine i_iRng1 ?_) | (with_reducible refine i_iEnS ?_)
  | ((with_reducible refine' i_ixTH ?q1 ?q2 ?_); (case q1 => walk_at "hp"); (case q2 => exact rfl))
  | ((with_reducible refine' i_ixLH ?q1 ?q2 ?_); (case q1 => walk_at "hp"); (case q2 => exact rfl))
  | ((with_reducible refine i_addS ?q1 ?_); (case q1 => walk_at "ln")) | ((with_reducible refine i_lenSS ?q1 ?_); (case q1 => walk_at "ln")) | ((with_reducible refine i_slFrom ?q1 ?q2 ?_); (case q1 => walk_at "ln"); (case q2 => walk_at "ln")) | ((with_reducible refine i_slTo ?q1 ?q2 ?_); (case q1 => walk_at "ln"); (case q2 => walk_at "ln"))
  | ((with_reducible refine' i_tyL ?q1 ?_); (case q1 => walk_at "hp"))
  | ((with_reducible refine' i_gTupH ?q1 ?q2 ?_); (case q1 => walk_at "hp"); (case q2 => exact rfl))
  | (with_reducible refine i_init ?_) | (with_reducible refine i_fst ?_) | (with_reducible refine i_mk ?_) | (with_reducible refine i_raise ?_) | (with_reducible refine i_callS ?_) | (with_reducible refine i_kwS ?_)
  | (with_reducible refine i_revT ?_) | (with_reducible refine i_kw ?_) | ((with_reducible refine' ⟨_, _, rfl, sqT_of ?q1, ?_⟩); (case q1 => walk_at "hp"))
  | (with_reducible refine i_revS ?_) | ((with_reducible refine i_revSS ?q1 ?_); (case q1 => walk_at "ln"))
  | (with_reducible refine i_startS ?_) | (with_reducible refine i_inSg ?_) | (with_reducible refine i_absN ?_) | (with_reducible refine i_min2 ?_) | (with_reducible refine i_max2 ?_) | (with_reducible refine i_min3 ?_) | (with_reducible refine i_intN ?_) | (with_reducible refine i_intNB ?_)
  | ((with_reducible refine' i_lenL ?q1 ?_); (case q1 => walk_at "hp")) | ((with_reducible refine' i_lenT ?q1 ?_); (case q1 => walk_at "hp"))
  | (with_reducible refine i_eqI ?_) | (with_reducible refine i_neI ?_) | (with_reducible refine i_eqS ?_) | (with_reducible refine i_neS ?_) | (with_reducible refine i_isNoI ?_) | (with_reducible refine i_isNoN ?_) | (with_reducible refine i_isNoR ?_)
  | ((with_reducible refine i_pow ?q1 ?q2 ?q3 ?_); (case q1 => decide); (case q2 => decide); (case q3 => (with_reducible omega)))
  | ((with_reducible refine i_rI ?q1 ?_); (case q1 => walk_at "ci"))
  | (with_reducible refine Or.inl ⟨_, rfl, ?_⟩) | (with_reducible refine Or.inr ⟨_, rfl, ?_⟩) | (with_reducible refine ⟨_, rfl, ?_⟩) | (with_reducible refine ⟨_, _, rfl, ?_⟩) | (with_reducible refine ⟨_, _, rfl, rfl, ?_⟩)
  | ((with_reducible refine' ⟨_, _, rfl, Or.inl (sqL_of ?q1), ?_⟩); (case q1 => walk_at "hp")) | ((with_reducible refine' ⟨_, _, rfl, Or.inr (sqT_of ?q1), ?_⟩); (case q1 => walk_at "hp")) | fail)
local macro_rules | `(tactic| walk_at "rd") => `(tactic| repeat' walk_at "rd1")

def topS (i : Nat) : Stmt := PySem.Challenge.pw_spoiltways_k74_lags_and_texts_refused.main.body.getD i (.Pass ⟨0, 0, 0, 0⟩)
abbrev s_is_text : Stmt := topS 5
abbrev n_is_text : List Str := ["value", "letter"]
theorem sc_is_text : FnScope n_is_text ["value"] (defScope s_is_text) := ⟨rfl, rfl, rfl, by decide +kernel, rfl, by decide +kernel, by decide +kernel⟩
abbrev s_is_lag : Stmt := topS 6
abbrev n_is_lag : List Str := ["value"]
theorem sc_is_lag : FnScope n_is_lag ["value"] (defScope s_is_lag) := ⟨rfl, rfl, rfl, by decide +kernel, rfl, by decide +kernel, by decide +kernel⟩
abbrev s_check_text : Stmt := topS 7
abbrev n_check_text : List Str := ["text"]
theorem sc_check_text : FnScope n_check_text ["text"] (defScope s_check_text) := ⟨rfl, rfl, rfl, by decide +kernel, rfl, by decide +kernel, by decide +kernel⟩
abbrev s_common_beginning : Stmt := topS 9
abbrev n_common_beginning : List Str := ["one", "other", "many"]
theorem sc_common_beginning : FnScope n_common_beginning ["one", "other"] (defScope s_common_beginning) := ⟨rfl, rfl, rfl, by decide +kernel, rfl, by decide +kernel, by decide +kernel⟩
abbrev s_without_common_ends : Stmt := topS 10
abbrev n_without_common_ends : List Str := ["one", "other", "many", "left", "right"]
theorem sc_without_common_ends : FnScope n_without_common_ends ["one", "other"] (defScope s_without_common_ends) := ⟨rfl, rfl, rfl, by decide +kernel, rfl, by decide +kernel, by decide +kernel⟩
abbrev s_next_band : Stmt := topS 11
abbrev n_next_band : List Str := ["band", "letter", "at", "other", "most", "found", "k", "place", "ways"]
theorem sc_next_band : FnScope n_next_band ["band", "letter", "at", "other"] (defScope s_next_band) := ⟨rfl, rfl, rfl, by decide +kernel, rfl, by decide +kernel, by decide +kernel⟩
abbrev s_distance_within : Stmt := topS 12
abbrev n_distance_within : List Str := ["one", "other", "most", "left", "right", "band", "k", "at", "letter", "found"]
theorem sc_distance_within : FnScope n_distance_within ["one", "other", "most"] (defScope s_distance_within) := ⟨rfl, rfl, rfl, by decide +kernel, rfl, by decide +kernel, by decide +kernel⟩
abbrev s_levenshtein : Stmt := topS 13
abbrev n_levenshtein : List Str := ["one", "other", "most", "found"]
theorem sc_levenshtein : FnScope n_levenshtein ["one", "other"] (defScope s_levenshtein) := ⟨rfl, rfl, rfl, by decide +kernel, rfl, by decide +kernel, by decide +kernel⟩
abbrev s_distance : Stmt := topS 14
abbrev n_distance : List Str := ["one", "other"]
theorem sc_distance : FnScope n_distance ["one", "other"] (defScope s_distance) := ⟨rfl, rfl, rfl, by decide +kernel, rfl, by decide +kernel, by decide +kernel⟩
abbrev s_gap_price : Stmt := topS 16
abbrev n_gap_price : List Str := ["before", "left", "right", "behind"]
theorem sc_gap_price : FnScope n_gap_price ["before", "left", "right", "behind"] (defScope s_gap_price) := ⟨rfl, rfl, rfl, by decide +kernel, rfl, by decide +kernel, by decide +kernel⟩
abbrev s__law_cell : Stmt := topS 18
abbrev n__law_cell : List Str := ["script", "k"]
theorem sc__law_cell : FnScope n__law_cell ["script", "k"] (defScope s__law_cell) := ⟨rfl, rfl, rfl, by decide +kernel, rfl, by decide +kernel, by decide +kernel⟩
abbrev s__law_box : Stmt := topS 19
abbrev n__law_box : List Str := ["great"]
theorem sc__law_box : FnScope n__law_box ["great"] (defScope s__law_box) := ⟨rfl, rfl, rfl, by decide +kernel, rfl, by decide +kernel, by decide +kernel⟩
abbrev s__law_take : Stmt := topS 20
abbrev n__law_take : List Str := ["box", "many", "digit", "mixed"]
theorem sc__law_take : FnScope n__law_take ["box", "many"] (defScope s__law_take) := ⟨rfl, rfl, rfl, by decide +kernel, rfl, by decide +kernel, by decide +kernel⟩
abbrev s__law_odd_lags : Stmt := topS 21
abbrev n__law_odd_lags : List Str := ["found"]
theorem sc__law_odd_lags : FnScope n__law_odd_lags [] (defScope s__law_odd_lags) := ⟨rfl, rfl, rfl, by decide +kernel, rfl, by decide +kernel, by decide +kernel⟩
abbrev s__law_odd_texts : Stmt := topS 22
abbrev n__law_odd_texts : List Str := []
theorem sc__law_odd_texts : FnScope n__law_odd_texts [] (defScope s__law_odd_texts) := ⟨rfl, rfl, rfl, by decide +kernel, rfl, by decide +kernel, by decide +kernel⟩
abbrev s__law_told : Stmt := topS 23
abbrev n__law_told : List Str := ["parts", "named", "e"]
theorem sc__law_told : FnScope n__law_told ["parts", "named"] (defScope s__law_told) := ⟨rfl, rfl, rfl, by decide +kernel, rfl, by decide +kernel, by decide +kernel⟩
abbrev s__law_lot_holds : Stmt := topS 24
abbrev n__law_lot_holds : List Str := ["parts", "wrong", "named", "told", "value"]
theorem sc__law_lot_holds : FnScope n__law_lot_holds ["parts", "wrong", "named"] (defScope s__law_lot_holds) := ⟨rfl, rfl, rfl, by decide +kernel, rfl, by decide +kernel, by decide +kernel⟩
abbrev s__law_right : Stmt := topS 25
abbrev n__law_right : List Str := ["box", "lags", "texts", "i", "a", "j", "b", "good", "words", "lot", "parts", "wrong", "k", "odd"]
theorem sc__law_right : FnScope n__law_right ["box"] (defScope s__law_right) := ⟨rfl, rfl, rfl, by decide +kernel, rfl, by decide +kernel, by decide +kernel⟩
abbrev s_law : Stmt := topS 26
abbrev n_law : List Str := ["script", "k"]
theorem sc_law : FnScope n_law ["script"] (defScope s_law) := ⟨rfl, rfl, rfl, by decide +kernel, rfl, by decide +kernel, by decide +kernel⟩
/-- names that stay the built-in ones -/
structure Z (mg : Str → Option Value) : Prop where
  abs : mg "abs" = none
  all : mg "all" = none
  bool : mg "bool" = none
  enumerate : mg "enumerate" = none
  int : mg "int" = none
  isinstance : mg "isinstance" = none
  len : mg "len" = none
  list : mg "list" = none
  max_ : mg "max" = none
  min_ : mg "min" = none
  range : mg "range" = none
  repr : mg "repr" = none
  str : mg "str" = none
  sum : mg "sum" = none
  tuple : mg "tuple" = none
end Sw
namespace Sw
open PySem PySem.Spec PyProof.Rows L2
local macro_rules | `(tactic| walk_at "hp") => `(tactic| first
  | (with_reducible assumption) | (with_reducible exact upd_same)
  | ((with_reducible refine' upd_old ?q1 ?q2); (case q1 => (with_reducible assumption)); (case q2 => walk_at "hp"))
  | ((with_reducible refine' Same.at ?q1 ?q2); (case q1 => (with_reducible assumption)); (case q2 => walk_at "hp"))
  | ((with_reducible refine' upd_skip ?q1 ?q2); (case q1 => walk_at "ne"); (case q2 => walk_at "hp"))
  | fail)
local macro_rules | `(tactic| walk_at "ne") => `(tactic| first
  | (with_reducible assumption) | (with_reducible exact Ne.symm (by assumption))
  | ((with_reducible refine' ne_of_none ?q1 ?q2); (case q2 => (with_reducible assumption)); (case q1 => walk_at "hp"))
  | fail)
local macro_rules | `(tactic| walk_at "ci") => `(tactic| first | assumption | (show (0 : Int) < _; first | decide | (with_reducible omega)) | exact ⟨by decide, by decide⟩ | exact .inl ⟨by decide, by decide⟩ | exact .inr ⟨by decide, by decide⟩)
local macro_rules | `(tactic| walk_at "ln") => `(tactic| first | (with_reducible assumption) | (with_reducible omega) | (simp only [List.length_append, List.length_take, List.length_drop, List.length_reverse, List.length_cons, List.length_nil]; with_reducible omega))
local macro_rules | `(tactic| walk_at "rd1") => `(tactic| first
  | (with_reducible refine i_seq ?_) | (with_reducible refine i_asg ?_) | (with_reducible refine i_ret ?_) | (with_reducible refine i_name ?_) | ((with_reducible refine' i_var ?q1 ?_); (case q1 => exact rfl)) | (with_reducible refine i_c ?_) | (with_reducible refine i_op ?_) | (with_reducible refine i_un ?_)
  | (with_reducible refine i_rI0 ?_) | (with_reducible refine i_cb ?_) | (with_reducible refine i_cons ?_) | (with_reducible refine i_nil ?_) | (with_reducible refine i_call ?_) | (with_reducible refine i_if ?_) | (with_reducible refine i_ifE ?_) | (with_reducible refine i_test ?_) | (with_reducible refine i_bl ?_)
  | (with_reducible refine i_and ?_) | (with_reducible refine i_or ?_) | (with_reducible refine i_not ?_) | (with_reducible refine i_lst ?_) | (with_reducible refine i_tup ?_) | (with_reducible refine i_next ?_) | (with_reducible refine i_drop ?_) | (with_reducible refine i_sub ?_)
  | (with_reducible refine i_bm ?_) | (with_reducible refine i_sl ?_) | (with_reducible refine i_part ?_) | (with_reducible refine i_nopart ?_) | (with_reducible refine i_exI ?_) | (with_reducible refine i_chain ?_) | ((with_reducible refine' i_aug ?q1 ?_); (case q1 => exact rfl)) | (with_reducible refine i_ip ?_)
  | (with_reducible refine i_par ?_) | (with_reducible refine i_pair ?_) | (with_reducible refine i_andV ?_) | (with_reducible refine i_orV ?_) | (with_reducible refine i_notV ?_) | (with_reducible refine i_m1 ?_) | (with_reducible refine i_str ?_)
  | (with_reducible refine iteF ?_) | (with_reducible refine iteT ?_) | (with_reducible refine iteNT ?_) | (with_reducible refine iteNF ?_) | (with_reducible refine i_tyS ?_) | (with_reducible refine i_tB ?_) | (with_reducible refine i_retN ?_) | (with_reducible refine i_par3 ?_) | (with_reducible refine i_trip ?_) | (with_reducible refine i_gCons ?_) | (with_reducible refine i_gNil ?_) | (with_reducible refine i_lstRg ?_) | (with_reducible refine i_rg1 ?_)
  | (with_reducible refine i_lc ?_) | (with_reducible refine i_for ?_) | (with_reducible refine i_iList ?_) | (with_reducible refine i_iTup ?_) | (with_reducible refine i_iStr ?_) | (with_reducible refine i_iRng1 ?_) | (with_reducible refine i_iEnS ?_)
  | ((with_reducible refine' i_ixTH ?q1 ?q2 ?_); (case q1 => walk_at "hp"); (case q2 => exact rfl))
  | ((with_reducible refine' i_ixLH ?q1 ?q2 ?_); (case q1 => walk_at "hp"); (case q2 => exact rfl))
  | ((with_reducible refine i_addS ?q1 ?_); (case q1 => walk_at "ln")) | ((with_reducible refine i_lenSS ?q1 ?_); (case q1 => walk_at "ln")) | ((with_reducible refine i_slFrom ?q1 ?q2 ?_); (case q1 => walk_at "ln"); (case q2 => walk_at "ln")) | ((with_reducible refine i_slTo ?q1 ?q2 ?_); (case q1 => walk_at "ln"); (case q2 => walk_at "ln"))
  | ((with_reducible refine' i_tyL ?q1 ?_); (case q1 => walk_at "hp"))
  | ((with_reducible refine' i_gTupH ?q1 ?q2 ?_); (case q1 => walk_at "hp"); (case q2 => exact rfl))
  | (with_reducible refine i_init ?_) | (with_reducible refine i_fst ?_) | (with_reducible refine i_mk ?_) | (with_reducible refine i_raise ?_) | (with_reducible refine i_callS ?_) | (with_reducible refine i_kwS ?_)
  | (with_reducible refine i_revT ?_) | (with_reducible refine i_kw ?_) | ((with_reducible refine' ⟨_, _, rfl, sqT_of ?q1, ?_⟩); (case q1 => walk_at "hp"))
  | (with_reducible refine i_revS ?_) | ((with_reducible refine i_revSS ?q1 ?_); (case q1 => walk_at "ln"))
  | (with_reducible refine i_startS ?_) | (with_reducible refine i_inSg ?_) | (with_reducible refine i_absN ?_) | (with_reducible refine i_min2 ?_) | (with_reducible refine i_max2 ?_) | (with_reducible refine i_min3 ?_) | (with_reducible refine i_intN ?_) | (with_reducible refine i_intNB ?_)
  | ((with_reducible refine' i_lenL ?q1 ?_); (case q1 => walk_at "hp")) | ((with_reducible refine' i_lenT ?q1 ?_); (case q1 => walk_at "hp"))
  | (with_reducible refine i_eqI ?_) | (with_reducible refine i_neI ?_) | (with_reducible refine i_eqS ?_) | (with_reducible refine i_neS ?_) | (with_reducible refine i_isNoI ?_) | (with_reducible refine i_isNoN ?_) | (with_reducible refine i_isNoR ?_)
  | ((with_reducible refine i_pow ?q1 ?q2 ?q3 ?_); (case q1 => decide); (case q2 => decide); (case q3 => (with_reducible omega)))
  | ((with_reducible refine i_rI ?q1 ?_); (case q1 => walk_at "ci"))
  | (with_reducible refine Or.inl ⟨_, rfl, ?_⟩) | (with_reducible refine Or.inr ⟨_, rfl, ?_⟩) | (with_reducible refine ⟨_, rfl, ?_⟩) | (with_reducible refine ⟨_, _, rfl, ?_⟩) | (with_reducible refine ⟨_, _, rfl, rfl, ?_⟩)
  | ((with_reducible refine' ⟨_, _, rfl, Or.inl (sqL_of ?q1), ?_⟩); (case q1 => walk_at "hp")) | ((with_reducible refine' ⟨_, _, rfl, Or.inr (sqT_of ?q1), ?_⟩); (case q1 => walk_at "hp")) | fail)
local macro_rules | `(tactic| walk_at "rd") => `(tactic| repeat' walk_at "rd1")

/-! ### the exception that tells a bad value -/
abbrev s_init : Stmt := inClass (topS 2) 0
abbrev n_init : List Str := ["self", "given"]
theorem sc_init : FnScope n_init ["self", "given"] (defScope s_init) := ⟨rfl, rfl, rfl, by decide +kernel, rfl, by decide +kernel, by decide +kernel⟩
section
variable {P : Program} {w : World} {K : PySem.W.Frag} {mg : Str → Option Value} {base : Heap} {f : Addr} {fd : FuncData}
theorem ok_init {B : Addr} (F : Fun K "__init__" "InvalidText.__init__" s_init f fd) (o : Over K mg B) : FnOk P w K mg base CX0 1 f fd ["self", "given"] (spInit K) := by
  refine F.ok sc_init (fun vs H Q E h => ?_) (fun cdv A outer s H vs Q E hr h => ?_)
  · obtain ⟨a, C, v, rfl, _⟩ := h; rfl
  · obtain ⟨a, C, v, rfl, ha, T, no, k⟩ := h
    refine ⟨_, (pss_cons (ps_expr (ps_init (by rfl) o.hm o.ga o.ty o.rd o.fi (pa_cons (pv 0) (pa_cons pe_str pa_nil))))
      (pss_one (ps_fst (pv 0) (pv 1)))), ?_⟩
    walk_at "rd"
    refine ⟨a, C, _, rfl, by simp, T, ha, ?_⟩
    walk_at "rd"
    exact ⟨a, C, rfl, T, no, ha, fun dx n ne => k dx n ne⟩
end
end Sw
namespace Sw
open PySem PySem.Spec PyProof.Rows L2
local macro_rules | `(tactic| walk_at "hp") => `(tactic| first
  | (with_reducible assumption) | (with_reducible exact upd_same)
  | ((with_reducible refine' upd_old ?q1 ?q2); (case q1 => (with_reducible assumption)); (case q2 => walk_at "hp"))
  | ((with_reducible refine' Same.at ?q1 ?q2); (case q1 => (with_reducible assumption)); (case q2 => walk_at "hp"))
  | ((with_reducible refine' upd_skip ?q1 ?q2); (case q1 => walk_at "ne"); (case q2 => walk_at "hp"))
  | fail)
local macro_rules | `(tactic| walk_at "ne") => `(tactic| first
  | (with_reducible assumption) | (with_reducible exact Ne.symm (by assumption))
  | ((with_reducible refine' ne_of_none ?q1 ?q2); (case q2 => (with_reducible assumption)); (case q1 => walk_at "hp"))
  | fail)
local macro_rules | `(tactic| walk_at "ci") => `(tactic| first | assumption | (show (0 : Int) < _; first | decide | (with_reducible omega)) | exact ⟨by decide, by decide⟩ | exact .inl ⟨by decide, by decide⟩ | exact .inr ⟨by decide, by decide⟩)
local macro_rules | `(tactic| walk_at "ln") => `(tactic| first | (with_reducible assumption) | (with_reducible omega) | (simp only [List.length_append, List.length_take, List.length_drop, List.length_reverse, List.length_cons, List.length_nil]; with_reducible omega))
local macro_rules | `(tactic| walk_at "rd1") => `(tactic| first
  | (with_reducible refine i_seq ?_) | (with_reducible refine i_asg ?_) | (with_reducible refine i_ret ?_) | (with_reducible refine i_name ?_) | ((with_reducible refine' i_var ?q1 ?_); (case q1 => exact rfl)) | (with_reducible refine i_c ?_) | (with_reducible refine i_op ?_) | (with_reducible refine i_un ?_)
  | (with_reducible refine i_rI0 ?_) | (with_reducible refine i_cb ?_) | (with_reducible refine i_cons ?_) | (with_reducible refine i_nil ?_) | (with_reducible refine i_call ?_) | (with_reducible refine i_if ?_) | (with_reducible refine i_ifE ?_) | (with_reducible refine i_test ?_) | (with_reducible refine i_bl ?_)
  | (with_reducible refine i_and ?_) | (with_reducible refine i_or ?_) | (with_reducible refine i_not ?_) | (with_reducible refine i_lst ?_) | (with_reducible refine i_tup ?_) | (with_reducible refine i_next ?_) | (with_reducible refine i_drop ?_) | (with_reducible refine i_sub ?_)
  | (with_reducible refine i_bm ?_) | (with_reducible refine i_sl ?_) | (with_reducible refine i_part ?_) | (with_reducible refine i_nopart ?_) | (with_reducible refine i_exI ?_) | (with_reducible refine i_chain ?_) | ((with_reducible refine' i_aug ?q1 ?_); (case q1 => exact rfl)) | (with_reducible refine i_ip ?_)
  | (with_reducible refine i_par ?_) | (with_reducible refine i_pair ?_) | (with_reducible refine i_andV ?_) | (with_reducible refine i_orV ?_) | (with_reducible refine i_notV ?_) | (with_reducible refine i_m1 ?_) | (with_reducible refine i_str ?_)
  | (with_reducible refine iteF ?_) | (with_reducible refine iteT ?_) | (with_reducible refine iteNT ?_) | (with_reducible refine iteNF ?_) | (with_reducible refine i_tyS ?_) | (with_reducible refine i_tB ?_) | (with_reducible refine i_retN ?_) | (with_reducible refine i_par3 ?_) | (with_reducible refine i_trip ?_) | (with_reducible refine i_gCons ?_) | (with_reducible refine i_gNil ?_) | (with_reducible refine i_lstRg ?_) | (with_reducible refine i_rg1 ?_)
  | (with_reducible refine i_lc ?_) | (with_reducible refine i_for ?_) | (with_reducible refine i_iList ?_) | (with_reducible refine i_iTup ?_) | (with_reducible refine i_iStr ?_) | (with_reducible refine i_iRng1 ?_) | (with_reducible refine i_iEnS ?_)
  | ((with_reducible refine' i_ixTH ?q1 ?q2 ?_); (case q1 => walk_at "hp"); (case q2 => exact rfl))
  | ((with_reducible refine' i_ixLH ?q1 ?q2 ?_); (case q1 => walk_at "hp"); (case q2 => exact rfl))
  | ((with_reducible refine i_addS ?q1 ?_); (case q1 => walk_at "ln")) | ((with_reducible refine i_lenSS ?q1 ?_); (case q1 => walk_at "ln")) | ((with_reducible refine i_slFrom ?q1 ?q2 ?_); (case q1 => walk_at "ln"); (case q2 => walk_at "ln")) | ((with_reducible refine i_slTo ?q1 ?q2 ?_); (case q1 => walk_at "ln"); (case q2 => walk_at "ln"))
  | ((with_reducible refine' i_tyL ?q1 ?_); (case q1 => walk_at "hp"))
  | ((with_reducible refine' i_gTupH ?q1 ?q2 ?_); (case q1 => walk_at "hp"); (case q2 => exact rfl))
  | (with_reducible refine i_init ?_) | (with_reducible refine i_fst ?_) | (with_reducible refine i_mk ?_) | (with_reducible refine i_raise ?_) | (with_reducible refine i_callS ?_) | (with_reducible refine i_kwS ?_)
  | (with_reducible refine i_revT ?_) | (with_reducible refine i_kw ?_) | ((with_reducible refine' ⟨_, _, rfl, sqT_of ?q1, ?_⟩); (case q1 => walk_at "hp"))
  | (with_reducible refine i_revS ?_) | ((with_reducible refine i_revSS ?q1 ?_); (case q1 => walk_at "ln"))
  | (with_reducible refine i_startS ?_) | (with_reducible refine i_inSg ?_) | (with_reducible refine i_absN ?_) | (with_reducible refine i_min2 ?_) | (with_reducible refine i_max2 ?_) | (with_reducible refine i_min3 ?_) | (with_reducible refine i_intN ?_) | (with_reducible refine i_intNB ?_)
  | ((with_reducible refine' i_lenL ?q1 ?_); (case q1 => walk_at "hp")) | ((with_reducible refine' i_lenT ?q1 ?_); (case q1 => walk_at "hp"))
  | (with_reducible refine i_eqI ?_) | (with_reducible refine i_neI ?_) | (with_reducible refine i_eqS ?_) | (with_reducible refine i_neS ?_) | (with_reducible refine i_isNoI ?_) | (with_reducible refine i_isNoN ?_) | (with_reducible refine i_isNoR ?_)
  | ((with_reducible refine i_pow ?q1 ?q2 ?q3 ?_); (case q1 => decide); (case q2 => decide); (case q3 => (with_reducible omega)))
  | ((with_reducible refine i_rI ?q1 ?_); (case q1 => walk_at "ci"))
  | (with_reducible refine Or.inl ⟨_, rfl, ?_⟩) | (with_reducible refine Or.inr ⟨_, rfl, ?_⟩) | (with_reducible refine ⟨_, rfl, ?_⟩) | (with_reducible refine ⟨_, _, rfl, ?_⟩) | (with_reducible refine ⟨_, _, rfl, rfl, ?_⟩)
  | ((with_reducible refine' ⟨_, _, rfl, Or.inl (sqL_of ?q1), ?_⟩); (case q1 => walk_at "hp")) | ((with_reducible refine' ⟨_, _, rfl, Or.inr (sqT_of ?q1), ?_⟩); (case q1 => walk_at "hp")) | fail)
local macro_rules | `(tactic| walk_at "rd") => `(tactic| repeat' walk_at "rd1")

section
variable {P : Program} {w : World} {K : PySem.W.Frag} {mg : Str → Option Value} {base : Heap} {f : Addr} {fd : FuncData}
theorem ok__law_take (F : Fun K "_law_take" "_law_take" s__law_take f fd) (z : Z mg) : FnOk P w K mg base CX0 1 f fd ["box", "many"] spTake := by
  refine F.ok sc__law_take (fun vs H Q E h => ?_) (fun cdv A outer s H vs Q E hr h => ?_)
  · obtain ⟨b, m, d, rfl, _⟩ := h; rfl
  · obtain ⟨b, m, d, rfl, B, hd, hm, hm2, k⟩ := h
    obtain ⟨n, g, c, e, hb, hn, hc0, hc1, he0, he1⟩ := B.ex
    have L : SqL K H b [.int n, .bl g, .int c, .int e] := .inl (.inl hb)
    refine ⟨_, (pss_cons (ps_if (PW.pt (pw_and (pt_val (pe_ix ix_list (pv 0) pe_int (fun _ _ => rfl))) (pw_and1 (pt_cmpR op_gt (pe_ix ix_list (pv 0) pe_int (fun _ _ => rfl)) pe_int (nomark _)))))
        (pss_cons (ps_set (i := 2) sc__law_take.nd rfl (.inl rfl) (pe_op op_mod (pe_callTy call_intN (by rfl) z.int (by decide +kernel) (pa_cons (pe_ix ix_list (pv 0) pe_int (fun _ _ => rfl)) pa_nil)) (pv 1)))
        (pss_cons (ps_asg (pe_op op_fdivW (pe_ix ix_list (pv 0) pe_int (fun _ _ => rfl)) (pv 1)) (pg_sub (pv 0) pe_int set_list))
        (pss_one (ps_ret (pv 2)))))
        pss_nil)
      (pss_cons (ps_asg (pe_op op_add (pe_ix ix_list (pv 0) pe_int (fun _ _ => rfl)) pe_int) (pg_sub (pv 0) pe_int set_list))
      (pss_cons (ps_set (i := 3) sc__law_take.nd rfl (.inl rfl) (pe_op op_mod (pe_callTy call_intN (by rfl) z.int (by decide +kernel) (pa_cons (pe_op op_pow (pe_op op_add (pe_op op_add (pe_ix ix_list (pv 0) pe_int (fun _ _ => rfl)) (pe_op op_mul pe_int (pe_ix ix_list (pv 0) pe_int (fun _ _ => rfl)))) pe_int) pe_int) pa_nil)) pe_int))
      (pss_one (ps_ret (pe_op op_mod (pe_op op_fdiv (pe_op op_mod (pe_callTy call_intN (by rfl) z.int (by decide +kernel) (pa_cons (pe_op op_pow (pe_op op_add (pe_op op_mul (pv 3) pe_int) (pe_op op_mul pe_int (pe_ix ix_list (pv 0) pe_int (fun _ _ => rfl)))) pe_int) pa_nil)) pe_int) pe_int) (pv 1))))))), ?_⟩
    walk_at "rd"
    refine iteC (fun hg => ?_) (fun hg => ?_)
    · walk_at "rd"
      refine iteB (fun h0 => ?_) (fun h0 => ?_)
      · walk_at "rd"
        refine i_rI (wide_div hm (by omega : m.natAbs < 2 ^ 64) (by decide) (by decide)) ?_
        walk_at "rd"
        refine i_setL hb rfl ?_
        walk_at "rd"
        refine k _ _ (Int.emod_nonneg _ (by omega)) (Int.emod_lt_of_pos _ hm) ⟨n / m, g, c, e, upd_same, Int.ediv_nonneg hn (by omega), hc0, hc1, he0, by omega⟩ SB.upd
      · walk_at "rd"
        refine i_setL hb rfl ?_
        walk_at "rd"
        exact k _ _ (Int.emod_nonneg _ (by omega)) (Int.emod_lt_of_pos _ hm) ⟨n, g, c, e + 1, upd_same, hn, hc0, hc1, by omega, by omega⟩ SB.upd
    · walk_at "rd"
      refine i_setL hb rfl ?_
      walk_at "rd"
      exact k _ _ (Int.emod_nonneg _ (by omega)) (Int.emod_lt_of_pos _ hm) ⟨n, g, c, e + 1, upd_same, hn, hc0, hc1, by omega, by omega⟩ SB.upd
theorem ok__law_box (F : Fun K "_law_box" "_law_box" s__law_box f fd) (z : Z mg) : FnOk P w K mg base CX0 1 f fd ["great"] spBox := by
  refine F.ok sc__law_box (fun vs H Q E h => ?_) (fun cdv A outer s H vs Q E hr h => ?_)
  · obtain ⟨n, rfl, _⟩ := h; rfl
  · obtain ⟨n, rfl, k⟩ := h
    refine ⟨_, (pss_one (ps_ret (pe_lst (pa_cons (pe_callB call_absN (by rfl) z.abs (by decide +kernel) (pa_cons (pv 0) pa_nil)) (pa_cons (pe_cmpR op_ge (pe_callB call_absN (by rfl) z.abs (by decide +kernel) (pa_cons (pv 0) pa_nil)) (pe_op op_pow pe_int pe_int) (nomark _)) (pa_cons (pe_op op_mod (pe_callTy call_intN (by rfl) z.int (by decide +kernel) (pa_cons (pe_callB call_absN (by rfl) z.abs (by decide +kernel) (pa_cons (pv 0) pa_nil)) pa_nil)) pe_int) (pa_cons pe_int pa_nil))))))), ?_⟩
    walk_at "rd"
    have q0 := Int.emod_nonneg (if n < 0 then -n else n) (show (2147483629 : Int) ≠ 0 by decide)
    have q1 := Int.emod_lt_of_pos (if n < 0 then -n else n) (show (0 : Int) < 2147483629 by decide)
    refine ⟨Nat.le_of_ble_eq_true rfl, fun p np => ?_⟩
    refine k p _ np (same_upd np) ⟨_, _, _, _, upd_same, by split <;> omega, q0, q1, by omega, by omega⟩
theorem ok__law_cell (F : Fun K "_law_cell" "_law_cell" s__law_cell f fd) (z : Z mg) : FnOk P w K mg base CX0 1 f fd ["script", "k"] (spCell K) := by
  refine F.ok sc__law_cell (fun vs H Q E h => ?_) (fun cdv A outer s H vs Q E hr h => ?_)
  · obtain ⟨a, ns, j, rfl, _⟩ := h; rfl
  · obtain ⟨a, ns, j, rfl, L, h0, h1, k⟩ := h
    refine ⟨_, (pss_one (ps_ret (pe_ifExp (pt_cmpR op_lt (pv 1) (pe_callB call_lenQ (by rfl) z.len PySem.boot_len (pa_cons (pv 0) pa_nil)) (nomark _)) (pe_ix ix_list (pv 0) (pv 1) (fun _ _ => rfl)) (pe_op op_add (pe_op op_mul pe_int (pv 1)) (pe_op op_mod (pe_callB (cr_sum rfl) (by rfl) z.sum (by decide +kernel) (pa_cons (pe_slice sl_list (pv 0) po_none (po_some pe_int)) pa_nil)) pe_int))))), ?_⟩
    walk_at "rd"
    refine i_lenK L ?_
    walk_at "rd"
    rw [List.length_map]
    refine iteB (fun hlt => ?_) (fun hlt => ?_)
    · walk_at "rd"
      refine i_ixL L (atI_ints h0 hlt) ?_
      exact k _ _ (Same.refl _)
    · walk_at "rd"
      refine ⟨a, _, rfl, L, fun p np => ?_⟩
      walk_at "rd"
      have e : cutV (ns.map V.int) none (some 1) = (ns.take 1).map V.int := by
        unfold cutV
        rw [show HT.sIx (ns.map V.int).length (ns.map V.int).length (some 1) = min 1 (ns.map V.int).length from HT.sIx_nat _ _ 1, HT.sIx_none, List.drop_zero, Nat.sub_zero, List.map_take]
        rcases Nat.le_total 1 (ns.map V.int).length with q | q
        · rw [Nat.min_eq_left q]
        · rw [Nat.min_eq_right q, List.take_length, List.take_of_length_le q]
      rw [e]
      refine ⟨p, ns.take 1, rfl, sqL_of upd_same, ?_⟩
      walk_at "rd"
      exact k _ _ (same_upd np)
end
end Sw
namespace Sw
open PySem PySem.Spec PyProof.Rows L2
local macro_rules | `(tactic| walk_at "hp") => `(tactic| first
  | (with_reducible assumption) | (with_reducible exact upd_same)
  | ((with_reducible refine' upd_old ?q1 ?q2); (case q1 => (with_reducible assumption)); (case q2 => walk_at "hp"))
  | ((with_reducible refine' Same.at ?q1 ?q2); (case q1 => (with_reducible assumption)); (case q2 => walk_at "hp"))
  | ((with_reducible refine' upd_skip ?q1 ?q2); (case q1 => walk_at "ne"); (case q2 => walk_at "hp"))
  | fail)
local macro_rules | `(tactic| walk_at "ne") => `(tactic| first
  | (with_reducible assumption) | (with_reducible exact Ne.symm (by assumption))
  | ((with_reducible refine' ne_of_none ?q1 ?q2); (case q2 => (with_reducible assumption)); (case q1 => walk_at "hp"))
  | fail)
local macro_rules | `(tactic| walk_at "ci") => `(tactic| first | assumption | (show (0 : Int) < _; first | decide | (with_reducible omega)) | exact ⟨by decide, by decide⟩ | exact .inl ⟨by decide, by decide⟩ | exact .inr ⟨by decide, by decide⟩)
local macro_rules | `(tactic| walk_at "ln") => `(tactic| first | (with_reducible assumption) | (with_reducible omega) | (simp only [List.length_append, List.length_take, List.length_drop, List.length_reverse, List.length_cons, List.length_nil]; with_reducible omega))
local macro_rules | `(tactic| walk_at "rd1") => `(tactic| first
  | (with_reducible refine i_seq ?_) | (with_reducible refine i_asg ?_) | (with_reducible refine i_ret ?_) | (with_reducible refine i_name ?_) | ((with_reducible refine' i_var ?q1 ?_); (case q1 => exact rfl)) | (with_reducible refine i_c ?_) | (with_reducible refine i_op ?_) | (with_reducible refine i_un ?_)
  | (with_reducible refine i_rI0 ?_) | (with_reducible refine i_cb ?_) | (with_reducible refine i_cons ?_) | (with_reducible refine i_nil ?_) | (with_reducible refine i_call ?_) | (with_reducible refine i_if ?_) | (with_reducible refine i_ifE ?_) | (with_reducible refine i_test ?_) | (with_reducible refine i_bl ?_)
  | (with_reducible refine i_and ?_) | (with_reducible refine i_or ?_) | (with_reducible refine i_not ?_) | (with_reducible refine i_lst ?_) | (with_reducible refine i_tup ?_) | (with_reducible refine i_next ?_) | (with_reducible refine i_drop ?_) | (with_reducible refine i_sub ?_)
  | (with_reducible refine i_bm ?_) | (with_reducible refine i_sl ?_) | (with_reducible refine i_part ?_) | (with_reducible refine i_nopart ?_) | (with_reducible refine i_exI ?_) | (with_reducible refine i_chain ?_) | ((with_reducible refine' i_aug ?q1 ?_); (case q1 => exact rfl)) | (with_reducible refine i_ip ?_)
  | (with_reducible refine i_par ?_) | (with_reducible refine i_pair ?_) | (with_reducible refine i_andV ?_) | (with_reducible refine i_orV ?_) | (with_reducible refine i_notV ?_) | (with_reducible refine i_m1 ?_) | (with_reducible refine i_str ?_)
  | (with_reducible refine iteF ?_) | (with_reducible refine iteT ?_) | (with_reducible refine iteNT ?_) | (with_reducible refine iteNF ?_) | (with_reducible refine i_tyS ?_) | (with_reducible refine i_tB ?_) | (with_reducible refine i_retN ?_) | (with_reducible refine i_par3 ?_) | (with_reducible refine i_trip ?_) | (with_reducible refine i_gCons ?_) | (with_reducible refine i_gNil ?_) | (with_reducible refine i_lstRg ?_) | (with_reducible refine i_rg1 ?_)
  | (with_reducible refine i_lc ?_) | (with_reducible refine i_for ?_) | (with_reducible refine i_iList ?_) | (with_reducible refine i_iTup ?_) | (with_reducible refine i_iStr ?_) | (with_reducible refine i_iRng1 ?_) | (with_reducible refine i_iEnS ?_)
  | ((with_reducible refine' i_ixTH ?q1 ?q2 ?_); (case q1 => walk_at "hp"); (case q2 => exact rfl))
  | ((with_reducible refine' i_ixLH ?q1 ?q2 ?_); (case q1 => walk_at "hp"); (case q2 => exact rfl))
  | ((with_reducible refine i_addS ?q1 ?_); (case q1 => walk_at "ln")) | ((with_reducible refine i_lenSS ?q1 ?_); (case q1 => walk_at "ln")) | ((with_reducible refine i_slFrom ?q1 ?q2 ?_); (case q1 => walk_at "ln"); (case q2 => walk_at "ln")) | ((with_reducible refine i_slTo ?q1 ?q2 ?_); (case q1 => walk_at "ln"); (case q2 => walk_at "ln"))
  | ((with_reducible refine' i_tyL ?q1 ?_); (case q1 => walk_at "hp"))
  | ((with_reducible refine' i_gTupH ?q1 ?q2 ?_); (case q1 => walk_at "hp"); (case q2 => exact rfl))
  | (with_reducible refine i_init ?_) | (with_reducible refine i_fst ?_) | (with_reducible refine i_mk ?_) | (with_reducible refine i_raise ?_) | (with_reducible refine i_callS ?_) | (with_reducible refine i_kwS ?_)
  | (with_reducible refine i_revT ?_) | (with_reducible refine i_kw ?_) | ((with_reducible refine' ⟨_, _, rfl, sqT_of ?q1, ?_⟩); (case q1 => walk_at "hp"))
  | (with_reducible refine i_revS ?_) | ((with_reducible refine i_revSS ?q1 ?_); (case q1 => walk_at "ln"))
  | (with_reducible refine i_startS ?_) | (with_reducible refine i_inSg ?_) | (with_reducible refine i_absN ?_) | (with_reducible refine i_min2 ?_) | (with_reducible refine i_max2 ?_) | (with_reducible refine i_min3 ?_) | (with_reducible refine i_intN ?_) | (with_reducible refine i_intNB ?_)
  | ((with_reducible refine' i_lenL ?q1 ?_); (case q1 => walk_at "hp")) | ((with_reducible refine' i_lenT ?q1 ?_); (case q1 => walk_at "hp"))
  | (with_reducible refine i_eqI ?_) | (with_reducible refine i_neI ?_) | (with_reducible refine i_eqS ?_) | (with_reducible refine i_neS ?_) | (with_reducible refine i_isNoI ?_) | (with_reducible refine i_isNoN ?_) | (with_reducible refine i_isNoR ?_)
  | ((with_reducible refine i_pow ?q1 ?q2 ?q3 ?_); (case q1 => decide); (case q2 => decide); (case q3 => (with_reducible omega)))
  | ((with_reducible refine i_rI ?q1 ?_); (case q1 => walk_at "ci"))
  | (with_reducible refine Or.inl ⟨_, rfl, ?_⟩) | (with_reducible refine Or.inr ⟨_, rfl, ?_⟩) | (with_reducible refine ⟨_, rfl, ?_⟩) | (with_reducible refine ⟨_, _, rfl, ?_⟩) | (with_reducible refine ⟨_, _, rfl, rfl, ?_⟩)
  | ((with_reducible refine' ⟨_, _, rfl, Or.inl (sqL_of ?q1), ?_⟩); (case q1 => walk_at "hp")) | ((with_reducible refine' ⟨_, _, rfl, Or.inr (sqT_of ?q1), ?_⟩); (case q1 => walk_at "hp")) | fail)
local macro_rules | `(tactic| walk_at "rd") => `(tactic| repeat' walk_at "rd1")

/-- is_text(value) -/
def spIsText (K : PySem.W.Frag) : Sp := fun vs H Q _ => ∃ x, vs = [x] ∧ ((∃ l, x = .str (S l) ∧ l.length ≤ 100000 ∧ ∀ H', Same H H' → Q (.bl (azB l)) H') ∨
  (∃ t, TyX K H x t ∧ PySem.W.kitOne K t (.type "str") = some false ∧ Q (.bl false) H))
/-- check_text(text), of a text -/
def spCheckText : Sp := fun vs H Q _ => ∃ l, vs = [.str (S l)] ∧ l.length ≤ 100000 ∧ azB l = true ∧ ∀ H', Same H H' → Q .non H'
/-- is_lag(value), of a lag -/
def spIsLag (K : PySem.W.Frag) : Sp := fun vs H Q _ => ∃ a l r, vs = [.ref a] ∧ H a = some (.tup [.str (S l), .str (S r)]) ∧ l.length ≤ 100000 ∧ r.length ≤ 100000 ∧ azB l = true ∧ azB r = true ∧ (l = [] ∨ r = []) ∧
  ∀ H', Same H H' → Q (.bl true) H'
section
variable {P : Program} {w : World} {K : PySem.W.Frag} {mg : Str → Option Value} {base : Heap} {f : Addr} {fd : FuncData}
theorem ok_is_text (F : Fun K "is_text" "is_text" s_is_text f fd) (z : Z mg) {t : Tok} (g_LETTERS : mg "LETTERS" = some (.str (("abcdefghijklmnopqrstuvwxyz" : Str)) t)) : FnOk P w K mg base CX0 1 f fd ["value"] (spIsText K) := by
  refine F.ok sc_is_text (fun vs H Q E h => ?_) (fun cdv A outer s H vs Q E hr h => ?_)
  · obtain ⟨x, rfl, _⟩ := h; rfl
  · obtain ⟨x, rfl, h⟩ := h
    refine ⟨_, (pss_one (ps_ret (pe_and (pe_callB call_isi (by rfl) z.isinstance (by decide +kernel) (pa_cons (pv 0) (pa_cons (pe_bltn (v := .ty "str") (by rfl) z.str (by decide +kernel) rfl) pa_nil))) (pe_one (pe_callB (cr_all rfl) (by rfl) z.all (by decide +kernel) (pa_cons (pe_lc (own := [("letter", 1)]) (g := gName 1) (tt := tYes) rfl sc_is_text.nd (pi_str (pv 0)) (blkOk_by (own := [("letter", 1)]) (N := n_is_text) (sc := defScope s_is_text) (by decide +kernel)) (fun _ _ _ _ _ => (pg_name (i := 1) sc_is_text.nd rfl (.inl rfl))) (fun _ _ _ _ _ => pts_nil) (fun _ _ _ _ _ => (pe_cmpR op_inSg (pv 1) (pe_glob (v := .str ("abcdefghijklmnopqrstuvwxyz" : Str)) rfl g_LETTERS ⟨_, rfl⟩) rfl))) pa_nil)))))), ?_⟩
    walk_at "rd"
    rcases h with ⟨l, rfl, hl, k⟩ | ⟨t, ty, kt, k⟩
    · refine i_isi true (.base (.str _)) (kit_ty (by decide +kernel)) ?_
      walk_at "rd"
      refine go_map walk_S (fun i => V.bl (decide (97 ≤ l.getD i 0 ∧ l.getD i 0 ≤ 122))) (by omega) (fun _ _ => trivial) (fun i x H2 H3 hi s2 y R hR => ?_) mono_name (fun p H2 np s2 e2 => ?_)
      · obtain ⟨rfl, c, hc, rfl⟩ := y
        have ec : l.getD i 0 = c := by rw [List.getD_eq_getElem?_getD, hc]; rfl
        walk_at "rd"
        refine ⟨rfl, ?_⟩
        walk_at "rd"
        rw [az_in, ← ec]
        exact hR _ (Same.refl _)
      · walk_at "rd"
        have e3 : H2 p = some (.lst (((List.range l.length).map fun i => decide (97 ≤ l.getD i 0 ∧ l.getD i 0 ≤ 122)).map V.bl)) := by
          rw [e2, List.map_map]
          rfl
        refine i_all e3 ?_
        rw [range_map_get l _ (fun c => decide (97 ≤ c ∧ c ≤ 122)) (fun i x hx => by rw [List.getD_eq_getElem?_getD, hx]; rfl), List.all_map]
        exact k _ s2
    · refine i_isi false ty kt ?_
      walk_at "rd"
      exact k
theorem ok_check_text (F : Fun K "check_text" "check_text" s_check_text f fd) (c_is_text : Cal P w K mg base "is_text" ["value"] 1 (spIsText K)) : FnOk P w K mg base CX0 2 f fd ["text"] spCheckText := by
  refine F.ok sc_check_text (fun vs H Q E h => ?_) (fun cdv A outer s H vs Q E hr h => ?_)
  · obtain ⟨l, rfl, _⟩ := h; rfl
  · obtain ⟨l, rfl, hl, ha, k⟩ := h
    refine ⟨_, (pss_one (ps_if (pt_not (pt_val (pe_cal c_is_text hr (pa_cons (pv 0) pa_nil))))
        (pss_one ps_never)
        pss_nil)), ?_⟩
    walk_at "rd"
    refine ⟨_, rfl, .inl ⟨l, rfl, hl, fun H' s' => ?_⟩⟩
    rw [ha]
    walk_at "rd"
    exact k _ s'
theorem ok_is_lag (F : Fun K "is_lag" "is_lag" s_is_lag f fd) (z : Z mg) (c_is_text : Cal P w K mg base "is_text" ["value"] 1 (spIsText K)) : FnOk P w K mg base CX0 2 f fd ["value"] (spIsLag K) := by
  refine F.ok sc_is_lag (fun vs H Q E h => ?_) (fun cdv A outer s H vs Q E hr h => ?_)
  · obtain ⟨a, l, r, rfl, _⟩ := h; rfl
  · obtain ⟨a, l, r, rfl, ha, hl, hr', azl, azr, he, k⟩ := h
    refine ⟨_, (pss_cons (ps_if (PW.pt (pw_or (pt_not (pt_val (pe_callB call_isi (by rfl) z.isinstance (by decide +kernel) (pa_cons (pv 0) (pa_cons (pe_bltn (v := .ty "tuple") (by rfl) z.tuple (by decide +kernel) rfl) pa_nil))))) (pw_or1 (pt_cmpR op_ne (pe_callB call_lenQ (by rfl) z.len PySem.boot_len (pa_cons (pv 0) pa_nil)) pe_int (nomark _)))))
        (pss_one (ps_ret pe_bl))
        pss_nil)
      (pss_one (ps_ret (pe_and (pe_cal c_is_text hr (pa_cons (pe_ix ix_tup (pv 0) pe_int (fun _ _ => rfl)) pa_nil)) (pe_and (pe_cal c_is_text hr (pa_cons (pe_ix ix_tup (pv 0) pe_int (fun _ _ => rfl)) pa_nil)) (pe_one (pe_cmpR op_in_seq (pe_strS (l := []) (by decide +kernel)) (pv 0) (by rfl)))))))), ?_⟩
    walk_at "rd"
    refine i_isi true (.base (.tup ha)) (kit_ty (by decide +kernel)) ?_
    walk_at "rd"
    refine iteNB (fun q => absurd rfl q) (fun _ => ?_)
    walk_at "rd"
    refine ⟨_, rfl, .inl ⟨l, rfl, hl, fun H1 s1 => ?_⟩⟩
    rw [azl]
    walk_at "rd"
    refine ⟨_, rfl, .inl ⟨r, rfl, hr', fun H2 s2 => ?_⟩⟩
    rw [azr]
    walk_at "rd"
    refine i_inSeq (xs := [.str (S l), .str (S r)]) (.inr (sqT_of (Same.at s2 (Same.at s1 ha)))) rfl rfl ?_
    have e : inV (.str (S [])) [.str (S l), .str (S r)] = true := by
      unfold inV
      rcases he with rfl | rfl <;> simp [eqV]
    rw [e]
    exact k _ (s1.trans s2)
end
end Sw
namespace Sw
open PySem PySem.Spec PyProof.Rows L2
local macro_rules | `(tactic| walk_at "hp") => `(tactic| first
  | (with_reducible assumption) | (with_reducible exact upd_same)
  | ((with_reducible refine' upd_old ?q1 ?q2); (case q1 => (with_reducible assumption)); (case q2 => walk_at "hp"))
  | ((with_reducible refine' Same.at ?q1 ?q2); (case q1 => (with_reducible assumption)); (case q2 => walk_at "hp"))
  | ((with_reducible refine' upd_skip ?q1 ?q2); (case q1 => walk_at "ne"); (case q2 => walk_at "hp"))
  | fail)
local macro_rules | `(tactic| walk_at "ne") => `(tactic| first
  | (with_reducible assumption) | (with_reducible exact Ne.symm (by assumption))
  | ((with_reducible refine' ne_of_none ?q1 ?q2); (case q2 => (with_reducible assumption)); (case q1 => walk_at "hp"))
  | fail)
local macro_rules | `(tactic| walk_at "ci") => `(tactic| first | assumption | (show (0 : Int) < _; first | decide | (with_reducible omega)) | exact ⟨by decide, by decide⟩ | exact .inl ⟨by decide, by decide⟩ | exact .inr ⟨by decide, by decide⟩)
local macro_rules | `(tactic| walk_at "ln") => `(tactic| first | (with_reducible assumption) | (with_reducible omega) | (simp only [List.length_append, List.length_take, List.length_drop, List.length_reverse, List.length_cons, List.length_nil]; with_reducible omega))
local macro_rules | `(tactic| walk_at "rd1") => `(tactic| first
  | (with_reducible refine i_seq ?_) | (with_reducible refine i_asg ?_) | (with_reducible refine i_ret ?_) | (with_reducible refine i_name ?_) | ((with_reducible refine' i_var ?q1 ?_); (case q1 => exact rfl)) | (with_reducible refine i_c ?_) | (with_reducible refine i_op ?_) | (with_reducible refine i_un ?_)
  | (with_reducible refine i_rI0 ?_) | (with_reducible refine i_cb ?_) | (with_reducible refine i_cons ?_) | (with_reducible refine i_nil ?_) | (with_reducible refine i_call ?_) | (with_reducible refine i_if ?_) | (with_reducible refine i_ifE ?_) | (with_reducible refine i_test ?_) | (with_reducible refine i_bl ?_)
  | (with_reducible refine i_and ?_) | (with_reducible refine i_or ?_) | (with_reducible refine i_not ?_) | (with_reducible refine i_lst ?_) | (with_reducible refine i_tup ?_) | (with_reducible refine i_next ?_) | (with_reducible refine i_drop ?_) | (with_reducible refine i_sub ?_)
  | (with_reducible refine i_bm ?_) | (with_reducible refine i_sl ?_) | (with_reducible refine i_part ?_) | (with_reducible refine i_nopart ?_) | (with_reducible refine i_exI ?_) | (with_reducible refine i_chain ?_) | ((with_reducible refine' i_aug ?q1 ?_); (case q1 => exact rfl)) | (with_reducible refine i_ip ?_)
  | (with_reducible refine i_par ?_) | (with_reducible refine i_pair ?_) | (with_reducible refine i_andV ?_) | (with_reducible refine i_orV ?_) | (with_reducible refine i_notV ?_) | (with_reducible refine i_m1 ?_) | (with_reducible refine i_str ?_)
  | (with_reducible refine iteF ?_) | (with_reducible refine iteT ?_) | (with_reducible refine iteNT ?_) | (with_reducible refine iteNF ?_) | (with_reducible refine i_tyS ?_) | (with_reducible refine i_tB ?_) | (with_reducible refine i_retN ?_) | (with_reducible refine i_par3 ?_) | (with_reducible refine i_trip ?_) | (with_reducible refine i_gCons ?_) | (with_reducible refine i_gNil ?_) | (with_reducible refine i_lstRg ?_) | (with_reducible refine i_rg1 ?_)
  | (with_reducible refine i_lc ?_) | (with_reducible refine i_for ?_) | (with_reducible refine i_iList ?_) | (with_reducible refine i_iTup ?_) | (with_reducible refine i_iStr ?_) | (with_reducible refine i_iRng1 ?_) | (with_reducible refine i_iEnS ?_)
  | ((with_reducible refine' i_ixTH ?q1 ?q2 ?_); (case q1 => walk_at "hp"); (case q2 => exact rfl))
  | ((with_reducible refine' i_ixLH ?q1 ?q2 ?_); (case q1 => walk_at "hp"); (case q2 => exact rfl))
  | ((with_reducible refine i_addS ?q1 ?_); (case q1 => walk_at "ln")) | ((with_reducible refine i_lenSS ?q1 ?_); (case q1 => walk_at "ln")) | ((with_reducible refine i_slFrom ?q1 ?q2 ?_); (case q1 => walk_at "ln"); (case q2 => walk_at "ln")) | ((with_reducible refine i_slTo ?q1 ?q2 ?_); (case q1 => walk_at "ln"); (case q2 => walk_at "ln"))
  | ((with_reducible refine' i_tyL ?q1 ?_); (case q1 => walk_at "hp"))
  | ((with_reducible refine' i_gTupH ?q1 ?q2 ?_); (case q1 => walk_at "hp"); (case q2 => exact rfl))
  | (with_reducible refine i_init ?_) | (with_reducible refine i_fst ?_) | (with_reducible refine i_mk ?_) | (with_reducible refine i_raise ?_) | (with_reducible refine i_callS ?_) | (with_reducible refine i_kwS ?_)
  | (with_reducible refine i_revT ?_) | (with_reducible refine i_kw ?_) | ((with_reducible refine' ⟨_, _, rfl, sqT_of ?q1, ?_⟩); (case q1 => walk_at "hp"))
  | (with_reducible refine i_revS ?_) | ((with_reducible refine i_revSS ?q1 ?_); (case q1 => walk_at "ln"))
  | (with_reducible refine i_startS ?_) | (with_reducible refine i_inSg ?_) | (with_reducible refine i_absN ?_) | (with_reducible refine i_min2 ?_) | (with_reducible refine i_max2 ?_) | (with_reducible refine i_min3 ?_) | (with_reducible refine i_intN ?_) | (with_reducible refine i_intNB ?_)
  | ((with_reducible refine' i_lenL ?q1 ?_); (case q1 => walk_at "hp")) | ((with_reducible refine' i_lenT ?q1 ?_); (case q1 => walk_at "hp"))
  | (with_reducible refine i_eqI ?_) | (with_reducible refine i_neI ?_) | (with_reducible refine i_eqS ?_) | (with_reducible refine i_neS ?_) | (with_reducible refine i_isNoI ?_) | (with_reducible refine i_isNoN ?_) | (with_reducible refine i_isNoR ?_)
  | ((with_reducible refine i_pow ?q1 ?q2 ?q3 ?_); (case q1 => decide); (case q2 => decide); (case q3 => (with_reducible omega)))
  | ((with_reducible refine i_rI ?q1 ?_); (case q1 => walk_at "ci"))
  | (with_reducible refine Or.inl ⟨_, rfl, ?_⟩) | (with_reducible refine Or.inr ⟨_, rfl, ?_⟩) | (with_reducible refine ⟨_, rfl, ?_⟩) | (with_reducible refine ⟨_, _, rfl, ?_⟩) | (with_reducible refine ⟨_, _, rfl, rfl, ?_⟩)
  | ((with_reducible refine' ⟨_, _, rfl, Or.inl (sqL_of ?q1), ?_⟩); (case q1 => walk_at "hp")) | ((with_reducible refine' ⟨_, _, rfl, Or.inr (sqT_of ?q1), ?_⟩); (case q1 => walk_at "hp")) | fail)
local macro_rules | `(tactic| walk_at "rd") => `(tactic| repeat' walk_at "rd1")

theorem eqV_S (a b : List Nat) : eqV (.str (S a)) (.str (S b)) = decide (V.str (S a) = .str (S b)) := by
  show (S a == S b) = _
  rw [S_dec]
  by_cases c : a = b
  · rw [c, decide_eq_true rfl, beq_self_eq_true]
  · rw [decide_eq_false c, beq_eq_false_iff_ne]
    exact fun q => c (S_inj.mp q)
/-- whether is_text says yes -/
def IsT (K : PySem.W.Frag) (H : Hp) (v : V) (b : Bool) : Prop := (∃ l, v = .str (S l) ∧ l.length ≤ 100000 ∧ b = azB l) ∨ (∃ t, TyX K H v t ∧ PySem.W.kitOne K t (.type "str") = some false ∧ b = false)
theorem TyX.same {K : PySem.W.Frag} {H H' : Hp} {v : V} {t : Value} (s : Same H H') (h : TyX K H v t) : TyX K H' v t := by
  cases h with
  | base b =>
    cases b with
    | non => exact .base .non
    | bl x => exact .base (.bl x)
    | int i => exact .base (.int i)
    | str x => exact .base (.str x)
    | flt x => exact .base (.flt x)
    | lst e => exact .base (.lst (s _ _ e))
    | frz e => exact .base (.frz (s _ _ e))
    | tup e => exact .base (.tup (s _ _ e))
    | dK e => exact .base (.dK (s _ _ e))
    | dT e => exact .base (.dT (s _ _ e))
    | ins e cl ha hn htk hm => exact .base (.ins (s _ _ e) cl ha hn htk hm)
  | byt b => exact .byt b
  | set e => exact .set (s _ _ e)
  | kList e c => exact .kList e c
  | kTuple e c => exact .kTuple e c
  | kDict e c => exact .kDict e c
  | fTuple e => exact .fTuple (s _ _ e)
  | fDict e => exact .fDict (s _ _ e)
theorem IsT.same {K : PySem.W.Frag} {H H' : Hp} {v : V} {b : Bool} (s : Same H H') (h : IsT K H v b) : IsT K H' v b := by
  rcases h with h | ⟨t, h1, h2⟩
  · exact .inl h
  · exact .inr ⟨t, TyX.same s h1, h2⟩
/-- is_text(value) -/
def spIsT (K : PySem.W.Frag) : Sp := fun vs H Q _ => ∃ x b, vs = [x] ∧ IsT K H x b ∧ ∀ H', Same H H' → Q (.bl b) H'
/-- check_text(text) -/
def spCheckX (K : PySem.W.Frag) (C : Addr) : Sp := fun vs H Q E => ∃ x b, vs = [x] ∧ IsT K H x b ∧ (b = true → ∀ H', Same H H' → Q .non H') ∧
  (b = false → ∀ dx H', H dx = none → Same H H' → H' dx = some (.xd [("given", x)]) → E (.ref C) (some dx) H')
theorem IsT.yes {K : PySem.W.Frag} {H : Hp} {v : V} (h : IsT K H v true) : ∃ l, v = .str (S l) ∧ l.length ≤ 100000 ∧ azB l = true := by
  rcases h with ⟨l, h1, h2, h3⟩ | ⟨t, h1, h2, h3⟩
  · exact ⟨l, h1, h2, h3.symm⟩
  · cases h3
/-- whether is_lag says yes -/
def IsL (K : PySem.W.Frag) (H : Hp) (v : V) (b : Bool) : Prop := (∃ t, TyX K H v t ∧ PySem.W.kitOne K t (.type "tuple") = some false ∧ b = false) ∨ (∃ a xs, v = .ref a ∧ H a = some (.tup xs) ∧ xs.length ≠ 2 ∧ b = false) ∨
  (∃ a x y bx by', v = .ref a ∧ H a = some (.tup [x, y]) ∧ IsT K H x bx ∧ IsT K H y by' ∧ b = (bx && by' && (decide (x = .str (S [])) || decide (y = .str (S [])))))
theorem IsL.same {K : PySem.W.Frag} {H H' : Hp} {v : V} {b : Bool} (s : Same H H') (h : IsL K H v b) : IsL K H' v b := by
  rcases h with ⟨t, h1, h2⟩ | ⟨a, xs, rfl, h1, h2⟩ | ⟨a, x, y, bx, by', rfl, h1, h2, h3, h4⟩
  · exact .inl ⟨t, TyX.same s h1, h2⟩
  · exact .inr (.inl ⟨a, xs, rfl, s _ _ h1, h2⟩)
  · exact .inr (.inr ⟨a, x, y, bx, by', rfl, s _ _ h1, h2.same s, h3.same s, h4⟩)
/-- is_lag(value) -/
def spIsL (K : PySem.W.Frag) : Sp := fun vs H Q _ => ∃ x b, vs = [x] ∧ IsL K H x b ∧ ∀ H', Same H H' → Q (.bl b) H'
section
variable {P : Program} {w : World} {K : PySem.W.Frag} {mg : Str → Option Value} {base : Heap} {f : Addr} {fd : FuncData}
theorem ok_is_t (O : FnOk P w K mg base CX0 1 f fd ["value"] (spIsText K)) : FnOk P w K mg base CX0 1 f fd ["value"] (spIsT K) := by
  refine O.imp fun vs H Q E h => ?_
  obtain ⟨x, b, rfl, hb, k⟩ := h
  rcases hb with ⟨l, rfl, hl, rfl⟩ | ⟨t, h1, h2, rfl⟩
  · exact ⟨_, rfl, .inl ⟨l, rfl, hl, k⟩⟩
  · exact ⟨_, rfl, .inr ⟨t, h1, h2, k _ (Same.refl _)⟩⟩
theorem ok_checkX {C : Addr} (F : Fun K "check_text" "check_text" s_check_text f fd) (xt : XT P w K mg base C) (c_is_text : Cal P w K mg base "is_text" ["value"] 1 (spIsT K)) : FnOk P w K mg base (L2.CX P w) 3 f fd ["text"] (spCheckX K C) := by
  refine Sw.Fun.okX F sc_check_text (fun vs H Q E h => ?_) (fun cdv A outer s H vs Q E hr h tk => ?_)
  · obtain ⟨x, b, rfl, _⟩ := h; rfl
  · obtain ⟨x, b, rfl, hb, k1, k2⟩ := h
    refine ⟨_, (pss_one (ps_if (pt_not (pt_val (pe_cal c_is_text hr (pa_cons (pv 0) pa_nil))))
        (pss_one (ps_rs rfl tk (pmk_T xt hr (pv 0))))
        pss_nil)), ?_⟩
    walk_at "rd"
    refine ⟨x, b, rfl, hb, fun H1 s1 => ?_⟩
    walk_at "rd"
    refine iteNC (fun e => ?_) (fun e => ?_)
    · walk_at "rd"
      refine i_thrown xt.T xt.no (fun dx nx => ?_)
      exact k2 e dx _ (s1.free nx) (s1.trans (same_upd nx)) upd_same
    · walk_at "rd"
      exact k1 e _ s1
theorem ok_is_lagG (F : Fun K "is_lag" "is_lag" s_is_lag f fd) (z : Z mg) (c_is_text : Cal P w K mg base "is_text" ["value"] 1 (spIsT K)) : FnOk P w K mg base CX0 2 f fd ["value"] (spIsL K) := by
  refine F.ok sc_is_lag (fun vs H Q E h => ?_) (fun cdv A outer s H vs Q E hr h => ?_)
  · obtain ⟨x, b, rfl, _⟩ := h; rfl
  · obtain ⟨x, b, rfl, hb, k⟩ := h
    refine ⟨_, (pss_cons (ps_if (PW.pt (pw_or (pt_not (pt_val (pe_callB call_isi (by rfl) z.isinstance (by decide +kernel) (pa_cons (pv 0) (pa_cons (pe_bltn (v := .ty "tuple") (by rfl) z.tuple (by decide +kernel) rfl) pa_nil))))) (pw_or1 (pt_cmpR op_ne (pe_callB call_lenQ (by rfl) z.len PySem.boot_len (pa_cons (pv 0) pa_nil)) pe_int (nomark _)))))
        (pss_one (ps_ret pe_bl))
        pss_nil)
      (pss_one (ps_ret (pe_and (pe_cal c_is_text hr (pa_cons (pe_ix ix_tup (pv 0) pe_int (fun _ _ => rfl)) pa_nil)) (pe_and (pe_cal c_is_text hr (pa_cons (pe_ix ix_tup (pv 0) pe_int (fun _ _ => rfl)) pa_nil)) (pe_one (pe_cmpR op_in_seq (pe_strS (l := []) (by decide +kernel)) (pv 0) (by rfl)))))))), ?_⟩
    walk_at "rd"
    rcases hb with ⟨t, h1, h2, rfl⟩ | ⟨a, xs, rfl, ha, hl, rfl⟩ | ⟨a, u, v, bu, bv, rfl, ha, hu, hv, rfl⟩
    · refine i_isi false h1 h2 ?_
      walk_at "rd"
      exact k _ (Same.refl _)
    · refine i_isi true (.base (.tup ha)) (kit_ty (by decide +kernel)) ?_
      walk_at "rd"
      refine iteNB (fun q => ?_) (fun q => absurd (by omega) hl)
      walk_at "rd"
      exact k _ (Same.refl _)
    · refine i_isi true (.base (.tup ha)) (kit_ty (by decide +kernel)) ?_
      walk_at "rd"
      refine iteNB (fun q => absurd rfl q) (fun _ => ?_)
      walk_at "rd"
      refine ⟨u, bu, rfl, hu, fun H1 s1 => ?_⟩
      walk_at "rd"
      cases bu with
      | false =>
        walk_at "rd"
        exact k _ s1
      | true =>
        walk_at "rd"
        refine ⟨v, bv, rfl, hv.same s1, fun H2 s2 => ?_⟩
        walk_at "rd"
        have s12 := s1.trans s2
        cases bv with
        | false =>
          walk_at "rd"
          exact k _ s12
        | true =>
          walk_at "rd"
          obtain ⟨l, rfl, _⟩ := hu.yes
          obtain ⟨r, rfl, _⟩ := hv.yes
          refine i_inSeq (xs := [.str (S l), .str (S r)]) (.inr (sqT_of (s12 _ _ ha))) rfl rfl ?_
          have e : inV (.str (S [])) [.str (S l), .str (S r)] = (decide (V.str (S l) = .str (S [])) || decide (V.str (S r) = .str (S []))) := by
            show (eqV (.str (S l)) (.str (S [])) || (eqV (.str (S r)) (.str (S [])) || false)) = _
            rw [eqV_S, eqV_S, Bool.or_false]
          rw [e]
          exact k _ s12
end
end Sw
namespace Sw
open PySem PySem.Spec PyProof.Rows L2
local macro_rules | `(tactic| walk_at "hp") => `(tactic| first
  | (with_reducible assumption) | (with_reducible exact upd_same)
  | ((with_reducible refine' upd_old ?q1 ?q2); (case q1 => (with_reducible assumption)); (case q2 => walk_at "hp"))
  | ((with_reducible refine' Same.at ?q1 ?q2); (case q1 => (with_reducible assumption)); (case q2 => walk_at "hp"))
  | ((with_reducible refine' upd_skip ?q1 ?q2); (case q1 => walk_at "ne"); (case q2 => walk_at "hp"))
  | fail)
local macro_rules | `(tactic| walk_at "ne") => `(tactic| first
  | (with_reducible assumption) | (with_reducible exact Ne.symm (by assumption))
  | ((with_reducible refine' ne_of_none ?q1 ?q2); (case q2 => (with_reducible assumption)); (case q1 => walk_at "hp"))
  | fail)
local macro_rules | `(tactic| walk_at "ci") => `(tactic| first | assumption | (show (0 : Int) < _; first | decide | (with_reducible omega)) | exact ⟨by decide, by decide⟩ | exact .inl ⟨by decide, by decide⟩ | exact .inr ⟨by decide, by decide⟩)
local macro_rules | `(tactic| walk_at "ln") => `(tactic| first | (with_reducible assumption) | (with_reducible omega) | (simp only [List.length_append, List.length_take, List.length_drop, List.length_reverse, List.length_cons, List.length_nil]; with_reducible omega))
local macro_rules | `(tactic| walk_at "rd1") => `(tactic| first
  | (with_reducible refine i_seq ?_) | (with_reducible refine i_asg ?_) | (with_reducible refine i_ret ?_) | (with_reducible refine i_name ?_) | ((with_reducible refine' i_var ?q1 ?_); (case q1 => exact rfl)) | (with_reducible refine i_c ?_) | (with_reducible refine i_op ?_) | (with_reducible refine i_un ?_)
  | (with_reducible refine i_rI0 ?_) | (with_reducible refine i_cb ?_) | (with_reducible refine i_cons ?_) | (with_reducible refine i_nil ?_) | (with_reducible refine i_call ?_) | (with_reducible refine i_if ?_) | (with_reducible refine i_ifE ?_) | (with_reducible refine i_test ?_) | (with_reducible refine i_bl ?_)
  | (with_reducible refine i_and ?_) | (with_reducible refine i_or ?_) | (with_reducible refine i_not ?_) | (with_reducible refine i_lst ?_) | (with_reducible refine i_tup ?_) | (with_reducible refine i_next ?_) | (with_reducible refine i_drop ?_) | (with_reducible refine i_sub ?_)
  | (with_reducible refine i_bm ?_) | (with_reducible refine i_sl ?_) | (with_reducible refine i_part ?_) | (with_reducible refine i_nopart ?_) | (with_reducible refine i_exI ?_) | (with_reducible refine i_chain ?_) | ((with_reducible refine' i_aug ?q1 ?_); (case q1 => exact rfl)) | (with_reducible refine i_ip ?_)
  | (with_reducible refine i_par ?_) | (with_reducible refine i_pair ?_) | (with_reducible refine i_andV ?_) | (with_reducible refine i_orV ?_) | (with_reducible refine i_notV ?_) | (with_reducible refine i_m1 ?_) | (with_reducible refine i_str ?_)
  | (with_reducible refine iteF ?_) | (with_reducible refine iteT ?_) | (with_reducible refine iteNT ?_) | (with_reducible refine iteNF ?_) | (with_reducible refine i_tyS ?_) | (with_reducible refine i_tB ?_) | (with_reducible refine i_retN ?_) | (with_reducible refine i_par3 ?_) | (with_reducible refine i_trip ?_) | (with_reducible refine i_gCons ?_) | (with_reducible refine i_gNil ?_) | (with_reducible refine i_lstRg ?_) | (with_reducible refine i_rg1 ?_)
  | (with_reducible refine i_lc ?_) | (with_reducible refine i_for ?_) | (with_reducible refine i_iList ?_) | (with_reducible refine i_iTup ?_) | (with_reducible refine i_iStr ?_) | (with_reducible refine i_iRng1 ?_) | (with_reducible refine i_iEnS ?_)
  | ((with_reducible refine' i_ixTH ?q1 ?q2 ?_); (case q1 => walk_at "hp"); (case q2 => exact rfl))
  | ((with_reducible refine' i_ixLH ?q1 ?q2 ?_); (case q1 => walk_at "hp"); (case q2 => exact rfl))
  | ((with_reducible refine i_addS ?q1 ?_); (case q1 => walk_at "ln")) | ((with_reducible refine i_lenSS ?q1 ?_); (case q1 => walk_at "ln")) | ((with_reducible refine i_slFrom ?q1 ?q2 ?_); (case q1 => walk_at "ln"); (case q2 => walk_at "ln")) | ((with_reducible refine i_slTo ?q1 ?q2 ?_); (case q1 => walk_at "ln"); (case q2 => walk_at "ln"))
  | ((with_reducible refine' i_tyL ?q1 ?_); (case q1 => walk_at "hp"))
  | ((with_reducible refine' i_gTupH ?q1 ?q2 ?_); (case q1 => walk_at "hp"); (case q2 => exact rfl))
  | (with_reducible refine i_init ?_) | (with_reducible refine i_fst ?_) | (with_reducible refine i_mk ?_) | (with_reducible refine i_raise ?_) | (with_reducible refine i_callS ?_) | (with_reducible refine i_kwS ?_)
  | (with_reducible refine i_revT ?_) | (with_reducible refine i_kw ?_) | ((with_reducible refine' ⟨_, _, rfl, sqT_of ?q1, ?_⟩); (case q1 => walk_at "hp"))
  | (with_reducible refine i_revS ?_) | ((with_reducible refine i_revSS ?q1 ?_); (case q1 => walk_at "ln"))
  | (with_reducible refine i_startS ?_) | (with_reducible refine i_inSg ?_) | (with_reducible refine i_absN ?_) | (with_reducible refine i_min2 ?_) | (with_reducible refine i_max2 ?_) | (with_reducible refine i_min3 ?_) | (with_reducible refine i_intN ?_) | (with_reducible refine i_intNB ?_)
  | ((with_reducible refine' i_lenL ?q1 ?_); (case q1 => walk_at "hp")) | ((with_reducible refine' i_lenT ?q1 ?_); (case q1 => walk_at "hp"))
  | (with_reducible refine i_eqI ?_) | (with_reducible refine i_neI ?_) | (with_reducible refine i_eqS ?_) | (with_reducible refine i_neS ?_) | (with_reducible refine i_isNoI ?_) | (with_reducible refine i_isNoN ?_) | (with_reducible refine i_isNoR ?_)
  | ((with_reducible refine i_pow ?q1 ?q2 ?q3 ?_); (case q1 => decide); (case q2 => decide); (case q3 => (with_reducible omega)))
  | ((with_reducible refine i_rI ?q1 ?_); (case q1 => walk_at "ci"))
  | (with_reducible refine Or.inl ⟨_, rfl, ?_⟩) | (with_reducible refine Or.inr ⟨_, rfl, ?_⟩) | (with_reducible refine ⟨_, rfl, ?_⟩) | (with_reducible refine ⟨_, _, rfl, ?_⟩) | (with_reducible refine ⟨_, _, rfl, rfl, ?_⟩)
  | ((with_reducible refine' ⟨_, _, rfl, Or.inl (sqL_of ?q1), ?_⟩); (case q1 => walk_at "hp")) | ((with_reducible refine' ⟨_, _, rfl, Or.inr (sqT_of ?q1), ?_⟩); (case q1 => walk_at "hp")) | fail)
local macro_rules | `(tactic| walk_at "rd") => `(tactic| repeat' walk_at "rd1")


/-- common_beginning(one, other) -/
def spCommon : Sp := fun vs H Q _ => ∃ l r, vs = [.str (S l), .str (S r)] ∧ l.length ≤ 100000 ∧ r.length ≤ 100000 ∧
  ∀ m : Nat, m ≤ l.length → m ≤ r.length → l.take m = r.take m → Q (.int (m : Int)) H
/-- without_common_ends(one, other) -/
def spEnds : Sp := fun vs H Q _ => ∃ l r, vs = [.str (S l), .str (S r)] ∧ l.length ≤ 100000 ∧ r.length ≤ 100000 ∧
  ∀ (a x y b : List Nat) (p : Addr) (H' : Hp), l = a ++ x ++ b → r = a ++ y ++ b → Same H H' → H p = none → H' p = some (.tup [.str (S x), .str (S y)]) → Q (.ref p) H'
section
variable {P : Program} {w : World} {K : PySem.W.Frag} {mg : Str → Option Value} {base : Heap} {f : Addr} {fd : FuncData}
theorem ok_common (F : Fun K "common_beginning" "common_beginning" s_common_beginning f fd) (z : Z mg) : FnOk P w K mg base CX0 1 f fd ["one", "other"] spCommon := by
  refine F.ok sc_common_beginning (fun vs H Q E h => ?_) (fun cdv A outer s H vs Q E hr h => ?_)
  · obtain ⟨l, r, rfl, _⟩ := h; rfl
  · obtain ⟨l, r, rfl, hl, hr', k⟩ := h
    refine ⟨_, (pss_cons (ps_set (i := 2) sc_common_beginning.nd rfl (.inl rfl) pe_int)
      (pss_cons (ps_while PassesOwn.never (PW.pt (pw_and (pt_cmpR op_lt (pv 2) (pe_callB (call_min2N rfl) (by rfl) z.min_ (by decide +kernel) (pa_cons (pe_callB call_lenS (by rfl) z.len PySem.boot_len (pa_cons (pv 0) pa_nil)) (pa_cons (pe_callB call_lenS (by rfl) z.len PySem.boot_len (pa_cons (pv 1) pa_nil)) pa_nil))) (nomark _)) (pw_and1 (pt_cmpR op_eq (pe_ix ix_S (pv 0) (pv 2) (fun _ _ => rfl)) (pe_ix ix_S (pv 1) (pv 2) (fun _ _ => rfl)) (nomark _)))))
        (pss_one (ps_aug (i := 2) sc_common_beginning.nd rfl (.inl rfl) pe_int ip_add)))
      (pss_one (ps_ret (pv 2))))), ?_⟩
    walk_at "rd"
    refine go_while (fun n σ H2 => ∃ m : Nat, n = l.length - m ∧ σ = [some (.str (S l)), some (.str (S r)), some (.int (m : Int))] ∧ H2 = H ∧ m ≤ l.length ∧ m ≤ r.length ∧ l.take m = r.take m)
      (l.length - 0) ⟨0, rfl, rfl, rfl, Nat.zero_le _, Nat.zero_le _, rfl⟩ (fun n σ H2 h2 => ?_)
    obtain ⟨m, rfl, rfl, rfl, h1, h2, h3⟩ := h2
    walk_at "rd"
    refine iteB (fun hlt => ?_) (fun hge => ?_)
    · walk_at "rd"
      have e1 : m < l.length := by omega
      have e2 : m < r.length := by omega
      refine i_ixSS (by omega) (atI_nat (List.getElem?_eq_getElem e1)) ?_
      walk_at "rd"
      refine i_ixSS (by omega) (atI_nat (List.getElem?_eq_getElem e2)) ?_
      walk_at "rd"
      refine iteB (fun he => ?_) (fun hne => ?_)
      · refine ⟨_, fun _ _ q => q, ?_⟩
        walk_at "rd"
        refine ⟨l.length - (m + 1), by omega, m + 1, rfl, rfl, rfl, e1, e2, ?_⟩
        rw [List.take_add_one, List.take_add_one, h3, List.getElem?_eq_getElem e1, List.getElem?_eq_getElem e2, List.singleton_inj.mp he]
      · walk_at "rd"
        exact k m h1 h2 h3
    · walk_at "rd"
      exact k m h1 h2 h3
theorem ok_ends (F : Fun K "without_common_ends" "without_common_ends" s_without_common_ends f fd) (z : Z mg) (c_common_beginning : Cal P w K mg base "common_beginning" ["one", "other"] 1 spCommon) : FnOk P w K mg base CX0 2 f fd ["one", "other"] spEnds := by
  refine F.ok sc_without_common_ends (fun vs H Q E h => ?_) (fun cdv A outer s H vs Q E hr h => ?_)
  · obtain ⟨l, r, rfl, _⟩ := h; rfl
  · obtain ⟨l, r, rfl, hl, hr', k⟩ := h
    refine ⟨_, (pss_cons (ps_set (i := 2) sc_without_common_ends.nd rfl (.inl rfl) (pe_cal c_common_beginning hr (pa_cons (pv 0) (pa_cons (pv 1) pa_nil))))
      (pss_cons (ps_par (i := 3) (j := 4) rfl sc_without_common_ends.nd rfl rfl (by decide) rfl rfl (pa_cons (pe_slice sl_S (pv 0) (po_some (pv 2)) po_none) (pa_cons (pe_slice sl_S (pv 1) (po_some (pv 2)) po_none) pa_nil)) (by rfl))
      (pss_cons (ps_set (i := 2) sc_without_common_ends.nd rfl (.inl rfl) (pe_cal c_common_beginning hr (pa_cons (pe_revS (pv 3)) (pa_cons (pe_revS (pv 4)) pa_nil))))
      (pss_one (ps_ret (pe_tup (pa_cons (pe_slice sl_S (pv 3) po_none (po_some (pe_op op_sub (pe_callB call_lenS (by rfl) z.len PySem.boot_len (pa_cons (pv 3) pa_nil)) (pv 2)))) (pa_cons (pe_slice sl_S (pv 4) po_none (po_some (pe_op op_sub (pe_callB call_lenS (by rfl) z.len PySem.boot_len (pa_cons (pv 4) pa_nil)) (pv 2)))) pa_nil)))))))), ?_⟩
    walk_at "rd"
    refine ⟨l, r, rfl, hl, hr', fun m m1 m2 em => ?_⟩
    walk_at "rd"
    refine ⟨(l.drop m).reverse, (r.drop m).reverse, rfl, by walk_at "ln", by walk_at "ln", fun n n1 n2 en => ?_⟩
    walk_at "rd"
    rw [List.length_reverse] at n1 n2
    simp only [Int.toNat_natCast] at *
    refine i_slTo (by omega) (by walk_at "ln") ?_
    walk_at "rd"
    refine ⟨Nat.le_of_ble_eq_true rfl, fun p np => ?_⟩
    rw [List.take_reverse, List.take_reverse, List.reverse_inj] at en
    have t1 : (((l.drop m).length : Int) - (n : Int)).toNat = (l.drop m).length - n := by omega
    have t2 : (((r.drop m).length : Int) - (n : Int)).toNat = (r.drop m).length - n := by omega
    rw [t1, t2]
    refine k (l.take m) ((l.drop m).take ((l.drop m).length - n)) ((r.drop m).take ((r.drop m).length - n)) ((l.drop m).drop ((l.drop m).length - n)) p _ ?_ ?_ (same_upd np) np upd_same
    · rw [List.append_assoc, List.take_append_drop, List.take_append_drop]
    · rw [en, em, List.append_assoc, List.take_append_drop, List.take_append_drop]
end
end Sw
namespace Sw
open PySem PySem.Spec PyProof.Rows L2
local macro_rules | `(tactic| walk_at "hp") => `(tactic| first
  | (with_reducible assumption) | (with_reducible exact upd_same)
  | ((with_reducible refine' upd_old ?q1 ?q2); (case q1 => (with_reducible assumption)); (case q2 => walk_at "hp"))
  | ((with_reducible refine' Same.at ?q1 ?q2); (case q1 => (with_reducible assumption)); (case q2 => walk_at "hp"))
  | ((with_reducible refine' upd_skip ?q1 ?q2); (case q1 => walk_at "ne"); (case q2 => walk_at "hp"))
  | fail)
local macro_rules | `(tactic| walk_at "ne") => `(tactic| first
  | (with_reducible assumption) | (with_reducible exact Ne.symm (by assumption))
  | ((with_reducible refine' ne_of_none ?q1 ?q2); (case q2 => (with_reducible assumption)); (case q1 => walk_at "hp"))
  | fail)
local macro_rules | `(tactic| walk_at "ci") => `(tactic| first | assumption | (show (0 : Int) < _; first | decide | (with_reducible omega)) | exact ⟨by decide, by decide⟩ | exact .inl ⟨by decide, by decide⟩ | exact .inr ⟨by decide, by decide⟩)
local macro_rules | `(tactic| walk_at "ln") => `(tactic| first | (with_reducible assumption) | (with_reducible omega) | (simp only [List.length_append, List.length_take, List.length_drop, List.length_reverse, List.length_cons, List.length_nil]; with_reducible omega))
local macro_rules | `(tactic| walk_at "rd1") => `(tactic| first
  | (with_reducible refine i_seq ?_) | (with_reducible refine i_asg ?_) | (with_reducible refine i_ret ?_) | (with_reducible refine i_name ?_) | ((with_reducible refine' i_var ?q1 ?_); (case q1 => exact rfl)) | (with_reducible refine i_c ?_) | (with_reducible refine i_op ?_) | (with_reducible refine i_un ?_)
  | (with_reducible refine i_rI0 ?_) | (with_reducible refine i_cb ?_) | (with_reducible refine i_cons ?_) | (with_reducible refine i_nil ?_) | (with_reducible refine i_call ?_) | (with_reducible refine i_if ?_) | (with_reducible refine i_ifE ?_) | (with_reducible refine i_test ?_) | (with_reducible refine i_bl ?_)
  | (with_reducible refine i_and ?_) | (with_reducible refine i_or ?_) | (with_reducible refine i_not ?_) | (with_reducible refine i_lst ?_) | (with_reducible refine i_tup ?_) | (with_reducible refine i_next ?_) | (with_reducible refine i_drop ?_) | (with_reducible refine i_sub ?_)
  | (with_reducible refine i_bm ?_) | (with_reducible refine i_sl ?_) | (with_reducible refine i_part ?_) | (with_reducible refine i_nopart ?_) | (with_reducible refine i_exI ?_) | (with_reducible refine i_chain ?_) | ((with_reducible refine' i_aug ?q1 ?_); (case q1 => exact rfl)) | (with_reducible refine i_ip ?_)
  | (with_reducible refine i_par ?_) | (with_reducible refine i_pair ?_) | (with_reducible refine i_andV ?_) | (with_reducible refine i_orV ?_) | (with_reducible refine i_notV ?_) | (with_reducible refine i_m1 ?_) | (with_reducible refine i_str ?_)
  | (with_reducible refine iteF ?_) | (with_reducible refine iteT ?_) | (with_reducible refine iteNT ?_) | (with_reducible refine iteNF ?_) | (with_reducible refine i_tyS ?_) | (with_reducible refine i_tB ?_) | (with_reducible refine i_retN ?_) | (with_reducible refine i_par3 ?_) | (with_reducible refine i_trip ?_) | (with_reducible refine i_gCons ?_) | (with_reducible refine i_gNil ?_) | (with_reducible refine i_lstRg ?_) | (with_reducible refine i_rg1 ?_)
  | (with_reducible refine i_lc ?_) | (with_reducible refine i_for ?_) | (with_reducible refine i_iList ?_) | (with_reducible refine i_iTup ?_) | (with_reducible refine i_iStr ?_) | (with_reducible refine i_iRng1 ?_) | (with_reducible refine i_iEnS ?_)
  | ((with_reducible refine' i_ixTH ?q1 ?q2 ?_); (case q1 => walk_at "hp"); (case q2 => exact rfl))
  | ((with_reducible refine' i_ixLH ?q1 ?q2 ?_); (case q1 => walk_at "hp"); (case q2 => exact rfl))
  | ((with_reducible refine i_addS ?q1 ?_); (case q1 => walk_at "ln")) | ((with_reducible refine i_lenSS ?q1 ?_); (case q1 => walk_at "ln")) | ((with_reducible refine i_slFrom ?q1 ?q2 ?_); (case q1 => walk_at "ln"); (case q2 => walk_at "ln")) | ((with_reducible refine i_slTo ?q1 ?q2 ?_); (case q1 => walk_at "ln"); (case q2 => walk_at "ln"))
  | ((with_reducible refine' i_tyL ?q1 ?_); (case q1 => walk_at "hp"))
  | ((with_reducible refine' i_gTupH ?q1 ?q2 ?_); (case q1 => walk_at "hp"); (case q2 => exact rfl))
  | (with_reducible refine i_init ?_) | (with_reducible refine i_fst ?_) | (with_reducible refine i_mk ?_) | (with_reducible refine i_raise ?_) | (with_reducible refine i_callS ?_) | (with_reducible refine i_kwS ?_)
  | (with_reducible refine i_revT ?_) | (with_reducible refine i_kw ?_) | ((with_reducible refine' ⟨_, _, rfl, sqT_of ?q1, ?_⟩); (case q1 => walk_at "hp"))
  | (with_reducible refine i_revS ?_) | ((with_reducible refine i_revSS ?q1 ?_); (case q1 => walk_at "ln"))
  | (with_reducible refine i_startS ?_) | (with_reducible refine i_inSg ?_) | (with_reducible refine i_absN ?_) | (with_reducible refine i_min2 ?_) | (with_reducible refine i_max2 ?_) | (with_reducible refine i_min3 ?_) | (with_reducible refine i_intN ?_) | (with_reducible refine i_intNB ?_)
  | ((with_reducible refine' i_lenL ?q1 ?_); (case q1 => walk_at "hp")) | ((with_reducible refine' i_lenT ?q1 ?_); (case q1 => walk_at "hp"))
  | (with_reducible refine i_eqI ?_) | (with_reducible refine i_neI ?_) | (with_reducible refine i_eqS ?_) | (with_reducible refine i_neS ?_) | (with_reducible refine i_isNoI ?_) | (with_reducible refine i_isNoN ?_) | (with_reducible refine i_isNoR ?_)
  | ((with_reducible refine i_pow ?q1 ?q2 ?q3 ?_); (case q1 => decide); (case q2 => decide); (case q3 => (with_reducible omega)))
  | ((with_reducible refine i_rI ?q1 ?_); (case q1 => walk_at "ci"))
  | (with_reducible refine Or.inl ⟨_, rfl, ?_⟩) | (with_reducible refine Or.inr ⟨_, rfl, ?_⟩) | (with_reducible refine ⟨_, rfl, ?_⟩) | (with_reducible refine ⟨_, _, rfl, ?_⟩) | (with_reducible refine ⟨_, _, rfl, rfl, ?_⟩)
  | ((with_reducible refine' ⟨_, _, rfl, Or.inl (sqL_of ?q1), ?_⟩); (case q1 => walk_at "hp")) | ((with_reducible refine' ⟨_, _, rfl, Or.inr (sqT_of ?q1), ?_⟩); (case q1 => walk_at "hp")) | fail)
local macro_rules | `(tactic| walk_at "rd") => `(tactic| repeat' walk_at "rd1")


open Lev (band cell ways way_least)
/-- next_band(band, letter, at, other) -/
def spNext (K : PySem.W.Frag) : Sp := fun vs H Q _ => ∃ (b : Addr) (M at' x : Nat) (l r : List Nat), vs = [.ref b, .str (S [x]), .int (at' : Int), .str (S r)] ∧ H b = some (.lst ((band M l r at').map V.int)) ∧ l[at']? = some x ∧ l.length ≤ 10000 ∧ r.length ≤ 10000 ∧ M ≤ 10000 ∧
  ∀ (p : Addr) (H' : Hp), Same H H' → H p = none → H' p = some (.lst ((band M l r (at' + 1)).map V.int)) → Q (.ref p) H'
section
variable {P : Program} {w : World} {K : PySem.W.Frag} {mg : Str → Option Value} {base : Heap} {f : Addr} {fd : FuncData}
theorem ok_next (F : Fun K "next_band" "next_band" s_next_band f fd) (z : Z mg) : FnOk P w K mg base CX0 1 f fd ["band", "letter", "at", "other"] (spNext K) := by
  refine F.ok sc_next_band (fun vs H Q E h => ?_) (fun cdv A outer s H vs Q E hr h => ?_)
  · obtain ⟨b, M, a, x, l, r, rfl, _⟩ := h; rfl
  · obtain ⟨b, M, a, x, l, r, rfl, hb, hx, hl, hr', hM, k⟩ := h
    refine ⟨_, (pss_cons (ps_par (i := 4) (j := 5) rfl sc_next_band.nd rfl rfl (by decide) rfl rfl (pa_cons (pe_op op_fdiv (pe_callB call_lenQ (by rfl) z.len PySem.boot_len (pa_cons (pv 0) pa_nil)) pe_int) (pa_cons (pe_lst pa_nil) pa_nil)) (by rfl))
      (pss_cons (ps_for PassesOwn.never rfl (pi_range1 (by rfl) z.range (pa_cons (pe_callB call_lenQ (by rfl) z.len PySem.boot_len (pa_cons (pv 0) pa_nil)) pa_nil)) (pg_name (i := 6) sc_next_band.nd rfl (.inl rfl))
        (pss_cons (ps_set (i := 7) sc_next_band.nd rfl (.inl rfl) (pe_op op_sub (pe_op op_add (pe_op op_add (pv 2) pe_int) (pv 6)) (pv 4)))
        (pss_cons (ps_set (i := 8) sc_next_band.nd rfl (.inl rfl) (pe_lst (pa_cons (pe_op op_add (pv 4) pe_int) pa_nil)))
        (C8.pss_cut (ps_if (pt_chain op_lt op_le pe_int (pv 7) (pe_callB call_lenS (by rfl) z.len PySem.boot_len (pa_cons (pv 3) pa_nil)))
          (pss_one (ps_expr (pe_bm PySem.F.plainAttrs_list PySem.F.slot_list_append PySem.F.type_list_append mt_append (pv 8) (pa_cons (pe_op op_add (pe_ix ix_list (pv 0) (pv 6) (fun _ _ => rfl)) (pe_callTy call_intN (by rfl) z.int (by decide +kernel) (pa_cons (pe_cmpR op_ne (pv 1) (pe_ix ix_S (pv 3) (pe_op op_sub (pv 7) pe_int) (fun _ _ => rfl)) (nomark _)) pa_nil))) pa_nil))))
          pss_nil)
        (C8.pss_cut (ps_if (PW.pt (pw_and (pt_chain op_lt op_le pe_int (pv 7) (pe_callB call_lenS (by rfl) z.len PySem.boot_len (pa_cons (pv 3) pa_nil))) (pw_and1 (pt_cmpR op_gt (pv 6) pe_int (nomark _)))))
          (pss_one (ps_expr (pe_bm PySem.F.plainAttrs_list PySem.F.slot_list_append PySem.F.type_list_append mt_append (pv 8) (pa_cons (pe_op op_add (pe_ix ix_list (pv 5) (pe_op op_sub (pv 6) pe_int) (fun _ _ => rfl)) pe_int) pa_nil))))
          pss_nil)
        (C8.pss_cut (ps_if (PW.pt (pw_and (pt_chain op_le op_le pe_int (pv 7) (pe_callB call_lenS (by rfl) z.len PySem.boot_len (pa_cons (pv 3) pa_nil))) (pw_and1 (pt_cmpR op_lt (pv 6) (pe_op op_mul pe_int (pv 4)) (nomark _)))))
          (pss_one (ps_expr (pe_bm PySem.F.plainAttrs_list PySem.F.slot_list_append PySem.F.type_list_append mt_append (pv 8) (pa_cons (pe_op op_add (pe_ix ix_list (pv 0) (pe_op op_add (pv 6) pe_int) (fun _ _ => rfl)) pe_int) pa_nil))))
          pss_nil)
        (pss_one (ps_expr (pe_bm PySem.F.plainAttrs_list PySem.F.slot_list_append PySem.F.type_list_append mt_append (pv 5) (pa_cons (pe_callB (cr_min rfl) (by rfl) z.min_ (by decide +kernel) (pa_cons (pv 8) pa_nil)) pa_nil))))))))))
      (pss_one (ps_ret (pv 5))))), ?_⟩
    walk_at "rd"
    refine ⟨Nat.zero_le _, fun fo nf => ?_⟩
    walk_at "rd"
    have eM : ((((band M l r a).map V.int).length : Int)) / 2 = (M : Int) := by
      rw [List.length_map, Lev.band_len]
      omega
    rw [eM]
    have hb1 : (upd H fo (.lst [])) b = some (.lst ((band M l r a).map V.int)) := upd_old nf hb
    walk_at "rd"
    rw [List.length_map, Lev.band_len]
    refine i_rng (by omega) (by omega) ?_
    rw [show ((2 * M + 1 : Nat) : Int).toNat = 2 * M + 1 from rfl]
    refine go_for walk_rangeZ (fun i σ H2 => ∃ u6 u7 u8 : Option V, σ = [some (.ref b), some (.str (S [x])), some (.int a), some (.str (S r)), some (.int M), some (.ref fo), u6, u7, u8] ∧ Same H H2 ∧
      H2 fo = some (.lst (((band M l r (a + 1)).take i).map V.int))) ⟨none, none, none, rfl, same_upd nf, upd_same⟩ (fun _ _ _ _ _ => trivial) (fun i v σ H2 H3 hi p y => ?_) (fun σ H2 p => ?_)
    · obtain ⟨u6, u7, u8, rfl, s2, ef⟩ := p
      obtain ⟨rfl, rfl⟩ := y
      have hb2 := Same.at s2 hb
      walk_at "rd"
      refine ⟨Nat.le_of_ble_eq_true rfl, fun wa nw => ?_⟩
      walk_at "rd"
      generalize ep : (a : Int) + 1 + (i : Int) - (M : Int) = place
      generalize eW1 : ([(M : Int) + 1] ++ (if 0 < place ∧ place ≤ r.length then [cell M l r a i + (if some x = r[(place - 1).toNat]? then 0 else 1)] else []) : List Int) = W1
      have lW1 : W1.length ≤ 2 := by rw [← eW1]; split <;> simp
      refine i_cut (fun σ' H' => σ' = [some (.ref b), some (.str (S [x])), some (.int a), some (.str (S r)), some (.int M), some (.ref fo), some (.int i), some (.int place), some (.ref wa)] ∧ H' = upd H3 wa (.lst (W1.map V.int))) ?_ ?_
      · walk_at "rd"
        refine iteB (fun q1 => ?_) (fun q1 => ?_)
        · walk_at "rd"
          refine iteB (fun q2 => ?_) (fun q2 => ?_)
          · walk_at "rd"
            refine i_ixLI (by walk_at "hp") (by omega) (Lev.band_get hi) ?_
            walk_at "rd"
            have hp1 : (place - 1).toNat < r.length := by omega
            refine i_ixSI (by omega) (List.getElem?_eq_getElem hp1) (by omega) ?_
            walk_at "rd"
            refine i_appI (ns := [(M : Int) + 1]) upd_same (Nat.le_of_ble_eq_true rfl) ?_
            refine ⟨rfl, ?_⟩
            have eδ : (if (!decide ([x] = [r[(place - 1).toNat]])) = true then (1 : Int) else 0) = if some x = some r[(place - 1).toNat] then 0 else 1 := by
              by_cases c : x = r[(place - 1).toNat]
              · rw [← c]; simp
              · simp [c]
            rw [upd_upd, ← eW1, if_pos (show 0 < place ∧ place ≤ r.length from ⟨q1, q2⟩), List.getElem?_eq_getElem hp1, ← eδ]
            rfl
          · walk_at "rd"
            refine ⟨rfl, ?_⟩
            rw [← eW1, if_neg (by omega)]; rfl
        · walk_at "rd"
          refine ⟨rfl, ?_⟩
          rw [← eW1, if_neg (by omega)]; rfl
      rintro _ _ ⟨rfl, rfl⟩
      generalize eW2 : (W1 ++ (if (0 < place ∧ place ≤ r.length) ∧ 0 < i then [cell M l r (a + 1) (i - 1) + 1] else []) : List Int) = W2
      have lW2 : W2.length ≤ 3 := by rw [← eW2, List.length_append]; split <;> simp <;> omega
      refine i_cut (fun σ' H' => σ' = [some (.ref b), some (.str (S [x])), some (.int a), some (.str (S r)), some (.int M), some (.ref fo), some (.int i), some (.int place), some (.ref wa)] ∧ H' = upd H3 wa (.lst (W2.map V.int))) ?_ ?_
      · walk_at "rd"
        refine iteB (fun q1 => ?_) (fun q1 => ?_)
        · walk_at "rd"
          refine iteB (fun q2 => ?_) (fun q2 => ?_)
          · walk_at "rd"
            refine iteB (fun q3 => ?_) (fun q3 => ?_)
            · walk_at "rd"
              have ek : ((i : Int) - 1).toNat = i - 1 := by omega
              have eg : ((band M l r (a + 1)).take i)[((i : Int) - 1).toNat]? = some (cell M l r (a + 1) (i - 1)) := by
                rw [ek, List.getElem?_take, if_pos (by omega), Lev.band_get (by omega)]
              refine i_ixLI (by walk_at "hp") (by omega) eg ?_
              walk_at "rd"
              refine i_appI (ns := W1) upd_same (by omega) ?_
              refine ⟨rfl, ?_⟩
              rw [upd_upd, ← eW2, if_pos (show (_ ∧ _) ∧ _ from ⟨⟨q1, q2⟩, by omega⟩)]
            · walk_at "rd"
              refine ⟨rfl, ?_⟩
              rw [← eW2, if_neg (by omega), List.append_nil]
          · walk_at "rd"
            refine ⟨rfl, ?_⟩
            rw [← eW2, if_neg (by omega), List.append_nil]
        · walk_at "rd"
          refine ⟨rfl, ?_⟩
          rw [← eW2, if_neg (by omega), List.append_nil]
      rintro _ _ ⟨rfl, rfl⟩
      generalize eW3 : (W2 ++ (if (0 ≤ place ∧ place ≤ r.length) ∧ i < 2 * M then [cell M l r a (i + 1) + 1] else []) : List Int) = W3
      have lW3 : W3.length ≤ 4 := by rw [← eW3, List.length_append]; split <;> simp <;> omega
      refine i_cut (fun σ' H' => σ' = [some (.ref b), some (.str (S [x])), some (.int a), some (.str (S r)), some (.int M), some (.ref fo), some (.int i), some (.int place), some (.ref wa)] ∧ H' = upd H3 wa (.lst (W3.map V.int))) ?_ ?_
      · walk_at "rd"
        refine iteB (fun q1 => ?_) (fun q1 => ?_)
        · walk_at "rd"
          refine iteB (fun q2 => ?_) (fun q2 => ?_)
          · walk_at "rd"
            refine iteB (fun q3 => ?_) (fun q3 => ?_)
            · walk_at "rd"
              refine i_ixLI (by walk_at "hp") (by omega) (Lev.band_get (k := i + 1) (by omega)) ?_
              walk_at "rd"
              refine i_appI (ns := W2) upd_same (by omega) ?_
              refine ⟨rfl, ?_⟩
              rw [upd_upd, ← eW3, if_pos (show (_ ∧ _) ∧ _ from ⟨⟨q1, q2⟩, by omega⟩)]
            · walk_at "rd"
              refine ⟨rfl, ?_⟩
              rw [← eW3, if_neg (by omega), List.append_nil]
          · walk_at "rd"
            refine ⟨rfl, ?_⟩
            rw [← eW3, if_neg (by omega), List.append_nil]
        · walk_at "rd"
          refine ⟨rfl, ?_⟩
          rw [← eW3, if_neg (by omega), List.append_nil]
      rintro _ _ ⟨rfl, rfl⟩
      have eW : W3 = ways M l r a x i := by
        rw [← eW3, ← eW2, ← eW1, ← ep]
        rfl
      walk_at "rd"
      refine i_minL (ns := W3) upd_same (by rw [eW]; unfold ways; simp) (fun m hm hl' => ?_)
      rw [eW] at hm hl'
      have em := way_least hx hi hm hl'
      subst em
      walk_at "rd"
      refine i_appI (by walk_at "hp") (by rw [List.length_take, Lev.band_len]; omega) ?_
      refine ⟨_, _, _, rfl, Same.set_new (Same.upd_new s2 nw) nf, ?_⟩
      rw [upd_same, List.take_add_one, Lev.band_get hi]
      rfl
    · obtain ⟨u6, u7, u8, rfl, s2, ef⟩ := p
      walk_at "rd"
      rw [List.take_of_length_le (by rw [Lev.band_len]; exact Nat.le_refl _)] at ef
      exact k fo H2 s2 nf ef
end
end Sw
namespace Sw
open PySem PySem.Spec PyProof.Rows L2
local macro_rules | `(tactic| walk_at "hp") => `(tactic| first
  | (with_reducible assumption) | (with_reducible exact upd_same)
  | ((with_reducible refine' upd_old ?q1 ?q2); (case q1 => (with_reducible assumption)); (case q2 => walk_at "hp"))
  | ((with_reducible refine' Same.at ?q1 ?q2); (case q1 => (with_reducible assumption)); (case q2 => walk_at "hp"))
  | ((with_reducible refine' upd_skip ?q1 ?q2); (case q1 => walk_at "ne"); (case q2 => walk_at "hp"))
  | fail)
local macro_rules | `(tactic| walk_at "ne") => `(tactic| first
  | (with_reducible assumption) | (with_reducible exact Ne.symm (by assumption))
  | ((with_reducible refine' ne_of_none ?q1 ?q2); (case q2 => (with_reducible assumption)); (case q1 => walk_at "hp"))
  | fail)
local macro_rules | `(tactic| walk_at "ci") => `(tactic| first | assumption | (show (0 : Int) < _; first | decide | (with_reducible omega)) | exact ⟨by decide, by decide⟩ | exact .inl ⟨by decide, by decide⟩ | exact .inr ⟨by decide, by decide⟩)
local macro_rules | `(tactic| walk_at "ln") => `(tactic| first | (with_reducible assumption) | (with_reducible omega) | (simp only [List.length_append, List.length_take, List.length_drop, List.length_reverse, List.length_cons, List.length_nil]; with_reducible omega))
local macro_rules | `(tactic| walk_at "rd1") => `(tactic| first
  | (with_reducible refine i_seq ?_) | (with_reducible refine i_asg ?_) | (with_reducible refine i_ret ?_) | (with_reducible refine i_name ?_) | ((with_reducible refine' i_var ?q1 ?_); (case q1 => exact rfl)) | (with_reducible refine i_c ?_) | (with_reducible refine i_op ?_) | (with_reducible refine i_un ?_)
  | (with_reducible refine i_rI0 ?_) | (with_reducible refine i_cb ?_) | (with_reducible refine i_cons ?_) | (with_reducible refine i_nil ?_) | (with_reducible refine i_call ?_) | (with_reducible refine i_if ?_) | (with_reducible refine i_ifE ?_) | (with_reducible refine i_test ?_) | (with_reducible refine i_bl ?_)
  | (with_reducible refine i_and ?_) | (with_reducible refine i_or ?_) | (with_reducible refine i_not ?_) | (with_reducible refine i_lst ?_) | (with_reducible refine i_tup ?_) | (with_reducible refine i_next ?_) | (with_reducible refine i_drop ?_) | (with_reducible refine i_sub ?_)
  | (with_reducible refine i_bm ?_) | (with_reducible refine i_sl ?_) | (with_reducible refine i_part ?_) | (with_reducible refine i_nopart ?_) | (with_reducible refine i_exI ?_) | (with_reducible refine i_chain ?_) | ((with_reducible refine' i_aug ?q1 ?_); (case q1 => exact rfl)) | (with_reducible refine i_ip ?_)
  | (with_reducible refine i_par ?_) | (with_reducible refine i_pair ?_) | (with_reducible refine i_andV ?_) | (with_reducible refine i_orV ?_) | (with_reducible refine i_notV ?_) | (with_reducible refine i_m1 ?_) | (with_reducible refine i_str ?_)
  | (with_reducible refine iteF ?_) | (with_reducible refine iteT ?_) | (with_reducible refine iteNT ?_) | (with_reducible refine iteNF ?_) | (with_reducible refine i_tyS ?_) | (with_reducible refine i_tB ?_) | (with_reducible refine i_retN ?_) | (with_reducible refine i_par3 ?_) | (with_reducible refine i_trip ?_) | (with_reducible refine i_gCons ?_) | (with_reducible refine i_gNil ?_) | (with_reducible refine i_lstRg ?_) | (with_reducible refine i_rg1 ?_)
  | (with_reducible refine i_lc ?_) | (with_reducible refine i_for ?_) | (with_reducible refine i_iList ?_) | (with_reducible refine i_iTup ?_) | (with_reducible refine i_iStr ?_) | (with_reducible refine i_iRng1 ?_) | (with_reducible refine i_iEnS ?_)
  | ((with_reducible refine' i_ixTH ?q1 ?q2 ?_); (case q1 => walk_at "hp"); (case q2 => exact rfl))
  | ((with_reducible refine' i_ixLH ?q1 ?q2 ?_); (case q1 => walk_at "hp"); (case q2 => exact rfl))
  | ((with_reducible refine i_addS ?q1 ?_); (case q1 => walk_at "ln")) | ((with_reducible refine i_lenSS ?q1 ?_); (case q1 => walk_at "ln")) | ((with_reducible refine i_slFrom ?q1 ?q2 ?_); (case q1 => walk_at "ln"); (case q2 => walk_at "ln")) | ((with_reducible refine i_slTo ?q1 ?q2 ?_); (case q1 => walk_at "ln"); (case q2 => walk_at "ln"))
  | ((with_reducible refine' i_tyL ?q1 ?_); (case q1 => walk_at "hp"))
  | ((with_reducible refine' i_gTupH ?q1 ?q2 ?_); (case q1 => walk_at "hp"); (case q2 => exact rfl))
  | (with_reducible refine i_init ?_) | (with_reducible refine i_fst ?_) | (with_reducible refine i_mk ?_) | (with_reducible refine i_raise ?_) | (with_reducible refine i_callS ?_) | (with_reducible refine i_kwS ?_)
  | (with_reducible refine i_revT ?_) | (with_reducible refine i_kw ?_) | ((with_reducible refine' ⟨_, _, rfl, sqT_of ?q1, ?_⟩); (case q1 => walk_at "hp"))
  | (with_reducible refine i_revS ?_) | ((with_reducible refine i_revSS ?q1 ?_); (case q1 => walk_at "ln"))
  | (with_reducible refine i_startS ?_) | (with_reducible refine i_inSg ?_) | (with_reducible refine i_absN ?_) | (with_reducible refine i_min2 ?_) | (with_reducible refine i_max2 ?_) | (with_reducible refine i_min3 ?_) | (with_reducible refine i_intN ?_) | (with_reducible refine i_intNB ?_)
  | ((with_reducible refine' i_lenL ?q1 ?_); (case q1 => walk_at "hp")) | ((with_reducible refine' i_lenT ?q1 ?_); (case q1 => walk_at "hp"))
  | (with_reducible refine i_eqI ?_) | (with_reducible refine i_neI ?_) | (with_reducible refine i_eqS ?_) | (with_reducible refine i_neS ?_) | (with_reducible refine i_isNoI ?_) | (with_reducible refine i_isNoN ?_) | (with_reducible refine i_isNoR ?_)
  | ((with_reducible refine i_pow ?q1 ?q2 ?q3 ?_); (case q1 => decide); (case q2 => decide); (case q3 => (with_reducible omega)))
  | ((with_reducible refine i_rI ?q1 ?_); (case q1 => walk_at "ci"))
  | (with_reducible refine Or.inl ⟨_, rfl, ?_⟩) | (with_reducible refine Or.inr ⟨_, rfl, ?_⟩) | (with_reducible refine ⟨_, rfl, ?_⟩) | (with_reducible refine ⟨_, _, rfl, ?_⟩) | (with_reducible refine ⟨_, _, rfl, rfl, ?_⟩)
  | ((with_reducible refine' ⟨_, _, rfl, Or.inl (sqL_of ?q1), ?_⟩); (case q1 => walk_at "hp")) | ((with_reducible refine' ⟨_, _, rfl, Or.inr (sqT_of ?q1), ?_⟩); (case q1 => walk_at "hp")) | fail)
local macro_rules | `(tactic| walk_at "rd") => `(tactic| repeat' walk_at "rd1")


open Lev (lev band cell)
def optI : Option Nat → V
  | some n => .int (n : Int)
  | none => .non
/-- distance_within(one, other, most) -/
def spWithin : Sp := fun vs H Q _ => ∃ (a b : List Nat) (m : Nat), vs = [.str (S a), .str (S b), .int (m : Int)] ∧ a.length ≤ 2000 ∧ b.length ≤ 2000 ∧ m ≤ 100000 ∧ ∀ H', Same H H' → Q (optI (Lev.within a b m)) H'
section
variable {P : Program} {w : World} {K : PySem.W.Frag} {mg : Str → Option Value} {base : Heap} {f : Addr} {fd : FuncData}
theorem ok_within (F : Fun K "distance_within" "distance_within" s_distance_within f fd) (z : Z mg) (c_without_common_ends : Cal P w K mg base "without_common_ends" ["one", "other"] 2 spEnds)
    (c_next_band : Cal P w K mg base "next_band" ["band", "letter", "at", "other"] 1 (spNext K)) : FnOk P w K mg base CX0 3 f fd ["one", "other", "most"] spWithin := by
  refine F.ok sc_distance_within (fun vs H Q E h => ?_) (fun cdv A outer s H vs Q E hr h => ?_)
  · obtain ⟨a, b, m, rfl, _⟩ := h; rfl
  · obtain ⟨a, b, m, rfl, ha, hb, hm, k⟩ := h
    refine ⟨_, (pss_cons (ps_if (pt_cmpR op_gt (pe_callB call_absN (by rfl) z.abs (by decide +kernel) (pa_cons (pe_op op_sub (pe_callB call_lenS (by rfl) z.len PySem.boot_len (pa_cons (pv 0) pa_nil)) (pe_callB call_lenS (by rfl) z.len PySem.boot_len (pa_cons (pv 1) pa_nil))) pa_nil)) (pv 2) (nomark _))
        (pss_one (ps_ret pe_non))
        pss_nil)
      (pss_cons (ps_asg (pe_cal c_without_common_ends hr (pa_cons (pv 0) (pa_cons (pv 1) pa_nil))) (pg_tup rfl (pgs_cons (pg_name (i := 3) sc_distance_within.nd rfl (.inl rfl)) (pgs_cons (pg_name (i := 4) sc_distance_within.nd rfl (.inr rfl)) pgs_nil))))
      (C8.pss_cut (ps_if (pt_cmpR op_gt (pe_callB call_lenS (by rfl) z.len PySem.boot_len (pa_cons (pv 3) pa_nil)) (pe_callB call_lenS (by rfl) z.len PySem.boot_len (pa_cons (pv 4) pa_nil)) (nomark _))
        (pss_one (ps_asg (pe_tup (pa_cons (pv 4) (pa_cons (pv 3) pa_nil))) (pg_tup rfl (pgs_cons (pg_name (i := 3) sc_distance_within.nd rfl (.inl rfl)) (pgs_cons (pg_name (i := 4) sc_distance_within.nd rfl (.inr rfl)) pgs_nil)))))
        pss_nil)
      (pss_cons (ps_set (i := 2) sc_distance_within.nd rfl (.inr rfl) (pe_callB (call_min2N rfl) (by rfl) z.min_ (by decide +kernel) (pa_cons (pv 2) (pa_cons (pe_callB call_lenS (by rfl) z.len PySem.boot_len (pa_cons (pv 4) pa_nil)) pa_nil))))
      (pss_cons (ps_setLc (i := 5) (own := [("k", 6)]) (g := gName 6) (tt := tYes) rfl sc_distance_within.nd rfl rfl (sw_true rfl rfl rfl (by decide +kernel)) (pi_range1 (by rfl) z.range (pa_cons (pe_op op_add (pe_op op_mul pe_int (pv 2)) pe_int) pa_nil)) (blkOk_by (own := [("k", 6)]) (N := n_distance_within) (sc := defScope s_distance_within) (by decide +kernel)) (fun _ _ _ _ _ => (pg_name (i := 6) sc_distance_within.nd rfl (.inl rfl))) (fun _ _ _ _ _ => pts_nil) (fun _ _ _ _ _ => (pe_ifExp (pt_chain op_le op_le (pv 2) (pv 6) (pe_op op_add (pv 2) (pe_callB call_lenS (by rfl) z.len PySem.boot_len (pa_cons (pv 4) pa_nil)))) (pe_op op_sub (pv 6) (pv 2)) (pe_op op_add (pv 2) pe_int))))
      (pss_cons (ps_for PassesOwn.never rfl (pi_enumS (by rfl) z.enumerate (pa_cons (pv 3) pa_nil)) (pg_tup rfl (pgs_cons (pg_name (i := 7) sc_distance_within.nd rfl (.inl rfl)) (pgs_cons (pg_name (i := 8) sc_distance_within.nd rfl (.inl rfl)) pgs_nil)))
        (pss_one (ps_set (i := 5) sc_distance_within.nd rfl (.inl rfl) (pe_cal c_next_band hr (pa_cons (pv 5) (pa_cons (pv 8) (pa_cons (pv 7) (pa_cons (pv 4) pa_nil))))))))
      (pss_cons (ps_set (i := 9) sc_distance_within.nd rfl (.inl rfl) (pe_ix ix_list (pv 5) (pe_op op_add (pe_op op_sub (pe_callB call_lenS (by rfl) z.len PySem.boot_len (pa_cons (pv 4) pa_nil)) (pe_callB call_lenS (by rfl) z.len PySem.boot_len (pa_cons (pv 3) pa_nil))) (pv 2)) (fun _ _ => rfl)))
      (pss_one (ps_ret (pe_ifExp (pt_cmpR op_le (pv 9) (pv 2) (nomark _)) (pv 9) pe_non)))))))))), ?_⟩
    walk_at "rd"
    refine iteB (fun far => ?_) (fun near => ?_)
    · walk_at "rd"
      have e : Lev.within a b m = none := by
        unfold Lev.within
        have h1 := Lev.lev_lens a b
        rw [if_neg]
        split at far <;> omega
      rw [e] at k
      exact k _ (Same.refl _)
    · walk_at "rd"
      refine ⟨a, b, rfl, by omega, by omega, fun u x y v t H1 ea eb s1 nt et => ?_⟩
      walk_at "rd"
      have hlev : lev a b = lev x y := by
        rw [ea, eb, Lev.lev_suf, Lev.lev_pre]
      have lx : a.length = u.length + x.length + v.length := by rw [ea]; simp only [List.length_append]
      have ly : b.length = u.length + y.length + v.length := by rw [eb]; simp only [List.length_append]
      refine i_cut (fun σ' H' => ∃ x' y' : List Nat, σ' = [some (.str (S a)), some (.str (S b)), some (.int m), some (.str (S x')), some (.str (S y')), none, none, none, none, none] ∧ Same H H' ∧ x'.length ≤ y'.length ∧ y'.length ≤ x'.length + m ∧ lev a b = lev x' y' ∧ y'.length ≤ 2000) ?_ ?_
      · walk_at "rd"
        refine iteB (fun hgt => ?_) (fun hle => ?_)
        · walk_at "rd"
          refine ⟨Nat.le_of_ble_eq_true rfl, fun p np => ?_⟩
          walk_at "rd"
          refine ⟨Same.upd_new s1 np, by omega, ?_, by rw [hlev, Lev.lev_symm], by omega⟩
          split at near <;> omega
        · walk_at "rd"
          refine ⟨s1, by omega, ?_, hlev, by omega⟩
          split at near <;> omega
      · rintro _ H2 ⟨x', y', rfl, s2, l1, l2, hl, l3⟩
        walk_at "rd"
        rw [show min (m : Int) (y'.length : Int) = ((min m y'.length : Nat) : Int) by omega]
        generalize eM : min m y'.length = M
        refine i_rng (by omega) (by omega) ?_
        rw [show (2 * (M : Int) + 1).toNat = 2 * M + 1 by omega]
        refine go_map walk_rangeZ (fun i => V.int (cell M x' y' 0 i)) (by omega) (fun _ _ => trivial) (fun i v H3 H4 hi s3 yv R hR => ?_) mono_name (fun p H3 np s3 ep => ?_)
        · obtain ⟨rfl, rfl⟩ := yv
          have hR' := hR _ (Same.refl _)
          rw [Lev.cell_first hi] at hR'
          walk_at "rd"
          refine ⟨rfl, ?_⟩
          walk_at "rd"
          refine iteB (fun q1 => ?_) (fun q1 => ?_)
          · walk_at "rd"
            refine iteB (fun q2 => ?_) (fun q2 => ?_)
            · walk_at "rd"
              rw [if_pos (by omega)] at hR'
              exact hR'
            · walk_at "rd"
              rw [if_neg (by omega)] at hR'
              exact hR'
          · walk_at "rd"
            rw [if_neg (by omega)] at hR'
            exact hR'
        · have ep1 : H3 p = some (.lst ((band M x' y' 0).map V.int)) := by rw [ep]; unfold Lev.band; rw [List.map_map]; rfl
          have s4 : Same H H3 := s2.trans s3
          walk_at "rd"
          refine go_for walk_eS (fun i σ H4 => ∃ (pb : Addr) (u6 u7 u8 : Option V), σ = [some (.str (S a)), some (.str (S b)), some (.int M), some (.str (S x')), some (.str (S y')), some (.ref pb), u6, u7, u8, none] ∧ Same H H4 ∧
            H4 pb = some (.lst ((band M x' y' i).map V.int))) ⟨p, _, _, _, rfl, s4, ep1⟩ (fun _ _ _ _ _ => trivial) (fun i v σ H4 H5 hi pq yv => ?_) (fun σ H4 pq => ?_)
          · obtain ⟨pb, u6, u7, u8, rfl, s5, eb5⟩ := pq
            obtain ⟨T, c, rfl, nT, hc, rfl⟩ := yv
            walk_at "rd"
            refine ⟨pb, M, i, c, x', y', rfl, upd_old nT eb5, hc, by omega, by omega, by omega, fun q H6 s6 nq eq => ?_⟩
            walk_at "rd"
            exact ⟨q, _, _, _, rfl, Same.trans (Same.upd_new s5 nT) s6, eq⟩
          · obtain ⟨pb, u6, u7, u8, rfl, s5, eb5⟩ := pq
            walk_at "rd"
            have el := Lev.band_last (M := M) (l := x') (r := y') l1 (by omega)
            refine i_ixLI eb5 (by omega) (by rw [show ((y'.length : Int) - (x'.length : Int) + (M : Int)).toNat = y'.length - x'.length + M by omega]; exact el) ?_
            walk_at "rd"
            have hx1 := Lev.lev_le_max x' y'
            refine iteB (fun q1 => ?_) (fun q1 => ?_)
            · walk_at "rd"
              have k1 := k _ s5
              unfold Lev.within at k1
              rw [if_pos (by omega), hl] at k1
              rw [show min (lev x' y') (M + 1) = lev x' y' by omega]
              exact k1
            · walk_at "rd"
              have k1 := k _ s5
              unfold Lev.within at k1
              rw [if_neg (by omega)] at k1
              exact k1
end
end Sw
namespace Sw
open PySem PySem.Spec PyProof.Rows L2
local macro_rules | `(tactic| walk_at "hp") => `(tactic| first
  | (with_reducible assumption) | (with_reducible exact upd_same)
  | ((with_reducible refine' upd_old ?q1 ?q2); (case q1 => (with_reducible assumption)); (case q2 => walk_at "hp"))
  | ((with_reducible refine' Same.at ?q1 ?q2); (case q1 => (with_reducible assumption)); (case q2 => walk_at "hp"))
  | ((with_reducible refine' upd_skip ?q1 ?q2); (case q1 => walk_at "ne"); (case q2 => walk_at "hp"))
  | fail)
local macro_rules | `(tactic| walk_at "ne") => `(tactic| first
  | (with_reducible assumption) | (with_reducible exact Ne.symm (by assumption))
  | ((with_reducible refine' ne_of_none ?q1 ?q2); (case q2 => (with_reducible assumption)); (case q1 => walk_at "hp"))
  | fail)
local macro_rules | `(tactic| walk_at "ci") => `(tactic| first | assumption | (show (0 : Int) < _; first | decide | (with_reducible omega)) | exact ⟨by decide, by decide⟩ | exact .inl ⟨by decide, by decide⟩ | exact .inr ⟨by decide, by decide⟩)
local macro_rules | `(tactic| walk_at "ln") => `(tactic| first | (with_reducible assumption) | (with_reducible omega) | (simp only [List.length_append, List.length_take, List.length_drop, List.length_reverse, List.length_cons, List.length_nil]; with_reducible omega))
local macro_rules | `(tactic| walk_at "rd1") => `(tactic| first
  | (with_reducible refine i_seq ?_) | (with_reducible refine i_asg ?_) | (with_reducible refine i_ret ?_) | (with_reducible refine i_name ?_) | ((with_reducible refine' i_var ?q1 ?_); (case q1 => exact rfl)) | (with_reducible refine i_c ?_) | (with_reducible refine i_op ?_) | (with_reducible refine i_un ?_)
  | (with_reducible refine i_rI0 ?_) | (with_reducible refine i_cb ?_) | (with_reducible refine i_cons ?_) | (with_reducible refine i_nil ?_) | (with_reducible refine i_call ?_) | (with_reducible refine i_if ?_) | (with_reducible refine i_ifE ?_) | (with_reducible refine i_test ?_) | (with_reducible refine i_bl ?_)
  | (with_reducible refine i_and ?_) | (with_reducible refine i_or ?_) | (with_reducible refine i_not ?_) | (with_reducible refine i_lst ?_) | (with_reducible refine i_tup ?_) | (with_reducible refine i_next ?_) | (with_reducible refine i_drop ?_) | (with_reducible refine i_sub ?_)
  | (with_reducible refine i_bm ?_) | (with_reducible refine i_sl ?_) | (with_reducible refine i_part ?_) | (with_reducible refine i_nopart ?_) | (with_reducible refine i_exI ?_) | (with_reducible refine i_chain ?_) | ((with_reducible refine' i_aug ?q1 ?_); (case q1 => exact rfl)) | (with_reducible refine i_ip ?_)
  | (with_reducible refine i_par ?_) | (with_reducible refine i_pair ?_) | (with_reducible refine i_andV ?_) | (with_reducible refine i_orV ?_) | (with_reducible refine i_notV ?_) | (with_reducible refine i_m1 ?_) | (with_reducible refine i_str ?_)
  | (with_reducible refine iteF ?_) | (with_reducible refine iteT ?_) | (with_reducible refine iteNT ?_) | (with_reducible refine iteNF ?_) | (with_reducible refine i_tyS ?_) | (with_reducible refine i_tB ?_) | (with_reducible refine i_retN ?_) | (with_reducible refine i_par3 ?_) | (with_reducible refine i_trip ?_) | (with_reducible refine i_gCons ?_) | (with_reducible refine i_gNil ?_) | (with_reducible refine i_lstRg ?_) | (with_reducible refine i_rg1 ?_)
  | (with_reducible refine i_lc ?_) | (with_reducible refine i_for ?_) | (with_reducible refine i_iList ?_) | (with_reducible refine i_iTup ?_) | (with_reducible refine i_iStr ?_) | (with_reducible refine i_iRng1 ?_) | (with_reducible refine i_iEnS ?_)
  | ((with_reducible refine' i_ixTH ?q1 ?q2 ?_); (case q1 => walk_at "hp"); (case q2 => exact rfl))
  | ((with_reducible refine' i_ixLH ?q1 ?q2 ?_); (case q1 => walk_at "hp"); (case q2 => exact rfl))
  | ((with_reducible refine i_addS ?q1 ?_); (case q1 => walk_at "ln")) | ((with_reducible refine i_lenSS ?q1 ?_); (case q1 => walk_at "ln")) | ((with_reducible refine i_slFrom ?q1 ?q2 ?_); (case q1 => walk_at "ln"); (case q2 => walk_at "ln")) | ((with_reducible refine i_slTo ?q1 ?q2 ?_); (case q1 => walk_at "ln"); (case q2 => walk_at "ln"))
  | ((with_reducible refine' i_tyL ?q1 ?_); (case q1 => walk_at "hp"))
  | ((with_reducible refine' i_gTupH ?q1 ?q2 ?_); (case q1 => walk_at "hp"); (case q2 => exact rfl))
  | (with_reducible refine i_init ?_) | (with_reducible refine i_fst ?_) | (with_reducible refine i_mk ?_) | (with_reducible refine i_raise ?_) | (with_reducible refine i_callS ?_) | (with_reducible refine i_kwS ?_)
  | (with_reducible refine i_revT ?_) | (with_reducible refine i_kw ?_) | ((with_reducible refine' ⟨_, _, rfl, sqT_of ?q1, ?_⟩); (case q1 => walk_at "hp"))
  | (with_reducible refine i_revS ?_) | ((with_reducible refine i_revSS ?q1 ?_); (case q1 => walk_at "ln"))
  | (with_reducible refine i_startS ?_) | (with_reducible refine i_inSg ?_) | (with_reducible refine i_absN ?_) | (with_reducible refine i_min2 ?_) | (with_reducible refine i_max2 ?_) | (with_reducible refine i_min3 ?_) | (with_reducible refine i_intN ?_) | (with_reducible refine i_intNB ?_)
  | ((with_reducible refine' i_lenL ?q1 ?_); (case q1 => walk_at "hp")) | ((with_reducible refine' i_lenT ?q1 ?_); (case q1 => walk_at "hp"))
  | (with_reducible refine i_eqI ?_) | (with_reducible refine i_neI ?_) | (with_reducible refine i_eqS ?_) | (with_reducible refine i_neS ?_) | (with_reducible refine i_isNoI ?_) | (with_reducible refine i_isNoN ?_) | (with_reducible refine i_isNoR ?_)
  | ((with_reducible refine i_pow ?q1 ?q2 ?q3 ?_); (case q1 => decide); (case q2 => decide); (case q3 => (with_reducible omega)))
  | ((with_reducible refine i_rI ?q1 ?_); (case q1 => walk_at "ci"))
  | (with_reducible refine Or.inl ⟨_, rfl, ?_⟩) | (with_reducible refine Or.inr ⟨_, rfl, ?_⟩) | (with_reducible refine ⟨_, rfl, ?_⟩) | (with_reducible refine ⟨_, _, rfl, ?_⟩) | (with_reducible refine ⟨_, _, rfl, rfl, ?_⟩)
  | ((with_reducible refine' ⟨_, _, rfl, Or.inl (sqL_of ?q1), ?_⟩); (case q1 => walk_at "hp")) | ((with_reducible refine' ⟨_, _, rfl, Or.inr (sqT_of ?q1), ?_⟩); (case q1 => walk_at "hp")) | fail)
local macro_rules | `(tactic| walk_at "rd") => `(tactic| repeat' walk_at "rd1")


open Lev (lev)
/-- levenshtein(one, other); distance(one, other) -/
def spLev : Sp := fun vs H Q _ => ∃ (a b : List Nat), vs = [.str (S a), .str (S b)] ∧ a.length ≤ 2000 ∧ b.length ≤ 2000 ∧ azB a = true ∧ azB b = true ∧ ∀ H', Same H H' → Q (.int (lev a b : Nat)) H'
/-- gap_price(before, left, right, behind) -/
def spGap : Sp := fun vs H Q _ => ∃ (p q : Addr) (l r b0 b1 g0 g1 : List Nat), vs = [.ref p, .str (S l), .str (S r), .ref q] ∧ H p = some (.tup [.str (S b0), .str (S b1)]) ∧ H q = some (.tup [.str (S g0), .str (S g1)]) ∧
  (b0 = [] ∨ b1 = []) ∧ (g0 = [] ∨ g1 = []) ∧ azB b0 = true ∧ azB b1 = true ∧ azB g0 = true ∧ azB g1 = true ∧ azB l = true ∧ azB r = true ∧
  b0.length ≤ 500 ∧ b1.length ≤ 500 ∧ g0.length ≤ 500 ∧ g1.length ≤ 500 ∧ l.length ≤ 500 ∧ r.length ≤ 500 ∧
  ∀ H', Same H H' → Q (.int (lev (b0 ++ l ++ g1) (b1 ++ r ++ g0) : Nat)) H'
section
variable {P : Program} {w : World} {K : PySem.W.Frag} {mg : Str → Option Value} {base : Heap} {f : Addr} {fd : FuncData}
theorem ok_lev (F : Fun K "levenshtein" "levenshtein" s_levenshtein f fd) (z : Z mg) (c_distance_within : Cal P w K mg base "distance_within" ["one", "other", "most"] 3 spWithin) : FnOk P w K mg base CX0 4 f fd ["one", "other"] spLev := by
  refine F.ok sc_levenshtein (fun vs H Q E h => ?_) (fun cdv A outer s H vs Q E hr h => ?_)
  · obtain ⟨a, b, rfl, _⟩ := h; rfl
  · obtain ⟨a, b, rfl, ha, hb, _, _, k⟩ := h
    refine ⟨_, (pss_cons (ps_set (i := 2) sc_levenshtein.nd rfl (.inl rfl) (pe_op op_add (pe_callB call_absN (by rfl) z.abs (by decide +kernel) (pa_cons (pe_op op_sub (pe_callB call_lenS (by rfl) z.len PySem.boot_len (pa_cons (pv 0) pa_nil)) (pe_callB call_lenS (by rfl) z.len PySem.boot_len (pa_cons (pv 1) pa_nil))) pa_nil)) pe_int))
      (pss_cons (ps_set (i := 3) sc_levenshtein.nd rfl (.inl rfl) (pe_cal c_distance_within hr (pa_cons (pv 0) (pa_cons (pv 1) (pa_cons (pv 2) pa_nil)))))
      (pss_cons (ps_while PassesOwn.never (pt_cmpR op_isNo (pv 3) pe_non (nomark _))
        (pss_cons (ps_set (i := 2) sc_levenshtein.nd rfl (.inl rfl) (pe_op op_mul pe_int (pv 2)))
        (pss_one (ps_set (i := 3) sc_levenshtein.nd rfl (.inl rfl) (pe_cal c_distance_within hr (pa_cons (pv 0) (pa_cons (pv 1) (pa_cons (pv 2) pa_nil))))))))
      (pss_one (ps_ret (pv 3)))))), ?_⟩
    walk_at "rd"
    obtain ⟨m0, em0⟩ : ∃ m0 : Nat, (if (a.length : Int) - (b.length : Int) < 0 then -((a.length : Int) - (b.length : Int)) else (a.length : Int) - (b.length : Int)) + 1 = ((m0 + 1 : Nat) : Int) := by
      split
      · exact ⟨b.length - a.length, by omega⟩
      · exact ⟨a.length - b.length, by omega⟩
    have bm0 : m0 ≤ 2000 := by split at em0 <;> omega
    rw [em0]
    refine ⟨a, b, m0 + 1, rfl, by omega, by omega, by omega, fun H1 s1 => ?_⟩
    walk_at "rd"
    have lb := Lev.lev_le_max a b
    refine go_while (fun n σ H2 => ∃ m : Nat, n = 5000 - m ∧ σ = [some (.str (S a)), some (.str (S b)), some (.int (m : Int)), some (optI (Lev.within a b m))] ∧ Same H H2 ∧ 1 ≤ m ∧ m ≤ 5000 ∧ (Lev.within a b m = none → m ≤ 2000))
      (5000 - (m0 + 1)) ⟨m0 + 1, rfl, rfl, s1, by omega, by omega, fun e => ?_⟩ (fun n σ H2 h2 => ?_)
    · unfold Lev.within at e
      split at e
      · cases e
      · omega
    · obtain ⟨m, rfl, rfl, s2, h1, h5, h3⟩ := h2
      walk_at "rd"
      cases e : Lev.within a b m with
      | none =>
        have bm := h3 e
        show rIsNo .non .non H2 _
        walk_at "rd"
        refine ⟨_, fun _ _ q => q, ?_⟩
        walk_at "rd"
        refine ⟨a, b, 2 * m, by rw [show (2 : Int) * (m : Int) = ((2 * m : Nat) : Int) by omega] <;> rfl, by omega, by omega, by omega, fun H3 s3 => ?_⟩
        walk_at "rd"
        have e2 : (2 : Int) * (m : Int) = ((2 * m : Nat) : Int) := by omega
        refine ⟨5000 - 2 * m, by omega, 2 * m, rfl, ?_, s2.trans s3, by omega, by omega, fun q => ?_⟩
        · rw [e2]; rfl
        · unfold Lev.within at q
          split at q
          · cases q
          · omega
      | some v =>
        show rIsNo (.int v) .non H2 _
        walk_at "rd"
        have ev : v = lev a b := by
          unfold Lev.within at e
          split at e
          · exact (Option.some.inj e).symm
          · cases e
        rw [ev]
        exact k _ s2
theorem ok_distance (F : Fun K "distance" "distance" s_distance f fd) (c_levenshtein : Cal P w K mg base "levenshtein" ["one", "other"] 4 spLev) (c_check_text : Cal P w K mg base "check_text" ["text"] 2 spCheckText) :
    FnOk P w K mg base CX0 5 f fd ["one", "other"] spLev := by
  refine F.ok sc_distance (fun vs H Q E h => ?_) (fun cdv A outer s H vs Q E hr h => ?_)
  · obtain ⟨a, b, rfl, _⟩ := h; rfl
  · obtain ⟨a, b, rfl, ha, hb, za, zb, k⟩ := h
    refine ⟨_, (pss_cons (ps_expr (pe_cal c_check_text hr (pa_cons (pv 0) pa_nil)))
      (pss_cons (ps_expr (pe_cal c_check_text hr (pa_cons (pv 1) pa_nil)))
      (pss_one (ps_ret (pe_cal c_levenshtein hr (pa_cons (pv 0) (pa_cons (pv 1) pa_nil))))))), ?_⟩
    walk_at "rd"
    refine ⟨a, rfl, by omega, za, fun H1 s1 => ?_⟩
    walk_at "rd"
    refine ⟨b, rfl, by omega, zb, fun H2 s2 => ?_⟩
    walk_at "rd"
    refine ⟨a, b, rfl, by omega, by omega, za, zb, fun H3 s3 => ?_⟩
    exact k _ (s1.trans (s2.trans s3))
theorem ok_gap (F : Fun K "gap_price" "gap_price" s_gap_price f fd) (c_distance : Cal P w K mg base "distance" ["one", "other"] 5 spLev) (c_check_text : Cal P w K mg base "check_text" ["text"] 2 spCheckText) (c_is_lag : Cal P w K mg base "is_lag" ["value"] 2 (spIsLag K)) :
    FnOk P w K mg base CX0 6 f fd ["before", "left", "right", "behind"] spGap := by
  refine F.ok sc_gap_price (fun vs H Q E h => ?_) (fun cdv A outer s H vs Q E hr h => ?_)
  · obtain ⟨p, q, l, r, b0, b1, g0, g1, rfl, _⟩ := h; rfl
  · obtain ⟨p, q, l, r, b0, b1, g0, g1, rfl, hp, hq, eb, eg, z1, z2, z3, z4, z5, z6, n1, n2, n3, n4, n5, n6, k⟩ := h
    refine ⟨_, (pss_cons (ps_if (pt_not (pt_val (pe_cal c_is_lag hr (pa_cons (pv 0) pa_nil))))
        (pss_one ps_never)
        pss_nil)
      (pss_cons (ps_expr (pe_cal c_check_text hr (pa_cons (pv 1) pa_nil)))
      (pss_cons (ps_expr (pe_cal c_check_text hr (pa_cons (pv 2) pa_nil)))
      (pss_cons (ps_if (pt_not (pt_val (pe_cal c_is_lag hr (pa_cons (pv 3) pa_nil))))
        (pss_one ps_never)
        pss_nil)
      (pss_one (ps_ret (pe_cal c_distance hr (pa_cons (pe_op op_addS (pe_op op_addS (pe_ix ix_tup (pv 0) pe_int (fun _ _ => rfl)) (pv 1)) (pe_ix ix_tup (pv 3) pe_int (fun _ _ => rfl))) (pa_cons (pe_op op_addS (pe_op op_addS (pe_ix ix_tup (pv 0) pe_int (fun _ _ => rfl)) (pv 2)) (pe_ix ix_tup (pv 3) pe_int (fun _ _ => rfl))) pa_nil))))))))), ?_⟩
    walk_at "rd"
    refine ⟨p, b0, b1, rfl, hp, by omega, by omega, z1, z2, eb, fun H1 s1 => ?_⟩
    walk_at "rd"
    refine ⟨l, rfl, by omega, z5, fun H2 s2 => ?_⟩
    walk_at "rd"
    refine ⟨r, rfl, by omega, z6, fun H3 s3 => ?_⟩
    walk_at "rd"
    refine ⟨q, g0, g1, rfl, by walk_at "hp", by omega, by omega, z3, z4, eg, fun H4 s4 => ?_⟩
    walk_at "rd"
    refine ⟨b0 ++ l ++ g1, b1 ++ r ++ g0, rfl, by walk_at "ln", by walk_at "ln", by simp only [azB_app, z1, z4, z5, Bool.and_self], by simp only [azB_app, z2, z3, z6, Bool.and_self], fun H5 s5 => ?_⟩
    exact k _ (s1.trans (s2.trans (s3.trans (s4.trans s5))))
end
end Sw
namespace Sw
open PySem PySem.Spec PyProof.Rows L2
local macro_rules | `(tactic| walk_at "hp") => `(tactic| first
  | (with_reducible assumption) | (with_reducible exact upd_same)
  | ((with_reducible refine' upd_old ?q1 ?q2); (case q1 => (with_reducible assumption)); (case q2 => walk_at "hp"))
  | ((with_reducible refine' Same.at ?q1 ?q2); (case q1 => (with_reducible assumption)); (case q2 => walk_at "hp"))
  | ((with_reducible refine' upd_skip ?q1 ?q2); (case q1 => walk_at "ne"); (case q2 => walk_at "hp"))
  | fail)
local macro_rules | `(tactic| walk_at "ne") => `(tactic| first
  | (with_reducible assumption) | (with_reducible exact Ne.symm (by assumption))
  | ((with_reducible refine' ne_of_none ?q1 ?q2); (case q2 => (with_reducible assumption)); (case q1 => walk_at "hp"))
  | fail)
local macro_rules | `(tactic| walk_at "ci") => `(tactic| first | assumption | (show (0 : Int) < _; first | decide | (with_reducible omega)) | exact ⟨by decide, by decide⟩ | exact .inl ⟨by decide, by decide⟩ | exact .inr ⟨by decide, by decide⟩)
local macro_rules | `(tactic| walk_at "ln") => `(tactic| first | (with_reducible assumption) | (with_reducible omega) | (simp only [List.length_append, List.length_take, List.length_drop, List.length_reverse, List.length_cons, List.length_nil]; with_reducible omega))
local macro_rules | `(tactic| walk_at "rd1") => `(tactic| first
  | (with_reducible refine i_seq ?_) | (with_reducible refine i_asg ?_) | (with_reducible refine i_ret ?_) | (with_reducible refine i_name ?_) | ((with_reducible refine' i_var ?q1 ?_); (case q1 => exact rfl)) | (with_reducible refine i_c ?_) | (with_reducible refine i_op ?_) | (with_reducible refine i_un ?_)
  | (with_reducible refine i_rI0 ?_) | (with_reducible refine i_cb ?_) | (with_reducible refine i_cons ?_) | (with_reducible refine i_nil ?_) | (with_reducible refine i_call ?_) | (with_reducible refine i_if ?_) | (with_reducible refine i_ifE ?_) | (with_reducible refine i_test ?_) | (with_reducible refine i_bl ?_)
  | (with_reducible refine i_and ?_) | (with_reducible refine i_or ?_) | (with_reducible refine i_not ?_) | (with_reducible refine i_lst ?_) | (with_reducible refine i_tup ?_) | (with_reducible refine i_next ?_) | (with_reducible refine i_drop ?_) | (with_reducible refine i_sub ?_)
  | (with_reducible refine i_bm ?_) | (with_reducible refine i_sl ?_) | (with_reducible refine i_part ?_) | (with_reducible refine i_nopart ?_) | (with_reducible refine i_exI ?_) | (with_reducible refine i_chain ?_) | ((with_reducible refine' i_aug ?q1 ?_); (case q1 => exact rfl)) | (with_reducible refine i_ip ?_)
  | (with_reducible refine i_par ?_) | (with_reducible refine i_pair ?_) | (with_reducible refine i_andV ?_) | (with_reducible refine i_orV ?_) | (with_reducible refine i_notV ?_) | (with_reducible refine i_m1 ?_) | (with_reducible refine i_str ?_)
  | (with_reducible refine iteF ?_) | (with_reducible refine iteT ?_) | (with_reducible refine iteNT ?_) | (with_reducible refine iteNF ?_) | (with_reducible refine i_tyS ?_) | (with_reducible refine i_tB ?_) | (with_reducible refine i_retN ?_) | (with_reducible refine i_par3 ?_) | (with_reducible refine i_trip ?_) | (with_reducible refine i_gCons ?_) | (with_reducible refine i_gNil ?_) | (with_reducible refine i_lstRg ?_) | (with_reducible refine i_rg1 ?_)
  | (with_reducible refine i_lc ?_) | (with_reducible refine i_for ?_) | (with_reducible refine i_iList ?_) | (with_reducible refine i_iTup ?_) | (with_reducible refine i_iStr ?_) | (with_reducible refine i_iRng1 ?_) | (with_reducible refine i_iEnS ?_)
  | ((with_reducible refine' i_ixTH ?q1 ?q2 ?_); (case q1 => walk_at "hp"); (case q2 => exact rfl))
  | ((with_reducible refine' i_ixLH ?q1 ?q2 ?_); (case q1 => walk_at "hp"); (case q2 => exact rfl))
  | ((with_reducible refine i_addS ?q1 ?_); (case q1 => walk_at "ln")) | ((with_reducible refine i_lenSS ?q1 ?_); (case q1 => walk_at "ln")) | ((with_reducible refine i_slFrom ?q1 ?q2 ?_); (case q1 => walk_at "ln"); (case q2 => walk_at "ln")) | ((with_reducible refine i_slTo ?q1 ?q2 ?_); (case q1 => walk_at "ln"); (case q2 => walk_at "ln"))
  | ((with_reducible refine' i_tyL ?q1 ?_); (case q1 => walk_at "hp"))
  | ((with_reducible refine' i_gTupH ?q1 ?q2 ?_); (case q1 => walk_at "hp"); (case q2 => exact rfl))
  | (with_reducible refine i_dnew ?_) | (with_reducible refine i_init ?_) | (with_reducible refine i_fst ?_) | (with_reducible refine i_mk ?_) | (with_reducible refine i_raise ?_) | (with_reducible refine i_callS ?_) | (with_reducible refine i_kwS ?_)
  | (with_reducible refine i_revT ?_) | (with_reducible refine i_kw ?_) | ((with_reducible refine' ⟨_, _, rfl, sqT_of ?q1, ?_⟩); (case q1 => walk_at "hp"))
  | (with_reducible refine i_revS ?_) | ((with_reducible refine i_revSS ?q1 ?_); (case q1 => walk_at "ln"))
  | (with_reducible refine i_startS ?_) | (with_reducible refine i_inSg ?_) | (with_reducible refine i_absN ?_) | (with_reducible refine i_min2 ?_) | (with_reducible refine i_max2 ?_) | (with_reducible refine i_min3 ?_) | (with_reducible refine i_intN ?_) | (with_reducible refine i_intNB ?_)
  | ((with_reducible refine' i_lenL ?q1 ?_); (case q1 => walk_at "hp")) | ((with_reducible refine' i_lenT ?q1 ?_); (case q1 => walk_at "hp"))
  | (with_reducible refine i_eqI ?_) | (with_reducible refine i_neI ?_) | (with_reducible refine i_eqS ?_) | (with_reducible refine i_neS ?_) | (with_reducible refine i_isNoI ?_) | (with_reducible refine i_isNoN ?_) | (with_reducible refine i_isNoR ?_)
  | ((with_reducible refine i_pow ?q1 ?q2 ?q3 ?_); (case q1 => decide); (case q2 => decide); (case q3 => (with_reducible omega)))
  | ((with_reducible refine i_rI ?q1 ?_); (case q1 => walk_at "ci"))
  | (with_reducible refine Or.inl ⟨_, rfl, ?_⟩) | (with_reducible refine Or.inr ⟨_, rfl, ?_⟩) | (with_reducible refine ⟨_, rfl, ?_⟩) | (with_reducible refine ⟨_, _, rfl, ?_⟩) | (with_reducible refine ⟨_, _, rfl, rfl, ?_⟩)
  | ((with_reducible refine' ⟨_, _, rfl, Or.inl (sqL_of ?q1), ?_⟩); (case q1 => walk_at "hp")) | ((with_reducible refine' ⟨_, _, rfl, Or.inr (sqT_of ?q1), ?_⟩); (case q1 => walk_at "hp")) | fail)
local macro_rules | `(tactic| walk_at "rd") => `(tactic| repeat' walk_at "rd1")

/-- gap_price(before, left, right, behind), of anything: a price, or the first bad value is told -/
def spGapX (K : PySem.W.Frag) (C : Addr) : Sp := fun vs H Q E => ∃ (p l r q : V) (bp bl br bq : Bool), vs = [p, l, r, q] ∧ IsL K H p bp ∧ IsT K H l bl ∧ IsT K H r br ∧ IsL K H q bq ∧
  ((bl = true → ∀ x, l = .str (S x) → x.length ≤ 500) ∧ (br = true → ∀ x, r = .str (S x) → x.length ≤ 500)) ∧ (∀ a x y, ((p = .ref a ∧ bp = true) ∨ (q = .ref a ∧ bq = true)) → H a = some (.tup [.str (S x), .str (S y)]) → x.length ≤ 500 ∧ y.length ≤ 500) ∧
  (bp = true → bl = true → br = true → bq = true → ∀ (n : Nat) H', Same H H' → Q (.int (n : Int)) H') ∧
  (∀ v, (if bp = false then v = p else if bl = false then v = l else if br = false then v = r else bq = false ∧ v = q) → ∀ dx H', H dx = none → Same H H' → H' dx = some (.xd [("given", v)]) → E (.ref C) (some dx) H')
theorem IsL.yes {K : PySem.W.Frag} {H : Hp} {v : V} (h : IsL K H v true) : ∃ a l r, v = .ref a ∧ H a = some (.tup [.str (S l), .str (S r)]) ∧ l.length ≤ 100000 ∧ r.length ≤ 100000 ∧ azB l = true ∧ azB r = true ∧ (l = [] ∨ r = []) := by
  rcases h with ⟨t, h1, h2, h3⟩ | ⟨a, xs, rfl, h1, h2, h3⟩ | ⟨a, x, y, bx, by', rfl, h1, h2, h3, h4⟩
  · cases h3
  · cases h3
  · cases bx with
    | false => cases h4
    | true =>
      cases by' with
      | false => cases h4
      | true =>
        obtain ⟨l, rfl, l1, l2⟩ := h2.yes
        obtain ⟨r, rfl, r1, r2⟩ := h3.yes
        refine ⟨a, l, r, rfl, h1, l1, r1, l2, r2, ?_⟩
        have h4 := h4.symm
        rw [Bool.true_and, Bool.true_and, Bool.or_eq_true] at h4
        rcases h4 with h4 | h4
        · exact .inl (S_inj.mp (V.str.inj (of_decide_eq_true h4)))
        · exact .inr (S_inj.mp (V.str.inj (of_decide_eq_true h4)))
section
variable {P : Program} {w : World} {K : PySem.W.Frag} {mg : Str → Option Value} {base : Heap} {f : Addr} {fd : FuncData}
theorem ok_gapX {C : Addr} (F : Fun K "gap_price" "gap_price" s_gap_price f fd) (xt : XT P w K mg base C) (x_check_text : CalX P w K mg base "check_text" ["text"] 3 (spCheckX K C)) (c_is_lag : Cal P w K mg base "is_lag" ["value"] 2 (spIsL K)) (c_distance : Cal P w K mg base "distance" ["one", "other"] 5 spLev) :
    FnOk P w K mg base (L2.CX P w) 6 f fd ["before", "left", "right", "behind"] (spGapX K C) := by
  refine Sw.Fun.okX F sc_gap_price (fun vs H Q E h => ?_) (fun cdv A outer s H vs Q E hr h tk => ?_)
  · obtain ⟨p, l, r, q, _, _, _, _, rfl, _⟩ := h; rfl
  · obtain ⟨p, l, r, q, bp, bl, br, bq, rfl, hp, hl, hr', hq, n1, n2, k1, k2⟩ := h
    refine ⟨_, (pss_cons (ps_if (pt_not (pt_val (pe_cal c_is_lag hr (pa_cons (pv 0) pa_nil))))
        (pss_one (ps_rs rfl tk (pmk_T xt hr (pv 0))))
        pss_nil)
      (pss_cons (ps_expr (pe_calX x_check_text hr tk (pa_cons (pv 1) pa_nil)))
      (pss_cons (ps_expr (pe_calX x_check_text hr tk (pa_cons (pv 2) pa_nil)))
      (pss_cons (ps_if (pt_not (pt_val (pe_cal c_is_lag hr (pa_cons (pv 3) pa_nil))))
        (pss_one (ps_rs rfl tk (pmk_T xt hr (pv 3))))
        pss_nil)
      (pss_one (ps_ret (pe_cal c_distance hr (pa_cons (pe_op op_addS (pe_op op_addS (pe_ix ix_tup (pv 0) pe_int (fun _ _ => rfl)) (pv 1)) (pe_ix ix_tup (pv 3) pe_int (fun _ _ => rfl))) (pa_cons (pe_op op_addS (pe_op op_addS (pe_ix ix_tup (pv 0) pe_int (fun _ _ => rfl)) (pv 2)) (pe_ix ix_tup (pv 3) pe_int (fun _ _ => rfl))) pa_nil))))))))), ?_⟩
    walk_at "rd"
    refine ⟨p, bp, rfl, hp, fun H1 s1 => ?_⟩
    walk_at "rd"
    refine iteNC (fun e => ?_) (fun e => ?_)
    · walk_at "rd"
      refine i_thrown xt.T xt.no (fun dx nx => ?_)
      exact k2 p (by rw [if_pos e]) dx _ (s1.free nx) (s1.trans (same_upd nx)) upd_same
    subst e
    walk_at "rd"
    refine ⟨l, bl, rfl, hl.same s1, fun e H2 s2 => ?_, fun e dx H2 nx s2 ed => ?_⟩
    rotate_left
    · exact k2 l (by rw [if_neg (by simp), if_pos e]) dx _ (s1.free nx) (s1.trans s2) ed
    subst e
    walk_at "rd"
    have s12 := s1.trans s2
    refine ⟨r, br, rfl, hr'.same s12, fun e H3 s3 => ?_, fun e dx H3 nx s3 ed => ?_⟩
    rotate_left
    · exact k2 r (by rw [if_neg (by simp), if_neg (by simp), if_pos e]) dx _ (s12.free nx) (s12.trans s3) ed
    subst e
    walk_at "rd"
    have s13 := s12.trans s3
    refine ⟨q, bq, rfl, hq.same s13, fun H4 s4 => ?_⟩
    walk_at "rd"
    have s14 := s13.trans s4
    refine iteNC (fun e => ?_) (fun e => ?_)
    · walk_at "rd"
      refine i_thrown xt.T xt.no (fun dx nx => ?_)
      exact k2 q (by rw [if_neg (by simp), if_neg (by simp), if_neg (by simp)]; exact ⟨e, rfl⟩) dx _ (s14.free nx) (s14.trans (same_upd nx)) upd_same
    subst e
    obtain ⟨a, b0, b1, rfl, ha, _, _, z1, z2, eb⟩ := hp.yes
    obtain ⟨c, g0, g1, rfl, hc, _, _, z3, z4, eg⟩ := hq.yes
    obtain ⟨l, rfl, _, z5⟩ := hl.yes
    obtain ⟨r, rfl, _, z6⟩ := hr'.yes
    have m1 := n2 a b0 b1 (.inl ⟨rfl, rfl⟩) ha
    have m2 := n2 c g0 g1 (.inr ⟨rfl, rfl⟩) hc
    have m3 := n1.1 rfl l rfl
    have m4 := n1.2 rfl r rfl
    have ha4 := s14 _ _ ha
    have hc4 := s14 _ _ hc
    walk_at "rd"
    refine ⟨b0 ++ l ++ g1, b1 ++ r ++ g0, rfl, by walk_at "ln", by walk_at "ln", by simp only [azB_app, z1, z4, z5, Bool.and_self], by simp only [azB_app, z2, z3, z6, Bool.and_self], fun H5 s5 => ?_⟩
    exact k1 rfl rfl rfl rfl _ _ (s14.trans s5)
end
end Sw
namespace Sw
open PySem PySem.Spec PyProof.Rows L2
local macro_rules | `(tactic| walk_at "hp") => `(tactic| first
  | (with_reducible assumption) | (with_reducible exact upd_same)
  | ((with_reducible refine' upd_old ?q1 ?q2); (case q1 => (with_reducible assumption)); (case q2 => walk_at "hp"))
  | ((with_reducible refine' Same.at ?q1 ?q2); (case q1 => (with_reducible assumption)); (case q2 => walk_at "hp"))
  | ((with_reducible refine' upd_skip ?q1 ?q2); (case q1 => walk_at "ne"); (case q2 => walk_at "hp"))
  | fail)
local macro_rules | `(tactic| walk_at "ne") => `(tactic| first
  | (with_reducible assumption) | (with_reducible exact Ne.symm (by assumption))
  | ((with_reducible refine' ne_of_none ?q1 ?q2); (case q2 => (with_reducible assumption)); (case q1 => walk_at "hp"))
  | fail)
local macro_rules | `(tactic| walk_at "ci") => `(tactic| first | assumption | (show (0 : Int) < _; first | decide | (with_reducible omega)) | exact ⟨by decide, by decide⟩ | exact .inl ⟨by decide, by decide⟩ | exact .inr ⟨by decide, by decide⟩)
local macro_rules | `(tactic| walk_at "ln") => `(tactic| first | (with_reducible assumption) | (with_reducible omega) | (simp only [List.length_append, List.length_take, List.length_drop, List.length_reverse, List.length_cons, List.length_nil]; with_reducible omega))
local macro_rules | `(tactic| walk_at "rd1") => `(tactic| first
  | (with_reducible refine i_seq ?_) | (with_reducible refine i_asg ?_) | (with_reducible refine i_ret ?_) | (with_reducible refine i_name ?_) | ((with_reducible refine' i_var ?q1 ?_); (case q1 => exact rfl)) | (with_reducible refine i_c ?_) | (with_reducible refine i_op ?_) | (with_reducible refine i_un ?_)
  | (with_reducible refine i_rI0 ?_) | (with_reducible refine i_cb ?_) | (with_reducible refine i_cons ?_) | (with_reducible refine i_nil ?_) | (with_reducible refine i_call ?_) | (with_reducible refine i_if ?_) | (with_reducible refine i_ifE ?_) | (with_reducible refine i_test ?_) | (with_reducible refine i_bl ?_)
  | (with_reducible refine i_and ?_) | (with_reducible refine i_or ?_) | (with_reducible refine i_not ?_) | (with_reducible refine i_lst ?_) | (with_reducible refine i_tup ?_) | (with_reducible refine i_next ?_) | (with_reducible refine i_drop ?_) | (with_reducible refine i_sub ?_)
  | (with_reducible refine i_bm ?_) | (with_reducible refine i_sl ?_) | (with_reducible refine i_part ?_) | (with_reducible refine i_nopart ?_) | (with_reducible refine i_exI ?_) | (with_reducible refine i_chain ?_) | ((with_reducible refine' i_aug ?q1 ?_); (case q1 => exact rfl)) | (with_reducible refine i_ip ?_)
  | (with_reducible refine i_par ?_) | (with_reducible refine i_pair ?_) | (with_reducible refine i_andV ?_) | (with_reducible refine i_orV ?_) | (with_reducible refine i_notV ?_) | (with_reducible refine i_m1 ?_) | (with_reducible refine i_str ?_)
  | (with_reducible refine iteF ?_) | (with_reducible refine iteT ?_) | (with_reducible refine iteNT ?_) | (with_reducible refine iteNF ?_) | (with_reducible refine i_tyS ?_) | (with_reducible refine i_tB ?_) | (with_reducible refine i_retN ?_) | (with_reducible refine i_par3 ?_) | (with_reducible refine i_trip ?_) | (with_reducible refine i_gCons ?_) | (with_reducible refine i_gNil ?_) | (with_reducible refine i_lstRg ?_) | (with_reducible refine i_rg1 ?_)
  | (with_reducible refine i_lc ?_) | (with_reducible refine i_for ?_) | (with_reducible refine i_iList ?_) | (with_reducible refine i_iTup ?_) | (with_reducible refine i_iStr ?_) | (with_reducible refine i_iRng1 ?_) | (with_reducible refine i_iEnS ?_)
  | ((with_reducible refine' i_ixTH ?q1 ?q2 ?_); (case q1 => walk_at "hp"); (case q2 => exact rfl))
  | ((with_reducible refine' i_ixLH ?q1 ?q2 ?_); (case q1 => walk_at "hp"); (case q2 => exact rfl))
  | ((with_reducible refine i_addS ?q1 ?_); (case q1 => walk_at "ln")) | ((with_reducible refine i_lenSS ?q1 ?_); (case q1 => walk_at "ln")) | ((with_reducible refine i_slFrom ?q1 ?q2 ?_); (case q1 => walk_at "ln"); (case q2 => walk_at "ln")) | ((with_reducible refine i_slTo ?q1 ?q2 ?_); (case q1 => walk_at "ln"); (case q2 => walk_at "ln"))
  | ((with_reducible refine' i_tyL ?q1 ?_); (case q1 => walk_at "hp"))
  | ((with_reducible refine' i_gTupH ?q1 ?q2 ?_); (case q1 => walk_at "hp"); (case q2 => exact rfl))
  | (with_reducible refine i_dnew ?_) | (with_reducible refine i_init ?_) | (with_reducible refine i_fst ?_) | (with_reducible refine i_mk ?_) | (with_reducible refine i_raise ?_) | (with_reducible refine i_callS ?_) | (with_reducible refine i_kwS ?_)
  | (with_reducible refine i_revT ?_) | (with_reducible refine i_kw ?_) | ((with_reducible refine' ⟨_, _, rfl, sqT_of ?q1, ?_⟩); (case q1 => walk_at "hp"))
  | (with_reducible refine i_revS ?_) | ((with_reducible refine i_revSS ?q1 ?_); (case q1 => walk_at "ln"))
  | (with_reducible refine i_startS ?_) | (with_reducible refine i_inSg ?_) | (with_reducible refine i_absN ?_) | (with_reducible refine i_min2 ?_) | (with_reducible refine i_max2 ?_) | (with_reducible refine i_min3 ?_) | (with_reducible refine i_intN ?_) | (with_reducible refine i_intNB ?_)
  | ((with_reducible refine' i_lenL ?q1 ?_); (case q1 => walk_at "hp")) | ((with_reducible refine' i_lenT ?q1 ?_); (case q1 => walk_at "hp"))
  | (with_reducible refine i_eqI ?_) | (with_reducible refine i_neI ?_) | (with_reducible refine i_eqS ?_) | (with_reducible refine i_neS ?_) | (with_reducible refine i_isNoI ?_) | (with_reducible refine i_isNoN ?_) | (with_reducible refine i_isNoR ?_)
  | ((with_reducible refine i_pow ?q1 ?q2 ?q3 ?_); (case q1 => decide); (case q2 => decide); (case q3 => (with_reducible omega)))
  | ((with_reducible refine i_rI ?q1 ?_); (case q1 => walk_at "ci"))
  | (with_reducible refine Or.inl ⟨_, rfl, ?_⟩) | (with_reducible refine Or.inr ⟨_, rfl, ?_⟩) | (with_reducible refine ⟨_, rfl, ?_⟩) | (with_reducible refine ⟨_, _, rfl, ?_⟩) | (with_reducible refine ⟨_, _, rfl, rfl, ?_⟩)
  | ((with_reducible refine' ⟨_, _, rfl, Or.inl (sqL_of ?q1), ?_⟩); (case q1 => walk_at "hp")) | ((with_reducible refine' ⟨_, _, rfl, Or.inr (sqT_of ?q1), ?_⟩); (case q1 => walk_at "hp")) | fail)
local macro_rules | `(tactic| walk_at "rd") => `(tactic| repeat' walk_at "rd1")

theorem SB.at' {b a : Addr} {H H' : Hp} {o : HO} (s : SB b H H') (n : a ≠ b) (h : H a = some o) : H' a = some o := s _ _ n h
theorem ne_tl {H : Hp} {a b : Addr} {xs ys : List V} (h1 : H a = some (.tup xs)) (h2 : H b = some (.lst ys)) : a ≠ b := by
  rintro rfl
  rw [h1] at h2
  cases h2
theorem isL_two {K : PySem.W.Frag} {H : Hp} {a : Addr} {x y : V} {bx by' : Bool} (h : H a = some (.tup [x, y])) (hx : IsT K H x bx) (hy : IsT K H y by') (e : false = (bx && by' && (decide (x = .str (S [])) || decide (y = .str (S []))))) : IsL K H (.ref a) false := .inr (.inr ⟨a, x, y, bx, by', rfl, h, hx, hy, e⟩)
theorem isT_str {K : PySem.W.Frag} {H : Hp} (l : List Nat) (h : l.length ≤ 100000) : IsT K H (.str (S l)) (azB l) := .inl ⟨l, rfl, h, rfl⟩
local macro_rules | `(tactic| walk_at "ist") => `(tactic| first
  | exact isT_str _ (by decide)
  | exact .inr ⟨_, .base .non, kit_ty (by decide +kernel), rfl⟩ | exact .inr ⟨_, .base (.bl _), kit_ty (by decide +kernel), rfl⟩ | exact .inr ⟨_, .base (.int _), kit_ty (by decide +kernel), rfl⟩
  | exact .inr ⟨_, .base (.lst (by with_reducible assumption)), kit_ty (by decide +kernel), rfl⟩ | exact .inr ⟨_, .base (.tup (by with_reducible assumption)), kit_ty (by decide +kernel), rfl⟩ | fail)
local macro_rules | `(tactic| walk_at "isl") => `(tactic| first
  | exact .inl ⟨_, .base .non, kit_ty (by decide +kernel), rfl⟩ | exact .inl ⟨_, .base (.bl _), kit_ty (by decide +kernel), rfl⟩ | exact .inl ⟨_, .base (.int _), kit_ty (by decide +kernel), rfl⟩ | exact .inl ⟨_, .base (.str _), kit_ty (by decide +kernel), rfl⟩
  | exact .inl ⟨_, .base (.lst (by with_reducible assumption)), kit_ty (by decide +kernel), rfl⟩ | exact .inl ⟨_, .base (.dK (by with_reducible assumption)), kit_ty (by decide +kernel), rfl⟩
  | ((refine' .inr (.inl ⟨_, _, rfl, ?q1, ?q2, rfl⟩)); (case q1 => with_reducible assumption); (case q2 => simp only [List.length_cons, List.length_nil]; decide))
  | exact isL_two (by with_reducible assumption) (by walk_at "ist") (by walk_at "ist") (by first | rfl | (simp only [S_dec]; decide) | (simp only [S_dec]; rfl) | decide)
  | fail)
local macro_rules | `(tactic| walk_at "dp") => `(tactic| first
  | exact .non | exact .bl _ | exact .int _ | exact .str _
  | ((refine' .lst (sqL_of ?q1) ?q2); (case q1 => with_reducible assumption); (case q2 => walk_at "dpa")) | ((refine' .tup (sqT_of ?q1) ?q2); (case q1 => with_reducible assumption); (case q2 => walk_at "dpa")) | fail)
local macro_rules | `(tactic| walk_at "dpa") => `(tactic| first | exact .nil | ((refine' .cons ?q1 ?q2); (case q1 => walk_at "dp"); (case q2 => walk_at "dpa")) | fail)
local macro_rules | `(tactic| walk_at "db") => `(tactic| first
  | exact .non | exact .bl _ | exact .int _ | exact .str _
  | ((refine' .tup (sqT_of (SB.at' ?q1 (ne_tl ?q2 ?q3) ?q2)) ?q4); (case q1 => assumption); (case q2 => with_reducible assumption); (case q3 => with_reducible assumption); (case q4 => walk_at "dba")) | fail)
local macro_rules | `(tactic| walk_at "dba") => `(tactic| first | exact .nil | ((refine' .cons ?q1 ?q2); (case q1 => walk_at "db"); (case q2 => walk_at "dba")) | fail)
local macro_rules | `(tactic| walk_at "fit") => `(tactic| refine ⟨by decide +kernel, by decide +kernel, by decide +kernel⟩)
local macro_rules | `(tactic| walk_at "odd") => `(tactic| first
  | ((refine' .inl ⟨_, _, _, rfl, ?q1, ?q2, ?q3, ?q4, ?q5⟩); (case q1 => with_reducible assumption); (case q2 => (intro _ _; walk_at "dba")); (case q3 => exact Nat.le_of_ble_eq_true rfl); (case q4 => decide +kernel); (case q5 => walk_at "fit"))
  | ((refine' .inr ⟨_, _, .base .non, kit_ty (by decide +kernel), .inl .non, ?q1, ?q2⟩); (case q1 => (intro q; cases q)); (case q2 => walk_at "fit"))
  | ((refine' .inr ⟨_, _, .base (.bl _), kit_ty (by decide +kernel), .inl (.bl _), ?q1, ?q2⟩); (case q1 => (intro q; cases q)); (case q2 => walk_at "fit"))
  | ((refine' .inr ⟨_, _, .base (.int _), kit_ty (by decide +kernel), .inl (.int _), ?q1, ?q2⟩); (case q1 => (intro q; cases q)); (case q2 => walk_at "fit"))
  | ((refine' .inr ⟨_, _, .base (.str _), kit_ty (by decide +kernel), .inl (.str _), ?q1, ?q2⟩); (case q1 => (intro q; cases q)); (case q2 => walk_at "fit"))
  | ((refine' .inr ⟨_, _, .base (.tup ?q0), kit_ty (by decide +kernel), .inl ?q3, ?q1, ?q2⟩); (case q0 => with_reducible assumption); (case q3 => walk_at "dp"); (case q1 => (intro q; exact absurd q (by decide +kernel))); (case q2 => walk_at "fit"))
  | ((refine' .inr ⟨_, _, .base (.dK ?q0), kit_ty (by decide +kernel), .inr ⟨_, rfl, ?q3, rfl⟩, ?q1, ?q2⟩); (case q0 => with_reducible assumption); (case q3 => with_reducible assumption); (case q1 => (intro _; rfl)); (case q2 => walk_at "fit"))
  | fail)
/-! ### values of any kind, as repr shows them -/
def Shw (K : PySem.W.Frag) (H : Hp) (v : V) (d : PyData) : Prop := Dp K H v d ∨ ∃ a, v = .ref a ∧ H a = some (.dK []) ∧ d = .dict []
def Fits (d : PyData) : Prop := d.showable = true ∧ d.depth ≤ 60 ∧ d.shown.length ≤ sizeLine
/-- what is new since H stands in the third heap as in the second -/
def NewKept (H H' H'' : Hp) : Prop := ∀ a o, H a = none → H' a = some o → H'' a = some o
/-- a list of a few data, or something else that can be shown -/
def Odd (K : PySem.W.Frag) (H : Hp) (v : V) : Prop := (∃ a xs ds, v = .ref a ∧ H a = some (.lst xs) ∧ (∀ H', SB a H H' → DpAll K H' xs ds) ∧ xs.length ≤ 3 ∧ (PyData.list (ds ++ [.str (S [109, 111, 114, 101])])).hasDict = false ∧ Fits (.list (ds ++ [.str (S [109, 111, 114, 101])]))) ∨
  (∃ t d, TyX K H v t ∧ PySem.W.kitOne K t (.type "list") = some false ∧ Shw K H v d ∧ (d.hasDict = true → d = .dict []) ∧ Fits d)
/-- _law_odd_lags() -/
def spOddLags (K : PySem.W.Frag) : Sp := fun vs H Q _ => vs = [] ∧ ∀ (p : Addr) (H' : Hp) (xs : List V), Same H H' → H p = none → H' p = some (.lst xs) → xs.length = 20 → (∀ H'', NewKept H H' H'' → ∀ v ∈ xs, IsL K H'' v false ∧ Odd K H'' v) → (∀ v ∈ xs, ∀ a, v = .ref a → H a = none) → Q (.ref p) H'
section
variable {P : Program} {w : World} {K : PySem.W.Frag} {mg : Str → Option Value} {base : Heap} {f : Addr} {fd : FuncData}
theorem ok_odd_lags (F : Fun K "_law_odd_lags" "_law_odd_lags" s__law_odd_lags f fd) : FnOk P w K mg base CX0 1 f fd [] (spOddLags K) := by
  refine F.ok sc__law_odd_lags (fun vs H Q E h => ?_) (fun cdv A outer s H vs Q E hr h => ?_)
  · obtain ⟨rfl, _⟩ := h; rfl
  · obtain ⟨rfl, k⟩ := h
    refine ⟨_, (pss_cons (ps_set (i := 0) sc__law_odd_lags.nd rfl (.inl rfl) (pe_lst (pa_cons (pe_tup (pa_cons (pe_strS (l := [97]) (by decide +kernel)) (pa_cons (pe_strS (l := [98]) (by decide +kernel)) pa_nil))) (pa_cons (pe_lst (pa_cons (pe_strS (l := []) (by decide +kernel)) (pa_cons (pe_strS (l := []) (by decide +kernel)) pa_nil))) (pa_cons (pe_tup (pa_cons (pe_strS (l := []) (by decide +kernel)) pa_nil)) (pa_cons (pe_tup (pa_cons (pe_strS (l := []) (by decide +kernel)) (pa_cons (pe_strS (l := []) (by decide +kernel)) (pa_cons (pe_strS (l := []) (by decide +kernel)) pa_nil)))) (pa_cons (pe_strS (l := []) (by decide +kernel)) (pa_cons (pe_strS (l := [97]) (by decide +kernel)) (pa_cons (pe_tup (pa_cons (pe_strS (l := [65]) (by decide +kernel)) (pa_cons (pe_strS (l := []) (by decide +kernel)) pa_nil))) (pa_cons (pe_tup (pa_cons (pe_strS (l := []) (by decide +kernel)) (pa_cons pe_int pa_nil))) (pa_cons (pe_tup (pa_cons pe_non (pa_cons (pe_strS (l := []) (by decide +kernel)) pa_nil))) (pa_cons (pe_lst (pa_cons (pe_strS (l := [97]) (by decide +kernel)) (pa_cons (pe_strS (l := []) (by decide +kernel)) pa_nil))) (pa_cons pe_int pa_nil)))))))))))))
      (pss_one (ps_ret (pe_op op_cat (pv 0) (pe_lst (pa_cons (pe_tup (pa_cons (pe_strS (l := []) (by decide +kernel)) (pa_cons (pe_strS (l := [97, 32]) (by decide +kernel)) pa_nil))) (pa_cons (pe_tup (pa_cons (pe_tup (pa_cons (pe_strS (l := []) (by decide +kernel)) pa_nil)) (pa_cons (pe_strS (l := []) (by decide +kernel)) pa_nil))) (pa_cons pe_non (pa_cons pe_dnewK (pa_cons pe_bl (pa_cons (pe_tup (pa_cons (pe_strS (l := []) (by decide +kernel)) (pa_cons (pe_lst (pa_cons (pe_strS (l := [97]) (by decide +kernel)) pa_nil)) pa_nil))) (pa_cons (pe_tup (pa_cons (pe_strS (l := [97, 10]) (by decide +kernel)) (pa_cons (pe_strS (l := []) (by decide +kernel)) pa_nil))) (pa_cons (pe_lst (pa_cons (pe_tup (pa_cons (pe_strS (l := []) (by decide +kernel)) (pa_cons (pe_strS (l := []) (by decide +kernel)) pa_nil))) pa_nil)) (pa_cons (pe_tup (pa_cons (pe_strS (l := [45]) (by decide +kernel)) (pa_cons (pe_strS (l := []) (by decide +kernel)) pa_nil))) pa_nil)))))))))))))), ?_⟩
    walk_at "rd"
    refine ⟨Nat.le_of_ble_eq_true rfl, fun p1 n1 => ?_⟩
    walk_at "rd"
    refine ⟨Nat.le_of_ble_eq_true rfl, fun p2 n2 => ?_⟩
    walk_at "rd"
    refine ⟨Nat.le_of_ble_eq_true rfl, fun p3 n3 => ?_⟩
    walk_at "rd"
    refine ⟨Nat.le_of_ble_eq_true rfl, fun p4 n4 => ?_⟩
    walk_at "rd"
    refine ⟨Nat.le_of_ble_eq_true rfl, fun p5 n5 => ?_⟩
    walk_at "rd"
    refine ⟨Nat.le_of_ble_eq_true rfl, fun p6 n6 => ?_⟩
    walk_at "rd"
    refine ⟨Nat.le_of_ble_eq_true rfl, fun p7 n7 => ?_⟩
    walk_at "rd"
    refine ⟨Nat.le_of_ble_eq_true rfl, fun p8 n8 => ?_⟩
    walk_at "rd"
    refine ⟨Nat.le_of_ble_eq_true rfl, fun p9 n9 => ?_⟩
    walk_at "rd"
    refine ⟨Nat.le_of_ble_eq_true rfl, fun p10 n10 => ?_⟩
    walk_at "rd"
    refine ⟨Nat.le_of_ble_eq_true rfl, fun p11 n11 => ?_⟩
    walk_at "rd"
    refine ⟨Nat.le_of_ble_eq_true rfl, fun p12 n12 => ?_⟩
    walk_at "rd"
    intro p13 n13
    walk_at "rd"
    refine ⟨Nat.le_of_ble_eq_true rfl, fun p14 n14 => ?_⟩
    walk_at "rd"
    refine ⟨Nat.le_of_ble_eq_true rfl, fun p15 n15 => ?_⟩
    walk_at "rd"
    refine ⟨Nat.le_of_ble_eq_true rfl, fun p16 n16 => ?_⟩
    walk_at "rd"
    refine ⟨Nat.le_of_ble_eq_true rfl, fun p17 n17 => ?_⟩
    walk_at "rd"
    refine ⟨Nat.le_of_ble_eq_true rfl, fun p18 n18 => ?_⟩
    walk_at "rd"
    refine ⟨Nat.le_of_ble_eq_true rfl, fun p19 n19 => ?_⟩
    walk_at "rd"
    refine ⟨Nat.le_of_ble_eq_true rfl, fun p20 n20 => ?_⟩
    walk_at "rd"
    refine ⟨p9, p20, _, _, rfl, rfl, (upd_old n20 (upd_old n19 (upd_old n18 (upd_old n17 (upd_old n16 (upd_old n15 (upd_old n14 (upd_old n13 (upd_old n12 (upd_old n11 (upd_old n10 upd_same))))))))))), upd_same, Nat.le_of_ble_eq_true rfl, fun p21 n21 => ?_⟩
    have e1 := (upd_old (o := .lst ([V.ref p1, V.ref p2, V.ref p3, V.ref p4, V.str (S []), V.str (S [97]), V.ref p5, V.ref p6, V.ref p7, V.ref p8, V.int 0] ++ [V.ref p10, V.ref p12, V.non, V.ref p13, V.bl true, V.ref p15, V.ref p16, V.ref p18, V.ref p19])) n21 (upd_old n20 (upd_old n19 (upd_old n18 (upd_old n17 (upd_old n16 (upd_old n15 (upd_old n14 (upd_old n13 (upd_old n12 (upd_old n11 (upd_old n10 (upd_old n9 (upd_old n8 (upd_old n7 (upd_old n6 (upd_old n5 (upd_old n4 (upd_old n3 (upd_old n2 upd_same))))))))))))))))))))
    have e2 := (upd_old (o := .lst ([V.ref p1, V.ref p2, V.ref p3, V.ref p4, V.str (S []), V.str (S [97]), V.ref p5, V.ref p6, V.ref p7, V.ref p8, V.int 0] ++ [V.ref p10, V.ref p12, V.non, V.ref p13, V.bl true, V.ref p15, V.ref p16, V.ref p18, V.ref p19])) n21 (upd_old n20 (upd_old n19 (upd_old n18 (upd_old n17 (upd_old n16 (upd_old n15 (upd_old n14 (upd_old n13 (upd_old n12 (upd_old n11 (upd_old n10 (upd_old n9 (upd_old n8 (upd_old n7 (upd_old n6 (upd_old n5 (upd_old n4 (upd_old n3 upd_same)))))))))))))))))))
    have e3 := (upd_old (o := .lst ([V.ref p1, V.ref p2, V.ref p3, V.ref p4, V.str (S []), V.str (S [97]), V.ref p5, V.ref p6, V.ref p7, V.ref p8, V.int 0] ++ [V.ref p10, V.ref p12, V.non, V.ref p13, V.bl true, V.ref p15, V.ref p16, V.ref p18, V.ref p19])) n21 (upd_old n20 (upd_old n19 (upd_old n18 (upd_old n17 (upd_old n16 (upd_old n15 (upd_old n14 (upd_old n13 (upd_old n12 (upd_old n11 (upd_old n10 (upd_old n9 (upd_old n8 (upd_old n7 (upd_old n6 (upd_old n5 (upd_old n4 upd_same))))))))))))))))))
    have e4 := (upd_old (o := .lst ([V.ref p1, V.ref p2, V.ref p3, V.ref p4, V.str (S []), V.str (S [97]), V.ref p5, V.ref p6, V.ref p7, V.ref p8, V.int 0] ++ [V.ref p10, V.ref p12, V.non, V.ref p13, V.bl true, V.ref p15, V.ref p16, V.ref p18, V.ref p19])) n21 (upd_old n20 (upd_old n19 (upd_old n18 (upd_old n17 (upd_old n16 (upd_old n15 (upd_old n14 (upd_old n13 (upd_old n12 (upd_old n11 (upd_old n10 (upd_old n9 (upd_old n8 (upd_old n7 (upd_old n6 (upd_old n5 upd_same)))))))))))))))))
    have e5 := (upd_old (o := .lst ([V.ref p1, V.ref p2, V.ref p3, V.ref p4, V.str (S []), V.str (S [97]), V.ref p5, V.ref p6, V.ref p7, V.ref p8, V.int 0] ++ [V.ref p10, V.ref p12, V.non, V.ref p13, V.bl true, V.ref p15, V.ref p16, V.ref p18, V.ref p19])) n21 (upd_old n20 (upd_old n19 (upd_old n18 (upd_old n17 (upd_old n16 (upd_old n15 (upd_old n14 (upd_old n13 (upd_old n12 (upd_old n11 (upd_old n10 (upd_old n9 (upd_old n8 (upd_old n7 (upd_old n6 upd_same))))))))))))))))
    have e6 := (upd_old (o := .lst ([V.ref p1, V.ref p2, V.ref p3, V.ref p4, V.str (S []), V.str (S [97]), V.ref p5, V.ref p6, V.ref p7, V.ref p8, V.int 0] ++ [V.ref p10, V.ref p12, V.non, V.ref p13, V.bl true, V.ref p15, V.ref p16, V.ref p18, V.ref p19])) n21 (upd_old n20 (upd_old n19 (upd_old n18 (upd_old n17 (upd_old n16 (upd_old n15 (upd_old n14 (upd_old n13 (upd_old n12 (upd_old n11 (upd_old n10 (upd_old n9 (upd_old n8 (upd_old n7 upd_same)))))))))))))))
    have e7 := (upd_old (o := .lst ([V.ref p1, V.ref p2, V.ref p3, V.ref p4, V.str (S []), V.str (S [97]), V.ref p5, V.ref p6, V.ref p7, V.ref p8, V.int 0] ++ [V.ref p10, V.ref p12, V.non, V.ref p13, V.bl true, V.ref p15, V.ref p16, V.ref p18, V.ref p19])) n21 (upd_old n20 (upd_old n19 (upd_old n18 (upd_old n17 (upd_old n16 (upd_old n15 (upd_old n14 (upd_old n13 (upd_old n12 (upd_old n11 (upd_old n10 (upd_old n9 (upd_old n8 upd_same))))))))))))))
    have e8 := (upd_old (o := .lst ([V.ref p1, V.ref p2, V.ref p3, V.ref p4, V.str (S []), V.str (S [97]), V.ref p5, V.ref p6, V.ref p7, V.ref p8, V.int 0] ++ [V.ref p10, V.ref p12, V.non, V.ref p13, V.bl true, V.ref p15, V.ref p16, V.ref p18, V.ref p19])) n21 (upd_old n20 (upd_old n19 (upd_old n18 (upd_old n17 (upd_old n16 (upd_old n15 (upd_old n14 (upd_old n13 (upd_old n12 (upd_old n11 (upd_old n10 (upd_old n9 upd_same)))))))))))))
    have e9 := (upd_old (o := .lst ([V.ref p1, V.ref p2, V.ref p3, V.ref p4, V.str (S []), V.str (S [97]), V.ref p5, V.ref p6, V.ref p7, V.ref p8, V.int 0] ++ [V.ref p10, V.ref p12, V.non, V.ref p13, V.bl true, V.ref p15, V.ref p16, V.ref p18, V.ref p19])) n21 (upd_old n20 (upd_old n19 (upd_old n18 (upd_old n17 (upd_old n16 (upd_old n15 (upd_old n14 (upd_old n13 (upd_old n12 (upd_old n11 (upd_old n10 upd_same))))))))))))
    have e10 := (upd_old (o := .lst ([V.ref p1, V.ref p2, V.ref p3, V.ref p4, V.str (S []), V.str (S [97]), V.ref p5, V.ref p6, V.ref p7, V.ref p8, V.int 0] ++ [V.ref p10, V.ref p12, V.non, V.ref p13, V.bl true, V.ref p15, V.ref p16, V.ref p18, V.ref p19])) n21 (upd_old n20 (upd_old n19 (upd_old n18 (upd_old n17 (upd_old n16 (upd_old n15 (upd_old n14 (upd_old n13 (upd_old n12 (upd_old n11 upd_same)))))))))))
    have e11 := (upd_old (o := .lst ([V.ref p1, V.ref p2, V.ref p3, V.ref p4, V.str (S []), V.str (S [97]), V.ref p5, V.ref p6, V.ref p7, V.ref p8, V.int 0] ++ [V.ref p10, V.ref p12, V.non, V.ref p13, V.bl true, V.ref p15, V.ref p16, V.ref p18, V.ref p19])) n21 (upd_old n20 (upd_old n19 (upd_old n18 (upd_old n17 (upd_old n16 (upd_old n15 (upd_old n14 (upd_old n13 (upd_old n12 upd_same))))))))))
    have e12 := (upd_old (o := .lst ([V.ref p1, V.ref p2, V.ref p3, V.ref p4, V.str (S []), V.str (S [97]), V.ref p5, V.ref p6, V.ref p7, V.ref p8, V.int 0] ++ [V.ref p10, V.ref p12, V.non, V.ref p13, V.bl true, V.ref p15, V.ref p16, V.ref p18, V.ref p19])) n21 (upd_old n20 (upd_old n19 (upd_old n18 (upd_old n17 (upd_old n16 (upd_old n15 (upd_old n14 (upd_old n13 upd_same)))))))))
    have e13 := (upd_old (o := .lst ([V.ref p1, V.ref p2, V.ref p3, V.ref p4, V.str (S []), V.str (S [97]), V.ref p5, V.ref p6, V.ref p7, V.ref p8, V.int 0] ++ [V.ref p10, V.ref p12, V.non, V.ref p13, V.bl true, V.ref p15, V.ref p16, V.ref p18, V.ref p19])) n21 (upd_old n20 (upd_old n19 (upd_old n18 (upd_old n17 (upd_old n16 (upd_old n15 (upd_old n14 upd_same))))))))
    have e14 := (upd_old (o := .lst ([V.ref p1, V.ref p2, V.ref p3, V.ref p4, V.str (S []), V.str (S [97]), V.ref p5, V.ref p6, V.ref p7, V.ref p8, V.int 0] ++ [V.ref p10, V.ref p12, V.non, V.ref p13, V.bl true, V.ref p15, V.ref p16, V.ref p18, V.ref p19])) n21 (upd_old n20 (upd_old n19 (upd_old n18 (upd_old n17 (upd_old n16 (upd_old n15 upd_same)))))))
    have e15 := (upd_old (o := .lst ([V.ref p1, V.ref p2, V.ref p3, V.ref p4, V.str (S []), V.str (S [97]), V.ref p5, V.ref p6, V.ref p7, V.ref p8, V.int 0] ++ [V.ref p10, V.ref p12, V.non, V.ref p13, V.bl true, V.ref p15, V.ref p16, V.ref p18, V.ref p19])) n21 (upd_old n20 (upd_old n19 (upd_old n18 (upd_old n17 (upd_old n16 upd_same))))))
    have e16 := (upd_old (o := .lst ([V.ref p1, V.ref p2, V.ref p3, V.ref p4, V.str (S []), V.str (S [97]), V.ref p5, V.ref p6, V.ref p7, V.ref p8, V.int 0] ++ [V.ref p10, V.ref p12, V.non, V.ref p13, V.bl true, V.ref p15, V.ref p16, V.ref p18, V.ref p19])) n21 (upd_old n20 (upd_old n19 (upd_old n18 (upd_old n17 upd_same)))))
    have e17 := (upd_old (o := .lst ([V.ref p1, V.ref p2, V.ref p3, V.ref p4, V.str (S []), V.str (S [97]), V.ref p5, V.ref p6, V.ref p7, V.ref p8, V.int 0] ++ [V.ref p10, V.ref p12, V.non, V.ref p13, V.bl true, V.ref p15, V.ref p16, V.ref p18, V.ref p19])) n21 (upd_old n20 (upd_old n19 (upd_old n18 upd_same))))
    have e18 := (upd_old (o := .lst ([V.ref p1, V.ref p2, V.ref p3, V.ref p4, V.str (S []), V.str (S [97]), V.ref p5, V.ref p6, V.ref p7, V.ref p8, V.int 0] ++ [V.ref p10, V.ref p12, V.non, V.ref p13, V.bl true, V.ref p15, V.ref p16, V.ref p18, V.ref p19])) n21 (upd_old n20 (upd_old n19 upd_same)))
    have e19 := (upd_old (o := .lst ([V.ref p1, V.ref p2, V.ref p3, V.ref p4, V.str (S []), V.str (S [97]), V.ref p5, V.ref p6, V.ref p7, V.ref p8, V.int 0] ++ [V.ref p10, V.ref p12, V.non, V.ref p13, V.bl true, V.ref p15, V.ref p16, V.ref p18, V.ref p19])) n21 (upd_old n20 upd_same))
    have e20 := (upd_old (o := .lst ([V.ref p1, V.ref p2, V.ref p3, V.ref p4, V.str (S []), V.str (S [97]), V.ref p5, V.ref p6, V.ref p7, V.ref p8, V.int 0] ++ [V.ref p10, V.ref p12, V.non, V.ref p13, V.bl true, V.ref p15, V.ref p16, V.ref p18, V.ref p19])) n21 upd_same)
    have f1 := (show Same H _ from (Same.refl H)).free n1
    have f2 := (show Same H _ from (Same.upd_new (Same.refl H) n1)).free n2
    have f3 := (show Same H _ from (Same.upd_new (Same.upd_new (Same.refl H) n1) n2)).free n3
    have f4 := (show Same H _ from (Same.upd_new (Same.upd_new (Same.upd_new (Same.refl H) n1) n2) n3)).free n4
    have f5 := (show Same H _ from (Same.upd_new (Same.upd_new (Same.upd_new (Same.upd_new (Same.refl H) n1) n2) n3) n4)).free n5
    have f6 := (show Same H _ from (Same.upd_new (Same.upd_new (Same.upd_new (Same.upd_new (Same.upd_new (Same.refl H) n1) n2) n3) n4) n5)).free n6
    have f7 := (show Same H _ from (Same.upd_new (Same.upd_new (Same.upd_new (Same.upd_new (Same.upd_new (Same.upd_new (Same.refl H) n1) n2) n3) n4) n5) n6)).free n7
    have f8 := (show Same H _ from (Same.upd_new (Same.upd_new (Same.upd_new (Same.upd_new (Same.upd_new (Same.upd_new (Same.upd_new (Same.refl H) n1) n2) n3) n4) n5) n6) n7)).free n8
    have f9 := (show Same H _ from (Same.upd_new (Same.upd_new (Same.upd_new (Same.upd_new (Same.upd_new (Same.upd_new (Same.upd_new (Same.upd_new (Same.refl H) n1) n2) n3) n4) n5) n6) n7) n8)).free n9
    have f10 := (show Same H _ from (Same.upd_new (Same.upd_new (Same.upd_new (Same.upd_new (Same.upd_new (Same.upd_new (Same.upd_new (Same.upd_new (Same.upd_new (Same.refl H) n1) n2) n3) n4) n5) n6) n7) n8) n9)).free n10
    have f11 := (show Same H _ from (Same.upd_new (Same.upd_new (Same.upd_new (Same.upd_new (Same.upd_new (Same.upd_new (Same.upd_new (Same.upd_new (Same.upd_new (Same.upd_new (Same.refl H) n1) n2) n3) n4) n5) n6) n7) n8) n9) n10)).free n11
    have f12 := (show Same H _ from (Same.upd_new (Same.upd_new (Same.upd_new (Same.upd_new (Same.upd_new (Same.upd_new (Same.upd_new (Same.upd_new (Same.upd_new (Same.upd_new (Same.upd_new (Same.refl H) n1) n2) n3) n4) n5) n6) n7) n8) n9) n10) n11)).free n12
    have f13 := (show Same H _ from (Same.upd_new (Same.upd_new (Same.upd_new (Same.upd_new (Same.upd_new (Same.upd_new (Same.upd_new (Same.upd_new (Same.upd_new (Same.upd_new (Same.upd_new (Same.upd_new (Same.refl H) n1) n2) n3) n4) n5) n6) n7) n8) n9) n10) n11) n12)).free n13
    have f14 := (show Same H _ from (Same.upd_new (Same.upd_new (Same.upd_new (Same.upd_new (Same.upd_new (Same.upd_new (Same.upd_new (Same.upd_new (Same.upd_new (Same.upd_new (Same.upd_new (Same.upd_new (Same.upd_new (Same.refl H) n1) n2) n3) n4) n5) n6) n7) n8) n9) n10) n11) n12) n13)).free n14
    have f15 := (show Same H _ from (Same.upd_new (Same.upd_new (Same.upd_new (Same.upd_new (Same.upd_new (Same.upd_new (Same.upd_new (Same.upd_new (Same.upd_new (Same.upd_new (Same.upd_new (Same.upd_new (Same.upd_new (Same.upd_new (Same.refl H) n1) n2) n3) n4) n5) n6) n7) n8) n9) n10) n11) n12) n13) n14)).free n15
    have f16 := (show Same H _ from (Same.upd_new (Same.upd_new (Same.upd_new (Same.upd_new (Same.upd_new (Same.upd_new (Same.upd_new (Same.upd_new (Same.upd_new (Same.upd_new (Same.upd_new (Same.upd_new (Same.upd_new (Same.upd_new (Same.upd_new (Same.refl H) n1) n2) n3) n4) n5) n6) n7) n8) n9) n10) n11) n12) n13) n14) n15)).free n16
    have f17 := (show Same H _ from (Same.upd_new (Same.upd_new (Same.upd_new (Same.upd_new (Same.upd_new (Same.upd_new (Same.upd_new (Same.upd_new (Same.upd_new (Same.upd_new (Same.upd_new (Same.upd_new (Same.upd_new (Same.upd_new (Same.upd_new (Same.upd_new (Same.refl H) n1) n2) n3) n4) n5) n6) n7) n8) n9) n10) n11) n12) n13) n14) n15) n16)).free n17
    have f18 := (show Same H _ from (Same.upd_new (Same.upd_new (Same.upd_new (Same.upd_new (Same.upd_new (Same.upd_new (Same.upd_new (Same.upd_new (Same.upd_new (Same.upd_new (Same.upd_new (Same.upd_new (Same.upd_new (Same.upd_new (Same.upd_new (Same.upd_new (Same.upd_new (Same.refl H) n1) n2) n3) n4) n5) n6) n7) n8) n9) n10) n11) n12) n13) n14) n15) n16) n17)).free n18
    have f19 := (show Same H _ from (Same.upd_new (Same.upd_new (Same.upd_new (Same.upd_new (Same.upd_new (Same.upd_new (Same.upd_new (Same.upd_new (Same.upd_new (Same.upd_new (Same.upd_new (Same.upd_new (Same.upd_new (Same.upd_new (Same.upd_new (Same.upd_new (Same.upd_new (Same.upd_new (Same.refl H) n1) n2) n3) n4) n5) n6) n7) n8) n9) n10) n11) n12) n13) n14) n15) n16) n17) n18)).free n19
    have f20 := (show Same H _ from (Same.upd_new (Same.upd_new (Same.upd_new (Same.upd_new (Same.upd_new (Same.upd_new (Same.upd_new (Same.upd_new (Same.upd_new (Same.upd_new (Same.upd_new (Same.upd_new (Same.upd_new (Same.upd_new (Same.upd_new (Same.upd_new (Same.upd_new (Same.upd_new (Same.upd_new (Same.refl H) n1) n2) n3) n4) n5) n6) n7) n8) n9) n10) n11) n12) n13) n14) n15) n16) n17) n18) n19)).free n20
    have sm := (Same.upd_new (o := .lst [V.ref p10, V.ref p12, V.non, V.ref p13, V.bl true, V.ref p15, V.ref p16, V.ref p18, V.ref p19]) (Same.upd_new (Same.upd_new (Same.upd_new (Same.upd_new (Same.upd_new (Same.upd_new (Same.upd_new (Same.upd_new (Same.upd_new (Same.upd_new (Same.upd_new (Same.upd_new (Same.upd_new (Same.upd_new (Same.upd_new (Same.upd_new (Same.upd_new (Same.upd_new (Same.upd_new (Same.refl H) n1) n2) n3) n4) n5) n6) n7) n8) n9) n10) n11) n12) n13) n14) n15) n16) n17) n18) n19) n20)
    refine k p21 _ _ (Same.upd_new sm n21) (sm.free n21) upd_same rfl (fun H'' hk => ?_) ?_
    · replace e1 := hk _ _ f1 e1
      replace e2 := hk _ _ f2 e2
      replace e3 := hk _ _ f3 e3
      replace e4 := hk _ _ f4 e4
      replace e5 := hk _ _ f5 e5
      replace e6 := hk _ _ f6 e6
      replace e7 := hk _ _ f7 e7
      replace e8 := hk _ _ f8 e8
      replace e9 := hk _ _ f9 e9
      replace e10 := hk _ _ f10 e10
      replace e11 := hk _ _ f11 e11
      replace e12 := hk _ _ f12 e12
      replace e13 := hk _ _ f13 e13
      replace e14 := hk _ _ f14 e14
      replace e15 := hk _ _ f15 e15
      replace e16 := hk _ _ f16 e16
      replace e17 := hk _ _ f17 e17
      replace e18 := hk _ _ f18 e18
      replace e19 := hk _ _ f19 e19
      replace e20 := hk _ _ f20 e20
      repeat' (first | exact List.forall_mem_nil _ | refine List.forall_mem_cons.mpr ⟨⟨?_, ?_⟩, ?_⟩)
      all_goals (first | walk_at "isl" | walk_at "odd")
    · repeat' (first | exact List.forall_mem_nil _ | refine List.forall_mem_cons.mpr ⟨?_, ?_⟩)
      all_goals (first | (intro _ q; cases q; done) | (intro _ q; cases q; with_reducible assumption))
end
end Sw
namespace Sw
open PySem PySem.Spec PyProof.Rows L2
local macro_rules | `(tactic| walk_at "hp") => `(tactic| first
  | (with_reducible assumption) | (with_reducible exact upd_same)
  | ((with_reducible refine' upd_old ?q1 ?q2); (case q1 => (with_reducible assumption)); (case q2 => walk_at "hp"))
  | ((with_reducible refine' Same.at ?q1 ?q2); (case q1 => (with_reducible assumption)); (case q2 => walk_at "hp"))
  | ((with_reducible refine' upd_skip ?q1 ?q2); (case q1 => walk_at "ne"); (case q2 => walk_at "hp"))
  | fail)
local macro_rules | `(tactic| walk_at "ne") => `(tactic| first
  | (with_reducible assumption) | (with_reducible exact Ne.symm (by assumption))
  | ((with_reducible refine' ne_of_none ?q1 ?q2); (case q2 => (with_reducible assumption)); (case q1 => walk_at "hp"))
  | fail)
local macro_rules | `(tactic| walk_at "ci") => `(tactic| first | assumption | (show (0 : Int) < _; first | decide | (with_reducible omega)) | exact ⟨by decide, by decide⟩ | exact .inl ⟨by decide, by decide⟩ | exact .inr ⟨by decide, by decide⟩)
local macro_rules | `(tactic| walk_at "ln") => `(tactic| first | (with_reducible assumption) | (with_reducible omega) | (simp only [List.length_append, List.length_take, List.length_drop, List.length_reverse, List.length_cons, List.length_nil]; with_reducible omega))
local macro_rules | `(tactic| walk_at "rd1") => `(tactic| first
  | (with_reducible refine i_seq ?_) | (with_reducible refine i_asg ?_) | (with_reducible refine i_ret ?_) | (with_reducible refine i_name ?_) | ((with_reducible refine' i_var ?q1 ?_); (case q1 => exact rfl)) | (with_reducible refine i_c ?_) | (with_reducible refine i_op ?_) | (with_reducible refine i_un ?_)
  | (with_reducible refine i_rI0 ?_) | (with_reducible refine i_cb ?_) | (with_reducible refine i_cons ?_) | (with_reducible refine i_nil ?_) | (with_reducible refine i_call ?_) | (with_reducible refine i_if ?_) | (with_reducible refine i_ifE ?_) | (with_reducible refine i_test ?_) | (with_reducible refine i_bl ?_)
  | (with_reducible refine i_and ?_) | (with_reducible refine i_or ?_) | (with_reducible refine i_not ?_) | (with_reducible refine i_lst ?_) | (with_reducible refine i_tup ?_) | (with_reducible refine i_next ?_) | (with_reducible refine i_drop ?_) | (with_reducible refine i_sub ?_)
  | (with_reducible refine i_bm ?_) | (with_reducible refine i_sl ?_) | (with_reducible refine i_part ?_) | (with_reducible refine i_nopart ?_) | (with_reducible refine i_exI ?_) | (with_reducible refine i_chain ?_) | ((with_reducible refine' i_aug ?q1 ?_); (case q1 => exact rfl)) | (with_reducible refine i_ip ?_)
  | (with_reducible refine i_par ?_) | (with_reducible refine i_pair ?_) | (with_reducible refine i_andV ?_) | (with_reducible refine i_orV ?_) | (with_reducible refine i_notV ?_) | (with_reducible refine i_m1 ?_) | (with_reducible refine i_str ?_)
  | (with_reducible refine iteF ?_) | (with_reducible refine iteT ?_) | (with_reducible refine iteNT ?_) | (with_reducible refine iteNF ?_) | (with_reducible refine i_tyS ?_) | (with_reducible refine i_tB ?_) | (with_reducible refine i_retN ?_) | (with_reducible refine i_par3 ?_) | (with_reducible refine i_trip ?_) | (with_reducible refine i_gCons ?_) | (with_reducible refine i_gNil ?_) | (with_reducible refine i_lstRg ?_) | (with_reducible refine i_rg1 ?_)
  | (with_reducible refine i_lc ?_) | (with_reducible refine i_for ?_) | (with_reducible refine i_iList ?_) | (with_reducible refine i_iTup ?_) | (with_reducible refine i_iStr ?_) | (with_reducible refine i_iRng1 ?_) | (with_reducible refine i_iEnS ?_)
  | ((with_reducible refine' i_ixTH ?q1 ?q2 ?_); (case q1 => walk_at "hp"); (case q2 => exact rfl))
  | ((with_reducible refine' i_ixLH ?q1 ?q2 ?_); (case q1 => walk_at "hp"); (case q2 => exact rfl))
  | ((with_reducible refine i_addS ?q1 ?_); (case q1 => walk_at "ln")) | ((with_reducible refine i_lenSS ?q1 ?_); (case q1 => walk_at "ln")) | ((with_reducible refine i_slFrom ?q1 ?q2 ?_); (case q1 => walk_at "ln"); (case q2 => walk_at "ln")) | ((with_reducible refine i_slTo ?q1 ?q2 ?_); (case q1 => walk_at "ln"); (case q2 => walk_at "ln"))
  | ((with_reducible refine' i_tyL ?q1 ?_); (case q1 => walk_at "hp"))
  | ((with_reducible refine' i_gTupH ?q1 ?q2 ?_); (case q1 => walk_at "hp"); (case q2 => exact rfl))
  | (with_reducible refine i_dnew ?_) | (with_reducible refine i_init ?_) | (with_reducible refine i_fst ?_) | (with_reducible refine i_mk ?_) | (with_reducible refine i_raise ?_) | (with_reducible refine i_callS ?_) | (with_reducible refine i_kwS ?_)
  | (with_reducible refine i_revT ?_) | (with_reducible refine i_kw ?_) | ((with_reducible refine' ⟨_, _, rfl, sqT_of ?q1, ?_⟩); (case q1 => walk_at "hp"))
  | (with_reducible refine i_revS ?_) | ((with_reducible refine i_revSS ?q1 ?_); (case q1 => walk_at "ln"))
  | (with_reducible refine i_startS ?_) | (with_reducible refine i_inSg ?_) | (with_reducible refine i_absN ?_) | (with_reducible refine i_min2 ?_) | (with_reducible refine i_max2 ?_) | (with_reducible refine i_min3 ?_) | (with_reducible refine i_intN ?_) | (with_reducible refine i_intNB ?_)
  | ((with_reducible refine' i_lenL ?q1 ?_); (case q1 => walk_at "hp")) | ((with_reducible refine' i_lenT ?q1 ?_); (case q1 => walk_at "hp"))
  | (with_reducible refine i_eqI ?_) | (with_reducible refine i_neI ?_) | (with_reducible refine i_eqS ?_) | (with_reducible refine i_neS ?_) | (with_reducible refine i_isNoI ?_) | (with_reducible refine i_isNoN ?_) | (with_reducible refine i_isNoR ?_)
  | ((with_reducible refine i_pow ?q1 ?q2 ?q3 ?_); (case q1 => decide); (case q2 => decide); (case q3 => (with_reducible omega)))
  | ((with_reducible refine i_rI ?q1 ?_); (case q1 => walk_at "ci"))
  | (with_reducible refine Or.inl ⟨_, rfl, ?_⟩) | (with_reducible refine Or.inr ⟨_, rfl, ?_⟩) | (with_reducible refine ⟨_, rfl, ?_⟩) | (with_reducible refine ⟨_, _, rfl, ?_⟩) | (with_reducible refine ⟨_, _, rfl, rfl, ?_⟩)
  | ((with_reducible refine' ⟨_, _, rfl, Or.inl (sqL_of ?q1), ?_⟩); (case q1 => walk_at "hp")) | ((with_reducible refine' ⟨_, _, rfl, Or.inr (sqT_of ?q1), ?_⟩); (case q1 => walk_at "hp")) | fail)
local macro_rules | `(tactic| walk_at "rd") => `(tactic| repeat' walk_at "rd1")

theorem isT_no {K : PySem.W.Frag} {H : Hp} (l : List Nat) (h : l.length ≤ 100000) (e : azB l = false) : IsT K H (.str (S l)) false := .inl ⟨l, rfl, h, e.symm⟩
local macro_rules | `(tactic| walk_at "ist") => `(tactic| first
  | exact isT_str _ (by decide)
  | exact .inr ⟨_, .base .non, kit_ty (by decide +kernel), rfl⟩ | exact .inr ⟨_, .base (.bl _), kit_ty (by decide +kernel), rfl⟩ | exact .inr ⟨_, .base (.int _), kit_ty (by decide +kernel), rfl⟩
  | exact .inr ⟨_, .base (.lst (by with_reducible assumption)), kit_ty (by decide +kernel), rfl⟩ | exact .inr ⟨_, .base (.tup (by with_reducible assumption)), kit_ty (by decide +kernel), rfl⟩ | fail)
local macro_rules | `(tactic| walk_at "isl") => `(tactic| first
  | exact .inl ⟨_, .base .non, kit_ty (by decide +kernel), rfl⟩ | exact .inl ⟨_, .base (.bl _), kit_ty (by decide +kernel), rfl⟩ | exact .inl ⟨_, .base (.int _), kit_ty (by decide +kernel), rfl⟩ | exact .inl ⟨_, .base (.str _), kit_ty (by decide +kernel), rfl⟩
  | exact .inl ⟨_, .base (.lst (by with_reducible assumption)), kit_ty (by decide +kernel), rfl⟩ | exact .inl ⟨_, .base (.dK (by with_reducible assumption)), kit_ty (by decide +kernel), rfl⟩
  | ((refine' .inr (.inl ⟨_, _, rfl, ?q1, ?q2, rfl⟩)); (case q1 => with_reducible assumption); (case q2 => simp only [List.length_cons, List.length_nil]; decide))
  | exact isL_two (by with_reducible assumption) (by walk_at "ist") (by walk_at "ist") (by first | rfl | (simp only [S_dec]; decide) | (simp only [S_dec]; rfl) | decide)
  | fail)
local macro_rules | `(tactic| walk_at "dp") => `(tactic| first
  | exact .non | exact .bl _ | exact .int _ | exact .str _
  | ((refine' .lst (sqL_of ?q1) ?q2); (case q1 => with_reducible assumption); (case q2 => walk_at "dpa")) | ((refine' .tup (sqT_of ?q1) ?q2); (case q1 => with_reducible assumption); (case q2 => walk_at "dpa")) | fail)
local macro_rules | `(tactic| walk_at "dpa") => `(tactic| first | exact .nil | ((refine' .cons ?q1 ?q2); (case q1 => walk_at "dp"); (case q2 => walk_at "dpa")) | fail)
local macro_rules | `(tactic| walk_at "db") => `(tactic| first
  | exact .non | exact .bl _ | exact .int _ | exact .str _
  | ((refine' .tup (sqT_of (SB.at' ?q1 (ne_tl ?q2 ?q3) ?q2)) ?q4); (case q1 => assumption); (case q2 => with_reducible assumption); (case q3 => with_reducible assumption); (case q4 => walk_at "dba")) | fail)
local macro_rules | `(tactic| walk_at "dba") => `(tactic| first | exact .nil | ((refine' .cons ?q1 ?q2); (case q1 => walk_at "db"); (case q2 => walk_at "dba")) | fail)
local macro_rules | `(tactic| walk_at "fit") => `(tactic| refine ⟨by decide +kernel, by decide +kernel, by decide +kernel⟩)
local macro_rules | `(tactic| walk_at "odd") => `(tactic| first
  | ((refine' .inl ⟨_, _, _, rfl, ?q1, ?q2, ?q3, ?q4, ?q5⟩); (case q1 => with_reducible assumption); (case q2 => (intro _ _; walk_at "dba")); (case q3 => exact Nat.le_of_ble_eq_true rfl); (case q4 => decide +kernel); (case q5 => walk_at "fit"))
  | ((refine' .inr ⟨_, _, .base .non, kit_ty (by decide +kernel), .inl .non, ?q1, ?q2⟩); (case q1 => (intro q; cases q)); (case q2 => walk_at "fit"))
  | ((refine' .inr ⟨_, _, .base (.bl _), kit_ty (by decide +kernel), .inl (.bl _), ?q1, ?q2⟩); (case q1 => (intro q; cases q)); (case q2 => walk_at "fit"))
  | ((refine' .inr ⟨_, _, .base (.int _), kit_ty (by decide +kernel), .inl (.int _), ?q1, ?q2⟩); (case q1 => (intro q; cases q)); (case q2 => walk_at "fit"))
  | ((refine' .inr ⟨_, _, .base (.str _), kit_ty (by decide +kernel), .inl (.str _), ?q1, ?q2⟩); (case q1 => (intro q; cases q)); (case q2 => walk_at "fit"))
  | ((refine' .inr ⟨_, _, .base (.tup ?q0), kit_ty (by decide +kernel), .inl ?q3, ?q1, ?q2⟩); (case q0 => with_reducible assumption); (case q3 => walk_at "dp"); (case q1 => (intro q; exact absurd q (by decide +kernel))); (case q2 => walk_at "fit"))
  | ((refine' .inr ⟨_, _, .base (.dK ?q0), kit_ty (by decide +kernel), .inr ⟨_, rfl, ?q3, rfl⟩, ?q1, ?q2⟩); (case q0 => with_reducible assumption); (case q3 => with_reducible assumption); (case q1 => (intro _; rfl)); (case q2 => walk_at "fit"))
  | fail)
local macro_rules | `(tactic| walk_at "ist2") => `(tactic| first
  | exact isT_no _ (by decide) (by decide)
  | exact .inr ⟨_, .base .non, kit_ty (by decide +kernel), rfl⟩ | exact .inr ⟨_, .base (.bl _), kit_ty (by decide +kernel), rfl⟩ | exact .inr ⟨_, .base (.int _), kit_ty (by decide +kernel), rfl⟩
  | exact .inr ⟨_, .base (.lst (by with_reducible assumption)), kit_ty (by decide +kernel), rfl⟩ | exact .inr ⟨_, .base (.tup (by with_reducible assumption)), kit_ty (by decide +kernel), rfl⟩
  | exact .inr ⟨_, .base (.dK (by with_reducible assumption)), kit_ty (by decide +kernel), rfl⟩ | fail)
/-- _law_odd_texts() -/
def spOddTexts (K : PySem.W.Frag) : Sp := fun vs H Q _ => vs = [] ∧ ∀ (p : Addr) (H' : Hp) (xs : List V), Same H H' → H p = none → H' p = some (.lst xs) → xs.length = 17 → (∀ H'', NewKept H H' H'' → ∀ v ∈ xs, IsT K H'' v false ∧ Odd K H'' v) → (∀ v ∈ xs, ∀ a, v = .ref a → H a = none) → Q (.ref p) H'
section
variable {P : Program} {w : World} {K : PySem.W.Frag} {mg : Str → Option Value} {base : Heap} {f : Addr} {fd : FuncData}
theorem ok_odd_texts (F : Fun K "_law_odd_texts" "_law_odd_texts" s__law_odd_texts f fd) : FnOk P w K mg base CX0 1 f fd [] (spOddTexts K) := by
  refine F.ok sc__law_odd_texts (fun vs H Q E h => ?_) (fun cdv A outer s H vs Q E hr h => ?_)
  · obtain ⟨rfl, _⟩ := h; rfl
  · obtain ⟨rfl, k⟩ := h
    refine ⟨_, (pss_one (ps_ret (pe_lst (pa_cons (pe_strS (l := [65]) (by decide +kernel)) (pa_cons (pe_strS (l := [97, 32, 98]) (by decide +kernel)) (pa_cons pe_int (pa_cons (pe_lst (pa_cons (pe_strS (l := [97]) (by decide +kernel)) pa_nil)) (pa_cons (pe_strS (l := [97, 49]) (by decide +kernel)) (pa_cons (pe_tup (pa_cons (pe_strS (l := [97]) (by decide +kernel)) pa_nil)) (pa_cons pe_bl (pa_cons (pe_strS (l := [45]) (by decide +kernel)) (pa_cons (pe_strS (l := [97, 90]) (by decide +kernel)) (pa_cons (pe_strS (l := [32]) (by decide +kernel)) (pa_cons (pe_strS (l := [97, 10]) (by decide +kernel)) (pa_cons (pe_lst (pa_cons (pe_strS (l := [97]) (by decide +kernel)) (pa_cons (pe_strS (l := [98]) (by decide +kernel)) pa_nil))) (pa_cons (pe_lst pa_nil) (pa_cons (pe_tup pa_nil) (pa_cons pe_non (pa_cons pe_dnewK (pa_cons pe_int pa_nil)))))))))))))))))))), ?_⟩
    walk_at "rd"
    refine ⟨Nat.le_of_ble_eq_true rfl, fun p1 n1 => ?_⟩
    walk_at "rd"
    refine ⟨Nat.le_of_ble_eq_true rfl, fun p2 n2 => ?_⟩
    walk_at "rd"
    refine ⟨Nat.le_of_ble_eq_true rfl, fun p3 n3 => ?_⟩
    walk_at "rd"
    refine ⟨Nat.le_of_ble_eq_true rfl, fun p4 n4 => ?_⟩
    walk_at "rd"
    refine ⟨Nat.le_of_ble_eq_true rfl, fun p5 n5 => ?_⟩
    walk_at "rd"
    intro p6 n6
    walk_at "rd"
    refine ⟨Nat.le_of_ble_eq_true rfl, fun p7 n7 => ?_⟩
    have e1 := (upd_old (o := .lst [V.str (S [65]), V.str (S [97, 32, 98]), V.int 5, V.ref p1, V.str (S [97, 49]), V.ref p2, V.bl true, V.str (S [45]), V.str (S [97, 90]), V.str (S [32]), V.str (S [97, 10]), V.ref p3, V.ref p4, V.ref p5, V.non, V.ref p6, V.int 0]) n7 (upd_old n6 (upd_old n5 (upd_old n4 (upd_old n3 (upd_old n2 upd_same))))))
    have e2 := (upd_old (o := .lst [V.str (S [65]), V.str (S [97, 32, 98]), V.int 5, V.ref p1, V.str (S [97, 49]), V.ref p2, V.bl true, V.str (S [45]), V.str (S [97, 90]), V.str (S [32]), V.str (S [97, 10]), V.ref p3, V.ref p4, V.ref p5, V.non, V.ref p6, V.int 0]) n7 (upd_old n6 (upd_old n5 (upd_old n4 (upd_old n3 upd_same)))))
    have e3 := (upd_old (o := .lst [V.str (S [65]), V.str (S [97, 32, 98]), V.int 5, V.ref p1, V.str (S [97, 49]), V.ref p2, V.bl true, V.str (S [45]), V.str (S [97, 90]), V.str (S [32]), V.str (S [97, 10]), V.ref p3, V.ref p4, V.ref p5, V.non, V.ref p6, V.int 0]) n7 (upd_old n6 (upd_old n5 (upd_old n4 upd_same))))
    have e4 := (upd_old (o := .lst [V.str (S [65]), V.str (S [97, 32, 98]), V.int 5, V.ref p1, V.str (S [97, 49]), V.ref p2, V.bl true, V.str (S [45]), V.str (S [97, 90]), V.str (S [32]), V.str (S [97, 10]), V.ref p3, V.ref p4, V.ref p5, V.non, V.ref p6, V.int 0]) n7 (upd_old n6 (upd_old n5 upd_same)))
    have e5 := (upd_old (o := .lst [V.str (S [65]), V.str (S [97, 32, 98]), V.int 5, V.ref p1, V.str (S [97, 49]), V.ref p2, V.bl true, V.str (S [45]), V.str (S [97, 90]), V.str (S [32]), V.str (S [97, 10]), V.ref p3, V.ref p4, V.ref p5, V.non, V.ref p6, V.int 0]) n7 (upd_old n6 upd_same))
    have e6 := (upd_old (o := .lst [V.str (S [65]), V.str (S [97, 32, 98]), V.int 5, V.ref p1, V.str (S [97, 49]), V.ref p2, V.bl true, V.str (S [45]), V.str (S [97, 90]), V.str (S [32]), V.str (S [97, 10]), V.ref p3, V.ref p4, V.ref p5, V.non, V.ref p6, V.int 0]) n7 upd_same)
    have f1 := (show Same H _ from (Same.refl H)).free n1
    have f2 := (show Same H _ from (Same.upd_new (Same.refl H) n1)).free n2
    have f3 := (show Same H _ from (Same.upd_new (Same.upd_new (Same.refl H) n1) n2)).free n3
    have f4 := (show Same H _ from (Same.upd_new (Same.upd_new (Same.upd_new (Same.refl H) n1) n2) n3)).free n4
    have f5 := (show Same H _ from (Same.upd_new (Same.upd_new (Same.upd_new (Same.upd_new (Same.refl H) n1) n2) n3) n4)).free n5
    have f6 := (show Same H _ from (Same.upd_new (Same.upd_new (Same.upd_new (Same.upd_new (Same.upd_new (Same.refl H) n1) n2) n3) n4) n5)).free n6
    have sm := (Same.upd_new (o := .dK []) (Same.upd_new (Same.upd_new (Same.upd_new (Same.upd_new (Same.upd_new (Same.refl H) n1) n2) n3) n4) n5) n6)
    refine k p7 _ _ (Same.upd_new sm n7) (sm.free n7) upd_same rfl (fun H'' hk => ?_) ?_
    · replace e1 := hk _ _ f1 e1
      replace e2 := hk _ _ f2 e2
      replace e3 := hk _ _ f3 e3
      replace e4 := hk _ _ f4 e4
      replace e5 := hk _ _ f5 e5
      replace e6 := hk _ _ f6 e6
      repeat' (first | exact List.forall_mem_nil _ | refine List.forall_mem_cons.mpr ⟨⟨?_, ?_⟩, ?_⟩)
      all_goals (first | walk_at "ist2" | walk_at "odd")
    · repeat' (first | exact List.forall_mem_nil _ | refine List.forall_mem_cons.mpr ⟨?_, ?_⟩)
      all_goals (first | (intro _ q; cases q; done) | (intro _ q; cases q; with_reducible assumption))
end
end Sw
namespace Sw
open PySem PySem.Spec PyProof.Rows L2
local macro_rules | `(tactic| walk_at "hp") => `(tactic| first
  | (with_reducible assumption) | (with_reducible exact upd_same)
  | ((with_reducible refine' upd_old ?q1 ?q2); (case q1 => (with_reducible assumption)); (case q2 => walk_at "hp"))
  | ((with_reducible refine' Same.at ?q1 ?q2); (case q1 => (with_reducible assumption)); (case q2 => walk_at "hp"))
  | ((with_reducible refine' upd_skip ?q1 ?q2); (case q1 => walk_at "ne"); (case q2 => walk_at "hp"))
  | fail)
local macro_rules | `(tactic| walk_at "ne") => `(tactic| first
  | (with_reducible assumption) | (with_reducible exact Ne.symm (by assumption))
  | ((with_reducible refine' ne_of_none ?q1 ?q2); (case q2 => (with_reducible assumption)); (case q1 => walk_at "hp"))
  | fail)
local macro_rules | `(tactic| walk_at "ci") => `(tactic| first | assumption | (show (0 : Int) < _; first | decide | (with_reducible omega)) | exact ⟨by decide, by decide⟩ | exact .inl ⟨by decide, by decide⟩ | exact .inr ⟨by decide, by decide⟩)
local macro_rules | `(tactic| walk_at "ln") => `(tactic| first | (with_reducible assumption) | (with_reducible omega) | (simp only [List.length_append, List.length_take, List.length_drop, List.length_reverse, List.length_cons, List.length_nil]; with_reducible omega))
local macro_rules | `(tactic| walk_at "rd1") => `(tactic| first
  | (with_reducible refine i_seq ?_) | (with_reducible refine i_asg ?_) | (with_reducible refine i_ret ?_) | (with_reducible refine i_name ?_) | ((with_reducible refine' i_var ?q1 ?_); (case q1 => exact rfl)) | (with_reducible refine i_c ?_) | (with_reducible refine i_op ?_) | (with_reducible refine i_un ?_)
  | (with_reducible refine i_rI0 ?_) | (with_reducible refine i_cb ?_) | (with_reducible refine i_cons ?_) | (with_reducible refine i_nil ?_) | (with_reducible refine i_call ?_) | (with_reducible refine i_if ?_) | (with_reducible refine i_ifE ?_) | (with_reducible refine i_test ?_) | (with_reducible refine i_bl ?_)
  | (with_reducible refine i_and ?_) | (with_reducible refine i_or ?_) | (with_reducible refine i_not ?_) | (with_reducible refine i_lst ?_) | (with_reducible refine i_tup ?_) | (with_reducible refine i_next ?_) | (with_reducible refine i_drop ?_) | (with_reducible refine i_sub ?_)
  | (with_reducible refine i_bm ?_) | (with_reducible refine i_sl ?_) | (with_reducible refine i_part ?_) | (with_reducible refine i_nopart ?_) | (with_reducible refine i_exI ?_) | (with_reducible refine i_chain ?_) | ((with_reducible refine' i_aug ?q1 ?_); (case q1 => exact rfl)) | (with_reducible refine i_ip ?_)
  | (with_reducible refine i_par ?_) | (with_reducible refine i_pair ?_) | (with_reducible refine i_andV ?_) | (with_reducible refine i_orV ?_) | (with_reducible refine i_notV ?_) | (with_reducible refine i_m1 ?_) | (with_reducible refine i_str ?_)
  | (with_reducible refine iteF ?_) | (with_reducible refine iteT ?_) | (with_reducible refine iteNT ?_) | (with_reducible refine iteNF ?_) | (with_reducible refine i_tyS ?_) | (with_reducible refine i_tB ?_) | (with_reducible refine i_retN ?_) | (with_reducible refine i_par3 ?_) | (with_reducible refine i_trip ?_) | (with_reducible refine i_gCons ?_) | (with_reducible refine i_gNil ?_) | (with_reducible refine i_lstRg ?_) | (with_reducible refine i_rg1 ?_)
  | (with_reducible refine i_lc ?_) | (with_reducible refine i_for ?_) | (with_reducible refine i_iList ?_) | (with_reducible refine i_iTup ?_) | (with_reducible refine i_iStr ?_) | (with_reducible refine i_iRng1 ?_) | (with_reducible refine i_iEnS ?_)
  | ((with_reducible refine' i_ixTH ?q1 ?q2 ?_); (case q1 => walk_at "hp"); (case q2 => exact rfl))
  | ((with_reducible refine' i_ixLH ?q1 ?q2 ?_); (case q1 => walk_at "hp"); (case q2 => exact rfl))
  | ((with_reducible refine i_addS ?q1 ?_); (case q1 => walk_at "ln")) | ((with_reducible refine i_lenSS ?q1 ?_); (case q1 => walk_at "ln")) | ((with_reducible refine i_slFrom ?q1 ?q2 ?_); (case q1 => walk_at "ln"); (case q2 => walk_at "ln")) | ((with_reducible refine i_slTo ?q1 ?q2 ?_); (case q1 => walk_at "ln"); (case q2 => walk_at "ln"))
  | ((with_reducible refine' i_tyL ?q1 ?_); (case q1 => walk_at "hp"))
  | ((with_reducible refine' i_gTupH ?q1 ?q2 ?_); (case q1 => walk_at "hp"); (case q2 => exact rfl))
  | (with_reducible refine i_dnew ?_) | (with_reducible refine i_init ?_) | (with_reducible refine i_fst ?_) | (with_reducible refine i_mk ?_) | (with_reducible refine i_raise ?_) | (with_reducible refine i_callS ?_) | (with_reducible refine i_kwS ?_)
  | (with_reducible refine i_revT ?_) | (with_reducible refine i_kw ?_) | ((with_reducible refine' ⟨_, _, rfl, sqT_of ?q1, ?_⟩); (case q1 => walk_at "hp"))
  | (with_reducible refine i_revS ?_) | ((with_reducible refine i_revSS ?q1 ?_); (case q1 => walk_at "ln"))
  | (with_reducible refine i_startS ?_) | (with_reducible refine i_inSg ?_) | (with_reducible refine i_absN ?_) | (with_reducible refine i_min2 ?_) | (with_reducible refine i_max2 ?_) | (with_reducible refine i_min3 ?_) | (with_reducible refine i_intN ?_) | (with_reducible refine i_intNB ?_)
  | ((with_reducible refine' i_lenL ?q1 ?_); (case q1 => walk_at "hp")) | ((with_reducible refine' i_lenT ?q1 ?_); (case q1 => walk_at "hp"))
  | (with_reducible refine i_eqI ?_) | (with_reducible refine i_neI ?_) | (with_reducible refine i_eqS ?_) | (with_reducible refine i_neS ?_) | (with_reducible refine i_isNoI ?_) | (with_reducible refine i_isNoN ?_) | (with_reducible refine i_isNoR ?_)
  | ((with_reducible refine i_pow ?q1 ?q2 ?q3 ?_); (case q1 => decide); (case q2 => decide); (case q3 => (with_reducible omega)))
  | ((with_reducible refine i_rI ?q1 ?_); (case q1 => walk_at "ci"))
  | (with_reducible refine Or.inl ⟨_, rfl, ?_⟩) | (with_reducible refine Or.inr ⟨_, rfl, ?_⟩) | (with_reducible refine ⟨_, rfl, ?_⟩) | (with_reducible refine ⟨_, _, rfl, ?_⟩) | (with_reducible refine ⟨_, _, rfl, rfl, ?_⟩)
  | ((with_reducible refine' ⟨_, _, rfl, Or.inl (sqL_of ?q1), ?_⟩); (case q1 => walk_at "hp")) | ((with_reducible refine' ⟨_, _, rfl, Or.inr (sqT_of ?q1), ?_⟩); (case q1 => walk_at "hp")) | fail)
local macro_rules | `(tactic| walk_at "rd") => `(tactic| repeat' walk_at "rd1")

def gapKs : List Str := ["behind", "right", "left", "before"]
def back4 {α : Type} : List α → List α → List α
  | [], [d, c, b, a] => [a, b, c, d]
  | _, _ => []
theorem back4_inv {α : Type} {us ws : List α} (h : (back4 us ws).length = 4) : us = [] ∧ ∃ d c b a, ws = [d, c, b, a] := by
  unfold back4 at h
  split at h
  · exact ⟨rfl, _, _, _, _, rfl⟩
  · cases h
theorem back4_rel {vs : List V} {us : List Value} {zs : List V} {ws : List Value} (r : Vals vs us) (r2 : Vals zs ws) : Vals (back4 vs zs) (back4 us ws) := by
  unfold back4
  cases r with
  | cons _ _ => exact .nil
  | nil =>
    cases r2 with
    | nil => exact .nil
    | cons a r2 =>
      cases r2 with
      | nil => exact .nil
      | cons b r2 =>
        cases r2 with
        | nil => exact .nil
        | cons c r2 =>
          cases r2 with
          | nil => exact .nil
          | cons d r2 =>
            cases r2 with
            | nil => exact .cons d (.cons c (.cons b (.cons a .nil)))
            | cons _ _ => exact .nil
theorem names_T {P : Program} {w : World} {K : PySem.W.Frag} {mg : Str → Option Value} {base : Heap} {X : Cx} {C : Addr} (xt : XT P w K mg base C) (hm : X.mg = mg := by rfl) (hg : Gl X "InvalidText" := by rfl) : Names X "InvalidText" (.ref C) := ⟨hg, by decide, .inl (by rw [hm]; exact xt.hm)⟩
/-- _law_told(parts, named) -/
def spTold (K : PySem.W.Frag) : Sp := fun vs H Q _ => ∃ (pp : Addr) (nm : Bool) (p l r q : V) (bp bl br bq : Bool), vs = [.ref pp, .bl nm] ∧ H pp = some (.lst [p, l, r, q]) ∧ IsL K H p bp ∧ IsT K H l bl ∧ IsT K H r br ∧ IsL K H q bq ∧
  ((bl = true → ∀ x, l = .str (S x) → x.length ≤ 500) ∧ (br = true → ∀ x, r = .str (S x) → x.length ≤ 500)) ∧ (∀ a x y, ((p = .ref a ∧ bp = true) ∨ (q = .ref a ∧ bq = true)) → H a = some (.tup [.str (S x), .str (S y)]) → x.length ≤ 500 ∧ y.length ≤ 500) ∧
  (bp = true → bl = true → br = true → bq = true → ∀ t H', Same H H' → H t = none → H' t = some (.lst [.str (S [112, 114, 105, 99, 101]), .non]) → Q (.ref t) H') ∧
  (∀ v, (if bp = false then v = p else if bl = false then v = l else if br = false then v = r else bq = false ∧ v = q) → ∀ t H', Same H H' → H t = none → H' t = some (.lst [.str (S [116, 101, 120, 116]), v]) → Q (.ref t) H')
section
variable {P : Program} {w : World} {K : PySem.W.Frag} {mg : Str → Option Value} {base : Heap} {f : Addr} {fd : FuncData}
theorem ok_told {C : Addr} (F : Fun K "_law_told" "_law_told" s__law_told f fd) (xt : XT P w K mg base C) (x_gap_price : CalX P w K mg base "gap_price" ["before", "left", "right", "behind"] 6 (spGapX K C)) (kx_gap_price : CalKX P w K mg base "gap_price" ["before", "left", "right", "behind"] 6 (spGapX K C) gapKs back4 back4) :
    FnOk P w K mg base CX0 7 f fd ["parts", "named"] (spTold K) := by
  refine F.ok sc__law_told (fun vs H Q E h => ?_) (fun cdv A outer s H vs Q E hr h => ?_)
  · obtain ⟨pp, nm, p, l, r, q, _, _, _, _, rfl, _⟩ := h; rfl
  · obtain ⟨pp, nm, p, l, r, q, bp, bl, br, bq, rfl, hpp, hp, hl, hr', hq, n1, n2, k1, k2⟩ := h
    refine ⟨_, (pss_cons (ps_try_as (i := 2) (Wout := fun _ _ _ _ => False) rfl rfl sc__law_told.nd rfl rfl (names_T xt) takes_none (fun W pn xe tk po => (pss_one (ps_if (pt_val (pv 1))
          (pss_one (ps_expr (pe_calKX kx_gap_price hr tk (pk_cons (pe_ix (r := rIxL K) ix_list (pv 0) pe_int (fun _ _ => rfl)) (pk_cons (pe_ix (r := rIxL K) ix_list (pv 0) pe_int (fun _ _ => rfl)) (pk_cons (pe_ix (r := rIxL K) ix_list (pv 0) pe_int (fun _ _ => rfl)) (pk_cons (pe_ix (r := rIxL K) ix_list (pv 0) pe_int (fun _ _ => rfl)) pk_nil)))))))
          (pss_one (ps_expr (pe_calX x_gap_price hr tk (pa_cons (pe_ix (r := rIxL K) ix_list (pv 0) pe_int (fun _ _ => rfl)) (pa_cons (pe_ix (r := rIxL K) ix_list (pv 0) pe_int (fun _ _ => rfl)) (pa_cons (pe_ix (r := rIxL K) ix_list (pv 0) pe_int (fun _ _ => rfl)) (pa_cons (pe_ix (r := rIxL K) ix_list (pv 0) pe_int (fun _ _ => rfl)) pa_nil))))))))))
        (fun a oe cls d pn hz hf => (pss_one (ps_ret (pe_lst (pa_cons (pe_strS (l := [116, 101, 120, 116]) (by decide +kernel)) (pa_cons (pe_xf xt.xf xt.no hz hf (pv 2)) pa_nil)))))))
      (pss_one (ps_ret (pe_lst (pa_cons (pe_strS (l := [112, 114, 105, 99, 101]) (by decide +kernel)) (pa_cons pe_non pa_nil)))))), ?_⟩
    walk_at "rd"
    refine iteC (fun _ => ?_) (fun _ => ?_)
    · walk_at "rd"
      refine ⟨p, l, r, q, bp, bl, br, bq, rfl, hp, hl, hr', hq, n1, n2, fun e1 e2 e3 e4 n H1 s1 => ?_, fun v hv dx H1 nx s1 ed => ?_⟩
      · walk_at "rd"
        refine ⟨Nat.le_of_ble_eq_true rfl, fun t nt => ?_⟩
        exact k1 e1 e2 e3 e4 t _ (Same.upd_new s1 nt) (s1.free nt) upd_same
      · refine ⟨true, xt.me, fun _ a na => ?_, fun z => by cases z⟩
        walk_at "rd"
        refine ⟨_, rfl, rfl, rfl, dx, _, v, rfl, ed, rfl, ?_⟩
        walk_at "rd"
        refine ⟨Nat.le_of_ble_eq_true rfl, fun t nt => ?_⟩
        exact k2 v hv t _ (Same.upd_new s1 nt) (s1.free nt) upd_same
    · walk_at "rd"
      refine ⟨p, l, r, q, bp, bl, br, bq, rfl, hp, hl, hr', hq, n1, n2, fun e1 e2 e3 e4 n H1 s1 => ?_, fun v hv dx H1 nx s1 ed => ?_⟩
      · walk_at "rd"
        refine ⟨Nat.le_of_ble_eq_true rfl, fun t nt => ?_⟩
        exact k1 e1 e2 e3 e4 t _ (Same.upd_new s1 nt) (s1.free nt) upd_same
      · refine ⟨true, xt.me, fun _ a na => ?_, fun z => by cases z⟩
        walk_at "rd"
        refine ⟨_, rfl, rfl, rfl, dx, _, v, rfl, ed, rfl, ?_⟩
        walk_at "rd"
        refine ⟨Nat.le_of_ble_eq_true rfl, fun t nt => ?_⟩
        exact k2 v hv t _ (Same.upd_new s1 nt) (s1.free nt) upd_same
end
end Sw
namespace Sw
open PySem PySem.Spec PyProof.Rows L2
local macro_rules | `(tactic| walk_at "hp") => `(tactic| first
  | (with_reducible assumption) | (with_reducible exact upd_same)
  | ((with_reducible refine' upd_old ?q1 ?q2); (case q1 => (with_reducible assumption)); (case q2 => walk_at "hp"))
  | ((with_reducible refine' Same.at ?q1 ?q2); (case q1 => (with_reducible assumption)); (case q2 => walk_at "hp"))
  | ((with_reducible refine' upd_skip ?q1 ?q2); (case q1 => walk_at "ne"); (case q2 => walk_at "hp"))
  | fail)
local macro_rules | `(tactic| walk_at "ne") => `(tactic| first
  | (with_reducible assumption) | (with_reducible exact Ne.symm (by assumption))
  | ((with_reducible refine' ne_of_none ?q1 ?q2); (case q2 => (with_reducible assumption)); (case q1 => walk_at "hp"))
  | fail)
local macro_rules | `(tactic| walk_at "ci") => `(tactic| first | assumption | (show (0 : Int) < _; first | decide | (with_reducible omega)) | exact ⟨by decide, by decide⟩ | exact .inl ⟨by decide, by decide⟩ | exact .inr ⟨by decide, by decide⟩)
local macro_rules | `(tactic| walk_at "ln") => `(tactic| first | (with_reducible assumption) | (with_reducible omega) | (simp only [List.length_append, List.length_take, List.length_drop, List.length_reverse, List.length_cons, List.length_nil]; with_reducible omega))
local macro_rules | `(tactic| walk_at "rd1") => `(tactic| first
  | (with_reducible refine i_seq ?_) | (with_reducible refine i_asg ?_) | (with_reducible refine i_ret ?_) | (with_reducible refine i_name ?_) | ((with_reducible refine' i_var ?q1 ?_); (case q1 => exact rfl)) | (with_reducible refine i_c ?_) | (with_reducible refine i_op ?_) | (with_reducible refine i_un ?_)
  | (with_reducible refine i_rI0 ?_) | (with_reducible refine i_cb ?_) | (with_reducible refine i_cons ?_) | (with_reducible refine i_nil ?_) | (with_reducible refine i_call ?_) | (with_reducible refine i_if ?_) | (with_reducible refine i_ifE ?_) | (with_reducible refine i_test ?_) | (with_reducible refine i_bl ?_)
  | (with_reducible refine i_and ?_) | (with_reducible refine i_or ?_) | (with_reducible refine i_not ?_) | (with_reducible refine i_lst ?_) | (with_reducible refine i_tup ?_) | (with_reducible refine i_next ?_) | (with_reducible refine i_drop ?_) | (with_reducible refine i_sub ?_)
  | (with_reducible refine i_bm ?_) | (with_reducible refine i_sl ?_) | (with_reducible refine i_part ?_) | (with_reducible refine i_nopart ?_) | (with_reducible refine i_exI ?_) | (with_reducible refine i_chain ?_) | ((with_reducible refine' i_aug ?q1 ?_); (case q1 => exact rfl)) | (with_reducible refine i_ip ?_)
  | (with_reducible refine i_par ?_) | (with_reducible refine i_pair ?_) | (with_reducible refine i_andV ?_) | (with_reducible refine i_orV ?_) | (with_reducible refine i_notV ?_) | (with_reducible refine i_m1 ?_) | (with_reducible refine i_str ?_)
  | (with_reducible refine iteF ?_) | (with_reducible refine iteT ?_) | (with_reducible refine iteNT ?_) | (with_reducible refine iteNF ?_) | (with_reducible refine i_tyS ?_) | (with_reducible refine i_tB ?_) | (with_reducible refine i_retN ?_) | (with_reducible refine i_par3 ?_) | (with_reducible refine i_trip ?_) | (with_reducible refine i_gCons ?_) | (with_reducible refine i_gNil ?_) | (with_reducible refine i_lstRg ?_) | (with_reducible refine i_rg1 ?_)
  | (with_reducible refine i_lc ?_) | (with_reducible refine i_for ?_) | (with_reducible refine i_iList ?_) | (with_reducible refine i_iTup ?_) | (with_reducible refine i_iStr ?_) | (with_reducible refine i_iRng1 ?_) | (with_reducible refine i_iEnS ?_)
  | ((with_reducible refine' i_ixTH ?q1 ?q2 ?_); (case q1 => walk_at "hp"); (case q2 => exact rfl))
  | ((with_reducible refine' i_ixLH ?q1 ?q2 ?_); (case q1 => walk_at "hp"); (case q2 => exact rfl))
  | ((with_reducible refine i_addS ?q1 ?_); (case q1 => walk_at "ln")) | ((with_reducible refine i_lenSS ?q1 ?_); (case q1 => walk_at "ln")) | ((with_reducible refine i_slFrom ?q1 ?q2 ?_); (case q1 => walk_at "ln"); (case q2 => walk_at "ln")) | ((with_reducible refine i_slTo ?q1 ?q2 ?_); (case q1 => walk_at "ln"); (case q2 => walk_at "ln"))
  | ((with_reducible refine' i_tyL ?q1 ?_); (case q1 => walk_at "hp"))
  | ((with_reducible refine' i_gTupH ?q1 ?q2 ?_); (case q1 => walk_at "hp"); (case q2 => exact rfl))
  | (with_reducible refine i_dnew ?_) | (with_reducible refine i_init ?_) | (with_reducible refine i_fst ?_) | (with_reducible refine i_mk ?_) | (with_reducible refine i_raise ?_) | (with_reducible refine i_callS ?_) | (with_reducible refine i_kwS ?_)
  | (with_reducible refine i_revT ?_) | (with_reducible refine i_kw ?_) | ((with_reducible refine' ⟨_, _, rfl, sqT_of ?q1, ?_⟩); (case q1 => walk_at "hp"))
  | (with_reducible refine i_revS ?_) | ((with_reducible refine i_revSS ?q1 ?_); (case q1 => walk_at "ln"))
  | (with_reducible refine i_startS ?_) | (with_reducible refine i_inSg ?_) | (with_reducible refine i_absN ?_) | (with_reducible refine i_min2 ?_) | (with_reducible refine i_max2 ?_) | (with_reducible refine i_min3 ?_) | (with_reducible refine i_intN ?_) | (with_reducible refine i_intNB ?_)
  | ((with_reducible refine' i_lenL ?q1 ?_); (case q1 => walk_at "hp")) | ((with_reducible refine' i_lenT ?q1 ?_); (case q1 => walk_at "hp"))
  | (with_reducible refine i_eqI ?_) | (with_reducible refine i_neI ?_) | (with_reducible refine i_eqS ?_) | (with_reducible refine i_neS ?_) | (with_reducible refine i_isNoI ?_) | (with_reducible refine i_isNoN ?_) | (with_reducible refine i_isNoR ?_)
  | ((with_reducible refine i_pow ?q1 ?q2 ?q3 ?_); (case q1 => decide); (case q2 => decide); (case q3 => (with_reducible omega)))
  | ((with_reducible refine i_rI ?q1 ?_); (case q1 => walk_at "ci"))
  | (with_reducible refine Or.inl ⟨_, rfl, ?_⟩) | (with_reducible refine Or.inr ⟨_, rfl, ?_⟩) | (with_reducible refine ⟨_, rfl, ?_⟩) | (with_reducible refine ⟨_, _, rfl, ?_⟩) | (with_reducible refine ⟨_, _, rfl, rfl, ?_⟩)
  | ((with_reducible refine' ⟨_, _, rfl, Or.inl (sqL_of ?q1), ?_⟩); (case q1 => walk_at "hp")) | ((with_reducible refine' ⟨_, _, rfl, Or.inr (sqT_of ?q1), ?_⟩); (case q1 => walk_at "hp")) | fail)
local macro_rules | `(tactic| walk_at "rd") => `(tactic| repeat' walk_at "rd1")

theorem i_yes {σ : L2.St} {H : Hp} {R : Bool → Hp → Prop} (h : R true H) : tYes σ H R := h
def rRepQ (K : PySem.W.Frag) : List V → Hp → VK → Prop := fun xs M R => ∃ x d, xs = [x] ∧ Shw K M x d ∧ (d.hasDict = true → d = .dict []) ∧ Fits d ∧ R (.str d.shown) M
theorem call_repQ {X : Cx} (quiet : X.A.guards = some []) (hu : X.A.units + 64 < cLine) : CallR X (.builtin "repr") (rRepQ X.K) := by
  intro pins s σ M xs us R I r h
  obtain ⟨x, d, rfl, hd, nd, ⟨sh, dp, sz⟩, q⟩ := h
  rcases hd with hd | ⟨a, rfl, ha, rfl⟩
  · refine call_repD quiet hu pins s σ M [x] us R I r ⟨x, d, rfl, hd, sh, ?_, dp, sz, q⟩
    cases e : d.hasDict with
    | false => rfl
    | true =>
      rw [nd e] at hd
      cases hd
  · obtain ⟨u, rfl, ru⟩ := vals1 r
    cases ru
    have there : ObjOk X.prog X.w M s.heap a (.dK []) := I.hok a _ ha
    obtain ⟨_, notSys, vs, kv, o, es, ep, ho, ex, hd, _, pr, _⟩ := there
    cases kv
    have none' : es.toList = [] := by
      generalize es.toList = l at pr
      cases pr
      rfl
    have rd : Reads s.heap (.ref a) (.dict []) (a :: [] ++ []) := .dict ho ex.1 hd (by rw [none']; exact .nil) (by rw [none']; exact .nil)
    refine repr_of_reads' rd sh (fun _ z => ?_) quiet (by omega) (fun _ _ e => e) (fun h' t tk keep => ⟨.str _, M, I.kept (t' := tk) keep, ⟨t, rfl⟩, q⟩) sz
    have z' : sysModules = a := by simpa using z
    rw [← z'] at notSys
    exact absurd notSys (by decide)
theorem i_repQ {K : PySem.W.Frag} {M : Hp} {x : V} {d : PyData} {R : VK} (h1 : Shw K M x d) (h2 : d.hasDict = true → d = .dict []) (h3 : Fits d) (h : R (.str d.shown) M) : rRepQ K [x] M R := ⟨x, d, rfl, h1, h2, h3, h⟩
mutual
theorem dp_same {K : PySem.W.Frag} {H H' : Hp} (s : Same H H') : ∀ {v : V} {d : PyData}, Dp K H v d → Dp K H' v d
  | _, _, .non => .non
  | _, _, .bl b => .bl b
  | _, _, .int i => .int i
  | _, _, .str x => .str x
  | _, _, .lst h1 h2 => .lst (Same.sqL s h1) (dpAll_same s h2)
  | _, _, .tup h1 h2 => .tup (Same.sqT s h1) (dpAll_same s h2)
theorem dpAll_same {K : PySem.W.Frag} {H H' : Hp} (s : Same H H') : ∀ {vs : List V} {ds : List PyData}, DpAll K H vs ds → DpAll K H' vs ds
  | _, _, .nil => .nil
  | _, _, .cons h1 h2 => .cons (dp_same s h1) (dpAll_same s h2)
end
theorem dpAll_app {K : PySem.W.Frag} {H : Hp} : ∀ {xs ys : List V} {ds es : List PyData}, DpAll K H xs ds → DpAll K H ys es → DpAll K H (xs ++ ys) (ds ++ es)
  | _, _, _, _, .nil, h => h
  | _, _, _, _, .cons a r, h => .cons a (dpAll_app r h)
theorem Shw.same {K : PySem.W.Frag} {H H' : Hp} {v : V} {d : PyData} (s : Same H H') (h : Shw K H v d) : Shw K H' v d := by
  rcases h with h | ⟨a, h1, h2, h3⟩
  · exact .inl (dp_same s h)
  · exact .inr ⟨a, h1, s _ _ h2, h3⟩
theorem Odd.same {K : PySem.W.Frag} {H H' : Hp} {v : V} (s : Same H H') (h : Odd K H v) : Odd K H' v := by
  rcases h with ⟨a, xs, ds, rfl, h1, h2, h3⟩ | ⟨t, d, h1, h2, h3, h4⟩
  · exact .inl ⟨a, xs, ds, rfl, s _ _ h1, fun H'' s'' => h2 H'' ((SB.of s).trans s''), h3⟩
  · exact .inr ⟨t, d, TyX.same s h1, h2, h3.same s, h4⟩
/-- _law_lot_holds(parts, wrong, named) -/
def spLot (K : PySem.W.Frag) : Sp := fun vs H Q _ => ∃ (pp wp : Addr) (ws : List Nat) (nm : Bool) (p l r q : V) (bp bl br bq : Bool), vs = [.ref pp, .ref wp, .bl nm] ∧ H pp = some (.lst [p, l, r, q]) ∧ H wp = some (.lst (ws.map fun i => V.int (i : Nat))) ∧ IsL K H p bp ∧ IsT K H l bl ∧ IsT K H r br ∧ IsL K H q bq ∧
  ((bl = true → ∀ x, l = .str (S x) → x.length ≤ 500) ∧ (br = true → ∀ x, r = .str (S x) → x.length ≤ 500)) ∧ (∀ a x y, ((p = .ref a ∧ bp = true) ∨ (q = .ref a ∧ bq = true)) → H a = some (.tup [.str (S x), .str (S y)]) → x.length ≤ 500 ∧ y.length ≤ 500) ∧
  ∃ m : Addr, ((ws = [] ∧ bp = true ∧ bl = true ∧ br = true ∧ bq = true) ∨ (∃ i js v, ws = i :: js ∧ ([p, l, r, q] : List V)[i]? = some v ∧ Odd K H v ∧ (∀ a, v = .ref a → a = m) ∧ m ≠ pp ∧ m ≠ wp ∧ (if bp = false then v = p else if bl = false then v = l else if br = false then v = r else bq = false ∧ v = q))) ∧
  ws.length ≤ 4 ∧ ∀ H', SB m H H' → Q (.bl true) H'
theorem Fun.okG0 {P : Program} {w : World} {K : PySem.W.Frag} {mg : Str → Option Value} {base : Heap} {k : Nat} {f : Addr} {fd : FuncData} {ps : List Str} {sp : Sp} {x qual : Str} {st : Stmt} {N : List Str} (F : Fun K x qual st f fd) (S : FnScope N ps (defScope st)) (len : ∀ xs M R X, sp xs M R X → xs.length = ps.length)
    (body : ∀ (cdv : Value) (A : Around) (out : List Env) (t : Shared) (M : Hp) (xs : List V) (R : VK) (X : XK), Room k (A.deeper (envOfC qual (defScope st) t.heap.objs.size f cdv)) → A.guards = some [] → sp xs M R X →
      ∃ r, PSs (cxOf CX0 P w K mg base N qual (defScope st) f cdv A out t M X).nox (defBody st) r ∧ r { nx := fun _ M' => R .non M', rt := R } (start N xs) M) : FnG P w K mg base CX0 (k + 1) f fd ps sp :=
  Sw.Fun.okG F S len fun cdv A out t M xs R X room quiet prom => by
    obtain ⟨r, h, q⟩ := body cdv A out t M xs R X room quiet prom
    exact ⟨r, h.nox, q⟩
theorem ints_eqv (is : List Nat) : PyData.eqv (.list (is.map fun (i : Nat) => PyData.int (i : Nat))) (.list []) = decide (is = []) := by
  cases is with
  | nil => simp [PyData.eqv, PyData.eqvAll]
  | cons i is => simp [PyData.eqv, PyData.eqvAll]
theorem ints_dp {K : PySem.W.Frag} {H : Hp} : ∀ is : List Nat, DpAll K H (is.map fun (i : Nat) => V.int (i : Nat)) (is.map fun (i : Nat) => PyData.int (i : Nat))
  | [] => .nil
  | i :: is => .cons (.int _) (ints_dp is)
theorem ints_shaped (is : List Nat) : SeqAt.shaped (.list (is.map fun (i : Nat) => PyData.int (i : Nat))) = true := by
  have h1 : ∀ js : List Nat, PyData.canLayAll0 (js.map fun (i : Nat) => PyData.int (i : Nat)) = true := by
    intro js
    induction js with
    | nil => simp [PyData.canLayAll0]
    | cons j js ih => simp [PyData.canLayAll0, PyData.canLay0, ih]
  have h2 : ∀ js : List Nat, PyData.depthAll (js.map fun (i : Nat) => PyData.int (i : Nat)) ≤ 1 := by
    intro js
    induction js with
    | nil => simp [PyData.depthAll]
    | cons j js ih => simp [PyData.depthAll, PyData.depth]; omega
  have h3 := h2 is
  show (PyData.canLay0 (.list (is.map fun (i : Nat) => PyData.int (i : Nat))) && decide (PyData.depth (.list (is.map fun (i : Nat) => PyData.int (i : Nat))) ≤ 64)) = true
  rw [Bool.and_eq_true]
  exact ⟨by simp only [PyData.canLay0]; exact h1 is, decide_eq_true (by simp only [PyData.depth]; omega)⟩
section
variable {P : Program} {w : World} {K : PySem.W.Frag} {mg : Str → Option Value} {base : Heap} {f : Addr} {fd : FuncData}
theorem ok_lot (F : Fun K "_law_lot_holds" "_law_lot_holds" s__law_lot_holds f fd) (z : Z mg) (c__law_told : Cal P w K mg base "_law_told" ["parts", "named"] 7 (spTold K)) : FnG P w K mg base CX0 8 f fd ["parts", "wrong", "named"] (spLot K) := by
  refine Sw.Fun.okG0 F sc__law_lot_holds (fun vs H Q E h => ?_) (fun cdv A outer s H vs Q E hr quiet h => ?_)
  · obtain ⟨pp, wp, ws, nm, p, l, r, q, _, _, _, _, rfl, _⟩ := h; rfl
  · obtain ⟨pp, wp, ws, nm, p, l, r, q, bp, bl, br, bq, rfl, hpp, hwp, hp, hl, hr', hq, n1, n2, m, hw, lw, k⟩ := h
    refine ⟨_, (pss_cons (ps_set (i := 3) sc__law_lot_holds.nd rfl (.inl rfl) (pe_cal c__law_told hr (pa_cons (pv 0) (pa_cons (pv 2) pa_nil))))
      (C8.pss_cut (ps_if (pt_cmpR (op_eqD hr.units) (pv 1) (pe_lst pa_nil) (nomark _))
        (pss_one (ps_ret (pe_cmpR op_eq (pe_ix ix_list (pv 3) pe_int (fun _ _ => rfl)) (pe_strS (l := [112, 114, 105, 99, 101]) (by decide +kernel)) (nomark _))))
        pss_nil)
      (pss_cons (ps_set (i := 4) sc__law_lot_holds.nd rfl (.inl rfl) (pe_ix ix_list (pv 0) (pe_ix ix_list (pv 1) pe_int (fun _ _ => rfl)) (fun _ _ => rfl)))
      (C8.pss_cut (ps_if (pt_val (pe_callB call_isi (by rfl) z.isinstance (by decide +kernel) (pa_cons (pv 4) (pa_cons (pe_bltn (v := .ty "list") (by rfl) z.list (by decide +kernel) rfl) pa_nil))))
        (pss_one (ps_expr (pe_bm PySem.F.plainAttrs_list PySem.F.slot_list_append PySem.F.type_list_append mt_append (pv 4) (pa_cons (pe_strS (l := [109, 111, 114, 101]) (by decide +kernel)) pa_nil))))
        pss_nil)
      (pss_one (ps_ret (pe_and (pe_cmpR op_eq (pe_ix ix_list (pv 3) pe_int (fun _ _ => rfl)) (pe_strS (l := [116, 101, 120, 116]) (by decide +kernel)) (nomark _)) (pe_one (pe_cmpR op_eq (pe_callB (call_repQ quiet hr.units) (by rfl) z.repr (by decide +kernel) (pa_cons (pe_ix ix_list (pv 3) pe_int (fun _ _ => rfl)) pa_nil)) (pe_callB (call_repQ quiet hr.units) (by rfl) z.repr (by decide +kernel) (pa_cons (pv 4) pa_nil)) (nomark _)))))))))), ?_⟩
    walk_at "rd"
    refine ⟨pp, nm, p, l, r, q, bp, bl, br, bq, rfl, hpp, hp, hl, hr', hq, n1, n2, fun e1 e2 e3 e4 t H1 s1 nt et => ?_, fun v hv t H1 s1 nt et => ?_⟩
    · subst e1 e2 e3 e4
      obtain ⟨rfl, _⟩ | ⟨i, js, v, _, _, _, _, _, _, h⟩ := hw
      · walk_at "rd"
        refine i_cut (fun _ _ => False) ?_ (fun _ _ h => h.elim)
        walk_at "rd"
        refine ⟨Nat.le_of_ble_eq_true rfl, fun p0 np0 => ?_⟩
        have hw1 := upd_old (o := .lst []) np0 (s1 _ _ hwp)
        have et1 := upd_old (o := .lst []) np0 et
        refine ⟨_, _, .lst (sqL_of hw1) (ints_dp []), .lst (sqL_of upd_same) .nil, ints_shaped [], ints_shaped [], ?_⟩
        rw [show PyData.eqv (.list (([] : List Nat).map fun (i : Nat) => PyData.int (i : Nat))) (.list []) = true from ints_eqv []]
        walk_at "rd"
        rw [decide_eq_true rfl]
        exact k _ (SB.of (Same.upd_new s1 np0))
      · rw [if_neg (by simp), if_neg (by simp), if_neg (by simp)] at h
        exact absurd h.1 (by simp)
    · obtain ⟨rfl, rfl, rfl, rfl, rfl⟩ | ⟨i, js, u, rfl, hu, hodd, hm, mp, mw, h⟩ := hw
      · rw [if_neg (by simp), if_neg (by simp), if_neg (by simp)] at hv
        exact absurd hv.1 (by simp)
      have ev : v = u := by
        by_cases c1 : bp = false
        · rw [if_pos c1] at hv h; rw [hv, h]
        · rw [if_neg c1] at hv h
          by_cases c2 : bl = false
          · rw [if_pos c2] at hv h; rw [hv, h]
          · rw [if_neg c2] at hv h
            by_cases c3 : br = false
            · rw [if_pos c3] at hv h; rw [hv, h]
            · rw [if_neg c3] at hv h; exact hv.2.trans h.2.symm
      subst ev
      walk_at "rd"
      refine i_cut (fun σ' H' => σ' = [some (.ref pp), some (.ref wp), some (.bl nm), some (.ref t), none] ∧ Same H1 H') ?_ ?_
      · walk_at "rd"
        refine ⟨Nat.le_of_ble_eq_true rfl, fun p0 np0 => ?_⟩
        have hw1 := upd_old (o := .lst []) np0 (s1 _ _ hwp)
        refine ⟨_, _, .lst (sqL_of hw1) (ints_dp _), .lst (sqL_of upd_same) .nil, ints_shaped _, ints_shaped [], ?_⟩
        rw [ints_eqv, decide_eq_false (by simp)]
        walk_at "rd"
        exact ⟨rfl, same_upd np0⟩
      rintro _ H2 ⟨rfl, s2⟩
      have s12 := s1.trans s2
      have hw2 := s12 _ _ hwp
      have hp2 := s12 _ _ hpp
      have et2 := s2 _ _ et
      walk_at "rd"
      refine i_ixLv hw2 (by omega) rfl ?_
      walk_at "rd"
      refine i_ixLv hp2 (by omega) (by rw [Int.toNat_natCast]; exact hu) ?_
      walk_at "rd"
      refine i_cut (fun σ' H' => σ' = [some (.ref pp), some (.ref wp), some (.bl nm), some (.ref t), some v] ∧ SB m H H' ∧ H' t = some (.lst [.str (S [116, 101, 120, 116]), v]) ∧ ∃ d, Shw K H' v d ∧ (d.hasDict = true → d = .dict []) ∧ Fits d) ?_ ?_
      · rcases hodd with ⟨a, xs, ds, rfl, h1, h2, h3, h4, h5⟩ | ⟨ty, d, h1, h2, h3, h4, h5⟩
        · obtain rfl := hm a rfl
          walk_at "rd"
          refine i_isi true (.base (.lst (s12 _ _ h1))) (kit_ty (by decide +kernel)) ?_
          walk_at "rd"
          refine i_append (s12 _ _ h1) (Nat.lt_of_le_of_lt h3 (by decide)) ?_
          refine ⟨rfl, (SB.of s12).trans SB.upd, ?_, .list (ds ++ [.str (S [109, 111, 114, 101])]), .inl (.lst (sqL_of upd_same) (dpAll_app (h2 _ ((SB.of s12).trans SB.upd)) (.cons (.str _) .nil))), fun q => absurd q (by rw [h4]; simp), h5⟩
          rw [upd_ne (Ne.symm (ne_of_none h1 nt))]
          exact et2
        · walk_at "rd"
          refine i_isi false (TyX.same s12 h1) h2 ?_
          walk_at "rd"
          exact ⟨rfl, SB.of s12, et2, d, h3.same s12, h4, h5⟩
      rintro _ H3 ⟨rfl, s3, et3, d, hd, hd2, hd3⟩
      walk_at "rd"
      rw [decide_eq_true rfl]
      walk_at "rd"
      refine i_repQ hd hd2 hd3 ?_
      walk_at "rd"
      refine i_repQ hd hd2 hd3 ?_
      refine ⟨rfl, ?_⟩
      rw [decide_eq_true rfl]
      exact k _ s3
end
end Sw
namespace Sw
open PySem PySem.Spec PyProof.Rows L2
local macro_rules | `(tactic| walk_at "hp") => `(tactic| first
  | (with_reducible assumption) | (with_reducible exact upd_same)
  | ((with_reducible refine' upd_old ?q1 ?q2); (case q1 => (with_reducible assumption)); (case q2 => walk_at "hp"))
  | ((with_reducible refine' Same.at ?q1 ?q2); (case q1 => (with_reducible assumption)); (case q2 => walk_at "hp"))
  | ((with_reducible refine' upd_skip ?q1 ?q2); (case q1 => walk_at "ne"); (case q2 => walk_at "hp"))
  | fail)
local macro_rules | `(tactic| walk_at "ne") => `(tactic| first
  | (with_reducible assumption) | (with_reducible exact Ne.symm (by assumption))
  | ((with_reducible refine' ne_of_none ?q1 ?q2); (case q2 => (with_reducible assumption)); (case q1 => walk_at "hp"))
  | fail)
local macro_rules | `(tactic| walk_at "ci") => `(tactic| first | assumption | (show (0 : Int) < _; first | decide | (with_reducible omega)) | exact ⟨by decide, by decide⟩ | exact .inl ⟨by decide, by decide⟩ | exact .inr ⟨by decide, by decide⟩)
local macro_rules | `(tactic| walk_at "ln") => `(tactic| first | (with_reducible assumption) | (with_reducible omega) | (simp only [List.length_append, List.length_take, List.length_drop, List.length_reverse, List.length_cons, List.length_nil]; with_reducible omega))
local macro_rules | `(tactic| walk_at "rd1") => `(tactic| first
  | (with_reducible refine i_seq ?_) | (with_reducible refine i_asg ?_) | (with_reducible refine i_ret ?_) | (with_reducible refine i_name ?_) | ((with_reducible refine' i_var ?q1 ?_); (case q1 => exact rfl)) | (with_reducible refine i_c ?_) | (with_reducible refine i_op ?_) | (with_reducible refine i_un ?_)
  | (with_reducible refine i_rI0 ?_) | (with_reducible refine i_cb ?_) | (with_reducible refine i_cons ?_) | (with_reducible refine i_nil ?_) | (with_reducible refine i_call ?_) | (with_reducible refine i_if ?_) | (with_reducible refine i_ifE ?_) | (with_reducible refine i_test ?_) | (with_reducible refine i_bl ?_)
  | (with_reducible refine i_and ?_) | (with_reducible refine i_or ?_) | (with_reducible refine i_not ?_) | (with_reducible refine i_lst ?_) | (with_reducible refine i_tup ?_) | (with_reducible refine i_next ?_) | (with_reducible refine i_drop ?_) | (with_reducible refine i_sub ?_)
  | (with_reducible refine i_bm ?_) | (with_reducible refine i_sl ?_) | (with_reducible refine i_part ?_) | (with_reducible refine i_nopart ?_) | (with_reducible refine i_exI ?_) | (with_reducible refine i_chain ?_) | ((with_reducible refine' i_aug ?q1 ?_); (case q1 => exact rfl)) | (with_reducible refine i_ip ?_)
  | (with_reducible refine i_par ?_) | (with_reducible refine i_pair ?_) | (with_reducible refine i_andV ?_) | (with_reducible refine i_orV ?_) | (with_reducible refine i_notV ?_) | (with_reducible refine i_m1 ?_) | (with_reducible refine i_str ?_)
  | (with_reducible refine iteF ?_) | (with_reducible refine iteT ?_) | (with_reducible refine iteNT ?_) | (with_reducible refine iteNF ?_) | (with_reducible refine i_tyS ?_) | (with_reducible refine i_tB ?_) | (with_reducible refine i_retN ?_) | (with_reducible refine i_par3 ?_) | (with_reducible refine i_trip ?_) | (with_reducible refine i_gCons ?_) | (with_reducible refine i_gNil ?_) | (with_reducible refine i_lstRg ?_) | (with_reducible refine i_rg1 ?_)
  | (with_reducible refine i_lc ?_) | (with_reducible refine i_for ?_) | (with_reducible refine i_iList ?_) | (with_reducible refine i_iTup ?_) | (with_reducible refine i_iStr ?_) | (with_reducible refine i_iRng1 ?_) | (with_reducible refine i_iEnS ?_)
  | ((with_reducible refine' i_ixTH ?q1 ?q2 ?_); (case q1 => walk_at "hp"); (case q2 => exact rfl))
  | ((with_reducible refine' i_ixLH ?q1 ?q2 ?_); (case q1 => walk_at "hp"); (case q2 => exact rfl))
  | ((with_reducible refine i_addS ?q1 ?_); (case q1 => walk_at "ln")) | ((with_reducible refine i_lenSS ?q1 ?_); (case q1 => walk_at "ln")) | ((with_reducible refine i_slFrom ?q1 ?q2 ?_); (case q1 => walk_at "ln"); (case q2 => walk_at "ln")) | ((with_reducible refine i_slTo ?q1 ?q2 ?_); (case q1 => walk_at "ln"); (case q2 => walk_at "ln"))
  | ((with_reducible refine' i_tyL ?q1 ?_); (case q1 => walk_at "hp"))
  | ((with_reducible refine' i_gTupH ?q1 ?q2 ?_); (case q1 => walk_at "hp"); (case q2 => exact rfl))
  | (with_reducible refine i_dnew ?_) | (with_reducible refine i_init ?_) | (with_reducible refine i_fst ?_) | (with_reducible refine i_mk ?_) | (with_reducible refine i_raise ?_) | (with_reducible refine i_callS ?_) | (with_reducible refine i_kwS ?_)
  | (with_reducible refine i_revT ?_) | (with_reducible refine i_kw ?_) | ((with_reducible refine' ⟨_, _, rfl, sqT_of ?q1, ?_⟩); (case q1 => walk_at "hp"))
  | (with_reducible refine i_revS ?_) | ((with_reducible refine i_revSS ?q1 ?_); (case q1 => walk_at "ln"))
  | (with_reducible refine i_startS ?_) | (with_reducible refine i_inSg ?_) | (with_reducible refine i_absN ?_) | (with_reducible refine i_min2 ?_) | (with_reducible refine i_max2 ?_) | (with_reducible refine i_min3 ?_) | (with_reducible refine i_intN ?_) | (with_reducible refine i_intNB ?_)
  | ((with_reducible refine' i_lenL ?q1 ?_); (case q1 => walk_at "hp")) | ((with_reducible refine' i_lenT ?q1 ?_); (case q1 => walk_at "hp"))
  | (with_reducible refine i_eqI ?_) | (with_reducible refine i_neI ?_) | (with_reducible refine i_eqS ?_) | (with_reducible refine i_neS ?_) | (with_reducible refine i_isNoI ?_) | (with_reducible refine i_isNoN ?_) | (with_reducible refine i_isNoR ?_)
  | ((with_reducible refine i_pow ?q1 ?q2 ?q3 ?_); (case q1 => decide); (case q2 => decide); (case q3 => (with_reducible omega)))
  | ((with_reducible refine i_rI ?q1 ?_); (case q1 => walk_at "ci"))
  | (with_reducible refine Or.inl ⟨_, rfl, ?_⟩) | (with_reducible refine Or.inr ⟨_, rfl, ?_⟩) | (with_reducible refine ⟨_, rfl, ?_⟩) | (with_reducible refine ⟨_, _, rfl, ?_⟩) | (with_reducible refine ⟨_, _, rfl, rfl, ?_⟩)
  | ((with_reducible refine' ⟨_, _, rfl, Or.inl (sqL_of ?q1), ?_⟩); (case q1 => walk_at "hp")) | ((with_reducible refine' ⟨_, _, rfl, Or.inr (sqT_of ?q1), ?_⟩); (case q1 => walk_at "hp")) | fail)
local macro_rules | `(tactic| walk_at "rd") => `(tactic| repeat' walk_at "rd1")

theorem pe_cal0 {X : Cx} {x : Str} {ps : List Str} {k n : Nat} {sp : Sp} {p pos : Pos} (c : Cal X.prog X.w X.K X.mg X.base x ps k sp) (hr : Room n X.A) (hg : Gl X x := by rfl) (hk : k ≤ n := by decide) (hdb : (x == ("__debug__" : Str)) = false := by decide) :
    PE X (.Call (.Name x p) [] [] pos) (tCall sp [] E0 tNil) := by
  obtain ⟨f, fd, F, m, kp, b⟩ := c
  exact pe_call0 F (hr.mono hk) hg m kp b .nil pass0 hdb
def bitsL (b0 b1 b2 b3 : Bool) : List Nat := (if b0 then [0] else []) ++ (if b1 then [1] else []) ++ (if b2 then [2] else []) ++ (if b3 then [3] else [])
def put (os : List V) (ps : List V) (ks : List Nat) : List V := ks.foldl (fun ps k => ps.set k (os.getD k .non)) ps
theorem put_bits (b0 b1 b2 b3 : Bool) (g0 g1 g2 g3 o0 o1 o2 o3 : V) : put [o0, o1, o2, o3] [g0, g1, g2, g3] (bitsL b0 b1 b2 b3) = [if b0 then o0 else g0, if b1 then o1 else g1, if b2 then o2 else g2, if b3 then o3 else g3] := by
  cases b0 <;> cases b1 <;> cases b2 <;> cases b3 <;> rfl
def bitOf (n k : Nat) : Bool := decide ((n : Int) / ((2 ^ k : Nat) : Int) % 2 = 1)
theorem bits_filter (n : Nat) : (List.range 4).filter (bitOf n) = bitsL (bitOf n 0) (bitOf n 1) (bitOf n 2) (bitOf n 3) := by
  unfold bitsL
  show List.filter (bitOf n) [0, 1, 2, 3] = _
  simp only [List.filter_cons, List.filter_nil]
  cases bitOf n 0 <;> cases bitOf n 1 <;> cases bitOf n 2 <;> cases bitOf n 3 <;> rfl
theorem BoxAt.ne_new {H : Hp} {b p : Addr} {d : Int} (B : BoxAt H b d) (h : H p = none) : p ≠ b := by
  obtain ⟨n, g, c, e, hb, _⟩ := B.ex
  rintro rfl
  rw [h] at hb
  cases hb
theorem pow_at {i : Nat} (h : i < 4) : ([V.int 1, .int 2, .int 4, .int 8] : List V)[i]? = some (.int ((2 ^ i : Nat) : Int)) := by
  have : i = 0 ∨ i = 1 ∨ i = 2 ∨ i = 3 := by omega
  rcases this with rfl | rfl | rfl | rfl <;> rfl
theorem filter_next (f : Nat → Bool) (i : Nat) : (List.range (i + 1)).filter f = (List.range i).filter f ++ if f i then [i] else [] := by
  rw [List.range_succ, List.filter_append]
  cases e : f i <;> simp [e]
theorem bits_lt {b0 b1 b2 b3 : Bool} {k : Nat} (h : k ∈ bitsL b0 b1 b2 b3) : k < 4 := by
  revert h
  cases b0 <;> cases b1 <;> cases b2 <;> cases b3 <;> simp [bitsL] <;> omega
theorem four_at (os : List V) (h : os.length = 4) {k : Nat} (hk : k < 4) : os[k]? = some (os.getD k .non) := by
  rw [List.getD_eq_getElem?_getD, List.getElem?_eq_getElem (by omega)]
  rfl
theorem put_len (os : List V) : ∀ (ks : List Nat) (ps : List V), (put os ps ks).length = ps.length
  | [], _ => rfl
  | k :: ks, ps => by
    show (put os (ps.set k (os.getD k .non)) ks).length = ps.length
    rw [put_len os ks, List.length_set]
theorem put_next (os ps : List V) (ks : List Nat) {i k : Nat} (h : ks[i]? = some k) : put os ps (ks.take (i + 1)) = (put os ps (ks.take i)).set k (os.getD k .non) := by
  rw [List.take_add_one, h]
  unfold put
  rw [List.foldl_append]
  rfl
theorem ixN_four {k : Nat} (h : k < 4) : ixN 4 (k : Int) = some k := by
  have : k = 0 ∨ k = 1 ∨ k = 2 ∨ k = 3 := by omega
  rcases this with rfl | rfl | rfl | rfl <;> rfl
theorem BoxAt.sbo {H H' : Hp} {b m : Addr} {d : Int} (B : BoxAt H b d) (s : SB m H H') (n : m ≠ b) : BoxAt H' b d := by
  obtain ⟨n', g', c', e', hb', hr⟩ := B.ex
  exact ⟨n', g', c', e', s _ _ (Ne.symm n) hb', hr⟩
theorem some_m {H5 : Hp} {po : Addr} (f : H5 po = none) (v : V) (F : ∀ a, v = .ref a → H5 a = none) : ∃ m, H5 m = none ∧ ∀ a, v = .ref a → a = m := by
  cases v with
  | ref a => exact ⟨a, F a rfl, fun x e => (V.ref.inj e).symm⟩
  | non => exact ⟨po, f, fun a e => nomatch e⟩
  | bl _ => exact ⟨po, f, fun a e => nomatch e⟩
  | int _ => exact ⟨po, f, fun a e => nomatch e⟩
  | str _ => exact ⟨po, f, fun a e => nomatch e⟩
  | byt _ => exact ⟨po, f, fun a e => nomatch e⟩
  | flt _ => exact ⟨po, f, fun a e => nomatch e⟩
  | ty _ => exact ⟨po, f, fun a e => nomatch e⟩
/-- the good lags and the good texts of a list -/
structure GoodL (b : Addr) (H : Hp) (p : Addr) (ts : List Addr) : Prop where
  at_ : H p = some (.lst (ts.map V.ref))
  len : ts.length = 5
  ne : p ≠ b
  all : ∀ t ∈ ts, t ≠ b ∧ ∃ u v : List Nat, H t = some (.tup [.str (S u), .str (S v)]) ∧ azB u = true ∧ azB v = true ∧ (u = [] ∨ v = []) ∧ u.length ≤ 26 ∧ v.length ≤ 26
structure WordL (b : Addr) (H : Hp) (p : Addr) (ws : List (List Nat)) : Prop where
  at_ : H p = some (.lst (ws.map fun l => V.str (S l)))
  len : ws.length = 4
  ne : p ≠ b
  all : ∀ l ∈ ws, azB l = true ∧ l.length ≤ 26
theorem GoodL.sb {b : Addr} {H H' : Hp} {p : Addr} {ts : List Addr} (g : GoodL b H p ts) (s : SB b H H') : GoodL b H' p ts :=
  ⟨s _ _ g.ne g.at_, g.len, g.ne, fun t ht => by
    obtain ⟨n, u, v, h, r⟩ := g.all t ht
    exact ⟨n, u, v, s _ _ n h, r⟩⟩
theorem WordL.sb {b : Addr} {H H' : Hp} {p : Addr} {ws : List (List Nat)} (g : WordL b H p ws) (s : SB b H H') : WordL b H' p ws := ⟨s _ _ g.ne g.at_, g.len, g.ne, g.all⟩
theorem GoodL.get {b : Addr} {H : Hp} {p : Addr} {ts : List Addr} (g : GoodL b H p ts) {k : Int} (h0 : 0 ≤ k) (h1 : k < 5) : ∃ t u v, (ts.map V.ref)[k.toNat]? = some (.ref t) ∧ t ≠ b ∧ H t = some (.tup [.str (S u), .str (S v)]) ∧ azB u = true ∧ azB v = true ∧ (u = [] ∨ v = []) ∧ u.length ≤ 26 ∧ v.length ≤ 26 := by
  have hk : k.toNat < ts.length := by rw [g.len]; omega
  obtain ⟨n, u, v, h, r⟩ := g.all ts[k.toNat] (List.getElem_mem hk)
  exact ⟨_, u, v, by rw [List.getElem?_map, List.getElem?_eq_getElem hk]; rfl, n, h, r⟩
theorem WordL.get {b : Addr} {H : Hp} {p : Addr} {ws : List (List Nat)} (g : WordL b H p ws) {k : Int} (h0 : 0 ≤ k) (h1 : k < 4) : ∃ l, (ws.map fun l => V.str (S l))[k.toNat]? = some (.str (S l)) ∧ azB l = true ∧ l.length ≤ 26 := by
  have hk : k.toNat < ws.length := by rw [g.len]; omega
  have := g.all ws[k.toNat] (List.getElem_mem hk)
  exact ⟨_, by rw [List.getElem?_map, List.getElem?_eq_getElem hk]; rfl, this⟩
theorem isL_good {K : PySem.W.Frag} {H : Hp} {t : Addr} {u v : List Nat} (h : H t = some (.tup [.str (S u), .str (S v)])) (z1 : azB u = true) (z2 : azB v = true) (e : u = [] ∨ v = []) (n1 : u.length ≤ 26) (n2 : v.length ≤ 26) : IsL K H (.ref t) true := by
  refine .inr (.inr ⟨t, _, _, true, true, rfl, h, .inl ⟨u, rfl, by omega, z1.symm⟩, .inl ⟨v, rfl, by omega, z2.symm⟩, ?_⟩)
  rw [S_dec, S_dec]
  rcases e with rfl | rfl <;> simp
/-- _law_right(box) -/
def spRight : Sp := fun vs H Q _ => ∃ (b : Addr) (d : Int), vs = [.ref b] ∧ BoxAt H b d ∧ d ≤ 500000 ∧ ∀ H', SB b H H' → Q (.bl true) H'
section
variable {P : Program} {w : World} {K : PySem.W.Frag} {mg : Str → Option Value} {base : Heap} {f : Addr} {fd : FuncData}
theorem ok_right (F : Fun K "_law_right" "_law_right" s__law_right f fd) (z : Z mg) (c__law_take : Cal P w K mg base "_law_take" ["box", "many"] 1 spTake) (c__law_odd_lags : Cal P w K mg base "_law_odd_lags" [] 1 (spOddLags K)) (c__law_odd_texts : Cal P w K mg base "_law_odd_texts" [] 1 (spOddTexts K))
    (q__law_lot_holds : CalG P w K mg base "_law_lot_holds" ["parts", "wrong", "named"] 8 (spLot K)) : FnG P w K mg base CX0 9 f fd ["box"] spRight := by
  refine Sw.Fun.okG0 F sc__law_right (fun vs H Q E h => ?_) (fun cdv A outer s H vs Q E hr quiet h => ?_)
  · obtain ⟨b, d, rfl, _⟩ := h; rfl
  · obtain ⟨b, d, rfl, B, hd, k⟩ := h
    refine ⟨_, (pss_cons (ps_par (i := 1) (j := 2) rfl sc__law_right.nd rfl rfl (by decide) rfl rfl (pa_cons (pe_callB call_lenQ (by rfl) z.len PySem.boot_len (pa_cons (pe_cal0 c__law_odd_lags hr) pa_nil)) (pa_cons (pe_callB call_lenQ (by rfl) z.len PySem.boot_len (pa_cons (pe_cal0 c__law_odd_texts hr) pa_nil)) pa_nil)) (by rfl))
      (pss_cons (ps_par (i := 3) (j := 4) rfl sc__law_right.nd rfl rfl (by decide) rfl rfl (pa_cons (pe_cal c__law_take hr (pa_cons (pv 0) (pa_cons (pv 1) pa_nil))) (pa_cons (pe_cal c__law_take hr (pa_cons (pv 0) (pa_cons (pv 2) pa_nil))) pa_nil)) (by rfl))
      (pss_cons (ps_par (i := 5) (j := 6) rfl sc__law_right.nd rfl rfl (by decide) rfl rfl (pa_cons (pe_op op_mod (pe_callTy call_intN (by rfl) z.int (by decide +kernel) (pa_cons (pe_op op_add (pe_op op_add (pv 3) pe_int) (pe_cal c__law_take hr (pa_cons (pv 0) (pa_cons (pe_op op_sub (pv 1) pe_int) pa_nil)))) pa_nil)) (pv 1)) (pa_cons (pe_op op_mod (pe_callTy call_intN (by rfl) z.int (by decide +kernel) (pa_cons (pe_op op_add (pe_op op_add (pv 4) pe_int) (pe_cal c__law_take hr (pa_cons (pv 0) (pa_cons (pe_op op_sub (pv 2) pe_int) pa_nil)))) pa_nil)) (pv 2)) pa_nil)) (by rfl))
      (pss_cons (ps_set (i := 7) sc__law_right.nd rfl (.inl rfl) (pe_lst (pa_cons (pe_tup (pa_cons (pe_strS (l := []) (by decide +kernel)) (pa_cons (pe_strS (l := []) (by decide +kernel)) pa_nil))) (pa_cons (pe_tup (pa_cons (pe_strS (l := []) (by decide +kernel)) (pa_cons (pe_strS (l := [97, 98, 99]) (by decide +kernel)) pa_nil))) (pa_cons (pe_tup (pa_cons (pe_strS (l := [122, 121]) (by decide +kernel)) (pa_cons (pe_strS (l := []) (by decide +kernel)) pa_nil))) (pa_cons (pe_tup (pa_cons (pe_strS (l := []) (by decide +kernel)) (pa_cons (pe_strS (l := [97, 98, 99, 100, 101, 102, 103, 104, 105, 106, 107, 108, 109, 110, 111, 112, 113, 114, 115, 116, 117, 118, 119, 120, 121, 122]) (by decide +kernel)) pa_nil))) (pa_cons (pe_tup (pa_cons (pe_strS (l := [97]) (by decide +kernel)) (pa_cons (pe_strS (l := []) (by decide +kernel)) pa_nil))) pa_nil)))))))
      (pss_cons (ps_set (i := 8) sc__law_right.nd rfl (.inl rfl) (pe_lst (pa_cons (pe_strS (l := []) (by decide +kernel)) (pa_cons (pe_strS (l := [97]) (by decide +kernel)) (pa_cons (pe_strS (l := [97, 98, 99, 100, 101, 102, 103, 104, 105, 106, 107, 108, 109, 110, 111, 112, 113, 114, 115, 116, 117, 118, 119, 120, 121, 122]) (by decide +kernel)) (pa_cons (pe_strS (l := [122, 122]) (by decide +kernel)) pa_nil))))))
      (pss_cons (ps_for PassesOwn.never rfl (pi_range1 (by rfl) z.range (pa_cons pe_int pa_nil)) (pg_name (i := 9) sc__law_right.nd rfl (.inr rfl))
        (pss_cons (ps_set (i := 10) sc__law_right.nd rfl (.inl rfl) (pe_lst (pa_cons (pe_ix ix_list (pv 7) (pe_cal c__law_take hr (pa_cons (pv 0) (pa_cons pe_int pa_nil))) (fun _ _ => rfl)) (pa_cons (pe_ix ix_list (pv 8) (pe_cal c__law_take hr (pa_cons (pv 0) (pa_cons pe_int pa_nil))) (fun _ _ => rfl)) (pa_cons (pe_ix ix_list (pv 8) (pe_cal c__law_take hr (pa_cons (pv 0) (pa_cons pe_int pa_nil))) (fun _ _ => rfl)) (pa_cons (pe_ix ix_list (pv 7) (pe_cal c__law_take hr (pa_cons (pv 0) (pa_cons pe_int pa_nil))) (fun _ _ => rfl)) pa_nil))))))
        (pss_cons (ps_setLc (i := 11) (own := [("k", 12)]) (g := gName 12) (tt := _) rfl sc__law_right.nd rfl rfl (sw_true rfl rfl rfl (by decide +kernel)) (pi_range1 (by rfl) z.range (pa_cons pe_int pa_nil)) (blkOk_by (own := [("k", 12)]) (N := n__law_right) (sc := defScope s__law_right) (by decide +kernel)) (fun _ _ _ _ _ => (pg_name (i := 12) sc__law_right.nd rfl (.inl rfl))) (fun _ _ _ _ _ => (pts_one (pt_cmpR op_eq (pe_op op_mod (pe_op op_fdiv (pv 9) (pe_ix (r := rIxL K) ix_list (pe_lst (pa_cons pe_int (pa_cons pe_int (pa_cons pe_int (pa_cons pe_int pa_nil))))) (pv 12) (fun _ _ => rfl))) pe_int) pe_int (nomark _)))) (fun _ _ _ _ _ => (pv 12)))
        (pss_cons (ps_set (i := 13) sc__law_right.nd rfl (.inl rfl) (pe_lst (pa_cons (pe_ix ix_list (pe_cal0 c__law_odd_lags hr) (pv 3) (fun _ _ => rfl)) (pa_cons (pe_ix ix_list (pe_cal0 c__law_odd_texts hr) (pv 4) (fun _ _ => rfl)) (pa_cons (pe_ix ix_list (pe_cal0 c__law_odd_texts hr) (pv 6) (fun _ _ => rfl)) (pa_cons (pe_ix ix_list (pe_cal0 c__law_odd_lags hr) (pv 5) (fun _ _ => rfl)) pa_nil))))))
        (pss_cons (ps_for PassesOwn.never rfl (pi_list (pv 11)) (pg_name (i := 12) sc__law_right.nd rfl (.inl rfl))
          (pss_one (ps_asg (pe_ix ix_list (pv 13) (pv 12) (fun _ _ => rfl)) (pg_sub (pv 10) (pv 12) set_list))))
        (pss_one (ps_if (pt_not (pt_val (pe_calG q__law_lot_holds hr quiet (pa_cons (pv 10) (pa_cons (pv 11) (pa_cons (pe_cmpR op_eq (pe_cal c__law_take hr (pa_cons (pv 0) (pa_cons pe_int pa_nil))) pe_int (nomark _)) pa_nil))))))
          (pss_one (ps_ret pe_bl))
          pss_nil)))))))
      (pss_one (ps_ret pe_bl)))))))), ?_⟩
    walk_at "rd"
    refine ⟨rfl, fun p1 H1 x1 s1 np1 e1 l1 o1 _ => ?_⟩
    walk_at "rd"
    refine ⟨rfl, fun p2 H2 x2 s2 np2 e2 l2 o2 _ => ?_⟩
    walk_at "rd"
    rw [l1, l2]
    have B2 := (B.same s1).same s2
    refine ⟨b, 20, d, rfl, B2, by omega, by omega, by omega, fun i Ha i0 i1 Ba sa => ?_⟩
    walk_at "rd"
    refine ⟨b, 17, _, rfl, Ba, by omega, by omega, by omega, fun a Hb a0 a1 Bb sb => ?_⟩
    walk_at "rd"
    refine ⟨b, 19, _, rfl, Bb, by omega, by omega, by omega, fun x Hc x0 x1' Bc sc => ?_⟩
    walk_at "rd"
    refine ⟨b, 16, _, rfl, Bc, by omega, by omega, by omega, fun y Hd y0 y1 Bd sd => ?_⟩
    walk_at "rd"
    generalize ej : (i + 1 + x) % ((20 : Nat) : Int) = j
    generalize ebb : (a + 1 + y) % ((17 : Nat) : Int) = bb
    have j0 : 0 ≤ j := by omega
    have j1 : j < 20 := by omega
    have bb0 : 0 ≤ bb := by omega
    have bb1 : bb < 17 := by omega
    have sD : SB b H Hd := (SB.of (s1.trans s2)).trans (sa.trans (sb.trans (sc.trans sd)))
    refine ⟨Nat.le_of_ble_eq_true rfl, fun t1 n1 => ?_⟩
    walk_at "rd"
    refine ⟨Nat.le_of_ble_eq_true rfl, fun t2 n2 => ?_⟩
    walk_at "rd"
    refine ⟨Nat.le_of_ble_eq_true rfl, fun t3 n3 => ?_⟩
    walk_at "rd"
    refine ⟨Nat.le_of_ble_eq_true rfl, fun t4 n4 => ?_⟩
    walk_at "rd"
    refine ⟨Nat.le_of_ble_eq_true rfl, fun t5 n5 => ?_⟩
    walk_at "rd"
    refine ⟨Nat.le_of_ble_eq_true rfl, fun pg ng => ?_⟩
    walk_at "rd"
    refine ⟨Nat.le_of_ble_eq_true rfl, fun pw nw => ?_⟩
    walk_at "rd"
    have HF : ∃ HF, HF = upd (upd (upd (upd (upd (upd (upd Hd t1 (.tup [.str (S []), .str (S [])])) t2 (.tup [.str (S []), .str (S [97, 98, 99])])) t3 (.tup [.str (S [122, 121]), .str (S [])])) t4 (.tup [.str (S []), .str (S [97, 98, 99, 100, 101, 102, 103, 104, 105, 106, 107, 108, 109, 110, 111, 112, 113, 114, 115, 116, 117, 118, 119, 120, 121, 122])]))
      t5 (.tup [.str (S [97]), .str (S [])])) pg (.lst [.ref t1, .ref t2, .ref t3, .ref t4, .ref t5])) pw (.lst [.str (S []), .str (S [97]), .str (S [97, 98, 99, 100, 101, 102, 103, 104, 105, 106, 107, 108, 109, 110, 111, 112, 113, 114, 115, 116, 117, 118, 119, 120, 121, 122]), .str (S [122, 122])]) := ⟨_, rfl⟩
    obtain ⟨HF, hHF⟩ := HF
    have m1 : Same Hd _ := same_upd (o := .tup [.str (S []), .str (S [])]) n1
    have m2 := Same.upd_new (o := .tup [.str (S []), .str (S [97, 98, 99])]) m1 n2
    have m3 := Same.upd_new (o := .tup [.str (S [122, 121]), .str (S [])]) m2 n3
    have m4 := Same.upd_new (o := .tup [.str (S []), .str (S [97, 98, 99, 100, 101, 102, 103, 104, 105, 106, 107, 108, 109, 110, 111, 112, 113, 114, 115, 116, 117, 118, 119, 120, 121, 122])]) m3 n4
    have m5 := Same.upd_new (o := .tup [.str (S [97]), .str (S [])]) m4 n5
    have m6 := Same.upd_new (o := .lst [.ref t1, .ref t2, .ref t3, .ref t4, .ref t5]) m5 ng
    have m7 := Same.upd_new (o := .lst [.str (S []), .str (S [97]), .str (S [97, 98, 99, 100, 101, 102, 103, 104, 105, 106, 107, 108, 109, 110, 111, 112, 113, 114, 115, 116, 117, 118, 119, 120, 121, 122]), .str (S [122, 122])]) m6 nw
    have GL : GoodL b HF pg [t1, t2, t3, t4, t5] := by
      rw [hHF]
      refine ⟨upd_old nw upd_same, rfl, Bd.ne_new (m5.free ng), ?_⟩
      repeat' (first | exact List.forall_mem_nil _ | refine List.forall_mem_cons.mpr ⟨?_, ?_⟩)
      · exact ⟨Bd.ne_new n1, _, _, upd_old nw (upd_old ng (upd_old n5 (upd_old n4 (upd_old n3 (upd_old n2 upd_same))))), rfl, rfl, .inl rfl, by decide, by decide⟩
      · exact ⟨Bd.ne_new (m1.free n2), _, _, upd_old nw (upd_old ng (upd_old n5 (upd_old n4 (upd_old n3 upd_same)))), rfl, by decide, .inl rfl, by decide, by decide⟩
      · exact ⟨Bd.ne_new (m2.free n3), _, _, upd_old nw (upd_old ng (upd_old n5 (upd_old n4 upd_same))), by decide, rfl, .inr rfl, by decide, by decide⟩
      · exact ⟨Bd.ne_new (m3.free n4), _, _, upd_old nw (upd_old ng (upd_old n5 upd_same)), rfl, by decide, .inl rfl, by decide, by decide⟩
      · exact ⟨Bd.ne_new (m4.free n5), _, _, upd_old nw (upd_old ng upd_same), by decide, rfl, .inr rfl, by decide, by decide⟩
    have WL : WordL b HF pw [[], [97], [97, 98, 99, 100, 101, 102, 103, 104, 105, 106, 107, 108, 109, 110, 111, 112, 113, 114, 115, 116, 117, 118, 119, 120, 121, 122], [122, 122]] := by
      rw [hHF]
      refine ⟨upd_same, rfl, Bd.ne_new (m6.free nw), ?_⟩
      decide
    have mF : Same Hd HF := by rw [hHF]; exact m7
    rw [← hHF]
    clear hHF m1 m2 m3 m4 m5 m6 m7 n1 n2 n3 n4 n5 ng nw
    have BF := Bd.same mF
    have sF : SB b H HF := sD.trans (SB.of mF)
    generalize [t1, t2, t3, t4, t5] = ts at *
    generalize ([[], [97], [97, 98, 99, 100, 101, 102, 103, 104, 105, 106, 107, 108, 109, 110, 111, 112, 113, 114, 115, 116, 117, 118, 119, 120, 121, 122], [122, 122]] : List (List Nat)) = wds at *
    refine i_rng (by omega) (by omega) ?_
    refine go_for walk_rangeZ (fun lo σ H2 => ∃ (u9 u10 u11 u12 u13 : Option V), σ = [some (.ref b), some (.int ((20 : Nat) : Int)), some (.int ((17 : Nat) : Int)), some (.int i), some (.int a), some (.int j), some (.int bb), some (.ref pg), some (.ref pw), u9, u10, u11, u12, u13] ∧ SB b H H2 ∧ BoxAt H2 b (d + 10 + 10 * lo) ∧ GoodL b H2 pg ts ∧ WordL b H2 pw wds)
      ⟨_, _, _, _, _, rfl, sF, BF.mono (by omega), GL, WL⟩ (fun _ _ _ _ _ => trivial) (fun lo v σ H2 H3 hlo p y => ?_) (fun σ H2 p => ?_)
    · obtain ⟨u9, u10, u11, u12, u13, rfl, s4, B4, G4, W4⟩ := p
      obtain ⟨rfl, rfl⟩ := y
      have hlo2 : lo < 16 := hlo
      walk_at "rd"
      refine ⟨b, 5, _, rfl, B4, by omega, by omega, by omega, fun k1 Ka h0 h1 Ba' sa' => ?_⟩
      obtain ⟨g1, gu, gv, eg, gne, gt, gz1, gz2, ge, gn1, gn2⟩ := (G4.sb sa').get h0 h1
      refine i_ixLv (G4.sb sa').at_ h0 eg ?_
      walk_at "rd"
      refine ⟨b, 4, _, rfl, Ba', by omega, by omega, by omega, fun k2 Kb h2 h3 Bb' sb' => ?_⟩
      obtain ⟨w1, ew1, wz1, wn1⟩ := (W4.sb (sa'.trans sb')).get h2 h3
      refine i_ixLv (W4.sb (sa'.trans sb')).at_ h2 ew1 ?_
      walk_at "rd"
      refine ⟨b, 4, _, rfl, Bb', by omega, by omega, by omega, fun k3 Kc h4 h5 Bc' sc' => ?_⟩
      obtain ⟨w2, ew2, wz2, wn2⟩ := (W4.sb (sa'.trans (sb'.trans sc'))).get h4 h5
      refine i_ixLv (W4.sb (sa'.trans (sb'.trans sc'))).at_ h4 ew2 ?_
      walk_at "rd"
      refine ⟨b, 5, _, rfl, Bc', by omega, by omega, by omega, fun k4 Kd h6 h7 Bd' sd' => ?_⟩
      have S4 := sa'.trans (sb'.trans (sc'.trans sd'))
      obtain ⟨g2, fu, fv, ef, fne, ft, fz1, fz2, fe, fn1, fn2⟩ := (G4.sb S4).get h6 h7
      refine i_ixLv (G4.sb S4).at_ h6 ef ?_
      walk_at "rd"
      refine ⟨Nat.le_of_ble_eq_true rfl, fun pp npp => ?_⟩
      walk_at "rd"
      have sP := same_upd (o := .lst [V.ref g1, V.str (S w1), V.str (S w2), V.ref g2]) npp
      have eP : upd Kd pp (.lst [V.ref g1, V.str (S w1), V.str (S w2), V.ref g2]) pp = some (.lst [V.ref g1, V.str (S w1), V.str (S w2), V.ref g2]) := upd_same
      generalize upd Kd pp (.lst [V.ref g1, V.str (S w1), V.str (S w2), V.ref g2]) = HP at *
      have ppb : pp ≠ b := Bd'.ne_new npp
      refine i_rng (by omega) (by omega) ?_
      refine go_lc walk_rangeZ (fun p i H2 => Same HP H2 ∧ H2 p = some (.lst (((List.range i).filter (bitOf lo)).map fun (k : Nat) => V.int (k : Nat))))
        (fun p np => ⟨same_upd np, upd_same⟩) (fun _ _ _ _ _ => trivial) (fun p np i v H5 H6 hi q y => ?_) (fun wp H5 nwp q => ?_)
      · obtain ⟨s5, e5⟩ := q
        obtain ⟨rfl, rfl⟩ := y
        have hi4 : i < 4 := hi
        walk_at "rd"
        refine ⟨rfl, ?_⟩
        walk_at "rd"
        refine ⟨Nat.le_of_ble_eq_true rfl, fun q nq => ?_⟩
        walk_at "rd"
        refine i_ixLv upd_same (by omega) (by rw [Int.toNat_natCast]; exact pow_at hi4) ?_
        walk_at "rd"
        have pw1 := Nat.pow_pos (n := i) (show 0 < 2 by decide)
        have pw2 : 2 ^ i ≤ 2 ^ 3 := Nat.pow_le_pow_right (by decide) (by omega)
        refine i_rI ⟨by omega, by omega⟩ ?_
        walk_at "rd"
        have s6 := s5.trans (same_upd (o := .lst [V.int 1, .int 2, .int 4, .int 8]) nq)
        have e6 := upd_old (o := .lst [V.int 1, .int 2, .int 4, .int 8]) nq e5
        refine iteB (fun c => ?_) (fun c => ?_)
        · walk_at "rd"
          refine ⟨_, e6, ?_, Same.set_new s6 np, ?_⟩
          · rw [List.length_map]
            exact Nat.lt_of_le_of_lt (Nat.le_trans (List.length_filter_le _ _) (by rw [List.length_range]; exact Nat.le_of_lt hi4)) (by decide)
          · rw [upd_same, filter_next, if_pos (show bitOf lo i = true from decide_eq_true c), List.map_append]
            rfl
        · refine ⟨s6, ?_⟩
          rw [filter_next, if_neg (show ¬ bitOf lo i = true by unfold bitOf; rw [decide_eq_false c]; simp), List.append_nil]
          exact e6
      · obtain ⟨s5, e5⟩ := q
        walk_at "rd"
        rw [show (4 : Int).toNat = 4 from rfl, bits_filter] at e5
        generalize bitOf lo 0 = c0 at e5
        generalize bitOf lo 1 = c1 at e5
        generalize bitOf lo 2 = c2 at e5
        generalize bitOf lo 3 = c3 at e5
        refine ⟨rfl, fun q0 H6 y0 s6 nq0 eq0 ly0 oy0 fy0 => ?_⟩
        walk_at "rd"
        have hk0 : i.toNat < y0.length := by omega
        refine i_ixLv eq0 i0 (List.getElem?_eq_getElem hk0) ?_
        have O0 := fun H'' hk => oy0 H'' hk _ (List.getElem_mem hk0)
        have F0 := fy0 _ (List.getElem_mem hk0)
        generalize y0[i.toNat] = v0 at *
        walk_at "rd"
        refine ⟨rfl, fun q1 H7 y1 s7 nq1 eq1 ly1 oy1 fy1 => ?_⟩
        walk_at "rd"
        have hk1 : a.toNat < y1.length := by omega
        refine i_ixLv eq1 a0 (List.getElem?_eq_getElem hk1) ?_
        have O1 := fun H'' hk => oy1 H'' hk _ (List.getElem_mem hk1)
        have F1 := fy1 _ (List.getElem_mem hk1)
        generalize y1[a.toNat] = v1 at *
        walk_at "rd"
        refine ⟨rfl, fun q2 H8 y2 s8 nq2 eq2 ly2 oy2 fy2 => ?_⟩
        walk_at "rd"
        have hk2 : bb.toNat < y2.length := by omega
        refine i_ixLv eq2 bb0 (List.getElem?_eq_getElem hk2) ?_
        have O2 := fun H'' hk => oy2 H'' hk _ (List.getElem_mem hk2)
        have F2 := fy2 _ (List.getElem_mem hk2)
        generalize y2[bb.toNat] = v2 at *
        walk_at "rd"
        refine ⟨rfl, fun q3 H9 y3 s9 nq3 eq3 ly3 oy3 fy3 => ?_⟩
        walk_at "rd"
        have hk3 : j.toNat < y3.length := by omega
        refine i_ixLv eq3 j0 (List.getElem?_eq_getElem hk3) ?_
        have O3 := fun H'' hk => oy3 H'' hk _ (List.getElem_mem hk3)
        have F3 := fy3 _ (List.getElem_mem hk3)
        generalize y3[j.toNat] = v3 at *
        walk_at "rd"
        refine ⟨Nat.le_of_ble_eq_true rfl, fun po npo => ?_⟩
        walk_at "rd"
        have s59 : Same H5 H9 := s6.trans (s7.trans (s8.trans s9))
        have s5O := s59.trans (same_upd (o := .lst [v0, v1, v2, v3]) npo)
        have eO : upd H9 po (.lst [v0, v1, v2, v3]) po = some (.lst [v0, v1, v2, v3]) := upd_same
        have sO0 := (s7.trans (s8.trans s9)).trans (same_upd (o := .lst [v0, v1, v2, v3]) npo)
        have sO1 := (s8.trans s9).trans (same_upd (o := .lst [v0, v1, v2, v3]) npo)
        have sO2 := s9.trans (same_upd (o := .lst [v0, v1, v2, v3]) npo)
        have sO3 := same_upd (o := .lst [v0, v1, v2, v3]) npo
        have fpo : H5 po = none := s59.free npo
        generalize upd H9 po (.lst [v0, v1, v2, v3]) = HO' at *
        have eW := s5O _ _ e5
        have eP5 := s5 _ _ eP
        have eP' := s5O _ _ eP5
        have wpp : wp ≠ pp := fun z => by rw [z, eP] at nwp; cases nwp
        have pop : po ≠ pp := fun z => by rw [z, eP5] at fpo; cases fpo
        have pow : po ≠ wp := fun z => by rw [z, e5] at fpo; cases fpo
        refine i_sqL (sqL_of eW) ?_
        refine go_for (walk_list (xs := (bitsL c0 c1 c2 c3).map fun (k : Nat) => V.int (k : Nat))) (fun t σ H2 => ∃ (u12 : Option V), σ = [some (.ref b), some (.int ((20 : Nat) : Int)), some (.int ((17 : Nat) : Int)), some (.int i), some (.int a), some (.int j), some (.int bb), some (.ref pg), some (.ref pw), some (.int (lo : Nat)), some (.ref pp), some (.ref wp), u12, some (.ref po)] ∧
            H2 pp = some (.lst (put [v0, v1, v2, v3] [.ref g1, .str (S w1), .str (S w2), .ref g2] ((bitsL c0 c1 c2 c3).take t))) ∧ SB pp HO' H2)
          ⟨_, rfl, eP', SB.refl _⟩ (fun t σ H2 _ h => ?_) (fun t v σ H2 H2' ht h y => ?_) (fun σ H2 h => ?_)
        · obtain ⟨_, _, _, s⟩ := h
          exact sqL_of (s _ _ wpp eW)
        · obtain ⟨u12, rfl, eput, sput⟩ := h
          obtain ⟨rfl, hv⟩ := y
          rw [List.length_map] at ht
          have hk := List.getElem?_eq_getElem ht
          rw [List.getElem?_map, hk] at hv
          cases hv
          have k4 : (bitsL c0 c1 c2 c3)[t] < 4 := bits_lt (List.getElem_mem ht)
          have eO2 := sput _ _ pop eO
          walk_at "rd"
          refine i_ixLv eO2 (by omega) (by rw [Int.toNat_natCast]; exact four_at _ rfl k4) ?_
          walk_at "rd"
          refine i_setL eput (by rw [put_len]; exact ixN_four k4) ?_
          refine ⟨_, rfl, ?_, sput.trans SB.upd⟩
          rw [upd_same, put_next _ _ _ hk]
        · obtain ⟨u12, rfl, eput, sput⟩ := h
          rw [List.length_map, List.take_length, put_bits] at eput
          walk_at "rd"
          have sKO : Same Kd HO' := sP.trans (s5.trans s5O)
          have B7 := (Bd'.same sKO).sbo sput ppb
          refine ⟨b, 2, _, rfl, B7, by omega, by omega, by omega, fun nm Ht nm0 nm1 Bt st => ?_⟩
          walk_at "rd"
          have H5b : ∀ {x : Addr}, H5 x = none → x ≠ b := fun nx => (Bd'.same (sP.trans s5)).ne_new nx
          have tr : ∀ {Hx Hy : Hp}, Same H5 Hx → Same Hy HO' → NewKept Hx Hy Ht := by
            intro Hx Hy sx sy x o nx ex
            have nx5 : H5 x = none := sx.free nx
            have xpp : x ≠ pp := fun z => by rw [z, eP5] at nx5; cases nx5
            exact st _ _ (H5b nx5) (sput _ _ xpp (sy _ _ ex))
          have P0 := O0 Ht (tr (Same.refl _) sO0)
          have P1 := O1 Ht (tr s6 sO1)
          have P2 := O2 Ht (tr (s6.trans s7) sO2)
          have P3 := O3 Ht (tr (s6.trans (s7.trans s8)) sO3)
          have sKt : SB b Kd Ht := fun x o nx ex => st _ _ nx (sput _ _ (ne_of_none ex npp) (sKO _ _ ex))
          obtain ⟨m, mf, hm⟩ := some_m fpo (if c0 = true then v0 else if c1 = true then v1 else if c2 = true then v2 else v3) (by
            intro x ex
            cases c0 with
            | true => exact F0 x ex
            | false =>
              cases c1 with
              | true => exact s6.free (F1 x ex)
              | false =>
                cases c2 with
                | true => exact s6.free (s7.free (F2 x ex))
                | false => exact s6.free (s7.free (s8.free (F3 x ex))))
          have mpp : m ≠ pp := fun z => by rw [z, eP5] at mf; cases mf
          have mwp : m ≠ wp := fun z => by rw [z, e5] at mf; cases mf
          have mb : m ≠ b := H5b mf
          have gtt := sKt _ _ gne ((sb'.trans (sc'.trans sd')) _ _ gne gt)
          have ftt := sKt _ _ fne ft
          refine ⟨pp, wp, bitsL c0 c1 c2 c3, decide (nm = 0), if c0 = true then v0 else V.ref g1, if c1 = true then v1 else V.str (S w1), if c2 = true then v2 else V.str (S w2), if c3 = true then v3 else V.ref g2, !c0, !c1, !c2, !c3, rfl, st _ _ ppb eput, ?_, ?_, ?_, ?_, ?_, ⟨?_, ?_⟩, ?_, m, ?_, ?_, fun H' sm => ?_⟩
          · have wpb : wp ≠ b := fun z => by
              obtain ⟨n', g', c', e', hb', _⟩ := (Bd'.same sP).ex
              rw [z, hb'] at nwp
              cases nwp
            exact st _ _ wpb (sput _ _ wpp eW)
          · cases c0 with
            | true => exact P0.1
            | false => exact isL_good gtt gz1 gz2 ge gn1 gn2
          · cases c1 with
            | true => exact P1.1
            | false => exact .inl ⟨w1, rfl, by omega, wz1.symm⟩
          · cases c2 with
            | true => exact P2.1
            | false => exact .inl ⟨w2, rfl, by omega, wz2.symm⟩
          · cases c3 with
            | true => exact P3.1
            | false => exact isL_good ftt fz1 fz2 fe fn1 fn2
          · intro q x ex
            cases c1 with
            | true => cases q
            | false => rw [← S_inj.mp (V.str.inj ex)]; omega
          · intro q x ex
            cases c2 with
            | true => cases q
            | false => rw [← S_inj.mp (V.str.inj ex)]; omega
          · rintro x u' v' (⟨ex, q⟩ | ⟨ex, q⟩) hx
            · cases c0 with
              | true => cases q
              | false =>
                cases ex
                rw [gtt] at hx
                have e1 := HO.tup.inj (Option.some.inj hx)
                simp only [List.cons.injEq, V.str.injEq, S_inj, and_true] at e1
                obtain ⟨rfl, rfl⟩ := e1
                omega
            · cases c3 with
              | true => cases q
              | false =>
                cases ex
                rw [ftt] at hx
                have e1 := HO.tup.inj (Option.some.inj hx)
                simp only [List.cons.injEq, V.str.injEq, S_inj, and_true] at e1
                obtain ⟨rfl, rfl⟩ := e1
                omega
          · cases c0 with
            | true => exact .inr ⟨0, _, v0, rfl, rfl, P0.2, hm, mpp, mwp, rfl⟩
            | false =>
              cases c1 with
              | true => exact .inr ⟨1, _, v1, rfl, rfl, P1.2, hm, mpp, mwp, rfl⟩
              | false =>
                cases c2 with
                | true => exact .inr ⟨2, _, v2, rfl, rfl, P2.2, hm, mpp, mwp, rfl⟩
                | false =>
                  cases c3 with
                  | true => exact .inr ⟨3, _, v3, rfl, rfl, P3.2, hm, mpp, mwp, ⟨rfl, rfl⟩⟩
                  | false => exact .inl ⟨rfl, rfl, rfl, rfl, rfl⟩
          · cases c0 <;> cases c1 <;> cases c2 <;> cases c3 <;> decide
          · walk_at "rd"
            have sEnd : SB b Kd H' := fun x o nx ex => sm _ _ (fun z => by rw [z] at ex; have y := s5 _ _ (sP _ _ ex); rw [mf] at y; cases y) (sKt _ _ nx ex)
            exact ⟨_, _, _, _, _, rfl, s4.trans (S4.trans sEnd), (Bt.sbo sm mb).mono (by omega), (G4.sb S4).sb sEnd, (W4.sb S4).sb sEnd⟩
    · obtain ⟨u9, u10, u11, u12, u13, rfl, s4, B4, G4, W4⟩ := p
      walk_at "rd"
      exact k _ s4
end
end Sw
namespace Sw
open PySem PySem.Spec PyProof.Rows L2
local macro_rules | `(tactic| walk_at "hp") => `(tactic| first
  | (with_reducible assumption) | (with_reducible exact upd_same)
  | ((with_reducible refine' upd_old ?q1 ?q2); (case q1 => (with_reducible assumption)); (case q2 => walk_at "hp"))
  | ((with_reducible refine' Same.at ?q1 ?q2); (case q1 => (with_reducible assumption)); (case q2 => walk_at "hp"))
  | ((with_reducible refine' upd_skip ?q1 ?q2); (case q1 => walk_at "ne"); (case q2 => walk_at "hp"))
  | fail)
local macro_rules | `(tactic| walk_at "ne") => `(tactic| first
  | (with_reducible assumption) | (with_reducible exact Ne.symm (by assumption))
  | ((with_reducible refine' ne_of_none ?q1 ?q2); (case q2 => (with_reducible assumption)); (case q1 => walk_at "hp"))
  | fail)
local macro_rules | `(tactic| walk_at "ci") => `(tactic| first | assumption | (show (0 : Int) < _; first | decide | (with_reducible omega)) | exact ⟨by decide, by decide⟩ | exact .inl ⟨by decide, by decide⟩ | exact .inr ⟨by decide, by decide⟩)
local macro_rules | `(tactic| walk_at "ln") => `(tactic| first | (with_reducible assumption) | (with_reducible omega) | (simp only [List.length_append, List.length_take, List.length_drop, List.length_reverse, List.length_cons, List.length_nil]; with_reducible omega))
local macro_rules | `(tactic| walk_at "rd1") => `(tactic| first
  | (with_reducible refine i_seq ?_) | (with_reducible refine i_asg ?_) | (with_reducible refine i_ret ?_) | (with_reducible refine i_name ?_) | ((with_reducible refine' i_var ?q1 ?_); (case q1 => exact rfl)) | (with_reducible refine i_c ?_) | (with_reducible refine i_op ?_) | (with_reducible refine i_un ?_)
  | (with_reducible refine i_rI0 ?_) | (with_reducible refine i_cb ?_) | (with_reducible refine i_cons ?_) | (with_reducible refine i_nil ?_) | (with_reducible refine i_call ?_) | (with_reducible refine i_if ?_) | (with_reducible refine i_ifE ?_) | (with_reducible refine i_test ?_) | (with_reducible refine i_bl ?_)
  | (with_reducible refine i_and ?_) | (with_reducible refine i_or ?_) | (with_reducible refine i_not ?_) | (with_reducible refine i_lst ?_) | (with_reducible refine i_tup ?_) | (with_reducible refine i_next ?_) | (with_reducible refine i_drop ?_) | (with_reducible refine i_sub ?_)
  | (with_reducible refine i_bm ?_) | (with_reducible refine i_sl ?_) | (with_reducible refine i_part ?_) | (with_reducible refine i_nopart ?_) | (with_reducible refine i_exI ?_) | (with_reducible refine i_chain ?_) | ((with_reducible refine' i_aug ?q1 ?_); (case q1 => exact rfl)) | (with_reducible refine i_ip ?_)
  | (with_reducible refine i_par ?_) | (with_reducible refine i_pair ?_) | (with_reducible refine i_andV ?_) | (with_reducible refine i_orV ?_) | (with_reducible refine i_notV ?_) | (with_reducible refine i_m1 ?_) | (with_reducible refine i_str ?_)
  | (with_reducible refine iteF ?_) | (with_reducible refine iteT ?_) | (with_reducible refine iteNT ?_) | (with_reducible refine iteNF ?_) | (with_reducible refine i_tyS ?_) | (with_reducible refine i_tB ?_) | (with_reducible refine i_retN ?_) | (with_reducible refine i_par3 ?_) | (with_reducible refine i_trip ?_) | (with_reducible refine i_gCons ?_) | (with_reducible refine i_gNil ?_) | (with_reducible refine i_lstRg ?_) | (with_reducible refine i_rg1 ?_)
  | (with_reducible refine i_lc ?_) | (with_reducible refine i_for ?_) | (with_reducible refine i_iList ?_) | (with_reducible refine i_iTup ?_) | (with_reducible refine i_iStr ?_) | (with_reducible refine i_iRng1 ?_) | (with_reducible refine i_iEnS ?_)
  | ((with_reducible refine' i_ixTH ?q1 ?q2 ?_); (case q1 => walk_at "hp"); (case q2 => exact rfl))
  | ((with_reducible refine' i_ixLH ?q1 ?q2 ?_); (case q1 => walk_at "hp"); (case q2 => exact rfl))
  | ((with_reducible refine i_addS ?q1 ?_); (case q1 => walk_at "ln")) | ((with_reducible refine i_lenSS ?q1 ?_); (case q1 => walk_at "ln")) | ((with_reducible refine i_slFrom ?q1 ?q2 ?_); (case q1 => walk_at "ln"); (case q2 => walk_at "ln")) | ((with_reducible refine i_slTo ?q1 ?q2 ?_); (case q1 => walk_at "ln"); (case q2 => walk_at "ln"))
  | ((with_reducible refine' i_tyL ?q1 ?_); (case q1 => walk_at "hp"))
  | ((with_reducible refine' i_gTupH ?q1 ?q2 ?_); (case q1 => walk_at "hp"); (case q2 => exact rfl))
  | (with_reducible refine i_dnew ?_) | (with_reducible refine i_init ?_) | (with_reducible refine i_fst ?_) | (with_reducible refine i_mk ?_) | (with_reducible refine i_raise ?_) | (with_reducible refine i_callS ?_) | (with_reducible refine i_kwS ?_)
  | (with_reducible refine i_revT ?_) | (with_reducible refine i_kw ?_) | ((with_reducible refine' ⟨_, _, rfl, sqT_of ?q1, ?_⟩); (case q1 => walk_at "hp"))
  | (with_reducible refine i_revS ?_) | ((with_reducible refine i_revSS ?q1 ?_); (case q1 => walk_at "ln"))
  | (with_reducible refine i_startS ?_) | (with_reducible refine i_inSg ?_) | (with_reducible refine i_absN ?_) | (with_reducible refine i_min2 ?_) | (with_reducible refine i_max2 ?_) | (with_reducible refine i_min3 ?_) | (with_reducible refine i_intN ?_) | (with_reducible refine i_intNB ?_)
  | ((with_reducible refine' i_lenL ?q1 ?_); (case q1 => walk_at "hp")) | ((with_reducible refine' i_lenT ?q1 ?_); (case q1 => walk_at "hp"))
  | (with_reducible refine i_eqI ?_) | (with_reducible refine i_neI ?_) | (with_reducible refine i_eqS ?_) | (with_reducible refine i_neS ?_) | (with_reducible refine i_isNoI ?_) | (with_reducible refine i_isNoN ?_) | (with_reducible refine i_isNoR ?_)
  | ((with_reducible refine i_pow ?q1 ?q2 ?q3 ?_); (case q1 => decide); (case q2 => decide); (case q3 => (with_reducible omega)))
  | ((with_reducible refine i_rI ?q1 ?_); (case q1 => walk_at "ci"))
  | (with_reducible refine Or.inl ⟨_, rfl, ?_⟩) | (with_reducible refine Or.inr ⟨_, rfl, ?_⟩) | (with_reducible refine ⟨_, rfl, ?_⟩) | (with_reducible refine ⟨_, _, rfl, ?_⟩) | (with_reducible refine ⟨_, _, rfl, rfl, ?_⟩)
  | ((with_reducible refine' ⟨_, _, rfl, Or.inl (sqL_of ?q1), ?_⟩); (case q1 => walk_at "hp")) | ((with_reducible refine' ⟨_, _, rfl, Or.inr (sqT_of ?q1), ?_⟩); (case q1 => walk_at "hp")) | fail)
local macro_rules | `(tactic| walk_at "rd") => `(tactic| repeat' walk_at "rd1")

/-- law(script) -/
def spLaw (K : PySem.W.Frag) : Sp := fun vs H Q _ => ∃ (a : Addr) (ns : List Int), vs = [.ref a] ∧ SqL K H a (ns.map V.int) ∧ ∀ H', Same H H' → Q (.bl true) H'
section
variable {P : Program} {w : World} {K : PySem.W.Frag} {mg : Str → Option Value} {base : Heap} {f : Addr} {fd : FuncData}
theorem ok_law (F : Fun K "law" "law" s_law f fd) (z : Z mg) (q__law_right : CalG P w K mg base "_law_right" ["box"] 9 spRight) (c__law_box : Cal P w K mg base "_law_box" ["great"] 1 spBox) (c__law_cell : Cal P w K mg base "_law_cell" ["script", "k"] 1 (spCell K)) : FnG P w K mg base CX0 10 f fd ["script"] (spLaw K) := by
  refine Sw.Fun.okG0 F sc_law (fun vs H Q E h => ?_) (fun cdv A outer s H vs Q E hr quiet h => ?_)
  · obtain ⟨a, ns, rfl, _⟩ := h; rfl
  · obtain ⟨a, ns, rfl, L, k⟩ := h
    refine ⟨_, (pss_cons (ps_for PassesOwn.never rfl (pi_range1 (by rfl) z.range (pa_cons (pe_callB (call_max2N rfl) (by rfl) z.max_ (by decide +kernel) (pa_cons pe_int (pa_cons (pe_callB (call_min2N rfl) (by rfl) z.min_ (by decide +kernel) (pa_cons pe_int (pa_cons (pe_callB call_lenQ (by rfl) z.len PySem.boot_len (pa_cons (pv 0) pa_nil)) pa_nil))) pa_nil))) pa_nil)) (pg_name (i := 1) sc_law.nd rfl (.inl rfl))
        (pss_one (ps_if (pt_not (pt_val (pe_calG q__law_right hr quiet (pa_cons (pe_cal c__law_box hr (pa_cons (pe_cal c__law_cell hr (pa_cons (pv 0) (pa_cons (pv 1) pa_nil))) pa_nil)) pa_nil))))
          (pss_one (ps_ret pe_bl))
          pss_nil)))
      (pss_one (ps_ret pe_bl))), ?_⟩
    walk_at "rd"
    refine i_lenK L ?_
    walk_at "rd"
    rw [List.length_map]
    refine i_rng (by omega) (by omega) ?_
    refine go_for walk_rangeZ (fun i σ H2 => ∃ u, σ = [some (.ref a), u] ∧ Same H H2) ⟨none, rfl, Same.refl _⟩ (fun _ _ _ _ _ => trivial) (fun i v σ H2 H3 hi p y => ?_) (fun σ H2 p => ?_)
    · obtain ⟨u, rfl, s2⟩ := p
      obtain ⟨rfl, rfl⟩ := y
      walk_at "rd"
      refine ⟨a, ns, i, rfl, Same.sqL s2 L, by omega, by omega, fun v H4 s4 => ?_⟩
      walk_at "rd"
      refine ⟨v, rfl, fun b H5 nb s5 B5 => ?_⟩
      walk_at "rd"
      refine ⟨b, 0, rfl, B5, by omega, fun H6 s6 => ?_⟩
      walk_at "rd"
      intro x o e
      have e4 := s4 _ _ (s2 _ _ e)
      exact s6 _ _ (ne_of_none e4 nb) (s5 _ _ e4)
    · obtain ⟨u, rfl, s2⟩ := p
      walk_at "rd"
      exact k _ s2
end
end Sw
namespace Sw
open PySem PySem.Spec PyProof.Rows L2
theorem def_mk {K : PySem.W.Frag} {h : Heap} {mg : Str → Option Value} {x : Str} {st : Stmt} {f : Addr} {od an : Option Addr} {sl : Array (Option Value)} {oc kV dc pm cd ct : Value} (X : K.In h) (G : h.Ns mainGlobals mg)
    (a : PySem.W.nsIn K mainGlobals x = some (some (.ref f))) (l : K.lookup f = some ⟨oc, od, .func (PySem.W.fnOf x x (defArgs st) (defBody st) (defScope st) .none kV dc pm an cd ct), sl⟩) (c : PySem.W.codeIn K cd x = true) (k : PySem.W.keepIn K (.ref f) = true) : Def K mg x st :=
  ⟨f, _, fun_mk l c k, PySem.W.mg_of X G a⟩
theorem oex_mk {K : PySem.W.Frag} {C B N : Addr} {nm q : Str} {bs : List Value} {sn : List Str} {sub : List Value} {ab : Bool} {col : Option Bool} {dd : Option Addr} {k0 k1 k2 k3 k5 : Option Value}
    (h : K.lookup C = some (excClassObj nm q C N bs [.ref B, .type "Exception", .type "BaseException", .type "object"] true sn sub ab col dd k0 k1 k2 k3 k5 "Exception.__new__")) (sa : PySem.W.findIn K (.ref C) "__setattr__" = some (some (.builtin "object.__setattr__"))) (exC : PySem.W.subIn K (.ref C) (.type "BaseException") = some true)
    (tyC : PySem.W.typeIn K (.ref C) = some (.type "type")) (kC : PySem.W.keepIn K (.ref C) = true) : OexE K C := ⟨⟨nm, q, N, bs, [B], sn, sub, ab, col, dd, k0, k1, k2, k3, k5, h⟩, sa, exC, tyC, kC⟩
theorem exm_mk {K : PySem.W.Frag} {c : Value} (h1 : PySem.W.subIn K c (.type "BaseException") = some true) (h2 : PySem.W.kitCls K c c = some true) : PySem.W.exmOne K c c = some true := by
  unfold PySem.W.exmOne
  rw [h1]
  exact h2
/-- the class, its own __init__ apart -/
structure XC (K : PySem.W.Frag) (mg : Str → Option Value) (C B : Addr) : Prop where
  T : OexE K C
  xf : XfC K C
  no : PySem.W.findIn K (.ref C) "given" = some none
  hm : mg "InvalidText" = some (.ref C)
  me : PySem.W.exmOne K (.ref C) (.ref C) = some true
  ov : Over K mg B
  ini : ∃ (fI : Addr) (fd : FuncData), PySem.W.findIn K (.ref C) "__init__" = some (some (.ref fI)) ∧ PySem.W.typeIn K (.ref fI) = some (.type "function") ∧ Fun K "__init__" "InvalidText.__init__" s_init fI fd
theorem ini_mk {K : PySem.W.Frag} {C fI : Addr} {od an : Option Addr} {sl : Array (Option Value)} {oc kV dc pm cd ct : Value} (i : PySem.W.findIn K (.ref C) "__init__" = some (some (.ref fI))) (t : PySem.W.typeIn K (.ref fI) = some (.type "function"))
    (l : K.lookup fI = some ⟨oc, od, .func (PySem.W.fnOf "__init__" "InvalidText.__init__" (defArgs s_init) (defBody s_init) (defScope s_init) .none kV dc pm an cd ct), sl⟩) (c : PySem.W.codeIn K cd "InvalidText.__init__" = true) (k : PySem.W.keepIn K (.ref fI) = true) :
    ∃ (fI : Addr) (fd : FuncData), PySem.W.findIn K (.ref C) "__init__" = some (some (.ref fI)) ∧ PySem.W.typeIn K (.ref fI) = some (.type "function") ∧ Fun K "__init__" "InvalidText.__init__" s_init fI fd := ⟨fI, _, i, t, fun_mk l c k⟩
theorem all_mk {l : PySem.W.OpenLaw} {w : World} {K : PySem.W.Frag} {mg : Str → Option Value} {fa : Addr} (hfa : mg "law" = some (.ref fa)) (z : Z mg) {t_LETTERS : Tok} (g_LETTERS : mg "LETTERS" = some (.str (("abcdefghijklmnopqrstuvwxyz" : Str)) t_LETTERS)) {C B : Addr} (xc : XC K mg C B)
    (d_is_text : Def K mg "is_text" s_is_text) (d_is_lag : Def K mg "is_lag" s_is_lag) (d_check_text : Def K mg "check_text" s_check_text) (d_common_beginning : Def K mg "common_beginning" s_common_beginning) (d_without_common_ends : Def K mg "without_common_ends" s_without_common_ends) (d_next_band : Def K mg "next_band" s_next_band) (d_distance_within : Def K mg "distance_within" s_distance_within) (d_levenshtein : Def K mg "levenshtein" s_levenshtein) (d_distance : Def K mg "distance" s_distance) (d_gap_price : Def K mg "gap_price" s_gap_price) (d__law_cell : Def K mg "_law_cell" s__law_cell) (d__law_box : Def K mg "_law_box" s__law_box) (d__law_take : Def K mg "_law_take" s__law_take) (d__law_odd_lags : Def K mg "_law_odd_lags" s__law_odd_lags) (d__law_odd_texts : Def K mg "_law_odd_texts" s__law_odd_texts) (d__law_told : Def K mg "_law_told" s__law_told) (d__law_lot_holds : Def K mg "_law_lot_holds" s__law_lot_holds) (d__law_right : Def K mg "_law_right" s__law_right) (d_law : Def K mg "law" s_law) :
    ∃ fd : FuncData, (∀ (s : Shared) (v : Value), BindsTo s fd ⟨[v], []⟩ [("script", v)]) ∧ ∀ base : Heap, K.In base → base.Ns mainGlobals mg → FnG l.prog w K mg base CX0 10 fa fd ["script"] (spLaw K) := by
  obtain ⟨f, fd, F, e⟩ := d_law
  cases hfa.symm.trans e
  have F0 := F
  obtain ⟨oc, od, kV, doc, pm, an, cdv, ct, osl, rfl, lk, hcd⟩ := F.ex
  refine ⟨PySem.W.fnOf "law" "law" (defArgs s_law) (defBody s_law) (defScope s_law) .none kV doc pm an cdv ct, fun s v => .of_eq rfl, fun base _ _ => ?_⟩
  have xt : XT l.prog w K mg base C := by
    obtain ⟨fI, fdI, i1, i2, FI⟩ := xc.ini
    exact ⟨xc.T, xc.xf, xc.no, xc.hm, xc.me, fI, fdI, i1, i2, ok_init FI xc.ov, FI.binds fun _ _ _ _ _ _ us hl => match us, hl with | [_, _], _ => rfl⟩
  have c_it := d_is_text.cal (P := l.prog) (w := w) (base := base) (ps := ["value"]) (k := 1) (sp := (spIsText K)) (fun _ _ _ _ _ _ us hl => match us, hl with | [_], _ => rfl) fun f fd F => ok_is_text F z g_LETTERS
  have c_is_text := d_is_text.cal (P := l.prog) (w := w) (base := base) (ps := ["value"]) (k := 1) (sp := (spIsT K)) (fun _ _ _ _ _ _ us hl => match us, hl with | [_], _ => rfl) fun f fd F => ok_is_t (ok_is_text F z g_LETTERS)
  have c_ct := d_check_text.cal (P := l.prog) (w := w) (base := base) (ps := ["text"]) (k := 2) (sp := spCheckText) (fun _ _ _ _ _ _ us hl => match us, hl with | [_], _ => rfl) fun f fd F => ok_check_text F c_it
  have x_check_text := Sw.Def.calX (P := l.prog) (w := w) (base := base) d_check_text (ps := ["text"]) (k := 3) (sp := (spCheckX K C)) (fun _ _ _ _ _ _ us hl => match us, hl with | [_], _ => rfl) fun f fd F => ok_checkX F xt c_is_text
  have c_is_lag := d_is_lag.cal (P := l.prog) (w := w) (base := base) (ps := ["value"]) (k := 2) (sp := (spIsL K)) (fun _ _ _ _ _ _ us hl => match us, hl with | [_], _ => rfl) fun f fd F => ok_is_lagG F z c_is_text
  have c_cb := d_common_beginning.cal (P := l.prog) (w := w) (base := base) (ps := ["one", "other"]) (k := 1) (sp := spCommon) (fun _ _ _ _ _ _ us hl => match us, hl with | [_, _], _ => rfl) fun f fd F => ok_common F z
  have c_we := d_without_common_ends.cal (P := l.prog) (w := w) (base := base) (ps := ["one", "other"]) (k := 2) (sp := spEnds) (fun _ _ _ _ _ _ us hl => match us, hl with | [_, _], _ => rfl) fun f fd F => ok_ends F z c_cb
  have c_nb := d_next_band.cal (P := l.prog) (w := w) (base := base) (ps := ["band", "letter", "at", "other"]) (k := 1) (sp := (spNext K)) (fun _ _ _ _ _ _ us hl => match us, hl with | [_, _, _, _], _ => rfl) fun f fd F => ok_next F z
  have c_dw := d_distance_within.cal (P := l.prog) (w := w) (base := base) (ps := ["one", "other", "most"]) (k := 3) (sp := spWithin) (fun _ _ _ _ _ _ us hl => match us, hl with | [_, _, _], _ => rfl) fun f fd F => ok_within F z c_we c_nb
  have c_lev := d_levenshtein.cal (P := l.prog) (w := w) (base := base) (ps := ["one", "other"]) (k := 4) (sp := spLev) (fun _ _ _ _ _ _ us hl => match us, hl with | [_, _], _ => rfl) fun f fd F => ok_lev F z c_dw
  have c_dist := d_distance.cal (P := l.prog) (w := w) (base := base) (ps := ["one", "other"]) (k := 5) (sp := spLev) (fun _ _ _ _ _ _ us hl => match us, hl with | [_, _], _ => rfl) fun f fd F => ok_distance F c_lev c_ct
  have x_gap := Sw.Def.calX (P := l.prog) (w := w) (base := base) d_gap_price (ps := ["before", "left", "right", "behind"]) (k := 6) (sp := (spGapX K C)) (fun _ _ _ _ _ _ us hl => match us, hl with | [_, _, _, _], _ => rfl) fun f fd F => ok_gapX F xt x_check_text c_is_lag c_dist
  have kx_gap := Sw.Def.calKX (P := l.prog) (w := w) (base := base) d_gap_price (ps := ["before", "left", "right", "behind"]) (ks := gapKs) (k := 6) (sp := spGapX K C) (g := back4) (gV := back4)
    (fun kV doc pm an cdv ct us ws hl => by obtain ⟨rfl, d, c, b, a, rfl⟩ := back4_inv hl; rfl) back4_rel fun f fd F => ok_gapX F xt x_check_text c_is_lag c_dist
  have c_cell := d__law_cell.cal (P := l.prog) (w := w) (base := base) (ps := ["script", "k"]) (k := 1) (sp := (spCell K)) (fun _ _ _ _ _ _ us hl => match us, hl with | [_, _], _ => rfl) fun f fd F => ok__law_cell F z
  have c_box := d__law_box.cal (P := l.prog) (w := w) (base := base) (ps := ["great"]) (k := 1) (sp := spBox) (fun _ _ _ _ _ _ us hl => match us, hl with | [_], _ => rfl) fun f fd F => ok__law_box F z
  have c_take := d__law_take.cal (P := l.prog) (w := w) (base := base) (ps := ["box", "many"]) (k := 1) (sp := spTake) (fun _ _ _ _ _ _ us hl => match us, hl with | [_, _], _ => rfl) fun f fd F => ok__law_take F z
  have c_ol := d__law_odd_lags.cal (P := l.prog) (w := w) (base := base) (ps := []) (k := 1) (sp := (spOddLags K)) (fun _ _ _ _ _ _ us hl => match us, hl with | [], _ => rfl) fun f fd F => ok_odd_lags F
  have c_ot := d__law_odd_texts.cal (P := l.prog) (w := w) (base := base) (ps := []) (k := 1) (sp := (spOddTexts K)) (fun _ _ _ _ _ _ us hl => match us, hl with | [], _ => rfl) fun f fd F => ok_odd_texts F
  have c_told := d__law_told.cal (P := l.prog) (w := w) (base := base) (ps := ["parts", "named"]) (k := 7) (sp := (spTold K)) (fun _ _ _ _ _ _ us hl => match us, hl with | [_, _], _ => rfl) fun f fd F => ok_told F xt x_gap kx_gap
  have q_lot := Sw.Def.calG (P := l.prog) (w := w) (base := base) d__law_lot_holds (ps := ["parts", "wrong", "named"]) (k := 8) (sp := (spLot K)) (fun _ _ _ _ _ _ us hl => match us, hl with | [_, _, _], _ => rfl) fun f fd F => ok_lot F z c_told
  have q_right := Sw.Def.calG (P := l.prog) (w := w) (base := base) d__law_right (ps := ["box"]) (k := 9) (sp := spRight) (fun _ _ _ _ _ _ us hl => match us, hl with | [_], _ => rfl) fun f fd F => ok_right F z c_take c_ol c_ot q_lot
  exact ok_law F0 z q_right c_box c_cell
end Sw
open PySem PySem.W PyProof.Rows
set_option maxHeartbeats 0 in
theorem PySem.Challenge.cw_spoiltways_k74_lags_and_texts_refused_holds : PySem.Challenge.rw_spoiltways_k74_lags_and_texts_refused.Holds := by
  w_on; o_law; k_head; (case hw => w_witness2)
  k_fill
  refine Sw.walk_G (l := PySem.Challenge.rw_spoiltways_k74_lags_and_texts_refused) (n := 63) (k := 10) (x := "script") (sp := Sw.spLaw) rfl (by decide) rfl ⟨rfl, by decide, by decide⟩ (fun w h Y => PySem.W.kIn_of Y) ?F (fun _ _ a ns hl _ hS => ⟨a, ns, rfl, hS, fun _ _ => rfl⟩)
  case F =>
    intro w mg fa h KX G hmg
    have z : Sw.Z mg := by
      refine' ⟨PySem.W.mg_none_of KX G ?z0, PySem.W.mg_none_of KX G ?z1, PySem.W.mg_none_of KX G ?z2, PySem.W.mg_none_of KX G ?z3, PySem.W.mg_none_of KX G ?z4, PySem.W.mg_none_of KX G ?z5, PySem.W.mg_none_of KX G ?z6, PySem.W.mg_none_of KX G ?z7, PySem.W.mg_none_of KX G ?z8, PySem.W.mg_none_of KX G ?z9, PySem.W.mg_none_of KX G ?z10, PySem.W.mg_none_of KX G ?z11, PySem.W.mg_none_of KX G ?z12, PySem.W.mg_none_of KX G ?z13, PySem.W.mg_none_of KX G ?z14⟩
      (case z0 => k_is)
      (case z1 => k_is)
      (case z2 => k_is)
      (case z3 => k_is)
      (case z4 => k_is)
      (case z5 => k_is)
      (case z6 => k_is)
      (case z7 => k_is)
      (case z8 => k_is)
      (case z9 => k_is)
      (case z10 => k_is)
      (case z11 => k_is)
      (case z12 => k_is)
      (case z13 => k_is)
      (case z14 => k_is)
    obtain ⟨v_LETTERS, gv_LETTERS, t_LETTERS, rfl⟩ : ∃ v, mg "LETTERS" = some v ∧ ∃ t, v = .str (("abcdefghijklmnopqrstuvwxyz" : Str)) t := by
      refine' ⟨_, PySem.W.mg_of KX G ?a, ?b⟩
      (case a => k_is)
      (case b => first | exact ⟨_, rfl⟩ | exact ⟨_, congrArg (fun y => PySem.Value.str y _) (by decide +kernel)⟩)
    refine' Sw.all_mk hmg z gv_LETTERS ?xc ?d_is_text ?d_is_lag ?d_check_text ?d_common_beginning ?d_without_common_ends ?d_next_band ?d_distance_within ?d_levenshtein ?d_distance ?d_gap_price ?d__law_cell ?d__law_box ?d__law_take ?d__law_odd_lags ?d__law_odd_texts ?d__law_told ?d__law_lot_holds ?d__law_right ?d_law
    case xc =>
      refine' ⟨Sw.oex_mk ?h1 ?h2 ?h3 ?h4 ?h5, ⟨?f1, ?f2, ?f3, ?f4⟩, ?no, PySem.W.mg_of KX G ?hm, Sw.exm_mk ?me1 ?me2, ⟨PySem.W.mg_of KX G ?b1, ?b2, ?b3, ?b4, ?b5⟩, Sw.ini_mk ?i1 ?i2 ?i3 ?i4 ?i5⟩
      (case hm => k_is)
      (case b1 => k_is)
      (case h1 => k_is)
      (case h2 => k_is)
      (case h3 => k_is)
      (case h4 => k_is)
      (case h5 => k_is)
      (case f1 => k_is)
      (case f2 => k_is)
      (case f3 => k_is)
      (case f4 => k_is)
      (case no => k_is)
      (case me1 => k_is)
      (case me2 => first | k_is | rfl | decide +kernel)
      (case b2 => k_is)
      (case b3 => k_is)
      (case b4 => k_is)
      (case b5 => k_is)
      (case i1 => k_is)
      (case i2 => k_is)
      (case i3 => k_is)
      (case i4 => k_is)
      (case i5 => k_is)
    case d_is_text =>
      refine' Sw.def_mk KX G ?a ?l ?c ?k
      (case a => k_is)
      (case l => k_is)
      (case c => k_is)
      (case k => k_is)
    case d_is_lag =>
      refine' Sw.def_mk KX G ?a ?l ?c ?k
      (case a => k_is)
      (case l => k_is)
      (case c => k_is)
      (case k => k_is)
    case d_check_text =>
      refine' Sw.def_mk KX G ?a ?l ?c ?k
      (case a => k_is)
      (case l => k_is)
      (case c => k_is)
      (case k => k_is)
    case d_common_beginning =>
      refine' Sw.def_mk KX G ?a ?l ?c ?k
      (case a => k_is)
      (case l => k_is)
      (case c => k_is)
      (case k => k_is)
    case d_without_common_ends =>
      refine' Sw.def_mk KX G ?a ?l ?c ?k
      (case a => k_is)
      (case l => k_is)
      (case c => k_is)
      (case k => k_is)
    case d_next_band =>
      refine' Sw.def_mk KX G ?a ?l ?c ?k
      (case a => k_is)
      (case l => k_is)
      (case c => k_is)
      (case k => k_is)
    case d_distance_within =>
      refine' Sw.def_mk KX G ?a ?l ?c ?k
      (case a => k_is)
      (case l => k_is)
      (case c => k_is)
      (case k => k_is)
    case d_levenshtein =>
      refine' Sw.def_mk KX G ?a ?l ?c ?k
      (case a => k_is)
      (case l => k_is)
      (case c => k_is)
      (case k => k_is)
    case d_distance =>
      refine' Sw.def_mk KX G ?a ?l ?c ?k
      (case a => k_is)
      (case l => k_is)
      (case c => k_is)
      (case k => k_is)
    case d_gap_price =>
      refine' Sw.def_mk KX G ?a ?l ?c ?k
      (case a => k_is)
      (case l => k_is)
      (case c => k_is)
      (case k => k_is)
    case d__law_cell =>
      refine' Sw.def_mk KX G ?a ?l ?c ?k
      (case a => k_is)
      (case l => k_is)
      (case c => k_is)
      (case k => k_is)
    case d__law_box =>
      refine' Sw.def_mk KX G ?a ?l ?c ?k
      (case a => k_is)
      (case l => k_is)
      (case c => k_is)
      (case k => k_is)
    case d__law_take =>
      refine' Sw.def_mk KX G ?a ?l ?c ?k
      (case a => k_is)
      (case l => k_is)
      (case c => k_is)
      (case k => k_is)
    case d__law_odd_lags =>
      refine' Sw.def_mk KX G ?a ?l ?c ?k
      (case a => k_is)
      (case l => k_is)
      (case c => k_is)
      (case k => k_is)
    case d__law_odd_texts =>
      refine' Sw.def_mk KX G ?a ?l ?c ?k
      (case a => k_is)
      (case l => k_is)
      (case c => k_is)
      (case k => k_is)
    case d__law_told =>
      refine' Sw.def_mk KX G ?a ?l ?c ?k
      (case a => k_is)
      (case l => k_is)
      (case c => k_is)
      (case k => k_is)
    case d__law_lot_holds =>
      refine' Sw.def_mk KX G ?a ?l ?c ?k
      (case a => k_is)
      (case l => k_is)
      (case c => k_is)
      (case k => k_is)
    case d__law_right =>
      refine' Sw.def_mk KX G ?a ?l ?c ?k
      (case a => k_is)
      (case l => k_is)
      (case c => k_is)
      (case k => k_is)
    case d_law =>
      refine' Sw.def_mk KX G ?a ?l ?c ?k
      (case a => k_is)
      (case l => k_is)
      (case c => k_is)
      (case k => k_is)
