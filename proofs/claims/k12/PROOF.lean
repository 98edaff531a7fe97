import PyProof.Rows.All
import Wide.All
import OpenK.AllK
import Wide.FinOn
import HandS.ForMost
import HandS.Wide
import HandS.Style
import HandS.IsInst
import HandS.Conv
import HandS.Walk
import HandS.Codes
import HandS.TupAny
import HandS.RaiseMore
import HandS.Flt
import HandS.Flow
import KE.GoesMore
import HandS.StrMore
import HandS.Ends
import HandS.ExcInit
import HandS.ExcField
import HandS.ExcOwn
import HandS.TryMany
import HandS.TryOnly
import PySem.Challenge.RW_spoiltways_k12_lags_that_stay
set_option Elab.async false
set_option linter.all false
set_option maxRecDepth 100000
set_option maxHeartbeats 4000000
namespace Wd
/-- the text turned by p letters -/
def rot (p : Nat) (t : List Nat) : List Nat := t.drop p ++ t.take p
/-- the letter at i, round and round -/
def g (t : List Nat) (i : Nat) : Option Nat := t[i % t.length]?
def Per (t : List Nat) (p : Nat) : Prop := ∀ i, g t (i + p) = g t i
theorem g_n (t : List Nat) (i k : Nat) : g t (i + t.length * k) = g t i := by
  unfold g
  rw [Nat.add_mul_mod_self_left]
theorem g_n1 (t : List Nat) (i : Nat) : g t (i + t.length) = g t i := by
  have := g_n t i 1
  rwa [Nat.mul_one] at this
theorem g_lt {t : List Nat} {i : Nat} (h : i < t.length) : g t i = t[i]? := by
  unfold g
  rw [Nat.mod_eq_of_lt h]
theorem rot_len {p : Nat} {t : List Nat} (h : p ≤ t.length) : (rot p t).length = t.length := by
  unfold rot
  rw [List.length_append, List.length_drop, List.length_take]
  omega
theorem rot_get {p : Nat} {t : List Nat} (h : p ≤ t.length) {i : Nat} (hi : i < t.length) : (rot p t)[i]? = g t (i + p) := by
  unfold rot
  rw [List.getElem?_append, List.length_drop]
  by_cases c : i < t.length - p
  · rw [if_pos c, List.getElem?_drop, Nat.add_comm p i, g_lt (by omega)]
  · rw [if_neg c, List.getElem?_take, if_pos (by omega)]
    have e : i + p = (i - (t.length - p)) + t.length := by omega
    rw [e, g_n1, g_lt (by omega)]
theorem ext_lt {a b : List Nat} (h : a.length = b.length) (h2 : ∀ i, i < a.length → a[i]? = b[i]?) : a = b := by
  apply List.ext_getElem?
  intro i
  by_cases c : i < a.length
  · exact h2 i c
  · rw [List.getElem?_eq_none (by omega), List.getElem?_eq_none (by omega)]
theorem g_mod (t : List Nat) (i : Nat) : g t (i % t.length) = g t i := by
  unfold g
  rw [Nat.mod_mod]
theorem rot_rot {p q : Nat} {t : List Nat} (hp : p ≤ t.length) (hq : q ≤ t.length) (h0 : 0 < t.length) : rot p t = rot q t ↔ ∀ i, g t (i + p) = g t (i + q) := by
  constructor
  · intro h i
    have hm : i % t.length < t.length := Nat.mod_lt _ h0
    have e1 := rot_get hp hm
    have e2 := rot_get hq hm
    rw [h, e2] at e1
    have d := Nat.mod_add_div i t.length
    have a1 : g t (i + p) = g t (i % t.length + p) := by
      rw [← g_n t (i % t.length + p) (i / t.length)]
      congr 1
      omega
    have a2 : g t (i + q) = g t (i % t.length + q) := by
      rw [← g_n t (i % t.length + q) (i / t.length)]
      congr 1
      omega
    rw [a1, a2, e1]
  · intro h
    refine ext_lt (by rw [rot_len hp, rot_len hq]) fun i hi => ?_
    rw [rot_len hp] at hi
    rw [rot_get hp hi, rot_get hq hi]
    exact h i
theorem rot_zero (t : List Nat) : rot 0 t = t := by unfold rot; simp
theorem per_rot {p : Nat} {t : List Nat} (hp : p ≤ t.length) (h0 : 0 < t.length) : rot p t = t ↔ Per t p := by
  have := rot_rot hp (Nat.zero_le _) h0
  rw [rot_zero] at this
  exact this
theorem Per.n (t : List Nat) : Per t t.length := fun i => g_n1 t i
theorem Per.zero (t : List Nat) : Per t 0 := fun _ => rfl
theorem Per.add {t : List Nat} {p q : Nat} (hp : Per t p) (hq : Per t q) : Per t (p + q) := fun i => by
  rw [← Nat.add_assoc, hq, hp]
theorem Per.mul {t : List Nat} {p : Nat} (hp : Per t p) (k : Nat) : Per t (p * k) := by
  induction k with
  | zero => exact Per.zero t
  | succ k ih => rw [Nat.mul_succ]; exact ih.add hp
theorem Per.sub {t : List Nat} {p q : Nat} (hp : Per t p) (hq : Per t q) (h : p ≤ q) : Per t (q - p) := fun i => by
  rw [← hp (i + (q - p)), Nat.add_assoc, Nat.sub_add_cancel h, hq]
theorem Per.mod {t : List Nat} {p q : Nat} (hp : Per t p) (hq : Per t q) : Per t (q % p) := by
  have e : q % p = q - p * (q / p) := by have := Nat.mod_add_div q p; omega
  rw [e]
  exact (hp.mul _).sub hq (Nat.mul_div_le _ _)
theorem Per.at_mod {t : List Nat} {p : Nat} (hp : Per t p) (i : Nat) : g t (i % p) = g t i := by
  have d := Nat.mod_add_div i p
  rw [← (hp.mul (i / p)) (i % p), d]
/-- p is the least number above 0 that turns the text into itself -/
structure Least (t : List Nat) (p : Nat) : Prop where
  pos : 0 < p
  per : Per t p
  min : ∀ q, 0 < q → q < p → ¬ Per t q
theorem Least.dvd {t : List Nat} {p q : Nat} (h : Least t p) (hq : Per t q) : q % p = 0 := by
  rcases Nat.eq_zero_or_pos (q % p) with e | e
  · exact e
  · exact absurd (h.per.mod hq) (h.min _ e (Nat.mod_lt _ h.pos))
theorem Least.le {t : List Nat} {p q : Nat} (h : Least t p) (hq : Per t q) (h0 : 0 < q) : p ≤ q := by
  rcases Nat.lt_or_ge q p with c | c
  · exact absurd hq (h.min q h0 c)
  · exact c
theorem flat_get (w : List Nat) : ∀ (k i : Nat), i < k * w.length → ((List.replicate k w).flatten)[i]? = w[i % w.length]?
  | 0, i, h => by omega
  | k + 1, i, h => by
    rw [List.replicate_succ, List.flatten_cons, List.getElem?_append]
    by_cases c : i < w.length
    · rw [if_pos c, Nat.mod_eq_of_lt c]
    · rw [if_neg c, flat_get w k (i - w.length) (by rw [Nat.succ_mul] at h; omega)]
      have e : i % w.length = (i - w.length) % w.length := Nat.mod_eq_sub_mod (by omega)
      rw [e]
theorem flat_len (w : List Nat) (k : Nat) : ((List.replicate k w).flatten).length = k * w.length := by
  induction k with
  | zero => simp
  | succ k ih => rw [List.replicate_succ, List.flatten_cons, List.length_append, ih, Nat.succ_mul]; omega
/-- rounds of its first s letters -/
def Pow (t : List Nat) (s : Nat) : Prop := t.length % s = 0 ∧ (List.replicate (t.length / s) (t.take s)).flatten = t
theorem pow_per {t : List Nat} {s : Nat} (h0 : 0 < s) (hs : s ≤ t.length) (h : Pow t s) : Per t s := by
  have lw : (t.take s).length = s := by rw [List.length_take]; omega
  have nn : t.length / s * s = t.length := Nat.div_mul_cancel (Nat.dvd_of_mod_eq_zero h.1)
  have key : ∀ i, g t i = (t.take s)[i % s]? := by
    intro i
    unfold g
    have hm : i % t.length < t.length := Nat.mod_lt _ (by omega)
    have e := flat_get (t.take s) (t.length / s) (i % t.length) (by rw [lw, nn]; exact hm)
    rw [h.2, lw] at e
    rw [e, Nat.mod_mod_of_dvd i (Nat.dvd_of_mod_eq_zero h.1)]
  intro i
  rw [key, key, Nat.add_mod_right]
theorem per_pow {t : List Nat} {s : Nat} (h0 : 0 < s) (hs : s ≤ t.length) (hd : t.length % s = 0) (h : Per t s) : Pow t s := by
  have lw : (t.take s).length = s := by rw [List.length_take]; omega
  have nn : t.length / s * s = t.length := Nat.div_mul_cancel (Nat.dvd_of_mod_eq_zero hd)
  refine ⟨hd, ext_lt (by rw [flat_len, lw, nn]) fun i hi => ?_⟩
  rw [flat_len, lw, nn] at hi
  rw [flat_get _ _ _ (by rw [lw, nn]; exact hi), lw, ← g_lt hi, ← h.at_mod i]
  have hm : i % s < s := Nat.mod_lt _ h0
  rw [g_lt (by omega), List.getElem?_take, if_pos hm]
theorem find_range' {P : Nat → Bool} {s : Nat} : ∀ {n a : Nat}, (List.range' a n).find? P = some s → a ≤ s ∧ s < a + n ∧ P s = true ∧ ∀ q, a ≤ q → q < s → P q = false
  | 0, a, h => by simp at h
  | n + 1, a, h => by
    rw [List.range'_succ, List.find?_cons] at h
    cases e : P a with
    | true =>
      rw [e] at h
      cases h
      exact ⟨Nat.le_refl _, by omega, e, fun q h1 h2 => by omega⟩
    | false =>
      rw [e] at h
      obtain ⟨h1, h2, h3, h4⟩ := find_range' h
      refine ⟨by omega, by omega, h3, fun q q1 q2 => ?_⟩
      by_cases c : q = a
      · rw [c]; exact e
      · exact h4 q (by omega) q2
theorem find_range'_none {P : Nat → Bool} : ∀ {n a : Nat}, (List.range' a n).find? P = none → ∀ q, a ≤ q → q < a + n → P q = false := by
  intro n a h q h1 h2
  have := List.find?_eq_none.mp h q (List.mem_range'_1.mpr ⟨h1, h2⟩)
  simpa using this
theorem find_range'_is {P : Nat → Bool} {s : Nat} : ∀ {n a : Nat}, a ≤ s → s < a + n → P s = true → (∀ q, a ≤ q → q < s → P q = false) → (List.range' a n).find? P = some s
  | 0, a, h1, h2, _, _ => by omega
  | n + 1, a, h1, h2, h3, h4 => by
    rw [List.range'_succ, List.find?_cons]
    by_cases c : a = s
    · rw [c, h3]
    · rw [h4 a (Nat.le_refl _) (by omega)]
      exact find_range'_is (by omega) (by omega) h3 fun q q1 q2 => h4 q (by omega) q2
/-- the length of the root -/
def rlen (t : List Nat) : Nat := ((List.range' 1 t.length).find? fun p => decide (rot p t = t)).getD 0
def root (t : List Nat) : List Nat := t.take (rlen t)
theorem rlen_least {t : List Nat} (h0 : 0 < t.length) : Least t (rlen t) ∧ rlen t ≤ t.length := by
  unfold rlen
  cases e : (List.range' 1 t.length).find? fun p => decide (rot p t = t) with
  | none =>
    have := find_range'_none e t.length (by omega) (by omega)
    rw [decide_eq_false_iff_not] at this
    exact absurd ((per_rot (Nat.le_refl _) h0).mpr (Per.n t)) this
  | some s =>
    obtain ⟨h1, h2, h3, h4⟩ := find_range' e
    have le : s ≤ t.length := by omega
    refine ⟨⟨h1, (per_rot le h0).mp (of_decide_eq_true h3), fun q q1 q2 hq => ?_⟩, le⟩
    have q2 : q < s := q2
    have := h4 q (by omega) q2
    rw [decide_eq_false_iff_not] at this
    exact this ((per_rot (by omega) h0).mpr hq)
theorem least_uniq {t : List Nat} {p q : Nat} (hp : Least t p) (hq : Least t q) : p = q := Nat.le_antisymm (hp.le hq.per hq.pos) (hq.le hp.per hp.pos)
/-- the law's root -/
def lroot (t : List Nat) : List Nat := match (List.range' 1 t.length).find? fun s => decide (t.length % s = 0) && decide ((List.replicate (t.length / s) (t.take s)).flatten = t) with
  | some s => t.take s
  | none => []
theorem root_eq (t : List Nat) : lroot t = root t := by
  rcases Nat.eq_zero_or_pos t.length with e | h0
  · have : t = [] := List.length_eq_zero_iff.mp e
    subst this
    rfl
  · obtain ⟨L, le⟩ := rlen_least h0
    have P := per_pow L.pos le (L.dvd (Per.n t)) L.per
    unfold lroot
    rw [find_range'_is (s := rlen t) L.pos (by omega) (by rw [decide_eq_true P.1, decide_eq_true P.2]; rfl) fun q q1 q2 => ?_]
    · rfl
    · rw [Bool.and_eq_false_iff]
      by_cases c1 : t.length % q = 0
      · right
        rw [decide_eq_false_iff_not]
        exact fun c2 => L.min q (by omega) q2 (pow_per (by omega) (by omega) ⟨c1, c2⟩)
      · exact .inl (decide_eq_false c1)
theorem root_len {t : List Nat} : (root t).length = rlen t := by
  unfold root
  rw [List.length_take]
  rcases Nat.eq_zero_or_pos t.length with e | h0
  · have : t = [] := List.length_eq_zero_iff.mp e
    subst this
    rfl
  · have := (rlen_least h0).2
    omega
/-- the turn that leads to the other one -/
def turn (a b : List Nat) : Option Nat := if a.length = b.length then (List.range' 0 (a.length + 1)).find? fun j => decide (rot j a = b) else none
def turnsL (a b : List Nat) : List Nat := (turn a b).toList
def lturns (a b : List Nat) : List Nat := if a = [] ∧ b = [] then [0] else (List.range (lroot a).length).filter fun j => decide (rot j a = b)
theorem filter_one {P : Nat → Bool} {j : Nat} : ∀ {l : List Nat}, l.Nodup → j ∈ l → (∀ x ∈ l, P x = true → x = j) → P j = true → l.filter P = [j]
  | [], _, h, _, _ => by simp at h
  | a :: l, hn, h, hu, hj => by
    rw [List.nodup_cons] at hn
    rcases List.mem_cons.mp h with e | h
    · subst e
      rw [List.filter_cons_of_pos hj, List.filter_eq_nil_iff.mpr]
      intro x hx hp
      have := hu x (List.mem_cons_of_mem _ hx) hp
      subst this
      exact hn.1 hx
    · rw [List.filter_cons_of_neg, filter_one hn.2 h (fun x hx => hu x (List.mem_cons_of_mem _ hx)) hj]
      intro hp
      have := hu a List.mem_cons_self hp
      subst this
      exact hn.1 h
theorem turn_shift {t : List Nat} {p q : Nat} (hp : p ≤ t.length) (hq : q ≤ t.length) (h0 : 0 < t.length) (hpq : p ≤ q) (h : rot p t = rot q t) : Per t (q - p) := by
  have k := (rot_rot hp hq h0).mp h
  intro i
  have := k (i + (t.length - p))
  rw [show i + (t.length - p) + p = i + t.length by omega, show i + (t.length - p) + q = (i + (q - p)) + t.length by omega, g_n1, g_n1] at this
  exact this.symm
theorem turns_eq (a b : List Nat) : lturns a b = turnsL a b := by
  unfold lturns turnsL
  by_cases c0 : a = [] ∧ b = []
  · rw [if_pos c0, c0.1, c0.2]; rfl
  · rw [if_neg c0, root_eq, root_len]
    unfold turn
    by_cases cl : a.length = b.length
    · rw [if_pos cl]
      have h0 : 0 < a.length := by
        rcases Nat.eq_zero_or_pos a.length with e | e
        · exact absurd ⟨List.length_eq_zero_iff.mp e, List.length_eq_zero_iff.mp (by omega)⟩ c0
        · exact e
      obtain ⟨L, le⟩ := rlen_least h0
      cases e : (List.range' 0 (a.length + 1)).find? fun j => decide (rot j a = b) with
      | none =>
        rw [List.filter_eq_nil_iff.mpr]
        · rfl
        · intro x hx
          rw [List.mem_range] at hx
          have := find_range'_none e x (Nat.zero_le _) (by omega)
          rw [this]; simp
      | some j =>
        obtain ⟨_, h2, h3, h4⟩ := find_range' e
        have hj := of_decide_eq_true h3
        have jp : j < rlen a := by
          rcases Nat.lt_or_ge j (rlen a) with c | c
          · exact c
          · have := h4 (j - rlen a) (Nat.zero_le _) (by have := L.pos; omega)
            rw [decide_eq_false_iff_not] at this
            refine absurd ?_ this
            rw [← hj, rot_rot (by omega) (by omega) h0]
            intro i
            rw [← L.per (i + (j - rlen a)), Nat.add_assoc, Nat.sub_add_cancel c]
        refine filter_one List.nodup_range (List.mem_range.mpr jp) (fun x hx hp => ?_) h3
        have hx := List.mem_range.mp hx
        have hp := of_decide_eq_true hp
        rw [← hj] at hp
        rcases Nat.lt_trichotomy x j with c | c | c
        · exact absurd (turn_shift (by omega) (by omega) h0 (by omega) hp) (L.min _ (by omega) (by omega))
        · exact c
        · exact absurd (turn_shift (by omega) (by omega) h0 (by omega) hp.symm) (L.min _ (by omega) (by omega))
    · rw [if_neg cl, List.filter_eq_nil_iff.mpr]
      · rfl
      · intro x hx hp
        rw [List.mem_range] at hx
        have hp := of_decide_eq_true hp
        have l := congrArg List.length hp
        rcases Nat.eq_zero_or_pos a.length with e | h0
        · have : a = [] := List.length_eq_zero_iff.mp e
          subst this
          simp [rlen] at hx
        · have := (rlen_least h0).2
          rw [rot_len (by omega)] at l
          exact cl l
/-- two texts have one root just if they commute -/
theorem comm {l r : List Nat} (hl : 0 < l.length) (hr : 0 < r.length) : root l = root r ↔ l ++ r = r ++ l := by
  obtain ⟨Ll, le1⟩ := rlen_least hl
  obtain ⟨Lr, le2⟩ := rlen_least hr
  constructor
  · intro h
    have hp : rlen l = rlen r := by rw [← root_len, ← root_len, h]
    have key : ∀ i, g l i = g r i := by
      intro i
      have hm : i % rlen l < rlen l := Nat.mod_lt _ Ll.pos
      have e : (root l)[i % rlen l]? = (root r)[i % rlen l]? := by rw [h]
      unfold root at e
      rw [List.getElem?_take, if_pos hm, List.getElem?_take, if_pos (by omega)] at e
      rw [← Ll.per.at_mod i, g_lt (by omega), e, ← g_lt (by omega), hp, Lr.per.at_mod i]
    refine ext_lt (by rw [List.length_append, List.length_append]; omega) fun i hi => ?_
    rw [List.length_append] at hi
    rw [List.getElem?_append, List.getElem?_append]
    have a1 : (if i < l.length then l[i]? else r[i - l.length]?) = g l i := by
      by_cases c : i < l.length
      · rw [if_pos c, g_lt c]
      · rw [if_neg c, ← g_lt (by omega), ← key, ← g_n1 l (i - l.length), Nat.sub_add_cancel (by omega)]
    have a2 : (if i < r.length then r[i]? else l[i - r.length]?) = g r i := by
      by_cases c : i < r.length
      · rw [if_pos c, g_lt c]
      · rw [if_neg c, ← g_lt (by omega), key, ← g_n1 r (i - r.length), Nat.sub_add_cancel (by omega)]
    rw [a1, a2, key]
  · intro h
    have hn : 0 < (l ++ r).length := by rw [List.length_append]; omega
    have p1 : Per (l ++ r) l.length := by
      rw [← per_rot (by rw [List.length_append]; omega) hn]
      unfold rot
      rw [List.drop_left, List.take_left, ← h]
    have p2 : Per (l ++ r) r.length := by
      have := p1.sub (Per.n (l ++ r)) (by rw [List.length_append]; omega)
      rwa [List.length_append, Nat.add_sub_cancel_left] at this
    have k1 : ∀ i, g (l ++ r) i = g l i := by
      intro i
      have hm : i % l.length < l.length := Nat.mod_lt _ hl
      rw [← p1.at_mod i, g_lt (by rw [List.length_append]; omega), List.getElem?_append, if_pos hm]
      rfl
    have k2 : ∀ i, g (l ++ r) i = g r i := by
      intro i
      have hm : i % r.length < r.length := Nat.mod_lt _ hr
      rw [← p2.at_mod i, h, g_lt (by rw [List.length_append]; omega), List.getElem?_append, if_pos hm]
      rfl
    have key : ∀ i, g l i = g r i := fun i => by rw [← k1, k2]
    have hp : rlen l = rlen r := by
      refine Nat.le_antisymm (Ll.le (fun i => ?_) Lr.pos) (Lr.le (fun i => ?_) Ll.pos)
      · rw [key, key]; exact Lr.per i
      · rw [← key, ← key]; exact Ll.per i
    refine ext_lt (by rw [root_len, root_len, hp]) fun i hi => ?_
    rw [root_len] at hi
    unfold root
    rw [List.getElem?_take, if_pos hi, List.getElem?_take, if_pos (by omega), ← g_lt (by omega), ← g_lt (by omega), key]
end Wd
namespace Ly
open Wd
/-- the first n letters of t round and round -/
def pre (t : List Nat) (n : Nat) : List Nat := ((List.replicate (n / t.length + 1) t).flatten).take n
theorem pre_len {t : List Nat} (h : 0 < t.length) (n : Nat) : (pre t n).length = n := by
  unfold pre
  rw [List.length_take, flat_len, Nat.add_mul, Nat.one_mul]
  have d := Nat.mod_add_div n t.length
  have m := Nat.mod_lt n h
  rw [Nat.mul_comm] at d
  omega
theorem pre_get {t : List Nat} (h : 0 < t.length) {n i : Nat} (hi : i < n) : (pre t n)[i]? = g t i := by
  have l := pre_len h n
  unfold pre at l ⊢
  rw [List.length_take] at l
  have hl : i < ((List.replicate (n / t.length + 1) t).flatten).length := by omega
  rw [List.getElem?_take, if_pos hi, flat_get _ _ _ (by rwa [flat_len] at hl)]
  rfl
/-- the lag of the number z -/
def num (l r : List Nat) (z : Int) : List Nat × List Nat := if 0 < z then (pre r z.natAbs, []) else ([], pre l z.natAbs)
def stays (p : List Nat × List Nat) (l r : List Nat) : Prop := l.length = r.length ∧ p.1 ++ l ++ p.2 = p.2 ++ r ++ p.1
instance (p : List Nat × List Nat) (l r : List Nat) : Decidable (stays p l r) := by unfold stays; infer_instance
theorem pos_iff {l r : List Nat} (h : l.length = r.length) (h0 : 0 < l.length) (n : Nat) : pre r n ++ l = r ++ pre r n ↔ ∀ i, g l i = g r (i + n) := by
  have hr : 0 < r.length := by omega
  have lp := pre_len hr n
  have R : ∀ i, i < n + r.length → (r ++ pre r n)[i]? = g r i := by
    intro i hi
    rw [List.getElem?_append]
    by_cases c : i < r.length
    · rw [if_pos c, g_lt c]
    · rw [if_neg c, pre_get hr (by omega)]
      have e := g_n1 r (i - r.length)
      rw [Nat.sub_add_cancel (by omega)] at e
      exact e.symm
  have L : ∀ i, i < l.length → (pre r n ++ l)[i + n]? = g l i := by
    intro i hi
    rw [List.getElem?_append_right (by omega), lp, Nat.add_sub_cancel, g_lt hi]
  constructor
  · intro e i
    have hm : i % l.length < l.length := Nat.mod_lt _ h0
    have a := L _ hm
    rw [e, R _ (by omega)] at a
    have d := Nat.mod_add_div i l.length
    rw [← g_mod l i, ← a, ← g_n r (i % l.length + n) (i / l.length), ← h]
    congr 1
    omega
  · intro e
    refine ext_lt (by rw [List.length_append, List.length_append]; omega) fun i hi => ?_
    rw [List.length_append, lp] at hi
    rw [R i (by omega)]
    by_cases c : i < n
    · rw [List.getElem?_append_left (by omega), pre_get hr c]
    · have a := L (i - n) (by omega)
      rw [Nat.sub_add_cancel (by omega)] at a
      rw [a, e, Nat.sub_add_cancel (by omega)]
theorem neg_iff {l r : List Nat} (h : l.length = r.length) (h0 : 0 < l.length) (n : Nat) : l ++ pre l n = pre l n ++ r ↔ ∀ i, g r i = g l (i + n) := by
  rw [← pos_iff h.symm (by omega) n]
  exact eq_comm
theorem stays_pos {l r : List Nat} (h : l.length = r.length) (h0 : 0 < l.length) {z : Int} (hz : 0 < z) : stays (num l r z) l r ↔ ∀ i, g l i = g r (i + z.natAbs) := by
  unfold stays num
  rw [if_pos hz, List.append_nil, List.nil_append, pos_iff h h0]
  exact ⟨fun x => x.2, fun x => ⟨h, x⟩⟩
theorem stays_neg {l r : List Nat} (h : l.length = r.length) (h0 : 0 < l.length) {z : Int} (hz : ¬ 0 < z) : stays (num l r z) l r ↔ ∀ i, g r i = g l (i + z.natAbs) := by
  unfold stays num
  rw [if_neg hz, List.append_nil, List.nil_append, neg_iff h h0]
  exact ⟨fun x => x.2, fun x => ⟨h, x⟩⟩
theorem rot_iff {l r : List Nat} (h : l.length = r.length) (h0 : 0 < l.length) {j : Nat} (hj : j ≤ r.length) : rot j r = l ↔ ∀ i, g l i = g r (i + j) := by
  constructor
  · intro e i
    have hm : i % l.length < r.length := by rw [← h]; exact Nat.mod_lt _ h0
    have a := rot_get hj hm
    rw [e, ← g_lt (by omega), g_mod] at a
    have d := Nat.mod_add_div i l.length
    rw [a, ← g_n r (i % l.length + j) (i / l.length), ← h]
    congr 1
    omega
  · intro e
    refine ext_lt (by rw [rot_len hj, h]) fun i hi => ?_
    rw [rot_len hj] at hi
    rw [rot_get hj hi, ← e, g_lt (by omega)]
/-- a lag that stays comes from a turn -/
theorem stays_rot {l r : List Nat} (h : l.length = r.length) (h0 : 0 < l.length) {z : Int} (s : stays (num l r z) l r) : ∃ j, j ≤ r.length ∧ rot j r = l := by
  by_cases hz : 0 < z
  · rw [stays_pos h h0 hz] at s
    refine ⟨z.natAbs % r.length, Nat.le_of_lt (Nat.mod_lt _ (by omega)), ?_⟩
    have hm := Nat.mod_lt z.natAbs (show 0 < r.length by omega)
    rw [rot_iff h h0 (by omega)]
    intro i
    have d := Nat.mod_add_div z.natAbs r.length
    rw [s i, ← g_n r (i + z.natAbs % r.length) (z.natAbs / r.length)]
    congr 1
    omega
  · rw [stays_neg h h0 hz] at s
    have hm := Nat.mod_lt ((l.length - 1) * z.natAbs) (show 0 < r.length by omega)
    refine ⟨((l.length - 1) * z.natAbs) % r.length, by omega, ?_⟩
    rw [rot_iff h h0 (by omega)]
    intro i
    have d := Nat.mod_add_div ((l.length - 1) * z.natAbs) r.length
    rw [← g_n r (i + ((l.length - 1) * z.natAbs) % r.length) ((l.length - 1) * z.natAbs / r.length), s, ← g_n l i z.natAbs]
    congr 1
    have : (l.length - 1) * z.natAbs + z.natAbs = l.length * z.natAbs := by
      have e : l.length = (l.length - 1) + 1 := by omega
      rw [e, Nat.add_sub_cancel, Nat.succ_mul]
    omega
/-- periods of turns -/
theorem per_turn {l r : List Nat} {j : Nat} (e : ∀ i, g l i = g r (i + j)) (hr : 0 < r.length) (p : Nat) : Per l p ↔ Per r p := by
  constructor
  · intro hp i
    have a := hp (i + (r.length - 1) * j)
    rw [e, e] at a
    have n1 : (r.length - 1) * j + j = r.length * j := by
      have e' : r.length = (r.length - 1) + 1 := by omega
      rw [e', Nat.add_sub_cancel, Nat.succ_mul]
    have b1 : g r (i + (r.length - 1) * j + p + j) = g r (i + p) := by
      rw [← g_n r (i + p) j]; congr 1; omega
    have b2 : g r (i + (r.length - 1) * j + j) = g r i := by
      rw [← g_n r i j]; congr 1; omega
    rw [b1, b2] at a
    exact a
  · intro hp i
    rw [e, e, ← hp (i + j)]
    congr 1
    omega
theorem rlen_turn {l r : List Nat} (h : l.length = r.length) (h0 : 0 < l.length) {j : Nat} (e : ∀ i, g l i = g r (i + j)) : rlen l = rlen r := by
  have a := (rlen_least h0).1
  have b := (rlen_least (t := r) (by omega)).1
  refine least_uniq a ⟨b.pos, (per_turn e (by omega) _).mpr b.per, fun q h1 h2 h3 => b.min q h1 h2 ((per_turn e (by omega) _).mp h3)⟩
theorem least_iff {t : List Nat} {s p : Nat} (h : Least t s) : Per t p ↔ p % s = 0 := by
  constructor
  · exact h.dvd
  · intro e
    have d := Nat.mod_add_div p s
    rw [e, Nat.zero_add] at d
    rw [← d]
    exact h.per.mul _
theorem neg_mod (a s : Nat) : (-(a : Int)) % (s : Int) = 0 ↔ a % s = 0 := by
  rw [← Int.dvd_iff_emod_eq_zero, Int.dvd_neg, Int.natCast_dvd_natCast]
  exact Nat.dvd_iff_mod_eq_zero
/-- the lags that stay, by their numbers -/
theorem stays_iff {l r : List Nat} (h : l.length = r.length) (h0 : 0 < l.length) {j : Nat} (hj : j ≤ r.length) (e : rot j r = l) (z : Int) : stays (num l r z) l r ↔ (z - (j : Int)) % (rlen l : Int) = 0 := by
  have e' := (rot_iff h h0 hj).mp e
  have L := (rlen_least h0).1
  have Lr : Least r (rlen l) := by rw [rlen_turn h h0 e']; exact (rlen_least (t := r) (by omega)).1
  by_cases hz : 0 < z
  · rw [stays_pos h h0 hz]
    obtain ⟨n, rfl⟩ : ∃ n : Nat, z = n := ⟨z.toNat, by omega⟩
    rw [Int.natAbs_natCast]
    rcases Nat.le_total j n with c | c
    · have q : (∀ i, g l i = g r (i + n)) ↔ Per r (n - j) := by
        constructor
        · intro x i
          have a := x (i + (r.length - 1) * j)
          rw [e'] at a
          have n1 : (r.length - 1) * j + j = r.length * j := by
            have e' : r.length = (r.length - 1) + 1 := by omega
            rw [e', Nat.add_sub_cancel, Nat.succ_mul]
          have b1 : g r (i + (r.length - 1) * j + j) = g r i := by
            rw [← g_n r i j]; congr 1; omega
          have b2 : g r (i + (r.length - 1) * j + n) = g r (i + (n - j)) := by
            rw [← g_n r (i + (n - j)) j]; congr 1; omega
          rw [b1, b2] at a
          exact a.symm
        · intro x i
          rw [e', ← x (i + j)]
          congr 1
          omega
      rw [q, least_iff Lr]
      have : ((n : Int) - (j : Int)) = ((n - j : Nat) : Int) := by omega
      rw [this]
      omega
    · have q : (∀ i, g l i = g r (i + n)) ↔ Per r (j - n) := by
        constructor
        · intro x i
          have a := x (i + (r.length - 1) * n)
          rw [e'] at a
          have n1 : (r.length - 1) * n + n = r.length * n := by
            have e' : r.length = (r.length - 1) + 1 := by omega
            rw [e', Nat.add_sub_cancel, Nat.succ_mul]
          have b1 : g r (i + (r.length - 1) * n + n) = g r i := by
            rw [← g_n r i n]; congr 1; omega
          have b2 : g r (i + (r.length - 1) * n + j) = g r (i + (j - n)) := by
            rw [← g_n r (i + (j - n)) n]; congr 1; omega
          rw [b1, b2] at a
          exact a
        · intro x i
          rw [e', ← x (i + n)]
          congr 1
          omega
      rw [q, least_iff Lr]
      have : ((n : Int) - (j : Int)) = -((j - n : Nat) : Int) := by omega
      rw [this, neg_mod]
  · rw [stays_neg h h0 hz]
    obtain ⟨m, rfl⟩ : ∃ m : Nat, z = -(m : Int) := ⟨(-z).toNat, by omega⟩
    rw [Int.natAbs_neg, Int.natAbs_natCast]
    have q : (∀ i, g r i = g l (i + m)) ↔ Per r (m + j) := by
      constructor
      · intro x i
        rw [x i, e']
        congr 1
        omega
      · intro x i
        rw [e', ← x i]
        congr 1
        omega
    rw [q, least_iff Lr]
    have : (-(m : Int) - (j : Int)) = -((m + j : Nat) : Int) := by omega
    rw [this, neg_mod]
end Ly
namespace Ly
open Wd
def zints (h : Nat) : List Int := (List.range (2 * h + 1)).map fun k : Nat => (k : Int) - (h : Int)
def nums (l r : List Nat) (h : Nat) : List Int := (zints h).filter fun z => decide (stays (num l r z) l r)
/-- the law's own list -/
def due (l r : List Nat) (h : Nat) : List (List Nat × List Nat) := if l.length = r.length then (nums l r h).map (num l r) else []
def prog (f s : Int) (n : Nat) : List Int := (List.range n).map fun k : Nat => f + (k : Int) * s
theorem sorted_ext : ∀ {a b : List Int}, a.Pairwise (· < ·) → b.Pairwise (· < ·) → (∀ x, x ∈ a ↔ x ∈ b) → a = b
  | [], [], _, _, _ => rfl
  | [], y :: b, _, _, h => by have := (h y).mpr List.mem_cons_self; cases this
  | x :: a, [], _, _, h => by have := (h x).mp List.mem_cons_self; cases this
  | x :: a, y :: b, ha, hb, h => by
    rw [List.pairwise_cons] at ha hb
    have e : x = y := by
      rcases List.mem_cons.mp ((h x).mp List.mem_cons_self) with c | c
      · exact c
      · rcases List.mem_cons.mp ((h y).mpr List.mem_cons_self) with d | d
        · exact d.symm
        · have := ha.1 _ d; have := hb.1 _ c; omega
    subst e
    rw [sorted_ext ha.2 hb.2 fun z => ?_]
    constructor
    · intro hz
      have lt := ha.1 _ hz
      rcases List.mem_cons.mp ((h z).mp (List.mem_cons_of_mem _ hz)) with c | c
      · omega
      · exact c
    · intro hz
      have lt := hb.1 _ hz
      rcases List.mem_cons.mp ((h z).mpr (List.mem_cons_of_mem _ hz)) with c | c
      · omega
      · exact c
theorem ints_sorted (h : Nat) : (zints h).Pairwise (· < ·) := by
  unfold zints
  rw [List.pairwise_map]
  exact List.pairwise_lt_range.imp fun {a b} q => by omega
theorem ints_mem {h : Nat} {z : Int} : z ∈ zints h ↔ -(h : Int) ≤ z ∧ z ≤ (h : Int) := by
  unfold zints
  rw [List.mem_map]
  constructor
  · rintro ⟨k, hk, rfl⟩
    have := List.mem_range.mp hk
    omega
  · intro q
    exact ⟨(z + h).toNat, List.mem_range.mpr (by omega), by omega⟩
theorem prog_sorted {f s : Int} (hs : 0 < s) (n : Nat) : (prog f s n).Pairwise (· < ·) := by
  unfold prog
  rw [List.pairwise_map]
  refine List.pairwise_lt_range.imp fun {a b} q => ?_
  have q' : (a : Int) < (b : Int) := by omega
  have := Int.mul_lt_mul_of_pos_right q' hs
  omega
/-- the first number told, and how many there are -/
def fst (j h s : Nat) : Int := ((j : Int) + (h : Int)) % (s : Int) - (h : Int)
def cnt (f : Int) (h s : Nat) : Nat := if f ≤ (h : Int) then (((h : Int) - f) / (s : Int) + 1).toNat else 0
theorem prog_mem {j h s : Nat} (hs : 0 < s) (z : Int) : z ∈ prog (fst j h s) s (cnt (fst j h s) h s) ↔ (-(h : Int) ≤ z ∧ z ≤ (h : Int)) ∧ (z - (j : Int)) % (s : Int) = 0 := by
  have hs' : (0 : Int) < (s : Int) := by omega
  have r0 := Int.emod_nonneg ((j : Int) + (h : Int)) (show (s : Int) ≠ 0 by omega)
  have r1 := Int.emod_lt_of_pos ((j : Int) + (h : Int)) hs'
  have ed := Int.mul_ediv_add_emod ((j : Int) + (h : Int)) (s : Int)
  unfold prog
  rw [List.mem_map]
  have ff : fst j h s = ((j : Int) + (h : Int)) % (s : Int) - (h : Int) := rfl
  generalize fst j h s = f at *
  generalize ((j : Int) + (h : Int)) / (s : Int) = q at *
  generalize ((j : Int) + (h : Int)) % (s : Int) = t at *
  have hf : f = (j : Int) - (s : Int) * q := by omega
  constructor
  · rintro ⟨k, hk, rfl⟩
    have hk := List.mem_range.mp hk
    have ks : (0 : Int) ≤ (k : Int) * (s : Int) := Int.mul_nonneg (by omega) (by omega)
    refine ⟨⟨by omega, ?_⟩, ?_⟩
    · unfold cnt at hk
      by_cases c : f ≤ (h : Int)
      · rw [if_pos c] at hk
        have d0 := Int.ediv_nonneg (show (0 : Int) ≤ (h : Int) - f by omega) (show (0 : Int) ≤ (s : Int) by omega)
        have kl : (k : Int) ≤ ((h : Int) - f) / (s : Int) := by omega
        have m := Int.mul_le_mul_of_nonneg_right kl (show (0 : Int) ≤ (s : Int) by omega)
        have d := Int.ediv_mul_le ((h : Int) - f) (show (s : Int) ≠ 0 by omega)
        omega
      · rw [if_neg c] at hk; omega
    · rw [hf, show (j : Int) - (s : Int) * q + (k : Int) * (s : Int) - (j : Int) = (s : Int) * ((k : Int) - q) by rw [Int.mul_sub, Int.mul_comm (s : Int) (k : Int)]; omega]
      exact Int.mul_emod_right _ _
  · rintro ⟨⟨h1, h2⟩, h3⟩
    obtain ⟨m, hm⟩ := Int.dvd_of_emod_eq_zero h3
    have zf : z - f = (s : Int) * (m + q) := by rw [Int.mul_add]; omega
    have ge : 0 ≤ m + q := by
      rcases Int.lt_or_le (m + q) 0 with c | c
      · have e1 : m + q ≤ -1 := by omega
        have := Int.mul_le_mul_of_nonneg_left e1 (show (0 : Int) ≤ (s : Int) by omega)
        omega
      · exact c
    have zf0 : 0 ≤ z - f := by rw [zf]; exact Int.mul_nonneg (by omega) ge
    refine ⟨(m + q).toNat, List.mem_range.mpr ?_, by rw [Int.toNat_of_nonneg ge, Int.mul_comm]; omega⟩
    unfold cnt
    rw [if_pos (by omega)]
    have le : m + q ≤ ((h : Int) - f) / (s : Int) := by
      rw [Int.le_ediv_iff_mul_le hs', Int.mul_comm]
      omega
    omega
theorem nums_prog {l r : List Nat} (hl : l.length = r.length) (h0 : 0 < l.length) {j : Nat} (hj : j ≤ r.length) (e : rot j r = l) (h : Nat) : nums l r h = prog (fst j h (rlen l)) (rlen l) (cnt (fst j h (rlen l)) h (rlen l)) := by
  have L := (rlen_least h0).1.pos
  refine sorted_ext ((ints_sorted h).filter _) (prog_sorted (by omega) _) fun z => ?_
  rw [prog_mem L]
  unfold nums
  rw [List.mem_filter, ints_mem, decide_eq_true_eq, stays_iff hl h0 hj e]
theorem nums_none {l r : List Nat} (hl : l.length = r.length) (h0 : 0 < l.length) (no : ∀ j, j ≤ r.length → rot j r ≠ l) (h : Nat) : nums l r h = [] := by
  unfold nums
  rw [List.filter_eq_nil_iff]
  intro z _ q
  obtain ⟨j, hj, e⟩ := stays_rot hl h0 (of_decide_eq_true q)
  exact no j hj e
/-- what staying tells -/
def told (l r : List Nat) (h : Nat) : List (List Nat × List Nat) := match turn r l with
  | none => []
  | some j => (prog (fst j h (rlen l)) (rlen l) (cnt (fst j h (rlen l)) h (rlen l))).map (num l r)
theorem told_due {l r : List Nat} (h0 : 0 < l.length ∨ 0 < r.length) (h : Nat) : told l r h = due l r h := by
  unfold told due
  by_cases hl : l.length = r.length
  · rw [if_pos hl]
    cases e : turn r l with
    | none =>
      unfold turn at e
      rw [if_pos hl.symm] at e
      rw [nums_none hl (by omega) (fun j hj q => ?_) h]
      · rfl
      · have := find_range'_none e j (Nat.zero_le _) (by omega)
        rw [decide_eq_false_iff_not] at this
        exact this q
    | some j =>
      unfold turn at e
      rw [if_pos hl.symm] at e
      obtain ⟨_, h2, h3, _⟩ := find_range' e
      rw [nums_prog hl (by omega) (by omega) (of_decide_eq_true h3)]
  · rw [if_neg hl]
    unfold turn
    rw [if_neg fun q => hl q.symm]
end Ly
namespace Ly
open Wd
theorem flat_pos {p l r : List Nat} (h : p ++ l = r ++ p) : ∀ k, p ++ (List.replicate k l).flatten = (List.replicate k r).flatten ++ p
  | 0 => by simp
  | k + 1 => by
    rw [List.replicate_succ, List.replicate_succ, List.flatten_cons, List.flatten_cons, ← List.append_assoc, h, List.append_assoc, flat_pos h k, List.append_assoc]
theorem flat_neg {p l r : List Nat} (h : l ++ p = p ++ r) (k : Nat) : (List.replicate k l).flatten ++ p = p ++ (List.replicate k r).flatten := (flat_pos h.symm k).symm
/-- a turn, there and back -/
theorem back {l r : List Nat} (h : l.length = r.length) (h0 : 0 < l.length) {j : Nat} (hj : j ≤ r.length) (e : rot j r = l) : ∃ s, s < l.length ∧ rot s l = r := by
  have e' := (rot_iff h h0 hj).mp e
  have hm := Nat.mod_lt ((l.length - 1) * j) h0
  refine ⟨((l.length - 1) * j) % l.length, hm, ?_⟩
  rw [rot_iff h.symm (by omega) (by omega)]
  intro i
  have d := Nat.mod_add_div ((l.length - 1) * j) l.length
  rw [← g_n l (i + ((l.length - 1) * j) % l.length) ((l.length - 1) * j / l.length), e', ← g_n r i j]
  congr 1
  have : (l.length - 1) * j + j = l.length * j := by
    have e : l.length = (l.length - 1) + 1 := by omega
    rw [e, Nat.add_sub_cancel, Nat.succ_mul]
  rw [← h]
  omega
theorem wide_iff {l r : List Nat} (h0 : 0 < l.length ∨ 0 < r.length) : due l r (l.length + r.length) ≠ [] ↔ ∃ s, s < l.length ∧ rot s l = r := by
  unfold due
  constructor
  · intro h
    split at h
    · rename_i hl
      have h' : nums l r (l.length + r.length) ≠ [] := fun q => h (by rw [q]; rfl)
      obtain ⟨z, hz⟩ := List.exists_mem_of_ne_nil _ h'
      unfold nums at hz
      obtain ⟨j, hj, e⟩ := stays_rot hl (by omega) (of_decide_eq_true (List.mem_filter.mp hz).2)
      exact back hl (by omega) hj e
    · exact absurd rfl h
  · rintro ⟨s, hs, e⟩
    have hl : l.length = r.length := by rw [← e, rot_len (by omega)]
    rw [if_pos hl]
    intro q
    have q' := List.map_eq_nil_iff.mp q
    have m : -(s : Int) ∈ nums l r (l.length + r.length) := by
      unfold nums
      rw [List.mem_filter, ints_mem, decide_eq_true_eq]
      refine ⟨by omega, ?_⟩
      rw [stays_neg hl (by omega) (by omega), Int.natAbs_neg, Int.natAbs_natCast]
      exact (rot_iff hl.symm (by omega) (by omega)).mp e
    rw [q'] at m
    cases m
theorem nums_gap {l r : List Nat} (hl : l.length = r.length) (h0 : 0 < l.length) {h k : Nat} {x y : Int} (hx : (nums l r h)[k]? = some x) (hy : (nums l r h)[k + 1]? = some y) : y - x = (rlen l : Int) := by
  have mx := List.mem_of_getElem? hx
  unfold nums at mx
  obtain ⟨j, hj, e⟩ := stays_rot hl h0 (of_decide_eq_true (List.mem_filter.mp mx).2)
  rw [nums_prog hl h0 hj e] at hx hy
  unfold prog at hx hy
  rw [List.getElem?_map] at hx hy
  obtain ⟨a, ha, rfl⟩ := Option.map_eq_some_iff.mp hx
  obtain ⟨b, hb, rfl⟩ := Option.map_eq_some_iff.mp hy
  have a1 := List.getElem?_eq_some_iff.mp ha
  have b1 := List.getElem?_eq_some_iff.mp hb
  obtain ⟨_, a2⟩ := a1
  obtain ⟨_, b2⟩ := b1
  rw [List.getElem_range] at a2 b2
  subst a2
  subst b2
  have : ((k + 1 : Nat) : Int) * (rlen l : Int) = (k : Int) * (rlen l : Int) + (rlen l : Int) := by
    rw [Int.natCast_add, Int.add_mul]; simp
  omega
theorem num_diff {l r : List Nat} (hl : l.length = r.length) (h0 : 0 < l.length) (z : Int) : (((num l r z).1.length : Int) - ((num l r z).2.length : Int)) = z := by
  unfold num
  split
  · rw [pre_len (by omega)]; simp only [List.length_nil]; omega
  · rw [pre_len h0]; simp only [List.length_nil]; omega
/-- the numbers of the law's list -/
def numbers (l r : List Nat) (h : Nat) : List Int := if l.length = r.length then nums l r h else []
theorem due_number {l r : List Nat} (h0 : 0 < l.length ∨ 0 < r.length) {h i : Nat} {p : List Nat × List Nat} (hp : (due l r h)[i]? = some p) : (numbers l r h)[i]? = some ((p.1.length : Int) - (p.2.length : Int)) := by
  unfold due at hp
  unfold numbers
  split at hp
  · rename_i hl
    rw [if_pos hl]
    rw [List.getElem?_map] at hp
    obtain ⟨z, hz, rfl⟩ := Option.map_eq_some_iff.mp hp
    rw [hz, num_diff hl (by omega)]
  · simp at hp
theorem numbers_len (l r : List Nat) (h : Nat) : (numbers l r h).length = (due l r h).length := by
  unfold numbers due
  split
  · rw [List.length_map]
  · rfl
theorem numbers_gap {l r : List Nat} (h0 : 0 < l.length ∨ 0 < r.length) {h k : Nat} {x y : Int} (hx : (numbers l r h)[k]? = some x) (hy : (numbers l r h)[k + 1]? = some y) : y - x = (rlen l : Int) := by
  unfold numbers at hx hy
  split at hx
  · rename_i hl
    rw [if_pos hl] at hy
    exact nums_gap hl (by omega) hx hy
  · simp at hx
end Ly
namespace Sw
open PySem PySem.Spec PyProof.Rows L2

/-! ### texts as lists of signs -/
def S (l : List Nat) : Str := ⟨l.toArray⟩
theorem S_len (l : List Nat) : (S l).length = l.length := by simp [S, Str.length]
theorem S_size (l : List Nat) : (S l).cps.size = l.length := by simp [S]
theorem S_list (l : List Nat) : (S l).cps.toList = l := by simp [S]
theorem S_app (a b : List Nat) : S a ++ S b = S (a ++ b) := by
  show Str.append _ _ = _
  simp [S, Str.append]
theorem S_get (l : List Nat) (i : Nat) : (S l).cps[i]? = l[i]? := by simp [S]
theorem S_inj {a b : List Nat} : S a = S b ↔ a = b := by
  constructor
  · intro h
    have e : (S a).cps.toList = (S b).cps.toList := by rw [h]
    rwa [S_list, S_list] at e
  · rintro rfl; rfl
theorem S_dec (a b : List Nat) : decide (V.str (S a) = V.str (S b)) = decide (a = b) := by
  by_cases h : a = b
  · subst h; simp
  · rw [decide_eq_false h, decide_eq_false]
    intro e
    exact h (S_inj.mp (V.str.inj e))

/-! ### calls of own defs -/
section
variable (P : Program) (w : World) (K : PySem.W.Frag) (mg : Str → Option Value) (base : Heap)
/-- the def x of the text st stands -/
def Def (x : Str) (st : Stmt) : Prop := ∃ (f : Addr) (fd : FuncData), Fun K x x st f fd ∧ mg x = some (.ref f)
/-- the def x keeps its promise -/
def Cal (x : Str) (ps : List Str) (k : Nat) (sp : Sp) : Prop := ∃ (f : Addr) (fd : FuncData), FnOk P w K mg base CX0 k f fd ps sp ∧ mg x = some (.ref f) ∧ PySem.W.keepIn K (.ref f) = true ∧ Binds K fd ps []
end
section
variable {P : Program} {w : World} {K : PySem.W.Frag} {mg : Str → Option Value} {base : Heap}
theorem Def.cal {x : Str} {st : Stmt} {ps : List Str} {k : Nat} {sp : Sp} (d : Def K mg x st)
    (b : ∀ (kV doc pm : Value) (an : Option Addr) (cdv ct : Value) (us : List Value), us.length = ps.length → bindArgs (PySem.W.fnOf x x (defArgs st) (defBody st) (defScope st) .none kV doc pm an cdv ct) ⟨us, []⟩ = pure (ps.zip us))
    (ok : ∀ (f : Addr) (fd : FuncData), Fun K x x st f fd → FnOk P w K mg base CX0 k f fd ps sp) : Cal P w K mg base x ps k sp := by
  obtain ⟨f, fd, F, m⟩ := d
  exact ⟨f, fd, ok f fd F, m, F.kp, F.binds b⟩
end
section
variable {X : Cx} {x : Str} {ps : List Str} {k n : Nat} {sp : Sp} {e : Expr} {es : List Expr} {t : TA} {p pos : Pos}
theorem pe_cal (c : Cal X.prog X.w X.K X.mg X.base x ps k sp) (hr : Room n X.A) (ha : PA X (e :: es) t) (hg : Gl X x := by rfl) (hk : k ≤ n := by decide)
    (hdb : (x == ("__debug__" : Str)) = false := by decide) (he : starEach (e :: es) X.env = (false, eval e X.env) :: starEach es X.env := by rfl) (hpl : (backTo pos (starEach es X.env)).any (·.1) = false := by rfl) :
    PE X (.Call (.Name x p) (e :: es) [] pos) (tCall sp [] E0 t) := by
  obtain ⟨f, fd, F, m, kp, b⟩ := c
  exact pe_call F (hr.mono hk) hg m kp b .nil pass0 ha hdb he hpl
end

/-! ### answers to readings -/
section
variable {σ : L2.St} {H : Hp} {Q : VK} {D : Ends}
theorem i_seq {t u : TS} (h : t { D with nx := u D } σ H) : tSeq t u D σ H := h
theorem i_asg {te : TE} {g : TG} (h : te σ H fun x H1 => g x σ H1 D.nx) : tAsg te g D σ H := h
theorem i_name {i : Nat} {v : V} {R : L2.St → Hp → Prop} (h : R (σ.set i (some v)) H) : gName i v σ H R := h
theorem i_ret {te : TE} (h : te σ H D.rt) : tRet te D σ H := h
theorem i_var {i : Nat} {v : V} (e : σ[i]? = some (some v)) (h : Q v H) : tVar i σ H Q := ⟨v, e, h⟩
theorem i_c {v : V} (h : Q v H) : tC v σ H Q := h
theorem i_op {r : R2} {ta tb : TE} (h : ta σ H fun x H1 => tb σ H1 fun y H2 => r x y H2 Q) : tOp r ta tb σ H Q := h
theorem i_un {r : V → Hp → VK → Prop} {ta : TE} (h : ta σ H fun x H1 => r x H1 Q) : tUn r ta σ H Q := h
theorem i_rI {C : Int → Int → Prop} {g : Int → Int → V} {a b : Int} (c : C a b) (h : Q (g a b) H) : rI C g (.int a) (.int b) H Q := ⟨a, b, rfl, rfl, c, h⟩
theorem i_rI0 {g : Int → Int → V} {a b : Int} (h : Q (g a b) H) : rI0 g (.int a) (.int b) H Q := ⟨a, b, rfl, rfl, h⟩
theorem i_cb {r : List V → Hp → VK → Prop} {t : TA} (h : t σ H fun vs H1 => r vs H1 Q) : tCB r t σ H Q := h
theorem i_cons {ta : TE} {tr : TA} {R : List V → Hp → Prop} (h : ta σ H fun x H1 => tr σ H1 fun xs H2 => R (x :: xs) H2) : tCons ta tr σ H R := h
theorem i_nil {R : List V → Hp → Prop} (h : R [] H) : tNil σ H R := h
theorem i_call {sp : Sp} {dvs : List V} {E : XK} {t : TA} (h : t σ H fun vs H1 => sp (vs ++ dvs) H1 Q E) : tCall sp dvs E t σ H Q := h
theorem i_if {c : TT} {t u : TS} (h : c σ H fun b H1 => if b = true then t D σ H1 else u D σ H1) : tIfS c t u D σ H := h
theorem i_ifE {c : TT} {t u : TE} (h : c σ H fun b H1 => if b = true then t σ H1 Q else u σ H1 Q) : tIf c t u σ H Q := h
theorem i_test {t : TE} {R : Bool → Hp → Prop} (h : t σ H fun x H1 => ∃ k, x = .bl k ∧ R k H1) : tTest t σ H R := h
theorem i_bl {k : Bool} {R : Bool → Prop} (h : R k) : ∃ k', V.bl k = .bl k' ∧ R k' := ⟨k, rfl, h⟩
theorem i_and {t u : TT} {R : Bool → Hp → Prop} (h : t σ H fun c H1 => if c = true then u σ H1 R else R false H1) : tAnd t u σ H R := h
theorem i_or {t u : TT} {R : Bool → Hp → Prop} (h : t σ H fun c H1 => if c = true then R true H1 else u σ H1 R) : tOr t u σ H R := h
theorem i_not {t : TT} {R : Bool → Hp → Prop} (h : t σ H fun c H1 => R (!c) H1) : tNot t σ H R := h
theorem i_lst {t : TA} (h : t σ H fun xs H1 => xs.length ≤ sizeLine ∧ ∀ p, H1 p = none → Q (.ref p) (upd H1 p (.lst xs))) : tLst t σ H Q := h
theorem i_tup {t : TA} (h : t σ H fun xs H1 => xs.length ≤ sizeLine ∧ ∀ p, H1 p = none → Q (.ref p) (upd H1 p (.tup xs))) : tTup t σ H Q := h
theorem iteB {p : Prop} [Decidable p] {A B : Prop} (h1 : p → A) (h2 : ¬ p → B) : if decide p = true then A else B := by
  by_cases h : p
  · rw [decide_eq_true h]; exact iteT (h1 h)
  · rw [decide_eq_false h]; exact iteF (h2 h)
theorem iteC {c : Bool} {A B : Prop} (h1 : c = true → A) (h2 : c = false → B) : if c = true then A else B := by
  cases c with
  | true => exact iteT (h1 rfl)
  | false => exact iteF (h2 rfl)
/-- xs[i], xs a list of which the item is known -/
theorem i_ixL {K : PySem.W.Frag} {p : Addr} {xs : List V} {i : Int} {v : V} (h1 : SqL K H p xs) (h2 : atI xs i = some v) (h : Q v H) : rIxL K (.ref p) (.int i) H Q := ⟨p, xs, i, v, rfl, rfl, h1, h2, h⟩
theorem i_ixT {K : PySem.W.Frag} {p : Addr} {xs : List V} {i : Int} {v : V} (h1 : SqT K H p xs) (h2 : atI xs i = some v) (h : Q v H) : rIxT K (.ref p) (.int i) H Q := ⟨p, xs, i, v, rfl, rfl, h1, h2, h⟩
end

/-! ### the box of draws -/
/-- the box at b: the rest n of a great cell, whether it is one, the seed c, the draws d so far -/
structure BoxAt (H : Hp) (b : Addr) (d : Int) : Prop where
  ex : ∃ (n : Int) (g : Bool) (c e : Int), H b = some (.lst [.int n, .bl g, .int c, .int e]) ∧ 0 ≤ n ∧ 0 ≤ c ∧ c < 2147483629 ∧ 0 ≤ e ∧ e ≤ d
/-- all but the object at b is as it was -/
def SB (b : Addr) (H H' : Hp) : Prop := ∀ a o, a ≠ b → H a = some o → H' a = some o
theorem SB.refl {b : Addr} (H : Hp) : SB b H H := fun _ _ _ h => h
theorem SB.trans {b : Addr} {H H1 H2 : Hp} (x : SB b H H1) (y : SB b H1 H2) : SB b H H2 := fun a o n h => y a o n (x a o n h)
theorem SB.of {b : Addr} {H H' : Hp} (s : Same H H') : SB b H H' := fun a o _ h => s a o h
theorem SB.upd {b : Addr} {H : Hp} {o : HO} : SB b H (upd H b o) := fun a u n h => by rw [upd_ne n]; exact h
theorem BoxAt.mono {H : Hp} {b : Addr} {d d' : Int} (x : BoxAt H b d) (h : d ≤ d') : BoxAt H b d' := by
  obtain ⟨n, g, c, e, h1, h2, h3, h4, h5, h6⟩ := x.ex
  exact ⟨n, g, c, e, h1, h2, h3, h4, h5, by omega⟩
theorem BoxAt.same {H H' : Hp} {b : Addr} {d : Int} (x : BoxAt H b d) (s : Same H H') : BoxAt H' b d := by
  obtain ⟨n, g, c, e, h1, h⟩ := x.ex
  exact ⟨n, g, c, e, s _ _ h1, h⟩
theorem same_upd {H : Hp} {p : Addr} {o : HO} (h : H p = none) : Same H (upd H p o) := fun b x e => by
  rw [upd_ne (ne_of_none e h)]
  exact e
/-- _law_take(box, many): a number below many; the box is one draw further at most -/
def spTake : Sp := fun vs H Q _ => ∃ (b : Addr) (m d : Int), vs = [.ref b, .int m] ∧ BoxAt H b d ∧ d ≤ 1000000 ∧ 0 < m ∧ m < 2 ^ 64 ∧
  ∀ (r : Int) (H' : Hp), 0 ≤ r → r < m → BoxAt H' b (d + 1) → SB b H H' → Q (.int r) H'
/-- _law_box(great) -/
def spBox : Sp := fun vs H Q _ => ∃ n : Int, vs = [.int n] ∧ ∀ (b : Addr) (H' : Hp), H b = none → Same H H' → BoxAt H' b 0 → Q (.ref b) H'
/-- _law_cell(script, k) -/
def spCell (K : PySem.W.Frag) : Sp := fun vs H Q _ => ∃ (a : Addr) (ns : List Int) (k : Int), vs = [.ref a, .int k] ∧ SqL K H a (ns.map V.int) ∧ 0 ≤ k ∧ k < 1000 ∧
  ∀ (n : Int) (H' : Hp), Same H H' → Q (.int n) H'
/-! ### more answers -/
section
variable {σ : L2.St} {H : Hp} {Q : VK} {D : Ends} {K : PySem.W.Frag}
theorem i_next (h : D.nx σ H) : tNext D σ H := h
theorem i_drop {te : TE} (h : te σ H fun _ H1 => D.nx σ H1) : tDrop te D σ H := h
theorem i_sub {to ti : TE} {t : TSet} {v : V} {R : L2.St → Hp → Prop} (h : to σ H fun o H1 => ti σ H1 fun i H2 => t o i v H2 fun H3 => R σ H3) : gSub to ti t v σ H R := h
theorem i_setL {p : Addr} {xs : List V} {k : Int} {j : Nat} {v : V} {R : Hp → Prop} (h1 : H p = some (.lst xs)) (h2 : ixN xs.length k = some j) (h : R (upd H p (.lst (xs.set j v)))) : rSetL (.ref p) (.int k) v H R := ⟨p, xs, k, j, rfl, rfl, h1, h2, h⟩
theorem i_int {i : Int} (h : Q (.int i) H) : (∃ j, [V.int i] = [.int j] ∧ Q (.int j) H) ∨ ∃ k, [V.int i] = [.bl k] ∧ Q (.int (if k = true then 1 else 0)) H := .inl ⟨i, rfl, h⟩
theorem i_intB {b : Bool} (h : Q (.int (if b = true then 1 else 0)) H) : (∃ j, [V.bl b] = [.int j] ∧ Q (.int j) H) ∨ ∃ k, [V.bl b] = [.bl k] ∧ Q (.int (if k = true then 1 else 0)) H := .inr ⟨b, rfl, h⟩
theorem i_ix1 {α : Type} {P : α → Prop} {x : α} {R : α → Prop} (h : R x) : ∃ y, x = y ∧ R y := ⟨x, rfl, h⟩
theorem i_abs {i : Int} (h : Q (.int (if i < 0 then -i else i)) H) : ∃ j, [V.int i] = [.int j] ∧ Q (.int (if j < 0 then -j else j)) H := ⟨i, rfl, h⟩
theorem i_two {R : Int → Int → Prop} {i j : Int} (h : R i j) : ∃ a b, [V.int i, V.int j] = [.int a, .int b] ∧ R a b := ⟨i, j, rfl, h⟩
theorem i_one {R : Int → Prop} {i : Int} (h : R i) : ∃ a, [V.int i] = [.int a] ∧ R a := ⟨i, rfl, h⟩
theorem i_cmod {i m : Int} (h : 0 < m) : (fun (_ j : Int) => 0 < j) i m := h
theorem i_bm {T : String} {r : V → List V → Hp → VK → Prop} {to : TE} {t : TA} (h : to σ H fun x H1 => tyV K T x H1 ∧ t σ H1 fun xs H2 => r x xs H2 Q) : tBM K T r to t σ H Q := h
theorem i_tyL {p : Addr} {xs : List V} {R : Prop} (h1 : H p = some (.lst xs)) (h : R) : tyV K "list" (.ref p) H ∧ R := ⟨.inl ⟨rfl, xs, .inl (.inl h1)⟩, h⟩
theorem i_tyS {z : Str} {R : Prop} (h : R) : tyV K "str" (.str z) H ∧ R := ⟨rfl, h⟩
theorem i_append {p : Addr} {xs : List V} {y : V} (h1 : H p = some (.lst xs)) (h2 : xs.length < sizeLine) (h : Q .non (upd H p (.lst (xs ++ [y])))) : rAppend (.ref p) [y] H Q := ⟨p, xs, y, rfl, rfl, h1, h2, h⟩
theorem i_sl {r : V → Option Int → Option Int → Hp → VK → Prop} {te : TE} {tl th : TO} (h : te σ H fun x H1 => tl σ H1 fun l H2 => th σ H2 fun u H3 => r x l u H3 Q) : L2.tSl r te tl th σ H Q := h
theorem i_part {t : TE} {R : Option Int → Hp → Prop} (h : t σ H fun x H1 => ∃ i, x = .int i ∧ R (some i) H1) : tPart t σ H R := h
theorem i_nopart {R : Option Int → Hp → Prop} (h : R none H) : tNoPart σ H R := h
theorem i_exI {R : Int → Prop} {i : Int} (h : R i) : ∃ j, V.int i = .int j ∧ R j := ⟨i, rfl, h⟩
theorem i_chain {r r' : R2} {ta tb tc : TE} (h : ta σ H fun x H1 => tb σ H1 fun y H2 => r x y H2 fun z H3 => ∃ k, z = .bl k ∧ (if k = true then tc σ H3 fun w' H4 => r' y w' H4 Q else Q (.bl false) H3)) : tChain r r' ta tb tc σ H Q := h
theorem i_aug {i : Nat} {te : TE} {ti : TIp} {x : V} (e : σ[i]? = some (some x)) (h : te σ H fun y H1 => ti x y H1 fun z H2 => D.nx (σ.set i (some z)) H2) : tAug i te ti D σ H := ⟨x, e, h⟩
theorem i_ip {g : Int → Int → Int} {a b : Int} (h : Q (.int (g a b)) H) : ipI g (.int a) (.int b) H Q := ⟨a, b, rfl, rfl, h⟩
theorem i_par {i j : Nat} {ta : TA} (h : ta σ H fun vs H1 => ∃ v w, vs = [v, w] ∧ D.nx ((σ.set i (some v)).set j (some w)) H1) : tPar i j ta D σ H := h
theorem i_pair {R : V → V → Prop} {a b : V} (h : R a b) : ∃ v w, [a, b] = [v, w] ∧ R v w := ⟨a, b, rfl, h⟩
theorem i_andV {ta tb : TE} (h : ta σ H fun x H1 => ∃ c, x = .bl c ∧ if c = true then tb σ H1 Q else Q (.bl false) H1) : tAndV ta tb σ H Q := h
theorem i_orV {ta tb : TE} (h : ta σ H fun x H1 => ∃ c, x = .bl c ∧ if c = true then Q (.bl true) H1 else tb σ H1 Q) : tOrV ta tb σ H Q := h
theorem i_notV {ta : TE} (h : ta σ H fun x H1 => ∃ c, x = .bl c ∧ Q (.bl (!c)) H1) : tNotV ta σ H Q := h
theorem i_m1 {r : V → List V → Hp → VK → Prop} {to te : TE} (h : to σ H fun x H1 => (∃ a, x = .str a) ∧ te σ H1 fun y H2 => r x [y] H2 Q) : tM1 r to te σ H Q := h
theorem i_str {z : Str} {R : Prop} (h : R) : (∃ a, V.str z = .str a) ∧ R := ⟨⟨z, rfl⟩, h⟩
theorem i_len {p : Addr} {ys : List V} (h1 : SqL K H p ys ∨ SqT K H p ys) (h : Q (.int ys.length) H) : ∃ q zs, [V.ref p] = [.ref q] ∧ (SqL K H q zs ∨ SqT K H q zs) ∧ Q (.int zs.length) H := ⟨p, ys, rfl, h1, h⟩
theorem i_lenS {l : List Nat} (h1 : l.length ≤ sizeLine) (h : Q (.int (l.length : Int)) H) : ∃ z, [V.str (S l)] = [.str z] ∧ z.length ≤ sizeLine ∧ Q (.int z.length) H := ⟨S l, rfl, by rw [S_len]; exact h1, by rw [S_len]; exact h⟩
end
theorem sqL_of {K : PySem.W.Frag} {H : Hp} {a : Addr} {xs : List V} (h : H a = some (.lst xs)) : SqL K H a xs := .inl (.inl h)
theorem sqT_of {K : PySem.W.Frag} {H : Hp} {a : Addr} {xs : List V} (h : H a = some (.tup xs)) : SqT K H a xs := .inl (.inl h)
/-- the part of a text between two places -/
def cut (l : List Nat) (lo hi : Option Int) : List Nat := (l.drop (HT.sIx l.length 0 lo)).take (HT.sIx l.length l.length hi - HT.sIx l.length 0 lo)
theorem cutS_S (l : List Nat) (lo hi : Option Int) : cutS (S l) lo hi = S (cut l lo hi) := by
  unfold cutS cut
  rw [S_list, S_len]; rfl
theorem cut_from (l : List Nat) (k : Nat) : cut l (some (k : Int)) none = l.drop k := by
  unfold cut
  rw [HT.sIx_nat, HT.sIx_none]
  rcases Nat.le_total k l.length with h | h
  · rw [Nat.min_eq_left h, List.take_of_length_le (by rw [List.length_drop]; omega)]
  · rw [Nat.min_eq_right h, List.drop_length, List.drop_of_length_le h, List.take_nil]
theorem cut_to (l : List Nat) (k : Nat) : cut l none (some (k : Int)) = l.take k := by
  unfold cut
  rw [HT.sIx_nat, HT.sIx_none, List.drop_zero, Nat.sub_zero]
  rcases Nat.le_total k l.length with h | h
  · rw [Nat.min_eq_left h]
  · rw [Nat.min_eq_right h, List.take_length, List.take_of_length_le h]
theorem i_slS {l : List Nat} {lo hi : Option Int} {H : Hp} {Q : VK} (h1 : l.length ≤ sizeLine) (h : Q (.str (S (cut l lo hi))) H) : rSlS (.str (S l)) lo hi H Q := ⟨S l, rfl, by rw [S_len]; exact h1, by rw [cutS_S]; exact h⟩
theorem i_tB {t : TE} {R : Bool → Hp → Prop} {σ : L2.St} {H : Hp} (h : t σ H fun x H1 => ∃ c, x = .bl c ∧ R c H1) : tB t σ H R := h
theorem i_retN {σ : L2.St} {H : Hp} {D : Ends} (h : D.rt .non H) : tRetN D σ H := h
theorem i_par3 {i j l : Nat} {ta : TA} {σ : L2.St} {H : Hp} {D : Ends} (h : ta σ H fun vs H1 => ∃ u v w, vs = [u, v, w] ∧ D.nx (((σ.set i (some u)).set j (some v)).set l (some w)) H1) : tPar3 i j l ta D σ H := h
theorem i_trip {R : V → V → V → Prop} {a b c : V} (h : R a b c) : ∃ u v w, [a, b, c] = [u, v, w] ∧ R u v w := ⟨a, b, c, rfl, h⟩
theorem i_gTup {K : PySem.W.Frag} {n : Nat} {t : TGs} {a : Addr} {xs : List V} {σ : L2.St} {H : Hp} {R : L2.St → Hp → Prop} (h1 : SqT K H a xs) (h2 : xs.length = n) (h : t xs σ H R) : gTup K n t (.ref a) σ H R := ⟨a, xs, rfl, h1, h2, h⟩
theorem i_gCons {t : TG} {u : TGs} {v : V} {r : List V} {σ : L2.St} {H : Hp} {R : L2.St → Hp → Prop} (h : t v σ H fun σ' H' => u r σ' H' R) : gCons t u (v :: r) σ H R := ⟨v, r, rfl, h⟩
theorem i_gNil {σ : L2.St} {H : Hp} {R : L2.St → Hp → Prop} (h : R σ H) : gNil [] σ H R := ⟨rfl, h⟩
theorem i_lstRg {te : L2.St → Hp → (Int → Int → Hp → Prop) → Prop} {σ : L2.St} {H : Hp} {Q : VK} (h : te σ H fun a b H1 => RgOk a b ∧ ∀ q, H1 q = none → Q (.ref q) (upd H1 q (.lst (rgV a b)))) : tLstRg te σ H Q := h
theorem i_rg1 {ta : TE} {σ : L2.St} {H : Hp} {R : Int → Int → Hp → Prop} (h : ta σ H fun x H1 => ∃ n, x = .int n ∧ R 0 n H1) : tRg1 ta σ H R := h
theorem i_pow {g : Int → Int → V} {a b : Int} {H : Hp} {Q : VK} (h1 : 0 ≤ b) (h2 : b ≤ 1000000) (h3 : a.natAbs < 2 ^ 64) (h : Q (g a b) H) : rI CPow g (.int a) (.int b) H Q := ⟨a, b, rfl, rfl, ⟨h1, h2, h3⟩, h⟩
theorem S_le {l : List Nat} (h : l.length ≤ 100000) : (S l).length ≤ sizeLine := Nat.le_trans h (by decide)
theorem ints_get {ns : List Int} {j : Nat} {v : V} (h : (ns.map V.int)[j]? = some v) : ∃ i, ns[j]? = some i ∧ v = .int i := by
  rw [List.getElem?_map] at h
  cases e : ns[j]? with
  | none => rw [e] at h; cases h
  | some i => rw [e] at h; exact ⟨i, rfl, (Option.some.inj h).symm⟩
theorem ints_at {ns : List Int} {j : Nat} (h : j < ns.length) : (ns.map V.int)[j]? = some (.int ns[j]) := by
  rw [List.getElem?_map, List.getElem?_eq_getElem h]; rfl
theorem atI_ints {ns : List Int} {i : Int} (h0 : 0 ≤ i) (h1 : i < ns.length) : atI (ns.map V.int) i = some (.int (ns[i.toNat]'(by omega))) := by
  have h := atI_nat (xs := ns.map V.int) (ints_at (ns := ns) (show i.toNat < ns.length by omega))
  rwa [show ((i.toNat : Nat) : Int) = i by omega] at h
end Sw
namespace Sw
open PySem PySem.Spec PyProof.Rows L2
/-! ### x[::-1] of a text -/
def tRevS (te : TE) : TE := fun σ H Q => te σ H fun x H1 => ∃ l, x = .str (S l) ∧ l.length ≤ sizeLine ∧ Q (.str (S l.reverse)) H1
theorem fmap_map {α β : Type} {f : α → Option β} {g : α → β} : ∀ {l : List α}, (∀ a ∈ l, f a = some (g a)) → l.filterMap f = l.map g
  | [], _ => rfl
  | a :: l, h => by
    rw [List.filterMap_cons, h a List.mem_cons_self, List.map_cons, fmap_map fun b hb => h b (List.mem_cons_of_mem _ hb)]
theorem rev_list (l : List Nat) : ((Builtin.Str.strSliceIndices none none (-1) l.length).filterMap (l.toArray[·]?)) = l.reverse := by
  rw [PyProof.Rows.picked_rev, List.filterMap_map]
  apply List.ext_getElem?
  intro k
  have hf : List.filterMap ((fun x => l.toArray[x]?) ∘ fun k => l.length - 1 - k) (List.range l.length) = (List.range l.length).map fun k => l.getD (l.length - 1 - k) 0 := by
    refine fmap_map fun a ha => ?_
    have ha' : a < l.length := List.mem_range.mp ha
    have hb : l.length - 1 - a < l.length := by omega
    show l.toArray[l.length - 1 - a]? = some (l.getD (l.length - 1 - a) 0)
    rw [List.getElem?_toArray, List.getD_eq_getElem?_getD, List.getElem?_eq_getElem hb]
    rfl
  rw [hf, List.getElem?_map]
  by_cases hk : k < l.length
  · have hb : l.length - 1 - k < l.length := by omega
    rw [List.getElem?_range hk, List.getElem?_reverse hk]
    show some (l.getD (l.length - 1 - k) 0) = _
    rw [List.getD_eq_getElem?_getD, List.getElem?_eq_getElem hb]
    rfl
  · rw [List.getElem?_eq_none (by rw [List.length_range]; omega), List.getElem?_eq_none (by rw [List.length_reverse]; omega)]
    rfl
theorem pe_revS {X : Cx} {e : Expr} {te : TE} {k : Nat} {p1 p2 p3 pos : Pos} (he : PE X e te) :
    PE X (.Subscript e (.Slice none none (some (.UnaryOp .USub (.Constant (.int 1) k p1) p2)) p3) pos) (tRevS te) := by
  constructor
  intro pins s σ H Q I h
  refine Subscript_ (thn (he.run pins s σ H _ I h) fun v s1 ⟨x, H1, I1, r1, l, ex, hl, q⟩ => ?_)
  subst ex
  obtain ⟨tk, rfl⟩ := r1
  have st : PO X (some (.UnaryOp .USub (.Constant (.int 1) k p1) p2)) (tPart (tUn (rU fun i => .int (-i)) (tC (.int 1)))) := po_some (pe_un un_neg pe_int)
  refine wpAny_Slice (thn (po_none.run pins s1 σ H1 (fun o G => o = none ∧ G = H1) I1 ⟨rfl, rfl⟩) fun w1 s2 ⟨o1, G1, J1, z1, a1, b1⟩ => ?_)
  subst a1 b1
  refine thn (po_none.run pins s2 σ G1 (fun o G => o = none ∧ G = G1) J1 ⟨rfl, rfl⟩) fun w2 s3 ⟨o2, G2, J2, z2, a2, b2⟩ => ?_
  subst a2 b2
  refine thn (st.run pins s3 σ G2 (fun o G => o = some (-1) ∧ G = G2) J2 ⟨1, rfl, -1, rfl, rfl, rfl⟩) fun w3 s4 ⟨o3, G3, J3, z3, a3, b3⟩ => ?_
  subst a3 b3
  have J4 : Inv X pins σ G3 { s4 with heap := s4.heap.push { cls := .type "slice", data := .fields #[w1, w2, w3] } } := J3.kept (t' := s4.toks) fun b ob q => Heap.get?_push_of_some _ q
  obtain ⟨y1, rfl, f1⟩ := IsPart.raw z1
  obtain ⟨y2, rfl, f2⟩ := IsPart.raw z2
  obtain ⟨y3, rfl, f3⟩ := IsPart.raw z3
  cases y1 with
  | some y => cases f1
  | none =>
  cases y2 with
  | some y => cases f2
  | none =>
  cases y3 with
  | none => cases f3
  | some y =>
  obtain ⟨m, u⟩ := y
  have em : m = -1 := Option.some.inj f3
  subst em
  refine tail_any (T := "str") (id := _) (ops := [.str (S l) tk, .ref s4.heap.objs.size]) (typeIs_str _ _ _) F.slot_str_getitem.lookup ?_ (by with_unfolding_all rfl)
  refine wpAny_getItem_str_slice (l := none) (u := none) (st := some (-1, u)) ⟨_, Heap.get?_push_size _ rfl, rfl, rfl⟩ rfl ?_
  show Made.post (if ((-1 : Int) == 1 && (Builtin.Str.strSliceIndices none none (-1) (S l).length).length == (S l).length) = true then Made.val (.str (S l) tk)
    else Made.str ⟨((Builtin.Str.strSliceIndices none none (-1) (S l).length).filterMap ((S l).cps[·]?)).toArray⟩) (EP X pins σ Q) _
  rw [if_neg (by rw [show ((-1 : Int) == 1) = false from rfl, Bool.false_and]; exact Bool.false_ne_true)]
  have e : ((Builtin.Str.strSliceIndices none none (-1) (S l).length).filterMap ((S l).cps[·]?)) = l.reverse := by
    rw [S_len]
    exact rev_list l
  rw [e]
  refine ⟨by show (S l.reverse).length ≤ sizeLine; rw [S_len, List.length_reverse]; exact hl, .str (S l.reverse), G3, J4.tok _, ⟨_, rfl⟩, q⟩
/-! ### enumerate(text) -/
/-- a text's signs, each in a new pair with its number -/
def ItE (x : Str) : It := ⟨fun i _ => i < x.cps.size, fun i H v H' => ∃ T c, v = .ref T ∧ H T = none ∧ x.cps[i]? = some c ∧ H' = upd H T (.tup [.int (i : Nat), .str ⟨#[c]⟩]), fun i _ => i = x.cps.size⟩
theorem turn_enumS {P : Program} {w : World} {K : PySem.W.Frag} {elts : List Expr} {kk : Nat} {tpos : Pos} (x : Str) (t : Tok) (e it : Addr) (hne : e ≠ it) :
    Turn P w K (.Tuple elts kk tpos) (ItE x) [e, it] e (fun i h => (∃ old, IsEnum h e it ((i : Nat) : Int) old) ∧ h.IsStrIter it (strIterType x) x t i) := by
  refine ⟨by simp, fun i h st b hb => ?_, fun i h h' st k => ?_, ?_, ?_, fun A i s Q E st h => ?_⟩
  · obtain ⟨⟨old, he⟩, o, ho, hc, hd⟩ := st
    have e' : b = e ∨ b = it := by simpa using hb
    rcases e' with rfl | rfl
    · exact ⟨_, he, fun v q => nomatch q⟩
    · exact ⟨o, ho, fun v q => by rw [hd] at q; cases q⟩
  · obtain ⟨⟨old, he⟩, o, ho, z⟩ := st
    exact ⟨⟨old, k e (by simp) _ he⟩, o, k it (by simp) o ho, z⟩
  · rintro X rfl rfl rfl hc i pins s σ H E I hf ⟨⟨old, he⟩, hit⟩ hg
    have hh : X.A.in1.handled = none := I.ok.hd hc
    have DD := Draws.text (prog := X.prog) (w := X.w) (A := X.A.in1) hh it x t
    have l1 : e < s.heap.objs.size := Heap.lt_size he
    have l2 : it < s.heap.objs.size := by obtain ⟨_, q, _⟩ := hit; exact Heap.lt_size q
    refine wpAny_pyNext_enum_itemD DD he hit hg hne (by simpa using hne) fun v h1 tk hv ho hit' hT hsz hk => ?_
    obtain ⟨c, u, hc', rfl⟩ := hv
    refine ⟨_, rfl, wpAny_letOwnedTupleGo_enum (s := { s with heap := h1, toks := tk + 1 }) ho fun h2 he' sb => ?_⟩
    have nT := Nat.ne_of_gt l1
    have gT : h2.get? s.heap.objs.size = some { cls := .type "tuple", data := .seq #[.int i tk, .str ⟨#[c]⟩ u] } := (sb.2 _ nT).trans hT
    have fresh : H s.heap.objs.size = none := I.hok.fresh (Nat.le_refl _)
    have new : ObjOk X.prog X.w (upd H s.heap.objs.size (.tup [.int (i : Nat), .str ⟨#[c]⟩])) h2 s.heap.objs.size (.tup [.int (i : Nat), .str ⟨#[c]⟩]) :=
      ⟨Nat.le_of_ble_eq_true rfl, [.int i tk, .str ⟨#[c]⟩ u], .cons ⟨_, rfl⟩ (.cons ⟨_, rfl⟩ .nil), _, gT, rfl, _, rfl⟩
    have J : Inv X pins σ (upd H s.heap.objs.size (.tup [.int (i : Nat), .str ⟨#[c]⟩])) { s with heap := h2, toks := tk + 1 } := by
      refine I.turnedNew (ch := [e, it]) (fun b ob hb q => ?_) hf (Nat.le_refl _) new
      have n1 : b ≠ e := fun z => hb (by simp [z])
      have n2 : b ≠ it := fun z => hb (by simp [z])
      exact (sb.2 b n1).trans (hk b ob n1 n2 q)
    refine ⟨.ref s.heap.objs.size, _, J, rfl, ⟨_, c, rfl, fresh, hc', rfl⟩, ⟨⟨.str ⟨#[c]⟩ u, ?_⟩, ?_⟩, fun b hb => ?_⟩
    · rw [show ((i + 1 : Nat) : Int) = (i : Int) + 1 by omega]
      exact he'
    · obtain ⟨o, g1, g2⟩ := hit'
      exact ⟨o, (sb.2 it (Ne.symm hne)).trans g1, g2⟩
    · have lb : b < s.heap.objs.size := by
        have e' : b = e ∨ b = it := by simpa using hb
        rcases e' with rfl | rfl <;> assumption
      rw [upd_ne (Nat.ne_of_lt lb)]
      exact (hf b hb).1
  · rintro X rfl rfl rfl hc i pins s σ H E I hf ⟨⟨old, he⟩, hit⟩ hg
    have hh : X.A.in1.handled = none := I.ok.hd hc
    have DD := Draws.text (prog := X.prog) (w := X.w) (A := X.A.in1) hh it x t
    have hi : i = x.cps.size := hg
    subst hi
    obtain ⟨f0, f1, f2, f3, f4, f5⟩ := hf it (by simp)
    exact wpAny_pyNext_enum_endD DD he hit fun h1 eb => ⟨rfl, I.turned (t' := s.toks) (fun b o hb q => eb b o hb q) f0 f1 f3 f4 f5⟩
  · obtain ⟨⟨old, he⟩, _⟩ := st
    exact wpAny_pyIter_enum he h
def iEnS (ta : TA) : TI := fun σ H R => ta σ H fun vs H1 => ∃ x, vs = [.str x] ∧ R (ItE x) H1
theorem pi_enumS {X : Cx} {e : Expr} {ta : TA} {p pos tpos : Pos} {elts : List Expr} {kk : Nat} (hg : Gl X "enumerate") (hm : X.mg "enumerate" = none) (ha : PA X [e] ta) (hs : starEach [e] X.env = [(false, eval e X.env)] := by rfl) :
    PI X (.Tuple elts kk tpos) (.Call (.Name "enumerate" p) [e] [] pos) (iEnS ta) := by
  constructor
  intro pins s σ H R I h
  refine Call_ (ld_blt I hg hm boot_enumerate (PyProof.Rows.callWith_type1 (thn (ha.run pos pins s σ H _ I h) fun us s1 q1 => ?_) hs rfl))
  obtain ⟨vs, H1, I1, r1, x, rfl, q⟩ := q1
  cases r1 with
  | cons r rr =>
    cases rr
    obtain ⟨t, rfl⟩ := r
    refine call_enumerate_str fun h1 he hit hsz hk => wpAny_pyIter_enum he ?_
    have J : Inv X pins σ H1 { s1 with heap := h1 } := I1.kept (t' := s1.toks) hk
    refine ⟨s1.heap.objs.size + 1, [s1.heap.objs.size + 1, s1.heap.objs.size], _, ItE x, H1, rfl, J, turn_enumS x t _ _ (Nat.succ_ne_self _), ⟨⟨.none, he⟩, hit⟩, fun b hb => ?_, q⟩
    have lb : s1.heap.objs.size ≤ b := by
      have e' : b = s1.heap.objs.size + 1 ∨ b = s1.heap.objs.size := by simpa using hb
      rcases e' with rfl | rfl
      · exact Nat.le_succ _
      · exact Nat.le_refl _
    exact I1.fpOk lb (I1.hok.fresh lb)
theorem walk_enumS {x : Str} : Walk (ItE x) x.cps.size (fun _ => True) (fun i H v H' => ∃ T c, v = .ref T ∧ H T = none ∧ x.cps[i]? = some c ∧ H' = upd H T (.tup [.int (i : Nat), .str ⟨#[c]⟩])) :=
  ⟨fun _ _ hi _ => hi, fun _ _ => rfl, fun _ _ _ _ _ _ y => y⟩
end Sw
namespace Sw
open PySem PySem.Spec PyProof.Rows L2
/-! ### comprehensions that leave all as it was -/
theorem lc_map {J : It} {n : Nat} {G : Hp → Prop} {Y : Nat → Hp → V → Hp → Prop} {g : TG} {te : TE} {vs : List Nat} {σ : L2.St} {H1 : Hp} {D : Addr} {Qd : Hp → Prop} (w : Walk J n G Y) (f : Nat → V)
    (hn : n ≤ 1000000) (nD : H1 D = none) (hG : ∀ H, Same H1 H → G H)
    (hs : ∀ i x H H', i < n → Same H1 H → Y i H x H' → ∀ R : V → Hp → Prop, (∀ H4, Same H H4 → R (f i) H4) → g x (wipe σ vs) H' fun σ2 H2 => wipe σ2 vs = wipe σ vs ∧ te σ2 H2 R)
    (hd : ∀ H, Same H1 H → H D = some (.lst ((List.range n).map f)) → Qd H)
    (hmono : ∀ x σ H (R R' : L2.St → Hp → Prop), (∀ σ' H', R σ' H' → R' σ' H') → g x σ H R → g x σ H R') :
    ∃ W : Nat → Nat → Hp → Prop, (∃ m, W 0 m (upd H1 D (.lst []))) ∧ ∀ i m H, W i m H →
      (J.stop i H ∧ Qd H) ∨ (J.go i H ∧ ∃ Nx : Hp → Prop, (∀ H', Nx H' → ∃ m', m' < m ∧ W (i + 1) m' H') ∧ ∀ x H', J.yld i H x H' → g x (wipe σ vs) H' fun σ2 H2 => wipe σ2 vs = wipe σ vs ∧ tYes σ2 H2 fun b H3 =>
        if b = true then te σ2 H3 fun y H4 => ∃ acc, H4 D = some (.lst acc) ∧ acc.length < sizeLine ∧ Nx (upd H4 D (.lst (acc ++ [y]))) else Nx H3) := by
  refine lc_it w (fun i H => Same H1 H ∧ H D = some (.lst ((List.range i).map f))) ⟨same_upd nD, upd_same⟩ (fun i H _ p => hG H p.1) (fun i x H H' hi p y => ?_) (fun H p => hd H p.1 p.2)
  refine hmono _ _ _ _ _ (fun σ2 H2 q => ?_) (hs i x H H' hi p.1 y (fun y H4 => ∃ acc, H4 D = some (.lst acc) ∧ acc.length < sizeLine ∧ (Same H1 (upd H4 D (.lst (acc ++ [y]))) ∧ (upd H4 D (.lst (acc ++ [y]))) D = some (.lst ((List.range (i + 1)).map f)))) (fun H4 s4 => ?_))
  · refine ⟨q.1, ?_⟩
    unfold tYes
    dsimp only
    rw [if_pos rfl]
    exact q.2
  · refine ⟨_, s4 _ _ p.2, ?_, fun b o e => ?_, ?_⟩
    · rw [List.length_map, List.length_range]
      exact Nat.lt_of_lt_of_le hi (Nat.le_trans hn (by decide))
    · rw [upd_ne (ne_of_none e nD)]
      exact s4 _ _ (p.1 _ _ e)
    · rw [upd_same, List.range_succ, List.map_append]
      rfl
theorem mono_name {i : Nat} (x : V) (σ : L2.St) (H : Hp) (R R' : L2.St → Hp → Prop) (h : ∀ σ' H', R σ' H' → R' σ' H') (q : gName i x σ H R) : gName i x σ H R' := h _ _ q
theorem range_map_get {α β : Type} (l : List α) (F : Nat → β) (g : α → β) (h : ∀ i x, l[i]? = some x → F i = g x) : (List.range l.length).map F = l.map g := by
  apply List.ext_getElem?
  intro i
  rw [List.getElem?_map, List.getElem?_map]
  by_cases hi : i < l.length
  · rw [List.getElem?_range hi, List.getElem?_eq_getElem hi]
    show some (F i) = some (g l[i])
    rw [h i _ (List.getElem?_eq_getElem hi)]
  · rw [List.getElem?_eq_none (by rw [List.length_range]; omega), List.getElem?_eq_none (by omega)]; rfl
/-! ### isinstance -/
theorem i_isi {K : PySem.W.Frag} {H : Hp} {Q : VK} {x : V} {t : Value} {n : String} (b : Bool) (h1 : TyX K H x t) (h2 : PySem.W.kitOne K t (.type n) = some b) (h : Q (.bl b) H) : rIsi K [x, .ty n] H Q := ⟨x, .ty n, t, .type n, b, rfl, .ty n, h1, h2, h⟩
/-! ### texts of letters -/
def azB (l : List Nat) : Bool := l.all fun c => decide (97 ≤ c ∧ c ≤ 122)
theorem azB_app (a b : List Nat) : azB (a ++ b) = (azB a && azB b) := by simp [azB, List.all_append]
theorem azB_take {l : List Nat} (h : azB l = true) (n : Nat) : azB (l.take n) = true := by
  unfold azB at *
  rw [List.all_eq_true] at *
  exact fun x hx => h x (List.mem_of_mem_take hx)
theorem azB_drop {l : List Nat} (h : azB l = true) (n : Nat) : azB (l.drop n) = true := by
  unfold azB at *
  rw [List.all_eq_true] at *
  exact fun x hx => h x (List.mem_of_mem_drop hx)
theorem az_letters : (("abcdefghijklmnopqrstuvwxyz" : Str)).cps.toList = List.range' 97 26 := by decide +kernel
theorem az_in (c : Nat) : decide (c ∈ (("abcdefghijklmnopqrstuvwxyz" : Str)).cps.toList) = decide (97 ≤ c ∧ c ≤ 122) := by
  rw [az_letters]
  by_cases h : 97 ≤ c ∧ c ≤ 122
  · rw [decide_eq_true h, decide_eq_true]
    exact List.mem_range'_1.mpr ⟨h.1, by omega⟩
  · rw [decide_eq_false h, decide_eq_false]
    intro q
    have := List.mem_range'_1.mp q
    omega
theorem e_empty : (("" : Str)) = S [] := by decide +kernel
theorem starts_S (a b : List Nat) : Txt.startswith (S a) (S b) = decide (a.take b.length = b) := by
  unfold Txt.startswith Builtin.Str.subAt
  rw [S_len, S_len]
  show (decide (0 + b.length ≤ a.length) && ((a.toArray.extract 0 (0 + b.length)) == b.toArray)) = _
  rw [Nat.zero_add]
  have e : (a.toArray.extract 0 b.length) = (a.take b.length).toArray := by
    rw [List.extract_toArray, List.extract_eq_take_drop]
    simp
  rw [e]
  by_cases h : a.take b.length = b
  · rw [h, decide_eq_true rfl, beq_self_eq_true, Bool.and_true, decide_eq_true]
    have := congrArg List.length h
    rw [List.length_take] at this
    omega
  · rw [decide_eq_false h]
    have : ((a.take b.length).toArray == b.toArray) = false := by
      rw [beq_eq_false_iff_ne]
      intro q
      exact h (by simpa using q)
    rw [this, Bool.and_false]
/-! ### what is known of a heap stays -/
theorem Same.at {H H' : Hp} {a : Addr} {o : HO} (s : Same H H') (h : H a = some o) : H' a = some o := s a o h
theorem Same.sqT {K : PySem.W.Frag} {H H' : Hp} {a : Addr} {xs : List V} (e : Same H H') (h : SqT K H a xs) : SqT K H' a xs := by
  rcases h with (h | ⟨o, h⟩) | h
  · exact .inl (.inl (e _ _ h))
  · exact .inl (.inr ⟨o, e _ _ h⟩)
  · exact .inr h
theorem Same.sqL {K : PySem.W.Frag} {H H' : Hp} {a : Addr} {xs : List V} (e : Same H H') (h : SqL K H a xs) : SqL K H' a xs := e.seq h
theorem Same.upd_new {H H1 : Hp} {p : Addr} {o : HO} (s : Same H H1) (n : H1 p = none) : Same H (upd H1 p o) := s.trans (same_upd n)
/-- an object that is new since H is written: what was tracked at H stays -/
theorem Same.set_new {H H1 : Hp} {p : Addr} {o : HO} (s : Same H H1) (n : H p = none) : Same H (upd H1 p o) := fun b x e => by
  rw [upd_ne (ne_of_none e n)]
  exact s _ _ e
/-! ### loops and comprehensions, their source apart -/
def LcGo (J : It) (g : TG) (tt : TT) (te : TE) (vs : List Nat) (σ : L2.St) (H : Hp) (Q : VK) : Prop := tLc (fun _ H R => R J H) g tt te vs σ H Q
def ForGo (J : It) (g : TG) (tb : TS) (D : Ends) (σ : L2.St) (H : Hp) : Prop := tFor (fun _ H R => R J H) g tb D σ H
theorem i_lc {wi : TI} {g : TG} {tt : TT} {te : TE} {vs : List Nat} {σ : L2.St} {H : Hp} {Q : VK} (h : wi σ H fun J H1 => LcGo J g tt te vs σ H1 Q) : tLc wi g tt te vs σ H Q := h
theorem i_for {wi : TI} {g : TG} {tb : TS} {D : Ends} {σ : L2.St} {H : Hp} (h : wi σ H fun J H1 => ForGo J g tb D σ H1) : tFor wi g tb D σ H := h
theorem i_iList {K : PySem.W.Frag} {tl : TE} {R : It → Hp → Prop} {σ : L2.St} {H : Hp} (h : tl σ H fun x H1 => ∃ a, x = .ref a ∧ (∃ xs, SqL K H1 a xs) ∧ R (Itl K a) H1) : iList K tl σ H R := h
theorem i_iTup {K : PySem.W.Frag} {tl : TE} {R : It → Hp → Prop} {σ : L2.St} {H : Hp} (h : tl σ H fun x H1 => ∃ a, x = .ref a ∧ (∃ xs, SqT K H1 a xs) ∧ R (Itt K a) H1) : iTup K tl σ H R := h
theorem i_iStr {te : TE} {R : It → Hp → Prop} {σ : L2.St} {H : Hp} (h : te σ H fun v H1 => ∃ x, v = .str x ∧ R (Its x) H1) : iStr te σ H R := h
theorem i_iRng1 {ta : TA} {R : It → Hp → Prop} {σ : L2.St} {H : Hp} (h : ta σ H fun vs H1 => ∃ j : Int, vs = [.int j] ∧ -(2 ^ 62) ≤ j ∧ j < 2 ^ 62 ∧ R (Itr 0 j.toNat) H1) : iRng1 ta σ H R := h
theorem i_iEnS {ta : TA} {R : It → Hp → Prop} {σ : L2.St} {H : Hp} (h : ta σ H fun vs H1 => ∃ x, vs = [.str x] ∧ R (ItE x) H1) : iEnS ta σ H R := h
theorem i_rng {j : Int} {A : Prop} (h0 : 0 ≤ j) (h1 : j ≤ 1000000) (h : A) : -(2 ^ 62) ≤ j ∧ j < 2 ^ 62 ∧ A := ⟨by omega, by omega, h⟩
theorem i_sqL {K : PySem.W.Frag} {H : Hp} {a : Addr} {xs : List V} {A : Prop} (h1 : SqL K H a xs) (h : A) : (∃ xs, SqL K H a xs) ∧ A := ⟨⟨xs, h1⟩, h⟩
section
variable {J : It} {n : Nat} {G : Hp → Prop} {Y : Nat → Hp → V → Hp → Prop} {g : TG} {tt : TT} {te : TE} {tb : TS} {vs : List Nat} {σ : L2.St} {H1 : Hp} {D : Ends} {Q : VK}
theorem go_map (w : Walk J n G Y) (f : Nat → V) (hn : n ≤ 1000000) (hG : ∀ H, Same H1 H → G H)
    (hs : ∀ i x H H', i < n → Same H1 H → Y i H x H' → ∀ R : V → Hp → Prop, (∀ H4, Same H H4 → R (f i) H4) → g x (wipe σ vs) H' fun σ2 H2 => wipe σ2 vs = wipe σ vs ∧ te σ2 H2 R)
    (hmono : ∀ x σ H (R R' : L2.St → Hp → Prop), (∀ σ' H', R σ' H' → R' σ' H') → g x σ H R → g x σ H R')
    (hd : ∀ p H, H1 p = none → Same H1 H → H p = some (.lst ((List.range n).map f)) → Q (.ref p) H) : LcGo J g tYes te vs σ H1 Q :=
  fun p np => lc_map w f hn np hG hs (fun H s e => hd p H np s e) hmono
theorem go_lc (w : Walk J n G Y) (Pv : Addr → Nat → Hp → Prop) (h0 : ∀ p, H1 p = none → Pv p 0 (upd H1 p (.lst []))) (hG : ∀ p i H, i ≤ n → Pv p i H → G H)
    (hs : ∀ p, H1 p = none → ∀ i x H H', i < n → Pv p i H → Y i H x H' → g x (wipe σ vs) H' fun σ2 H2 => wipe σ2 vs = wipe σ vs ∧ tt σ2 H2 fun b H3 =>
      if b = true then te σ2 H3 fun y H4 => ∃ acc, H4 p = some (.lst acc) ∧ acc.length < sizeLine ∧ Pv p (i + 1) (upd H4 p (.lst (acc ++ [y]))) else Pv p (i + 1) H3)
    (hd : ∀ p H, H1 p = none → Pv p n H → Q (.ref p) H) : LcGo J g tt te vs σ H1 Q :=
  fun p np => lc_it w (Pv p) (h0 p np) (hG p) (hs p np) fun H q => hd p H np q
theorem go_for (w : Walk J n G Y) (Pv : Nat → L2.St → Hp → Prop) (h0 : Pv 0 σ H1) (hG : ∀ i σ H, i ≤ n → Pv i σ H → G H)
    (hs : ∀ i x σ H H', i < n → Pv i σ H → Y i H x H' → g x σ H' fun σ2 H2 => tb { D with nx := Pv (i + 1), ct := Pv (i + 1), bk := D.nx } σ2 H2) (hd : ∀ σ H, Pv n σ H → D.nx σ H) : ForGo J g tb D σ H1 :=
  for_it w Pv h0 hG hs hd
end
theorem i_all {K : PySem.W.Frag} {p : Addr} {bs : List Bool} {H : Hp} {Q : VK} (h1 : H p = some (.lst (bs.map V.bl))) (h : Q (.bl (bs.all id)) H) : rAll K [.ref p] H Q := ⟨p, bs, rfl, sqL_of h1, h⟩
theorem i_inSeq {K : PySem.W.Frag} {p : Addr} {xs : List V} {x : V} {H : Hp} {Q : VK} (h1 : SqL K H p xs ∨ SqT K H p xs) (h2 : flatV x = true) (h3 : xs.all flatV = true) (h : Q (.bl (inV x xs)) H) : rIn K false x (.ref p) H Q := ⟨p, xs, rfl, h1, h2, h3, h⟩
theorem i_ixLH {K : PySem.W.Frag} {p : Addr} {xs : List V} {i : Int} {v : V} {H : Hp} {Q : VK} (h1 : H p = some (.lst xs)) (h2 : atI xs i = some v) (h : Q v H) : rIxL K (.ref p) (.int i) H Q := i_ixL (sqL_of h1) h2 h
theorem i_ixTH {K : PySem.W.Frag} {p : Addr} {xs : List V} {i : Int} {v : V} {H : Hp} {Q : VK} (h1 : H p = some (.tup xs)) (h2 : atI xs i = some v) (h : Q v H) : rIxT K (.ref p) (.int i) H Q := i_ixT (sqT_of h1) h2 h
theorem upd_old {H : Hp} {p a : Addr} {o u : HO} (n : H p = none) (h : H a = some u) : upd H p o a = some u := by rw [upd_ne (ne_of_none h n)]; exact h
theorem upd_skip {H : Hp} {p a : Addr} {o u : HO} (n : a ≠ p) (h : H a = some u) : upd H p o a = some u := by rw [upd_ne n]; exact h
theorem iteNT {A B : Prop} (h : B) : if (!true) = true then A else B := iteF h
theorem iteNF {A B : Prop} (h : A) : if (!false) = true then A else B := iteT h
theorem iteNB {p : Prop} [Decidable p] {A B : Prop} (h1 : ¬ p → A) (h2 : p → B) : if (!decide p) = true then A else B := by
  by_cases h : p
  · rw [decide_eq_true h]; exact iteF (h2 h)
  · rw [decide_eq_false h]; exact iteT (h1 h)
theorem iteNC {c : Bool} {A B : Prop} (h1 : c = false → A) (h2 : c = true → B) : if (!c) = true then A else B := by
  cases c with
  | true => exact iteF (h2 rfl)
  | false => exact iteT (h1 rfl)
/-! ### rules whose readings have names, over texts S l -/
section
variable {X : Cx} {H : Hp} {Q : VK} {K : PySem.W.Frag}
theorem pe_strS {x : Str} {j pos} {l : List Nat} (e : x = S l) : PE X (.Constant (.str x) j pos) (tC (.str (S l))) := by rw [e]; exact pe_str
def rAddS : R2 := fun x y H Q => ∃ a b, x = .str (S a) ∧ y = .str (S b) ∧ a.length + b.length ≤ 1000000 ∧ Q (.str (S (a ++ b))) H
theorem op_addS : OpR X (binaryOp .Add) rAddS := fun pins s σ H x y v u Q I rx ry h => by
  obtain ⟨a, b, e1, e2, hz, q⟩ := h
  exact op_add_str pins s σ H x y v u Q I rx ry ⟨S a, S b, e1, e2, by rw [S_len, S_len]; exact Nat.le_trans hz (by decide), by rw [S_app]; exact q⟩
theorem i_addS {a b : List Nat} (h1 : a.length + b.length ≤ 1000000) (h : Q (.str (S (a ++ b))) H) : rAddS (.str (S a)) (.str (S b)) H Q := ⟨a, b, rfl, rfl, h1, h⟩
def rIxSS : V → V → Hp → VK → Prop := fun x y H Q => ∃ l i c, x = .str (S l) ∧ y = .int i ∧ l.length ≤ 1000000 ∧ atI l i = some c ∧ Q (.str (S [c])) H
theorem ix_S : IxR X rIxSS := fun pins s σ H x y v u b Q I rx ry hb h => by
  obtain ⟨l, i, c, e1, e2, hz, hc, q⟩ := h
  exact ix_str pins s σ H x y v u b Q I rx ry hb ⟨S l, i, c, e1, e2, by rw [S_len]; exact Nat.le_trans hz (by decide), by rw [S_list]; exact hc, q⟩
theorem i_ixSS {l : List Nat} {i : Int} {c : Nat} (h1 : l.length ≤ 1000000) (h2 : atI l i = some c) (h : Q (.str (S [c])) H) : rIxSS (.str (S l)) (.int i) H Q := ⟨l, i, c, rfl, rfl, h1, h2, h⟩
def rSlSS : V → Option Int → Option Int → Hp → VK → Prop := fun x lo hi H Q => ∃ l, x = .str (S l) ∧ l.length ≤ 1000000 ∧ Q (.str (S (cut l lo hi))) H
theorem sl_S : SlR X rSlSS := fun pins s σ H x v vl vu lo hi sl Q I rx hs pl pu h => by
  obtain ⟨l, e1, hz, q⟩ := h
  exact sl_str pins s σ H x v vl vu lo hi sl Q I rx hs pl pu ⟨S l, e1, by rw [S_len]; exact Nat.le_trans hz (by decide), by rw [cutS_S]; exact q⟩
theorem i_slFrom {l : List Nat} {k : Int} (h0 : 0 ≤ k) (h1 : l.length ≤ 1000000) (h : Q (.str (S (l.drop k.toNat))) H) : rSlSS (.str (S l)) (some k) none H Q :=
  ⟨l, rfl, h1, by rw [show k = ((k.toNat : Nat) : Int) by omega, cut_from]; exact h⟩
theorem i_slTo {l : List Nat} {k : Int} (h0 : 0 ≤ k) (h1 : l.length ≤ 1000000) (h : Q (.str (S (l.take k.toNat))) H) : rSlSS (.str (S l)) none (some k) H Q :=
  ⟨l, rfl, h1, by rw [show k = ((k.toNat : Nat) : Int) by omega, cut_to]; exact h⟩
def rLenSS : List V → Hp → VK → Prop := fun xs H Q => ∃ l, xs = [.str (S l)] ∧ l.length ≤ 1000000 ∧ Q (.int (l.length : Int)) H
theorem call_lenS : CallR X (.builtin "len") rLenSS := fun pins s σ H xs us Q I r h => by
  obtain ⟨l, e1, hz, q⟩ := h
  exact call_len_str pins s σ H xs us Q I r ⟨S l, e1, by rw [S_len]; exact Nat.le_trans hz (by decide), by rw [S_len]; exact q⟩
theorem i_lenSS {l : List Nat} (h1 : l.length ≤ 1000000) (h : Q (.int (l.length : Int)) H) : rLenSS [.str (S l)] H Q := ⟨l, rfl, h1, h⟩
def rStartS : V → List V → Hp → VK → Prop := fun x xs H Q => ∃ a b, x = .str (S a) ∧ xs = [.str (S b)] ∧ Q (.bl (decide (a.take b.length = b))) H
theorem mt_startsS : MtR X "str.startswith" rStartS := fun pins s σ H x xs v us Q I rx rv h => by
  obtain ⟨a, b, e1, e2, q⟩ := h
  exact mt_startswith pins s σ H x xs v us Q I rx rv ⟨S a, S b, e1, e2, by rw [starts_S]; exact q⟩
theorem i_startS {a b : List Nat} (h : Q (.bl (decide (a.take b.length = b))) H) : rStartS (.str (S a)) [.str (S b)] H Q := ⟨a, b, rfl, rfl, h⟩
def rInSg : R2 := fun x y H Q => ∃ (c : Nat) (z : Str), x = .str (S [c]) ∧ y = .str z ∧ Q (.bl (decide (c ∈ z.cps.toList))) H
theorem op_inSg : OpR X (compareOp .In) rInSg := op_in_sign
theorem i_inSg {c : Nat} {z : Str} (h : Q (.bl (decide (c ∈ z.cps.toList))) H) : rInSg (.str (S [c])) (.str z) H Q := ⟨c, z, rfl, rfl, h⟩
def rAbs : List V → Hp → VK → Prop := fun xs H Q => ∃ i, xs = [.int i] ∧ Q (.int (if i < 0 then -i else i)) H
theorem call_absN : CallR X (.builtin "abs") rAbs := call_abs
theorem i_absN {i : Int} (h : Q (.int (if i < 0 then -i else i)) H) : rAbs [.int i] H Q := ⟨i, rfl, h⟩
def rMin2 : List V → Hp → VK → Prop := fun xs H Q => ∃ i j, xs = [.int i, .int j] ∧ Q (.int (if j < i then j else i)) H
theorem call_min2N (hc : X.calm = true) : CallR X (.builtin "min") rMin2 := call_min2 hc
theorem i_min2 {i j : Int} (h : Q (.int (min i j)) H) : rMin2 [.int i, .int j] H Q := ⟨i, j, rfl, by
  by_cases c : j < i
  · rw [if_pos c]; rw [show min i j = j by omega] at h; exact h
  · rw [if_neg c]; rw [show min i j = i by omega] at h; exact h⟩
def rMax2 : List V → Hp → VK → Prop := fun xs H Q => ∃ i j, xs = [.int i, .int j] ∧ Q (.int (if j > i then j else i)) H
theorem call_max2N (hc : X.calm = true) : CallR X (.builtin "max") rMax2 := call_max2 hc
theorem i_max2 {i j : Int} (h : Q (.int (max i j)) H) : rMax2 [.int i, .int j] H Q := ⟨i, j, rfl, by
  by_cases c : j > i
  · rw [if_pos c]; rw [show max i j = j by omega] at h; exact h
  · rw [if_neg c]; rw [show max i j = i by omega] at h; exact h⟩
def rMin3 : List V → Hp → VK → Prop := fun xs H Q => ∃ i j k, xs = [.int i, .int j, .int k] ∧ Q (.int (min (min i j) k)) H
theorem nuMin2_int (i j : Int) : nuMin2 (.int i) (.int j) = some (.int (min i j)) := by
  show some (if decide (j < i) = true then V.int j else V.int i) = some (.int (min i j))
  by_cases c : j < i
  · rw [decide_eq_true c, if_pos rfl, show min i j = j by omega]
  · rw [decide_eq_false c, if_neg Bool.false_ne_true, show min i j = i by omega]
theorem call_min3N (hc : X.calm = true) : CallR X (.builtin "min") rMin3 := fun pins s σ H xs us Q I r h => by
  obtain ⟨i, j, k, e1, q⟩ := h
  exact call_min3Nu hc pins s σ H xs us Q I r ⟨_, _, _, _, e1, by unfold nuMin3; rw [nuMin2_int]; show nuMin2 (.int (min i j)) (.int k) = _; rw [nuMin2_int], q⟩
theorem i_min3 {i j k : Int} (h : Q (.int (min (min i j) k)) H) : rMin3 [.int i, .int j, .int k] H Q := ⟨i, j, k, rfl, h⟩
def rInt : List V → Hp → VK → Prop := fun xs H Q => (∃ i, xs = [.int i] ∧ Q (.int i) H) ∨ ∃ k, xs = [.bl k] ∧ Q (.int (if k then 1 else 0)) H
theorem call_intN : CallR X (.type "int") rInt := call_int1
theorem i_intN {i : Int} (h : Q (.int i) H) : rInt [.int i] H Q := .inl ⟨i, rfl, h⟩
theorem i_intNB {k : Bool} (h : Q (.int (if k then 1 else 0)) H) : rInt [.bl k] H Q := .inr ⟨k, rfl, h⟩
def rLenQ (K : PySem.W.Frag) : List V → Hp → VK → Prop := fun xs H Q => ∃ p ys, xs = [.ref p] ∧ (SqL K H p ys ∨ SqT K H p ys) ∧ Q (.int ys.length) H
theorem call_lenQ : CallR X (.builtin "len") (rLenQ X.K) := call_len_seq
theorem i_lenL {p : Addr} {ys : List V} (h1 : H p = some (.lst ys)) (h : Q (.int ys.length) H) : rLenQ K [.ref p] H Q := ⟨p, ys, rfl, .inl (sqL_of h1), h⟩
theorem i_lenT {p : Addr} {ys : List V} (h1 : H p = some (.tup ys)) (h : Q (.int ys.length) H) : rLenQ K [.ref p] H Q := ⟨p, ys, rfl, .inr (sqT_of h1), h⟩
theorem i_lenK {p : Addr} {ys : List V} (h1 : SqL K H p ys) (h : Q (.int ys.length) H) : rLenQ K [.ref p] H Q := ⟨p, ys, rfl, .inl h1, h⟩
theorem dec_inj {α β : Type} [DecidableEq α] [DecidableEq β] {f : α → β} (hf : ∀ a b, f a = f b → a = b) (a b : α) : decide (f a = f b) = decide (a = b) := by
  by_cases h : a = b
  · subst h; simp
  · rw [decide_eq_false h, decide_eq_false (fun e => h (hf a b e))]
theorem dec_I (a b : Int) : decide (V.int a = V.int b) = decide (a = b) := dec_inj (fun _ _ e => V.int.inj e) a b
theorem i_eqI {a b : Int} (h : Q (.bl (decide (a = b))) H) : rEq (.int a) (.int b) H Q := ⟨rfl, by rw [dec_I]; exact h⟩
theorem i_neI {a b : Int} (h : Q (.bl (!decide (a = b))) H) : rNe (.int a) (.int b) H Q := ⟨rfl, by rw [dec_I]; exact h⟩
theorem i_eqS {a b : List Nat} (h : Q (.bl (decide (a = b))) H) : rEq (.str (S a)) (.str (S b)) H Q := ⟨rfl, by rw [S_dec]; exact h⟩
theorem i_neS {a b : List Nat} (h : Q (.bl (!decide (a = b))) H) : rNe (.str (S a)) (.str (S b)) H Q := ⟨rfl, by rw [S_dec]; exact h⟩
def rIsNo : R2 := fun x y H Q => y = .non ∧ Q (.bl (decide (x = .non))) H
theorem op_isNo : OpR X (compareOp .Is) rIsNo := op_isN
theorem i_isNoI {i : Int} (h : Q (.bl false) H) : rIsNo (.int i) .non H Q := ⟨rfl, h⟩
theorem i_isNoN (h : Q (.bl true) H) : rIsNo .non .non H Q := ⟨rfl, h⟩
theorem i_isNoR {a : Addr} (h : Q (.bl false) H) : rIsNo (.ref a) .non H Q := ⟨rfl, h⟩
def rRepI : List V → Hp → VK → Prop := fun xs H Q => ∃ i, xs = [.int i] ∧ i.natAbs.log2 < 1920 ∧ Q (.str (toString i)) H
theorem call_repI : CallR X (.builtin "repr") rRepI := SkE.call_repr_int
end
theorem walk_S {l : List Nat} : Walk (Its (S l)) l.length (fun _ => True) (fun i H v H' => H' = H ∧ ∃ c, l[i]? = some c ∧ v = .str (S [c])) := by
  have w := walk_str (z := S l)
  rw [S_size] at w
  exact w.mono (fun _ _ => trivial) fun i H x H' _ _ y => by
    obtain ⟨e, c, hc, ev⟩ := y
    rw [S_get] at hc
    exact ⟨e, c, hc, ev⟩
theorem walk_eS {l : List Nat} : Walk (ItE (S l)) l.length (fun _ => True) (fun i H v H' => ∃ T c, v = .ref T ∧ H T = none ∧ l[i]? = some c ∧ H' = upd H T (.tup [.int (i : Nat), .str (S [c])])) := by
  have w := walk_enumS (x := S l)
  rw [S_size] at w
  exact w.mono (fun _ _ => trivial) fun i H x H' _ _ y => by
    obtain ⟨T, c, e, n, hc, eh⟩ := y
    rw [S_get] at hc
    exact ⟨T, c, e, n, hc, eh⟩
theorem go_while {c : TT} {tb : TS} {D : Ends} {σ : L2.St} {H : Hp} (Pv : Nat → L2.St → Hp → Prop) (m0 : Nat) (h0 : Pv m0 σ H)
    (hs : ∀ m σ H, Pv m σ H → c σ H fun b H1 => if b = true then ∃ N : L2.St → Hp → Prop, (∀ σ' H', N σ' H' → ∃ m', m' < m ∧ Pv m' σ' H') ∧ tb { D with nx := N, ct := N, bk := D.nx } σ H1 else D.nx σ H1) : tWhile c tb D σ H :=
  ⟨Pv, ⟨m0, h0⟩, hs⟩
theorem next_turn {m : Nat} {Pv : Nat → L2.St → Hp → Prop} {A : (L2.St → Hp → Prop) → Prop} (h : A fun σ' H' => ∃ m', m' < m ∧ Pv m' σ' H') : ∃ N : L2.St → Hp → Prop, (∀ σ' H', N σ' H' → ∃ m', m' < m ∧ Pv m' σ' H') ∧ A N := ⟨_, fun _ _ q => q, h⟩
def rRevS : V → Hp → VK → Prop := fun x H Q => ∃ l, x = .str (S l) ∧ l.length ≤ sizeLine ∧ Q (.str (S l.reverse)) H
theorem i_revS {te : TE} {σ : L2.St} {H : Hp} {Q : VK} (h : te σ H fun x H1 => rRevS x H1 Q) : tRevS te σ H Q := h
theorem i_revSS {l : List Nat} {H : Hp} {Q : VK} (h1 : l.length ≤ 1000000) (h : Q (.str (S l.reverse)) H) : rRevS (.str (S l)) H Q := ⟨l, rfl, Nat.le_trans h1 (by decide), h⟩
theorem i_cut {t u : TS} {D : Ends} {σ : L2.St} {H : Hp} (Mid : L2.St → Hp → Prop) (h1 : t { D with nx := Mid } σ H) (h2 : ∀ σ' H', Mid σ' H' → u D σ' H') : C8.tCut t u D σ H := ⟨Mid, h1, h2⟩
theorem i_minL {K : PySem.W.Frag} {p : Addr} {ns : List Int} {H : Hp} {Q : VK} (h1 : H p = some (.lst (ns.map V.int))) (h2 : 0 < ns.length) (h : ∀ m, m ∈ ns → (∀ y, y ∈ ns → m ≤ y) → Q (.int m) H) : rMin K [.ref p] H Q := ⟨p, ns, rfl, sqL_of h1, h2, h⟩
/-- one half of an if: what is appended, or nothing -/
theorem i_chainLL {g : Int → Int → Bool} {g' : Int → Int → Bool} {σ : L2.St} {H : Hp} {R : Bool → Hp → Prop} {i j k : Int}
    (h : R (g i j && g' j k) H) : rI0 (fun a b => .bl (g a b)) (.int i) (.int j) H fun z H3 => ∃ c, z = .bl c ∧ (if c = true then rI0 (fun a b => .bl (g' a b)) (.int j) (.int k) H3 fun x H4 => ∃ d, x = .bl d ∧ R d H4 else ∃ d, V.bl false = .bl d ∧ R d H3) := by
  refine ⟨i, j, rfl, rfl, g i j, rfl, ?_⟩
  cases e : g i j with
  | true => rw [e] at h; exact iteT ⟨j, k, rfl, rfl, g' j k, rfl, h⟩
  | false => rw [e] at h; exact iteF ⟨false, rfl, h⟩
theorem walk_rangeZ {n : Nat} : Walk (Itr 0 n) n (fun _ => True) (YFn fun i => .int (i : Int)) :=
  (walk_range (lo := 0) (n := n)).mono (fun _ h => h) fun i H x H' _ _ y => ⟨y.1, by rw [y.2]; show V.int (0 + (i : Int)) = V.int (i : Int); rw [Int.zero_add]⟩
theorem i_ixLI {K : PySem.W.Frag} {p : Addr} {ns : List Int} {i v : Int} {H : Hp} {Q : VK} (h1 : H p = some (.lst (ns.map V.int))) (h0 : 0 ≤ i) (h2 : ns[i.toNat]? = some v) (h : Q (.int v) H) : rIxL K (.ref p) (.int i) H Q := by
  refine i_ixLH h1 ?_ h
  have e := atI_nat (xs := ns.map V.int) (j := i.toNat) (v := .int v) (by rw [List.getElem?_map, h2]; rfl)
  rwa [show ((i.toNat : Nat) : Int) = i by omega] at e
theorem i_ixSI {l : List Nat} {i : Int} {c : Nat} {H : Hp} {Q : VK} (h0 : 0 ≤ i) (h2 : l[i.toNat]? = some c) (h1 : l.length ≤ 1000000) (h : Q (.str (S [c])) H) : rIxSS (.str (S l)) (.int i) H Q := by
  refine i_ixSS h1 ?_ h
  have e := atI_nat (xs := l) (j := i.toNat) (v := c) h2
  rwa [show ((i.toNat : Nat) : Int) = i by omega] at e
theorem i_appI {p : Addr} {ns : List Int} {v : Int} {H : Hp} {Q : VK} (h1 : H p = some (.lst (ns.map V.int))) (h2 : ns.length ≤ 1000000) (h : Q .non (upd H p (.lst ((ns ++ [v]).map V.int)))) : rAppend (.ref p) [.int v] H Q := by
  refine i_append h1 (by rw [List.length_map]; exact Nat.lt_of_le_of_lt h2 (by decide)) ?_
  rw [List.map_append] at h
  exact h
theorem i_gTupH {K : PySem.W.Frag} {n : Nat} {t : TGs} {a : Addr} {xs : List V} {σ : L2.St} {H : Hp} {R : L2.St → Hp → Prop} (h1 : H a = some (.tup xs)) (h2 : xs.length = n) (h : t xs σ H R) : gTup K n t (.ref a) σ H R := ⟨a, xs, rfl, sqT_of h1, h2, h⟩
theorem join_S (ws : List (List Nat)) : Txt.join (S []) (ws.map S) = S ws.flatten := by
  unfold Txt.join
  rw [StrLaws.glued_eq_join]
  induction ws with
  | nil => rfl
  | cons w ws ih =>
    cases ws with
    | nil => simp [Str.join]
    | cons v ws =>
      show S w ++ S [] ++ Str.join (S []) ((v :: ws).map S) = _
      rw [ih, S_app, S_app, List.append_nil]
      rfl
theorem sum_lens (ws : List (List Nat)) : ((ws.map S).map (·.length)).sum = ws.flatten.length := by
  induction ws with
  | nil => rfl
  | cons w ws ih =>
    rw [List.map_cons, List.map_cons, List.sum_cons, ih, List.flatten_cons, List.length_append, S_len]
def rJoinS (K : PySem.W.Frag) : V → List V → Hp → VK → Prop := fun x xs H Q => ∃ p, ∃ ws : List (List Nat), x = .str (S []) ∧ xs = [.ref p] ∧ (SqL K H p (ws.map fun l => .str (S l)) ∨ SqT K H p (ws.map fun l => .str (S l))) ∧ ws.flatten.length ≤ 1000000 ∧ Q (.str (S ws.flatten)) H
theorem mt_joinS {X : Cx} : MtR X "str.join" (rJoinS X.K) := fun pins s σ H x xs v us Q I rx rv h => by
  obtain ⟨p, ws, e1, e2, hp, hl, q⟩ := h
  have e3 : (ws.map fun l => V.str (S l)) = (ws.map S).map V.str := by rw [List.map_map]; rfl
  rw [e3] at hp
  refine mt_join pins s σ H x xs v us Q I rx rv ⟨S [], p, ws.map S, e1, e2, hp, ?_, by rw [join_S]; exact q⟩
  rw [sum_lens, show (S []).length = 0 from rfl, Nat.mul_zero, Nat.add_zero]
  omega
theorem i_joinS {K : PySem.W.Frag} {p : Addr} {ws : List (List Nat)} {H : Hp} {Q : VK} (h1 : H p = some (.lst (ws.map fun l => .str (S l)))) (h2 : ws.flatten.length ≤ 1000000) (h : Q (.str (S ws.flatten)) H) : rJoinS K (.str (S [])) [.ref p] H Q :=
  ⟨p, ws, rfl, rfl, .inl (sqL_of h1), h2, h⟩
theorem atI_neg1 {α : Type} {xs : List α} {v : α} {n : Nat} (h : xs.length = n + 1) (h2 : xs[n]? = some v) : atI xs (-1) = some v := by
  have e : xs = xs.dropLast ++ [v] := by
    have hne : xs ≠ [] := by intro z; rw [z] at h; cases h
    have := List.dropLast_concat_getLast hne
    have e2 : xs.getLast hne = v := by
      rw [List.getLast_eq_getElem]
      have := List.getElem?_eq_some_iff.mp h2
      obtain ⟨_, q⟩ := this
      simpa [h] using q
    rw [e2] at this
    exact this.symm
  rw [e]
  exact atI_last _ _
theorem i_ixLv {K : PySem.W.Frag} {p : Addr} {xs : List V} {i : Int} {v : V} {H : Hp} {Q : VK} (h1 : H p = some (.lst xs)) (h0 : 0 ≤ i) (h2 : xs[i.toNat]? = some v) (h : Q v H) : rIxL K (.ref p) (.int i) H Q := by
  refine i_ixLH h1 ?_ h
  have e := atI_nat (xs := xs) (j := i.toNat) (v := v) h2
  rwa [show ((i.toNat : Nat) : Int) = i by omega] at e
theorem i_rU {g : Int → V} {i : Int} {H : Hp} {Q : VK} (h : Q (g i) H) : rU g (.int i) H Q := ⟨i, rfl, h⟩
end Sw
namespace Sw
open PySem PySem.Spec PyProof.Rows L2
/-! ### t[::-1] of a tuple -/
theorem back_adjust (n : Nat) : Builtin.Slice.sliceAdjust none none (-1) (n : Int) = ((n : Int) - 1, -1) := by
  unfold Builtin.Slice.sliceAdjust
  simp
theorem back_places (n : Nat) : Builtin.Slice.slicePlaces ((n : Int) - 1) (-1) (-1) = n := by
  unfold Builtin.Slice.slicePlaces
  simp only [show ¬ ((-1 : Int) > 0) by decide, if_false]
  split <;> simp <;> omega
theorem fm_congr {α β : Type} {f g : α → Option β} : ∀ {l : List α}, (∀ a ∈ l, f a = g a) → l.filterMap f = l.filterMap g
  | [], _ => rfl
  | a :: l, h => by
    rw [List.filterMap_cons, List.filterMap_cons, h a List.mem_cons_self, fm_congr fun b hb => h b (List.mem_cons_of_mem _ hb)]
theorem back_pick {α : Type} (l : List α) : ((List.range l.length).filterMap fun (k : Nat) => l.toArray[(((l.length : Int) - 1) + (k : Int) * (-1)).toNat]?) = l.reverse := by
  have e : ∀ k ∈ List.range l.length, l.toArray[(((l.length : Int) - 1) + (k : Int) * (-1)).toNat]? = l.reverse[k]? := by
    intro k hk
    have hk := List.mem_range.mp hk
    rw [List.getElem?_reverse hk, List.getElem?_toArray]
    congr 1
    omega
  rw [fm_congr e]
  have h2 : ∀ m : List α, (List.range m.length).filterMap (fun k => m[k]?) = m := by
    intro m
    induction m with
    | nil => rfl
    | cons a m ih =>
      rw [List.length_cons, List.range_succ_eq_map, List.filterMap_cons, List.filterMap_map]
      show a :: List.filterMap ((fun k => (a :: m)[k]?) ∘ Nat.succ) (List.range m.length) = a :: m
      congr 1
  have := h2 l.reverse
  rwa [List.length_reverse] at this
theorem getItem_tuple_back {prog : Program} {w : World} {A : Around} {E : Value → Shared → Prop} {s : Shared} {t sl : Addr} {ys : List Value} {u : Tok} {Q : Value → Shared → Prop} (ht : IsTup s.heap t ys.toArray)
    (hs : ∃ os, s.heap.get? sl = some os ∧ os.cls = .type "slice" ∧ os.data = .fields #[.none, .none, .int (-1) u])
    (h : Q (.ref s.heap.objs.size) { s with heap := s.heap.push { cls := .type "tuple", data := .seq ys.reverse.toArray } }) (hz : ys.length ≤ sizeLine) : wpAny (model prog w) A (getItem (.ref t) (.ref sl)) Q E s := by
  have hno' : sizeOk (.seq ys.reverse.toArray) := by
    show ys.reverse.toArray.size ≤ sizeLine
    rw [List.size_toArray, List.length_reverse]
    exact hz
  obtain ⟨os, hos, hcs, hds⟩ := hs
  have hTs : s.TypeIs (.ref sl) "slice" := ⟨os, hos, hcs⟩
  unfold getItem
  try with_reducible refine wpAny_holding ?_
  first | refine wpAny_bind (wpAny_pure ?_) | skip
  refine wpAny_bind (wpAny_sequenceKey ht.typeIs (by decide) ?_)
  refine wpAny_bind (wpAny_callSpecial?_slot (name := Str.ofString "__getitem__") ht.typeIs PyProof.Rows.slot_tuple_getitem (wpAny_call_entry PyProof.Rows.slot_tuple_getitem ht.typeIs entry_tuple_getitem ?_ (args_tuple_getitem _ _)))
  show wpAny _ _ (Builtin.Tuple.tupleItemsOf (.ref t) >>= _) _ _ s
  refine wpAny_bind (tupleItemsOf_ ht ?_)
  refine wpAny_bind (wpAny_typeOf hTs ?_)
  rw [if_pos (by decide)]
  have ap : ∀ {R : Int × Int × Nat → Shared → Prop}, R (((ys.toArray.size : Nat) : Int) - 1, -1, ys.toArray.size) s → wpAny (model prog w) A.in1 (Builtin.Slice.sliceApplied (.ref sl) (pure ((ys.toArray.size : Nat) : Int))) R E s := by
    intro R hR
    unfold Builtin.Slice.sliceApplied Builtin.Slice.sliceFields
    refine wpAny_bind (wpAny_bind (wpAny_field hos hds (x := .none) rfl (wpAny_bind (wpAny_field hos hds (x := .none) rfl (wpAny_bind (wpAny_field hos hds (x := .int (-1) u) rfl (wpAny_pure ?_)))))))
    refine wpAny_bind (slicePart_int ?_)
    show wpAny _ _ (if ((-1 : Int) == 0) = true then _ else _) _ _ s
    rw [if_neg (by decide)]
    refine wpAny_bind (slicePart_none (wpAny_bind (slicePart_none (wpAny_bind (wpAny_pure ?_)))))
    show wpAny _ _ (match Builtin.Slice.sliceAdjust none none (-1) ((ys.toArray.size : Nat) : Int) with | (lo, hi) => pure (lo, (-1 : Int), Builtin.Slice.slicePlaces lo hi (-1))) _ _ s
    rw [back_adjust]
    show wpAny _ _ (pure (((ys.toArray.size : Nat) : Int) - 1, (-1 : Int), Builtin.Slice.slicePlaces (((ys.toArray.size : Nat) : Int) - 1) (-1) (-1))) _ _ s
    rw [back_places]
    exact wpAny_pure hR
  refine wpAny_bind (ap ?_)
  show wpAny _ _ (if (((ys.toArray.size : Nat) : Int) - 1 == 0 && (-1 : Int) == 1 && ys.toArray.size == ys.toArray.size) = true then _ else _) _ _ s
  rw [if_neg (by simp)]
  have e := back_pick ys
  rw [show ys.length = ys.toArray.size from List.size_toArray.symm] at e
  rw [e]
  first
    | exact wpAny_bind (m := Builtin.Tuple.tupleExact _) (wpAny_newObj_type (wpAny_pure ⟨_, rfl, wpAny_pure h⟩) hno')
    | exact wpAny_bind (m := Builtin.Tuple.tupleExact _) (wpAny_newObj_type (wpAny_bind (wpAny_pure (wpAny_pure ⟨_, rfl, wpAny_pure h⟩))) hno')
    | exact wpAny_bind (wpAny_bind (m := Builtin.Tuple.tupleExact _) (wpAny_newObj_type (wpAny_pure (wpAny_pure ⟨_, rfl, wpAny_pure h⟩)) hno'))
def tRevT (K : PySem.W.Frag) (te : TE) : TE := fun σ H Q => te σ H fun x H1 => ∃ a xs, x = .ref a ∧ SqT K H1 a xs ∧ ∀ p, H1 p = none → Q (.ref p) (upd H1 p (.tup xs.reverse))
theorem Vals.back {xs : List V} {us : List Value} (r : Vals xs us) : Vals xs.reverse us.reverse := by
  induction r with
  | nil => exact .nil
  | cons r1 _ ih =>
    rw [List.reverse_cons, List.reverse_cons]
    exact ih.append (.cons r1 .nil)
theorem pe_revT {X : Cx} {e : Expr} {te : TE} {k : Nat} {p1 p2 p3 pos : Pos} (he : PE X e te) :
    PE X (.Subscript e (.Slice none none (some (.UnaryOp .USub (.Constant (.int 1) k p1) p2)) p3) pos) (tRevT X.K te) := by
  constructor
  intro pins s σ H Q I h
  refine Subscript_ (thn (he.run pins s σ H _ I h) fun v s1 ⟨x, H1, I1, r1, a, xs, ex, hx, q⟩ => ?_)
  subst ex
  cases r1
  have st : PO X (some (.UnaryOp .USub (.Constant (.int 1) k p1) p2)) (tPart (tUn (rU fun i => .int (-i)) (tC (.int 1)))) := po_some (pe_un un_neg pe_int)
  refine wpAny_Slice (thn (po_none.run pins s1 σ H1 (fun o G => o = none ∧ G = H1) I1 ⟨rfl, rfl⟩) fun w1 s2 ⟨o1, G1, J1, z1, a1, b1⟩ => ?_)
  subst a1 b1
  refine thn (po_none.run pins s2 σ G1 (fun o G => o = none ∧ G = G1) J1 ⟨rfl, rfl⟩) fun w2 s3 ⟨o2, G2, J2, z2, a2, b2⟩ => ?_
  subst a2 b2
  refine thn (st.run pins s3 σ G2 (fun o G => o = some (-1) ∧ G = G2) J2 ⟨1, rfl, -1, rfl, rfl, rfl⟩) fun w3 s4 ⟨o3, G3, J3, z3, a3, b3⟩ => ?_
  subst a3 b3
  have J4 : Inv X pins σ G3 { s4 with heap := s4.heap.push { cls := .type "slice", data := .fields #[w1, w2, w3] } } := J3.kept (t' := s4.toks) fun b ob q => Heap.get?_push_of_some _ q
  obtain ⟨y1, rfl, f1⟩ := IsPart.raw z1
  obtain ⟨y2, rfl, f2⟩ := IsPart.raw z2
  obtain ⟨y3, rfl, f3⟩ := IsPart.raw z3
  cases y1 with
  | some y => cases f1
  | none =>
  cases y2 with
  | some y => cases f2
  | none =>
  cases y3 with
  | none => cases f3
  | some y =>
  obtain ⟨m, u⟩ := y
  have em : m = -1 := Option.some.inj f3
  subst em
  obtain ⟨its, r, ht, hz⟩ := J4.tuple hx
  refine tail_any (T := "tuple") (id := _) (ops := [.ref a, .ref s4.heap.objs.size]) ht.typeIs PyProof.Rows.slot_tuple_getitem.lookup ?_ (by with_unfolding_all rfl)
  have hz' : its.length ≤ sizeLine := by rw [← r.length]; exact hz
  refine getItem_tuple_back (u := u) ht ⟨_, Heap.get?_push_size _ rfl, rfl, rfl⟩ ?_ hz'
  refine ⟨.ref _, _, J4.laid (t' := s4.toks) (o := .tup xs.reverse) (fun b ob q => Heap.get?_push_of_some _ q) (Nat.le_refl _) ?_, rfl, q _ (J4.hok.fresh (Nat.le_refl _))⟩
  exact ⟨by rw [List.length_reverse]; exact hz, _, Vals.back r, IsTup.new _ _⟩
theorem i_revT {K : PySem.W.Frag} {te : TE} {σ : L2.St} {H : Hp} {Q : VK} (h : te σ H fun x H1 => ∃ a xs, x = .ref a ∧ SqT K H1 a xs ∧ ∀ p, H1 p = none → Q (.ref p) (upd H1 p (.tup xs.reverse))) : tRevT K te σ H Q := h
/-! ### text * int -/
def rMulS : R2 := fun x y H Q => ∃ (l : List Nat) (n : Nat), x = .str (S l) ∧ y = .int (n : Int) ∧ l.length ≤ 1000 ∧ n ≤ 1000 ∧ Q (.str (S (List.replicate n l).flatten)) H
theorem mul_S (l : List Nat) (n : Nat) : Txt.mul (S l) (n : Int) = S (List.replicate n l).flatten := by
  unfold Txt.mul
  by_cases h0 : n = 0
  · subst h0; simp [S, Str.empty]
  · rw [if_neg (by omega)]
    by_cases h1 : (((n : Int) == 1 || (S l).length == 0) = true)
    · rw [if_pos h1]
      rcases Bool.or_eq_true_iff.mp h1 with h1 | h1
      · have : n = 1 := by have := eq_of_beq h1; omega
        subst this; simp
      · have e : l = [] := by have := eq_of_beq h1; rw [S_len] at this; exact List.length_eq_zero_iff.mp this
        subst e
        simp
    · rw [if_neg h1]
      show (⟨(List.replicate n l.toArray).foldl (· ++ ·) #[]⟩ : Str) = ⟨(List.replicate n l).flatten.toArray⟩
      congr 1
      have : ∀ (m : Nat) (b : Array Nat), (List.replicate m l.toArray).foldl (· ++ ·) b = b ++ (List.replicate m l).flatten.toArray := by
        intro m
        induction m with
        | zero => intro b; simp
        | succ m ih =>
          intro b
          rw [List.replicate_succ, List.foldl_cons, ih, List.replicate_succ, List.flatten_cons]
          simp
      rw [this]
      simp
theorem op_mulS {X : Cx} : OpR X (binaryOp .Mult) rMulS := fun pins s σ H x y v u Q I rx ry h => by
  obtain ⟨l, n, rfl, rfl, h1, h2, q⟩ := h
  obtain ⟨t, rfl⟩ := rx
  obtain ⟨t', rfl⟩ := ry
  refine SB.mul ⟨?_, ?_, ?_⟩ fun t' tk => ⟨.str (S (List.replicate n l).flatten), H, I.tok _, ⟨_, by rw [mul_S]⟩, q⟩
  · rw [Bool.or_eq_false_iff]; exact ⟨decide_eq_false (by omega), decide_eq_false (by omega)⟩
  · intro hn _
    rw [S_len]
    have : (n : Int) * (l.length : Int) ≤ 2 ^ 63 - 1 := by
      have := Nat.mul_le_mul h2 h1
      have e : (n : Int) * (l.length : Int) = ((n * l.length : Nat) : Int) := by simp
      rw [e]; omega
    have := (Int.le_ediv_iff_mul_le (a := (l.length : Int)) (b := 2 ^ 63 - 1) (c := (n : Int)) (by omega)).mpr (by rw [Int.mul_comm]; exact this)
    omega
  · intro _ _
    rw [S_len, Int.toNat_natCast]
    have := Nat.mul_le_mul h1 h2
    unfold Builtin.Str.tooLong
    exact decide_eq_false (by rw [show sizeLine = 16777216 from rfl]; omega)
theorem i_mulS {l : List Nat} {n : Nat} {H : Hp} {Q : VK} (h1 : l.length ≤ 1000) (h2 : n ≤ 1000) (h : Q (.str (S (List.replicate n l).flatten)) H) : rMulS (.str (S l)) (.int (n : Int)) H Q := ⟨l, n, rfl, rfl, h1, h2, h⟩
/-! ### a def called by names alone -/
def tKw (sp : Sp) (gV : List V → List V → List V) (tk : TA) : TE := fun σ H Q => tk σ H fun zs H1 => sp (gV [] zs) H1 Q E0
section
variable (P : Program) (w : World) (K : PySem.W.Frag) (mg : Str → Option Value) (base : Heap)
def CalK (x : Str) (ps : List Str) (k : Nat) (sp : Sp) (ks : List Str) (g : List Value → List Value → List Value) (gV : List V → List V → List V) : Prop := ∃ (f : Addr) (fd : FuncData), FnOk P w K mg base CX0 k f fd ps sp ∧ mg x = some (.ref f) ∧ PySem.W.keepIn K (.ref f) = true ∧ KBinds K fd ps ks g gV
end
theorem Def.calK {P : Program} {w : World} {K : PySem.W.Frag} {mg : Str → Option Value} {base : Heap} {x : Str} {st : Stmt} {ps ks : List Str} {k : Nat} {sp : Sp} {g : List Value → List Value → List Value} {gV : List V → List V → List V} (d : Def K mg x st)
    (b : ∀ (kV doc pm : Value) (an : Option Addr) (cdv ct : Value) (us ws : List Value), (g us ws).length = ps.length → bindArgs (PySem.W.fnOf x x (defArgs st) (defBody st) (defScope st) .none kV doc pm an cdv ct) ⟨us, ks.zip ws⟩ = pure (ps.zip (g us ws)))
    (rel : ∀ {vs : List V} {us : List Value} {zs : List V} {ws : List Value}, Vals vs us → Vals zs ws → Vals (gV vs zs) (g us ws))
    (ok : ∀ (f : Addr) (fd : FuncData), Fun K x x st f fd → FnOk P w K mg base CX0 k f fd ps sp) : CalK P w K mg base x ps k sp ks g gV := by
  obtain ⟨f, fd, F, m⟩ := d
  have O := ok f fd F
  have kp := F.kp
  obtain ⟨oc, od, kV, doc, pm, an, cdv, ct, osl, rfl, lk, hcd⟩ := F.ex
  exact ⟨f, _, O, m, kp, fun s us ws _ hl => .of_eq (b kV doc pm an cdv ct us ws hl), rel⟩
section
variable {X : Cx} {x : Str} {ps ks : List Str} {k n : Nat} {sp : Sp} {g : List Value → List Value → List Value} {gV : List V → List V → List V} {kws : List Keyword} {tk : TA} {p pos : Pos}
theorem pe_calK (c : CalK X.prog X.w X.K X.mg X.base x ps k sp ks g gV) (hr : Room n X.A) (hkw : PK X kws tk) (hg : Gl X x := by rfl) (hk : k ≤ n := by decide)
    (hall : (backToKw pos (keywordEach kws X.env)).all (·.1.isSome) = true := by rfl) (hks : (backToKw pos (keywordEach kws X.env)).filterMap (·.1) = ks := by rfl) (hdb : (x == ("__debug__" : Str)) = false := by decide)
    (hpl : ((backTo pos (starEach [] X.env)).any (·.1) || (backToKw pos (keywordEach kws X.env)).any (·.1.isNone)) = false := by rfl) :
    PE X (.Call (.Name x p) [] kws pos) (tKw sp gV tk) := by
  obtain ⟨f, fd, F, m, kp, b⟩ := c
  refine ⟨fun pins s σ H Q I h => ?_⟩
  refine wpAny_Call_Name_kw (ld_glob I hg m ?_ hdb)
  refine PySem.W.callWith_KW0 (h₀ := X.base) I.ok.mod.kin kp hall (thn (hkw.run pos pins s σ H _ I h) fun ws s2 ⟨zs, H2, I2, rz, q2⟩ => ⟨I2.kIn, ?_⟩) hpl
  rw [hks]
  exact run_fnk F (hr.mono hk) b pass0 I2 .nil rz q2
theorem i_kw {σ : L2.St} {H : Hp} {Q : VK} (h : tk σ H fun zs H1 => sp (gV [] zs) H1 Q E0) : tKw sp gV tk σ H Q := h
end
end Sw
namespace Sw
open PySem PySem.Spec PyProof.Rows L2 PySem.Builtin PySem.Builtin.Str
open Wd (rot rlen root turn turnsL lroot lturns)
theorem occ_full (s sub : Str) (hi i : Nat) : ∀ (l : List Nat) (f : Nat), (forIn l ((#[i] : Array Nat), f) (StrLaws.occBody s sub hi 1)).run.fst = #[i]
  | [], f => rfl
  | a :: l, f => by
    rw [List.forIn_cons]
    unfold StrLaws.occBody
    rw [if_neg (by simp)]
    exact occ_full s sub hi i l f
theorem occ_first (s sub : Str) (hi : Nat) : ∀ (l : List Nat) (free : Nat), (∀ i ∈ l, free ≤ i) →
    (forIn l ((#[] : Array Nat), free) (StrLaws.occBody s sub hi 1)).run.fst = (match l.find? fun i => decide (i + sub.length ≤ hi) && subAt s sub i with | some i => #[i] | none => #[])
  | [], free, _ => rfl
  | a :: l, free, hf => by
    rw [List.forIn_cons, List.find?_cons]
    unfold StrLaws.occBody
    have ha : free ≤ a := hf a (List.mem_cons_self ..)
    by_cases hc : a + sub.length ≤ hi ∧ subAt s sub a = true
    · rw [if_pos ⟨⟨⟨by simp, ha⟩, hc.1⟩, hc.2⟩, decide_eq_true hc.1, hc.2]
      exact occ_full s sub hi a l _
    · rw [if_neg fun h => hc ⟨h.1.2, h.2⟩]
      have e : (decide (a + sub.length ≤ hi) && subAt s sub a) = false := by
        rw [Bool.and_eq_false_iff]
        by_cases c : a + sub.length ≤ hi
        · right
          rcases e : subAt s sub a with _ | _
          · rfl
          · exact absurd ⟨c, e⟩ hc
        · exact .inl (decide_eq_false c)
      rw [e]
      exact occ_first s sub hi l free fun i hi' => hf i (List.mem_cons_of_mem _ hi')
/-- the first place from lo on -/
def place (a b : List Nat) (lo : Nat) : Option Nat := (List.range' lo (a.length + 1 - lo)).find? fun i => decide (i + b.length ≤ a.length) && ((a.drop i).take b.length == b)
def placeI (a b : List Nat) (lo : Nat) : Int := match place a b lo with | some i => (i : Int) | none => -1
theorem occ_S (a b : List Nat) (lo : Nat) : occurrences (S a) (S b) lo (S a).length 1 = (place a b lo).toList := by
  rw [StrLaws.occ_eq, occ_first _ _ _ _ _ (fun i hi => (List.mem_range'_1.mp hi).1)]
  have e : (fun i => decide (i + (S b).length ≤ (S a).length) && subAt (S a) (S b) i) = fun i => decide (i + b.length ≤ a.length) && ((a.drop i).take b.length == b) := by
    funext i
    rw [StrLaws.subAt_eq, S_len, S_len, S_list, S_list]
  rw [e, S_len]
  unfold place
  cases (List.range' lo (a.length + 1 - lo)).find? fun i => decide (i + b.length ≤ a.length) && ((a.drop i).take b.length == b) with
  | none => rfl
  | some i => rfl
theorem find_S (a b : List Nat) : Txt.find (S a) (S b) = placeI a b 0 := by
  unfold Txt.find placeI
  rw [occ_S]
  cases place a b 0 <;> rfl
theorem find3_S (a b : List Nat) : Txt.find3 (S a) (S b) 1 = placeI a b 1 := by
  unfold Txt.find3 placeI
  rw [show fromIndex (S a).length 1 = 1 by unfold fromIndex; rw [if_neg (by decide)]; rfl, occ_S]
  cases place a b 1 <;> rfl
theorem rot_take {t : List Nat} {i : Nat} (h : i ≤ t.length) : ((t ++ t).drop i).take t.length = rot i t := by
  unfold rot
  rw [List.drop_append_of_le_length h, List.take_append, List.length_drop, List.take_of_length_le (by rw [List.length_drop]; omega)]
  congr 2
  omega
/-- (text + text).find(text, 1) -/
theorem round_S {t : List Nat} (h0 : 0 < t.length) : Txt.find3 (S (t ++ t)) (S t) 1 = (rlen t : Nat) := by
  obtain ⟨L, le⟩ := Wd.rlen_least h0
  rw [find3_S]
  unfold placeI place
  rw [Wd.find_range'_is (s := rlen t) L.pos (by rw [List.length_append]; omega) ?_ fun q q1 q2 => ?_]
  · rw [List.length_append, decide_eq_true (by omega), rot_take le, (Wd.per_rot le h0).mpr L.per]
    simp
  · rw [rot_take (by omega), Bool.and_eq_false_iff]
    right
    rw [beq_eq_false_iff_ne]
    exact fun e => L.min q (by omega) q2 ((Wd.per_rot (by omega) h0).mp e)
def optZ : Option Nat → Int
  | some i => (i : Int)
  | none => -1
/-- (one + one).find(other) -/
theorem turn_S {a b : List Nat} (h : a.length = b.length) : Txt.find (S (a ++ a)) (S b) = optZ (turn a b) := by
  rw [find_S]
  unfold placeI place turn
  rw [if_pos h]
  cases e : (List.range' 0 (a.length + 1)).find? fun j => decide (rot j a = b) with
  | some j =>
    obtain ⟨_, h2, h3, h4⟩ := Wd.find_range' e
    rw [Wd.find_range'_is (s := j) (Nat.zero_le _) (by rw [List.length_append]; omega) ?_ fun q q1 q2 => ?_]
    · rfl
    · rw [List.length_append, decide_eq_true (by omega), ← h, rot_take (by omega), of_decide_eq_true h3]
      simp
    · rw [← h, rot_take (by omega), Bool.and_eq_false_iff]
      right
      rw [beq_eq_false_iff_ne]
      have := h4 q q1 q2
      exact of_decide_eq_false this
  | none =>
    have n := Wd.find_range'_none e
    rw [List.find?_eq_none.mpr]
    · rfl
    · intro x hx q
      rw [List.length_append, Bool.and_eq_true] at q
      have lx := of_decide_eq_true q.1
      have := n x (Nat.zero_le _) (by omega)
      rw [decide_eq_false_iff_not] at this
      apply this
      rw [← rot_take (by omega), h]
      exact eq_of_beq q.2
end Sw
namespace Sw
open PySem PySem.Spec PyProof.Rows L2
/-! ### promises of defs that are called where nothing is being shown (repr) -/
structure FnG (P : Program) (w : World) (K : PySem.W.Frag) (mg : Str → Option Value) (base : Heap) (CX : CXT) (k : Nat) (f : Addr) (fd : FuncData) (ps : List Str) (sp : Sp) : Prop where
  len : ∀ xs M R X, sp xs M R X → xs.length = ps.length
  go : ∀ (A : Around) (out : List Env) (t : Shared) (M : Hp) (args : Args) (us : List Value) (xs : List V) (R : VK) (X : XK), Room k A → A.guards = some [] → Env0 P w K mg base A out t M → BindsTo t fd args (ps.zip us) → Vals xs us → sp xs M R X →
    codeAny (model P w) A (.call (.ref f) args) (CR CX out P w M t R X) t
section
variable {P : Program} {w : World} {K : PySem.W.Frag} {mg : Str → Option Value} {base : Heap} {CX : CXT} {k : Nat} {f : Addr} {fd : FuncData} {ps : List Str} {sp : Sp}
theorem FnG.of (F : FnOk P w K mg base CX k f fd ps sp) : FnG P w K mg base CX k f fd ps sp := ⟨F.len, fun A out t M args us xs R X room _ => F.run A out t M args us xs R X room⟩
theorem FnG.low {j : Nat} (F : FnG P w K mg base CX j f fd ps sp) (h : j ≤ k) : FnG P w K mg base CX k f fd ps sp := ⟨F.len, fun A out t M args us xs R X room => F.go A out t M args us xs R X (room.mono h)⟩
theorem Fun.okG {x qual : Str} {st : Stmt} {N : List Str} (F : Fun K x qual st f fd) (S : FnScope N ps (defScope st)) (len : ∀ xs M R X, sp xs M R X → xs.length = ps.length)
    (body : ∀ (cdv : Value) (A : Around) (out : List Env) (t : Shared) (M : Hp) (xs : List V) (R : VK) (X : XK), Room k (A.deeper (envOfC qual (defScope st) t.heap.objs.size f cdv)) → A.guards = some [] → sp xs M R X →
      ∃ r, PSs (cxOf CX P w K mg base N qual (defScope st) f cdv A out t M X) (defBody st) r ∧ r { nx := fun _ M' => R .non M', rt := R } (start N xs) M) : FnG P w K mg base CX (k + 1) f fd ps sp := by
  obtain ⟨oc, od, kV, doc, pm, an, cdv, ct, osl, rfl, found, coded⟩ := F.ex
  constructor
  · exact len
  intro A out t M args us xs R X room quiet env bind rel prom
  have count := len xs M R X prom
  have inHeap := env.mod.kin.keeps fun b o e => (env.bs b o e).1
  have quota := env.mod.nolimit.keeps fun b o e => (env.bs b o e).1
  have kinds : ∀ z ∈ ps.zip us, (defScope st).names.lookup z.1 = some .local ∨ ((defScope st).names.lookup z.1 = some .cell ∧ ((cellsFrom (t.heap.objs.size + 1) (defScope st).names []).lookup z.1).isSome = true) := by
    rintro ⟨n, v⟩ hz
    have hn := (List.of_mem_zip hz).1
    rcases S.par n hn with l | c
    · left; exact l
    · right; exact ⟨c, PySem.W.cellsFrom_some _ _ _ (.inl c)⟩
  apply codeAny_call_function room.depth (inHeap _ _ found) rfl S.co S.gen rfl (PySem.W.codeRec_of inHeap coded) (bind _ _ _ _ ?_)
  apply wpAny_newFunctionEnv_cells S.kind kinds
  intro env2 e2 t1 entry
  subst e2
  refine ⟨quota.keeps entry.toInCall.keep, codeAny_func ?_⟩
  obtain ⟨r, hr, runs⟩ := body cdv A out t M xs R X (room.deeper _) quiet prom
  have I := inv_start (CX := CX) (E := X) S room.hd env count rel entry
  apply wpAny_mono (hr.run [] t1 (start N xs) M _ I runs)
  · intro fl t' leaves
    cases fl with
    | ret u =>
      obtain ⟨v, σ', M', J, rv, q⟩ := leaves
      exact ⟨v, M', J.os, J.bare, J.base, J.hok, rv, q⟩
    | next =>
      obtain ⟨σ', M', J, q⟩ := leaves
      exact ⟨V.non, M', J.os, J.bare, J.base, J.hok, rfl, q⟩
    | brk => obtain ⟨_, _, _, q⟩ := leaves; exact q.elim
    | cont => obtain ⟨_, _, _, q⟩ := leaves; exact q.elim
  · exact fun _ _ z => z
end
section
variable {X : Cx} {ps : List Str} {k : Nat} {f : Addr} {fd : FuncData} {sp : Sp} {ds : List Value} {dvs : List V} {CX : CXT} {E : XK}
theorem run_G {pins : List (Addr × Obj)} {σ : L2.St} {M : Hp} {t : Shared} {R : VK} {us : List Value} {xs : List V} (F : FnG X.prog X.w X.K X.mg X.base CX k f fd ps sp) (room : Room k X.A) (quiet : X.A.guards = some []) (b : Binds X.K fd ps ds) (hd : Vals dvs ds) (px : Passes CX X E)
    (I : Inv X pins σ M t) (r : Vals xs us) (h : sp (xs ++ dvs) M R E) : wpAny (model X.prog X.w) X.A (call (.ref f) us) (EP X pins σ R) X.xe t := by
  have both := r.append hd
  have count : (us ++ ds).length = ps.length := both.length.symm.trans (F.len _ _ _ _ h)
  apply wpAny_call
  apply codeAny_mono (F.go X.A X.stack t M ⟨us, []⟩ (us ++ ds) (xs ++ dvs) R E room quiet I.env0 (b t us I.kIn count) both h)
  intro o t' q
  rcases o with e | fl
  · exact px pins σ M t e t' I q
  · cases fl with
    | ret u => exact I.after q
    | next => exact q.elim
    | brk => exact q.elim
    | cont => exact q.elim
end
section
variable (P : Program) (w : World) (K : PySem.W.Frag) (mg : Str → Option Value) (base : Heap)
def CalG (x : Str) (ps : List Str) (k : Nat) (sp : Sp) : Prop := ∃ (f : Addr) (fd : FuncData), FnG P w K mg base CX0 k f fd ps sp ∧ mg x = some (.ref f) ∧ PySem.W.keepIn K (.ref f) = true ∧ Binds K fd ps []
end
theorem Def.calG {P : Program} {w : World} {K : PySem.W.Frag} {mg : Str → Option Value} {base : Heap} {x : Str} {st : Stmt} {ps : List Str} {k : Nat} {sp : Sp} (d : Def K mg x st)
    (b : ∀ (kV doc pm : Value) (an : Option Addr) (cdv ct : Value) (us : List Value), us.length = ps.length → bindArgs (PySem.W.fnOf x x (defArgs st) (defBody st) (defScope st) .none kV doc pm an cdv ct) ⟨us, []⟩ = pure (ps.zip us))
    (ok : ∀ (f : Addr) (fd : FuncData), Fun K x x st f fd → FnG P w K mg base CX0 k f fd ps sp) : CalG P w K mg base x ps k sp := by
  obtain ⟨f, fd, F, m⟩ := d
  exact ⟨f, fd, ok f fd F, m, F.kp, F.binds b⟩
theorem pe_calG {X : Cx} {x : Str} {ps : List Str} {k n : Nat} {sp : Sp} {e : Expr} {es : List Expr} {t : TA} {p pos : Pos} (c : CalG X.prog X.w X.K X.mg X.base x ps k sp) (hr : Room n X.A) (quiet : X.A.guards = some []) (ha : PA X (e :: es) t) (hg : Gl X x := by rfl) (hk : k ≤ n := by decide)
    (hdb : (x == ("__debug__" : Str)) = false := by decide) (he : starEach (e :: es) X.env = (false, eval e X.env) :: starEach es X.env := by rfl) (hpl : (backTo pos (starEach es X.env)).any (·.1) = false := by rfl) :
    PE X (.Call (.Name x p) (e :: es) [] pos) (tCall sp [] E0 t) := by
  obtain ⟨f, fd, F, m, kp, b⟩ := c
  constructor
  intro pins s σ M R I h
  apply wpAny_Call_Name_kw (ld_glob I hg m ?_ hdb)
  exact PySem.W.callWith_K (h₀ := X.base) I.ok.mod.kin kp (thn (ha.run pos pins s σ M _ I h) fun us s1 ⟨xs, M1, I1, r, q⟩ => ⟨I1.kIn, run_G F (hr.mono hk) quiet b .nil pass0 I1 r q⟩) he hpl
/-! ### repr of data -/
def rRepD (K : PySem.W.Frag) : List V → Hp → VK → Prop := fun xs M R => ∃ x d, xs = [x] ∧ Dp K M x d ∧ d.showable = true ∧ d.hasDict = false ∧ d.depth ≤ 60 ∧ d.shown.length ≤ sizeLine ∧ R (.str d.shown) M
theorem call_repD {X : Cx} (quiet : X.A.guards = some []) (hu : X.A.units + 64 < cLine) : CallR X (.builtin "repr") (rRepD X.K) := by
  intro pins s σ M xs us R I r h
  obtain ⟨x, d, rfl, hd, sh, nd, dp, sz, q⟩ := h
  obtain ⟨u, rfl, ru⟩ := vals1 r
  obtain ⟨as, rd⟩ := Dp.reads I d x u hd ru
  cases hd with
  | non =>
    cases ru
    exact PySem.P.repr_of_none ⟨.str (PyData.shown .none), M, I.tok _, ⟨_, by simp only [PyData.shown]; rfl⟩, q⟩
  | bl b =>
    cases ru
    exact PySem.P.repr_of_bool ⟨.str (PyData.shown (.bool b)), M, I.tok _, ⟨_, by simp only [PyData.shown]; rfl⟩, q⟩
  | int i =>
    obtain ⟨t, rfl⟩ := ru
    exact PySem.P.repr_of_int (of_decide_eq_true (by simpa only [PyData.showable] using sh)) ⟨.str (PyData.shown (.int i)), M, I.tok _, ⟨_, by simp only [PyData.shown]; rfl⟩, q⟩
  | str z =>
    obtain ⟨t, rfl⟩ := ru
    exact PySem.P.repr_of_str ⟨.str (PyData.shown (.str z)), M, I.tok _, ⟨_, by simp only [PyData.shown]; rfl⟩, q⟩ (by simpa only [PyData.shown] using sz)
  | lst h1 h2 =>
    cases ru
    exact repr_of_reads' rd sh (PyData.noDict_hsm nd) quiet (by omega) (fun _ _ e => e) (fun h' t tk keep => ⟨.str _, M, I.kept (t' := tk) keep, ⟨t, rfl⟩, q⟩) sz
  | tup h1 h2 =>
    cases ru
    exact repr_of_reads' rd sh (PyData.noDict_hsm nd) quiet (by omega) (fun _ _ e => e) (fun h' t tk keep => ⟨.str _, M, I.kept (t' := tk) keep, ⟨t, rfl⟩, q⟩) sz
end Sw
namespace Sw
open PySem PySem.Spec PyProof.Rows L2
/-! ### the end of a law whose def is called where nothing is being shown -/
theorem law_G {P : Program} {w : World} {K : PySem.W.Frag} {mg mb : Str → Option Value} {k : Nat} {fa a : Addr} {fd : FuncData} {x : Str} {sp : Sp} {t : Shared} {vs : List Value} {ns : List Int}
    (inK : K.In t.heap) (gl : t.heap.Ns mainGlobals mg) (bl : t.heap.Ns builtinsNs mb) (bb : ∀ y : Str, y ≠ "__name__" → mb y = bootBuiltins y) (lim : t.heap.NoLimit) (quietGens : t.gens = #[])
    (script : t.heap.get? a = some { cls := .type "list", data := .seq vs.toArray }) (nums : IntsAre vs ns) (short : ns.length ≤ sizeLine) (room : Room k callerA)
    (F : ∀ base : Heap, K.In base → base.Ns mainGlobals mg → FnG P w K mg base CX0 k fa fd [x] sp) (bind : ∀ (s : Shared) (u : Value), BindsTo s fd ⟨[u], []⟩ [(x, u)])
    (prom : ∀ M : Hp, Only M → SqL K M a (ns.map V.int) → sp [.ref a] M (fun v _ => v = .bl true) E0) :
    codeAny (model P w) callerA (.call (.ref fa) ⟨[.ref a], []⟩) (fun r s' => r = .ok (.ret (.bool true)) ∧ OldK t.heap s'.heap ∧ s'.os = t.os ∧ AllBare s'.gens) t := by
  have vals := vals_ints nums
  have sameLen := nums.length
  -- tracked: the script alone, and only if the module does not hold it already
  let M : Hp := fun b => if b = a ∧ K.lookup a = none then some (.frz { cls := .type "list", data := .seq vs.toArray } (.lst (ns.map V.int))) else none
  have at_a : ∀ {b : Addr} {o : HO}, M b = some o → b = a ∧ K.lookup a = none ∧ o = .frz { cls := .type "list", data := .seq vs.toArray } (.lst (ns.map V.int)) := by
    intro b o q
    by_cases c : b = a ∧ K.lookup a = none
    · have q' := (if_pos c).symm.trans q
      exact ⟨c.1, c.2, (Option.some.inj q').symm⟩
    · have q' := (if_neg c).symm.trans q
      cases q'
  have only : Only M := by
    intro b
    by_cases c : b = a ∧ K.lookup a = none
    · right; exact ⟨_, _, if_pos c⟩
    · left; exact if_neg c
  have ok : HOk P w M t.heap := by
    intro b o q
    obtain ⟨rfl, _, rfl⟩ := at_a q
    exact ⟨script, by rw [List.length_map]; exact short, vs, _, vals, script⟩
  have known : SqL K M a (ns.map V.int) := by
    cases hk : K.lookup a with
    | none => exact .inl (.inr ⟨_, if_pos ⟨rfl, hk⟩⟩)
    | some o =>
      have e := inK a o hk
      rw [script] at e
      cases e
      exact .inr ⟨_, vs.toArray, _, hk, rfl, rfl, rfl, by rw [List.size_toArray, sameLen]; exact short, by simpa using vals⟩
  have under : ∀ {b : Addr} {o : Obj}, t.heap.get? b = some o → M b = none → (hidT t.heap M).get? b = some o := fun e n => hidT_get e n
  have dictFree : ∀ {b : Addr} {o : Obj} {es : Array DictEntry} {n : Nat}, t.heap.get? b = some o → o.data = .dict es n → M b = none := by
    intro b o es n e hd
    rcases q : M b with _ | u
    · rfl
    · obtain ⟨rfl, _, _⟩ := at_a q
      rw [script] at e
      cases e
      cases hd
  have names : ∀ {b : Addr} {m : Str → Option Value}, t.heap.Ns b m → (hidT t.heap M).Ns b m := by
    rintro b m ⟨o, es, n, e, hd, r⟩
    exact ⟨o, es, n, under e (dictFree e hd), hd, r⟩
  have baseIn : K.In (hidT t.heap M) := by
    intro b o e
    apply under (inK b o e)
    rcases q : M b with _ | u
    · rfl
    · obtain ⟨rfl, no, _⟩ := at_a q
      rw [no] at e
      cases e
  obtain ⟨mc, lim1, lim2⟩ := lim
  have env : Env0 P w K mg (hidT t.heap M) callerA [] t M :=
    ⟨rfl, ⟨baseIn, names gl, ⟨mb, names bl, bb⟩, ⟨mc, names lim1, lim2⟩⟩, fun b o e => of_hidT e, Nat.le_of_eq (hidT_size _ _), trivial, (fun b z => by have y : b ∈ ([] : List Addr) := z; simp at y), ok, .of_eq quietGens⟩
  apply codeAny_mono ((F _ baseIn (names gl)).go callerA [] t M ⟨[.ref a], []⟩ [.ref a] [.ref a] _ _ room rfl env (bind t (.ref a)) (.cons rfl .nil) (prom M only known))
  intro r s' q
  rcases r with e | fl
  · exact q.elim
  · cases fl with
    | next => exact q.elim
    | brk => exact q.elim
    | cont => exact q.elim
    | ret u =>
      obtain ⟨v, M', os, bare, un, ok', rel, said⟩ := q
      have said' : v = .bl true := said
      subst said'
      have isTrue : u = Value.bool true := rel
      subst isTrue
      refine ⟨rfl, OldK.of_keep ?_, os, bare⟩
      intro b o e
      rcases q : M b with _ | u
      · exact un.keep b o e q (fun z => by have y : b ∈ ([] : List Addr) := z; simp at y) (by simp)
      · obtain ⟨rfl, _, rfl⟩ := at_a q
        obtain ⟨e1, _⟩ := ok _ _ q
        obtain ⟨e2, _⟩ := ok' _ _ (un.frzs _ _ _ q)
        rw [e] at e1
        cases e1
        exact e2
theorem walk_G {l : PySem.W.OpenLaw} {n k : Nat} {q : Program} {loose : List Str} {XP : (Str → Option Value) → Heap → Prop} {YP : World → Heap → Prop} {d : DefRec} {K : Params → PySem.W.Frag} {sp : PySem.W.Frag → Sp} {x : Str}
    (many : l.most = some n) (few : n ≤ sizeLine) (plain : d.params.defaults = []) (room : Room k callerA) (inK : ∀ (w : World) (h : Heap), YP w h → (K w.params).In h)
    (F : ∀ (w : World) (mg : Str → Option Value) (fa : Addr) (h : Heap), (K w.params).In h → h.Ns mainGlobals mg → mg d.name = some (.ref fa) →
      ∃ fd : FuncData, (∀ (s : Shared) (u : Value), BindsTo s fd ⟨[u], []⟩ [(x, u)]) ∧ ∀ base : Heap, (K w.params).In base → base.Ns mainGlobals mg → FnG l.prog w (K w.params) mg base CX0 k fa fd [x] (sp (K w.params)))
    (prom : ∀ (K : PySem.W.Frag) (M : Hp) (a : Addr) (ns : List Int), ns.length ≤ n → Only M → SqL K M a (ns.map V.int) → sp K [.ref a] M (fun v _ => v = .bl true) E0) :
    PySem.W.WalkO q loose XP YP l.row.toRowW d [] (fun f vs => PySem.call f vs) := by
  apply Att.attach_call many plain
  intro w s₀ t mg mb fa o pm cd doc a vs ns G Y _ _ _ named script nums short gens
  have kin := inK w _ Y
  obtain ⟨fd, bind, hF⟩ := F w mg fa _ kin G.T.g named
  exact law_G kin G.T.g G.T.b G.T.builtins G.T.nolimit gens script nums (Nat.le_trans short few) room hF bind fun M o s => prom _ M a ns short o s
end Sw
/-! own exceptions over Exception, by own classes between, with own fields -/
namespace PySem
namespace SwE
open PySem.W PySem.Calls PyProof.Rows PySem.HandSPX
abbrev exT : List Value := [.type "Exception", .type "BaseException", .type "object"]
def over (rs : List Addr) : List Value := rs.map Value.ref ++ exT
theorem over_pass (self : Value) : ∀ rs : List Addr, refuseLoop self "__setattr__" (over rs) = pure ()
  | [] => F.store_Exception.passes self
  | r :: rs => by
    show refuseLoop self "__setattr__" (.ref r :: over rs) = pure ()
    rw [refuseLoop_ref]
    exact over_pass self rs
theorem over_has (T : String) : ∀ rs : List Addr, (over rs).contains (.type T) = exT.contains (.type T)
  | [] => rfl
  | r :: rs => by
    show (Value.ref r :: over rs).contains (.type T) = exT.contains (.type T)
    rw [List.contains_cons, over_has T rs]
    rfl
theorem over_cons (r : Addr) (rs : List Addr) : Value.ref r :: over rs = over (r :: rs) := rfl
section
open Builtin Builtin.ObjectAttr
variable {prog : Program} {w : World} {A : Around} {E : Value → Shared → Prop} {R : Result → Shared → Prop} {hp : Heap} {g : Array GenState} {d : Drawn} {t : Nat} {os : OsState}
/-- the first field of such an exception -/
theorem first_field {K : W.Frag} {name : Str} {tk : Tok} {v : Value} {x C : Addr} {fv : Array Value} {cd : ClassData} {rs : List Addr}
    (inK : K.In hp) (here : hp.get? x = some { cls := .ref C, data := .fields fv }) (cls : W.clsIn K C = some cd) (mro : cd.mro = over rs) (dict : cd.hasDict = true) (none' : W.findIn K (.ref C) name = some none)
    (hq : ∀ h' tk' dx, (∀ b o, b ≠ x → hp.get? b = some o → h'.get? b = some o) → hp.objs.size ≤ dx → dx ≠ x → h'.get? x = some { cls := .ref C, dict := some dx, data := .fields fv } →
      h'.Ns1 dx (fun y => if y = name then some v else none) → R (.ok (.ret .none)) ⟨h', g, d, tk', os⟩) :
    codeAny (model prog w) A (.call (.builtin "object.__setattr__") ⟨[.ref x, .str name tk, v], []⟩) R ⟨hp, g, d, t, os⟩ := by
  have inst : W.InstAt hp x { cls := .ref C, data := .fields fv } C none := ⟨here, rfl, rfl, trivial⟩
  have facts := F.store_object
  have isObj : cd.mro.contains (.type "object") = true := by rw [mro, over_has]; decide +kernel
  have notEmpty : cd.mro.isEmpty = false := by rw [mro]; cases rs <;> rfl
  have apart : x ≠ hp.objs.size := Nat.ne_of_lt (Heap.lt_size here)
  have sub : W.Looks (model prog w) hp (isInstance (.ref x) (.type "object")) true := inst.type.andThen (W.looks_mroIn inK (by unfold W.mroIn; rw [cls, Option.bind_some, if_neg (by rw [notEmpty]; decide), isObj]))
  apply codeAny_call_builtin facts.slot.plain facts.entry (@W.check_slot (model prog w) _ _ ⟨hp, g, d, t, os⟩ "object.__setattr__" "object" "__setattr__" (.ref x) [.str name tk, v] [] _ facts.kind facts.split sub (facts.args (.ref x) (.str name tk) v) ?_)
  have looksMro : W.Looks (model prog w) hp (mroOf (.ref C)) cd.mro := (W.looks_clsIn inK cls).andThen .now
  have noTaker : W.Looks (model prog w) hp (storeTaker? none) none := .now
  have looksCls : W.Looks (model prog w) hp (classData C) cd := W.looks_clsIn inK cls
  rw [W.osa_eq, refuse_eq]
  refine wpAny_bind (wpAny_bind (inst.type.at (wpAny_bind (looksMro.at ?_))))
  rw [mro, over_pass]
  refine wpAny_pure (wpAny_bind (inst.type.at (wpAny_bind ((W.looks_findIn inK none').at (wpAny_bind (noTaker.at ?_))))))
  show wpAny _ _ (storeInOwnDict (.ref x) (.ref C) (.str name tk) name v false) _ _ _
  obtain ⟨nm, bs, mr, ns, qn, hd, sn, sb, ab, col, del⟩ := cd
  dsimp only at dict
  subst dict
  unfold storeInOwnDict ownDictForStores
  repeat (first | with_reducible refine store_in_new ?_ ?_ | with_reducible refine wpAny_loadPart_at here ?_ | with_reducible refine looksCls.at ?_ | wp_step)
  · exact ⟨_, #[], _, (Heap.get?_update_ne _ _ _ _ apart.symm).trans (Heap.get?_push_at rfl rfl), rfl, fun e he => absurd he (by simp), fun _ => rfl⟩
  · intro h' tk' named same
    have still : (hp.push { cls := .type "dict", data := .dict #[] }).get? x = some { cls := .ref C, data := .fields fv } := Heap.get?_push_of_some _ here
    apply hq h' tk' hp.objs.size ?_ (Nat.le_refl _) apart.symm ?_ named
    · intro b o hb ho
      exact (same.2 b (Nat.ne_of_lt (Heap.lt_size ho))).trans ((Heap.get?_update_ne _ _ _ _ hb).trans (Heap.get?_push_of_some _ ho))
    · exact (same.2 x apart).trans (Heap.get?_update_self _ still rfl)
end
end SwE
end PySem
namespace Sw
open PySem PySem.Spec PyProof.Rows L2 PySem.SwE
/-- what the written part says of an own exception class over Exception -/
structure OexE (K : PySem.W.Frag) (C : Addr) : Prop where
  cls : ∃ nm q N bs rs sn sub ab col dd k0 k1 k2 k3 k5, K.lookup C = some (excClassObj nm q C N bs (over rs) true sn sub ab col dd k0 k1 k2 k3 k5 "Exception.__new__")
  sa : PySem.W.findIn K (.ref C) "__setattr__" = some (some (.builtin "object.__setattr__"))
  exC : PySem.W.subIn K (.ref C) (.type "BaseException") = some true
  tyC : PySem.W.typeIn K (.ref C) = some (.type "type")
  kC : PySem.W.keepIn K (.ref C) = true
section
variable {X : Cx} {pins : List (Addr × Obj)} {σ : L2.St} {H : Hp} {s : Shared} {a C dx : Addr} {f : Str} {y : V} {u : Value} {fs : List (Str × V)} {Q : Unit → Shared → Prop} {E : Value → Shared → Prop} {A : Around}
theorem field_new (T : OexE X.K C) (I : Inv X pins σ H s) (e : H a = some (exo a C none)) (no : PySem.W.findIn X.K (.ref C) f = some none) (ry : RelV y u)
    (h : ∀ dx s', H dx = none → dx ≠ a → Inv X pins σ (upd (upd H dx (exd dx [(f, y)])) a (exo a C (some dx))) s' → Q () s') : wpAny (model X.prog X.w) A (setAttr (.ref a) f u) Q E s := by
  obtain ⟨nm, q, N, bs, rs, sn, sub, ab, col, dd, k0, k1, k2, k3, k5, hC⟩ := T.cls
  have data : PySem.W.clsIn X.K C = some { name := nm, bases := bs, mro := .ref C :: over rs, ns := N, qualname := q, hasDict := true, slotNames := sn, subclasses := sub, abstract := ab, collection := col, hasDel := false } := by
    unfold PySem.W.clsIn
    rw [hC] <;> rfl
  obtain ⟨t1, there⟩ := exo_at I.hok e
  obtain ⟨hp, g, d, t, os⟩ := s
  apply PySem.W.set_plain I.kIn (ox := { cls := .ref C, dict := none, data := .fields #[.ref t1, .none, .none, .none, .bool false, .none] }) (od := none) ⟨there, rfl, rfl, trivial⟩ T.sa
  apply first_field I.kIn there data (over_cons C rs) rfl no
  intro h' tk' dx keep new apart now named
  have free : H dx = none := I.hok.fresh new
  have notNew : ∀ {b : Addr} {o : Obj}, hp.get? b = some o → b ≠ dx := fun z => Nat.ne_of_lt (Nat.lt_of_lt_of_le (Heap.lt_size z) new)
  have notIt : ∀ {b : Addr}, H b = none → b ≠ a := by
    rintro b n rfl
    rw [e] at n
    cases n
  have un : Un X.fs [] H (upd (upd H dx (exd dx [(f, y)])) a (exo a C (some dx))) hp h' := by
    constructor
    · exact fun b o z n _ _ => keep b o (notIt n) z
    · exact fun b o z n _ _ => ⟨o.slots, keep b o (notIt n) z⟩
    · intro b o z n _
      rw [upd_ne (notIt n), upd_ne (notNew z)]
      exact n
    · intro b o z _
      by_cases c : b = a
      · exact ⟨_, by rw [c]; exact now⟩
      · exact ⟨o, keep b o c z⟩
    · intro b xs z
      rw [upd_ne (at_ne e z exo_tup), upd_ne (ne_of_none z free)]
      exact z
    · intro b o v z
      rw [upd_ne (at_ne e z exo_frz), upd_ne (ne_of_none z free)]
      exact z
    · exact fun b ps z => ⟨#[], by rw [upd_ne (at_ne e z exo_tbl), upd_ne (ne_of_none z free), z]; simp⟩
  apply h dx _ free apart
  apply I.un (t' := tk') un
  intro b o z
  by_cases c : b = a
  · subst c
    rw [upd_same] at z
    cases z
    exact exo_ok now
  · rw [upd_ne c] at z
    by_cases c2 : b = dx
    · subst c2
      rw [upd_same] at z
      cases z
      exact exd_ok named (relO_put (fs := []) ry fun g => True.intro)
    · rw [upd_ne c2] at z
      apply (I.hok b o z).stay
      · intro cc v hc zz
        apply keep cc v _ zz
        rcases hc with hc | hc
        · rw [hc]; exact c
        · exact at_ne e hc exo_own
      · intro cc hc
        rw [upd_ne (at_ne e hc exo_own), upd_ne (ne_of_none hc free)]
        exact hc
      · intro cc xs hc
        rw [upd_ne (at_ne e hc exo_tup), upd_ne (ne_of_none hc free)]
        exact hc
/-- Exception.__init__(self, ..): nothing of it is told -/
theorem init_plain {us : List Value} {R : Value → Shared → Prop} (T : OexE X.K C) (I : Inv X pins σ H s) (e : H a = some (exo a C none)) (few : us.length ≤ sizeLine) (h : ∀ s', Inv X pins σ H s' → R .none s') :
    wpAny (model X.prog X.w) A (call (.builtin "Exception.__init__") (.ref a :: us)) R E s := by
  obtain ⟨nm, q, N, bs, rs, sn, sub, ab, col, dd, k0, k1, k2, k3, k5, hC⟩ := T.cls
  obtain ⟨t1, there⟩ := exo_at I.hok e
  obtain ⟨hp, g, d, t, os⟩ := s
  apply wpAny_call (PySem.HandSPX.init_base F.excBase_Exception (fun Y => over_has Y rs) (I.kIn _ _ hC) there few ?_)
  intro h' t2 keep now
  have J := I.write (t' := t) (x := a) (e := a) (o := exo a C none) (by rw [e]; exact True.intro) (.inl rfl) keep ⟨_, now⟩ (exo_ok now)
  have same : upd H a (exo a C none) = H := by
    funext b
    by_cases c : b = a
    · rw [c, upd_same, e]
    · rw [upd_ne c]
  rw [same] at J
  exact h _ J
end
/-- B.__init__(self, ..), B's own one being Exception's -/
def tInit (K : PySem.W.Frag) (ta : TA) : TE := fun σ H Q => ta σ H fun vs H1 => ∃ (a C : Addr) (ws : List V), vs = .ref a :: ws ∧ ws.length ≤ 1000 ∧ OexE K C ∧ H1 a = some (exo a C none) ∧ Q .non H1
/-- self.f = e, the first field -/
def tFst (K : PySem.W.Frag) (f : Str) (to te : TE) : TS := fun D σ H => te σ H fun y H1 => to σ H1 fun x H2 => ∃ a C : Addr, x = .ref a ∧ OexE K C ∧ PySem.W.findIn K (.ref C) f = some none ∧
  H2 a = some (exo a C none) ∧ ∀ dx, H2 dx = none → dx ≠ a → D.nx σ (upd (upd H2 dx (exd dx [(f, y)])) a (exo a C (some dx)))
section
variable {X : Cx} {o e : Expr} {es : List Expr} {to te : TE} {ta : TA} {f : Str} {p p' p1 p2 pos : Pos}
theorem ps_fst (ho : PE X o to) (he : PE X e te) (hs : swapsWith e (some (.Attribute o f p')) pos.line X.env = pure false := by rfl) : PS X (.Assign [.Attribute o f p'] e pos) (tFst X.K f to te) := by
  constructor
  intro pins s σ H D I h
  apply plainObj_wpAny_Assign_Attribute (thn (he.run pins s σ H _ I h) fun v s1 ⟨y, H1, I1, r1, q1⟩ => thn (ho.run pins s1 σ H1 _ I1 q1) fun u s2 ⟨x, H2, I2, r2, a, C, ex, T, no, ea, q⟩ => ?_) hs
  subst ex
  obtain rfl : u = Value.ref a := r2
  exact field_new T I2 ea no r1 fun dx s' n ne J => ⟨σ, _, J, q dx n ne⟩
theorem ps_init {x : Str} {B : Addr} {pl : Sem Bool} (hg : Gl X x) (hm : X.mg x = some (.ref B)) (ga : PySem.W.specialIn X.K (.ref B) "__getattribute__" = some (some (.builtin "type.__getattribute__"))) (tyB : PySem.W.typeIn X.K (.ref B) = some (.type "type"))
    (rd : PySem.W.readsIn X.K B (.type "type") = true) (fi : PySem.W.findCls X.K (.ref B) (.type "type") "__init__" = some (.val (.builtin "Exception.__init__"))) (ha : PA X (e :: es) ta)
    (hc : eval (.Call (.Attribute (.Name x p1) "__init__" p2) (e :: es) [] pos) X.env = (do
      let ov ← eval (.Name x p1) X.env
      standAt p2.atName
      let (f, first) ← holding [ov] (getMethod ov "__init__" pl)
      callWith pos f first (backTo pos (starEach (e :: es) X.env)) (backToKw pos (keywordEach [] X.env))) := by rfl)
    (hdb : (x == ("__debug__" : Str)) = false := by decide)
    (he : starEach (e :: es) X.env = (false, eval e X.env) :: starEach es X.env := by rfl) (hpl : (backTo pos (starEach es X.env)).any (·.1) = false := by rfl) :
    PE X (.Call (.Attribute (.Name x p1) "__init__" p2) (e :: es) [] pos) (tInit X.K ta) := by
  constructor
  intro pins s σ H Q I h
  apply PySem.W.methodCall_KW (ld_glob I hg hm ?_ hdb) hc
  apply PySem.W.method_cls I.kIn ga
  apply PySem.W.cls_value I.kIn rd fi (by decide +kernel)
  show wpAny _ _ (callWith pos (Value.builtin "Exception.__init__") [] (backTo pos (starEach (e :: es) X.env)) []) _ _ _
  apply PyProof.Rows.callWith_method1 (thn (ha.run pos pins _ σ H _ (I.tok _) h) fun us s1 ⟨vs, H1, I1, r1, a, C, ws, ev, hl, T, ea, q⟩ => ?_) he hpl
  subst ev
  cases r1 with
  | @cons _ u0 _ ur ra rest =>
    obtain rfl : u0 = Value.ref a := ra
    have few : ur.length ≤ sizeLine := by
      rw [← Paired.length rest, sizeLine_eq]
      omega
    exact init_plain T I1 ea few fun s' J => ⟨.non, H1, J, rfl, q⟩
end
end Sw
namespace Sw
open PySem PySem.Spec PyProof.Rows L2 PySem.SwE
section
variable {X : Cx} {e : Expr} {es : List Expr} {ta : TA} {p pos : Pos} {CX : CXT} {x : Str} {C fI : Addr} {k : Nat} {fd : FuncData} {ps : List Str} {sp : Sp}
/-- C(e, ..), C an own exception class over Exception whose __init__ keeps sp -/
theorem pmk_E (T : OexE X.K C) (iC : PySem.W.findIn X.K (.ref C) "__init__" = some (some (.ref fI))) (tI : PySem.W.typeIn X.K (.ref fI) = some (.type "function")) (F1 : FnOk X.prog X.w X.K X.mg X.base CX k fI fd ps sp) (room : Room (k + 1) X.A) (bd : Binds X.K fd ps [])
    (px : Passes CX X E0) (hm : X.mg x = some (.ref C)) (ha : PA X (e :: es) ta) (hg : Gl X x := by rfl)
    (hdb : (x == ("__debug__" : Str)) = false := by decide) (he : starEach (e :: es) X.env = (false, eval e X.env) :: starEach es X.env := by rfl) (hpl : (backTo pos (starEach es X.env)).any (·.1) = false := by rfl) :
    PMk X (.Call (.Name x p) (e :: es) [] pos) (tMkO C sp [] ta) := by
  intro pins s σ H Q I h
  obtain ⟨nm, q, N, bs, rs, sn, sub, ab, col, dd, k0, k1, k2, k3, k5, hC⟩ := T.cls
  refine wpAny_Call_Name_kw (ld_glob I hg hm ?_ hdb)
  refine PySem.W.callWith_K (h₀ := X.base) I.ok.mod.kin T.kC (thn (ha.run pos pins s σ H _ I h) fun us s1 ⟨vs, H1, I1, r1, few, q1⟩ => ⟨I1.kIn, ?_⟩) he hpl
  show wpAny _ _ (call (.ref C) us) _ _ _
  obtain ⟨hp, g, dr, tk, os⟩ := s1
  have le : hp.objs.size ≤ hp.objs.size + 1 := Nat.le_succ _
  have free : H1 (hp.objs.size + 1) = none := I1.hok.fresh le
  have said := q1 (hp.objs.size + 1) free
  have keep : ∀ b o, hp.get? b = some o → ((hp.push (PySem.W.kdv_tup us)).push (PySem.HandSPX.excO C hp.objs.size)).get? b = some o := fun b o z => Heap.get?_push_of_some _ (Heap.get?_push_of_some _ z)
  have made : ((hp.push (PySem.W.kdv_tup us)).push (PySem.HandSPX.excO C hp.objs.size)).get? (hp.objs.size + 1) = some (PySem.HandSPX.excO C hp.objs.size) := by heap_get
  have I2 : Inv X pins σ (upd H1 (hp.objs.size + 1) (exo (hp.objs.size + 1) C none)) ⟨(hp.push (PySem.W.kdv_tup us)).push (PySem.HandSPX.excO C hp.objs.size), g, dr, tk, os⟩ :=
    I1.laid (t' := tk) (a := hp.objs.size + 1) (o := exo (hp.objs.size + 1) C none) (h' := (hp.push (PySem.W.kdv_tup us)).push (PySem.HandSPX.excO C hp.objs.size)) keep le (exo_ok made)
  have both : Vals (V.ref (hp.objs.size + 1) :: (vs ++ [])) (Value.ref (hp.objs.size + 1) :: (us ++ [])) := .cons rfl (r1.append .nil)
  have count : (Value.ref (hp.objs.size + 1) :: us ++ []).length = ps.length := by
    have z := both.length
    rw [F1.len _ _ _ _ said] at z
    exact z.symm
  have bound := bd _ (Value.ref (hp.objs.size + 1) :: us) I2.kIn count
  rw [List.cons_append] at bound
  have few' : us.length ≤ sizeLine := by
    rw [← Paired.length r1, sizeLine_eq]
    omega
  refine wpAny_call (PySem.HandSPX.call_own F.excBase_Exception (fun Y => over_has Y rs) (I1.kIn _ _ hC) (PySem.W.looks_findIn I1.kIn iC) (fun self => PySem.W.bind_fn I1.kIn self tI) few' (codeAny_mono (F1.run _ X.stack _ _ ⟨Value.ref (hp.objs.size + 1) :: us, []⟩ (Value.ref (hp.objs.size + 1) :: (us ++ [])) _ _ E0
    (room.make C us []) (I2.env0.make C us []) bound both said) fun r s' z => ?_))
  rcases r with er | fl
  · exact px pins σ _ _ er s' I2 z
  · cases fl with
    | next => exact z.elim
    | brk => exact z.elim
    | cont => exact z.elim
    | ret u =>
      obtain ⟨v, H2, os2, bare, un, ok, rv, ev, d, fs, ea, ed, hd1, q2⟩ := z
      subst ev
      obtain ⟨h2, g2, d2, t2, os'⟩ := s'
      exact ⟨rv, mk_end (raises_own T.exC T.tyC) I1 le keep un ok os2 bare ea ed hd1 q2⟩
end
end Sw
namespace Sw
open PySem PySem.Spec PyProof.Rows L2 PySem.SwE
/-! ### defs that may let out an exception -/
theorem Fun.okX {P : Program} {w : World} {K : PySem.W.Frag} {mg : Str → Option Value} {base : Heap} {k : Nat} {f : Addr} {fd : FuncData} {ps : List Str} {sp : Sp} {x qual : Str} {st : Stmt} {N : List Str} (F : Fun K x qual st f fd) (S : FnScope N ps (defScope st)) (len : ∀ xs M R X, sp xs M R X → xs.length = ps.length)
    (body : ∀ (cdv : Value) (A : Around) (out : List Env) (t : Shared) (M : Hp) (xs : List V) (R : VK) (E : XK), Room k (A.deeper (envOfC qual (defScope st) t.heap.objs.size f cdv)) → sp xs M R E →
      Takes (cxOf (L2.CX P w) P w K mg base N qual (defScope st) f cdv A out t M E) (fun cls d _ M' => E cls d M') →
      ∃ r, PSs (cxOf (L2.CX P w) P w K mg base N qual (defScope st) f cdv A out t M E) (defBody st) r ∧ r { nx := fun _ M' => R .non M', rt := R } (start N xs) M) : FnOk P w K mg base (L2.CX P w) (k + 1) f fd ps sp := by
  obtain ⟨oc, od, kV, doc, pm, an, cdv, ct, osl, rfl, found, coded⟩ := F.ex
  exact fn_of found coded S len fun A out t M xs R E room prom => body cdv A out t M xs R E room prom (takes_of rfl rfl rfl rfl)
section
variable (P : Program) (w : World) (K : PySem.W.Frag) (mg : Str → Option Value) (base : Heap)
def CalX (x : Str) (ps : List Str) (k : Nat) (sp : Sp) : Prop := ∃ (f : Addr) (fd : FuncData), FnOk P w K mg base (L2.CX P w) k f fd ps sp ∧ mg x = some (.ref f) ∧ PySem.W.keepIn K (.ref f) = true ∧ Binds K fd ps []
def CalKX (x : Str) (ps : List Str) (k : Nat) (sp : Sp) (ks : List Str) (g : List Value → List Value → List Value) (gV : List V → List V → List V) : Prop := ∃ (f : Addr) (fd : FuncData), FnOk P w K mg base (L2.CX P w) k f fd ps sp ∧ mg x = some (.ref f) ∧ PySem.W.keepIn K (.ref f) = true ∧ KBinds K fd ps ks g gV
end
section
variable {P : Program} {w : World} {K : PySem.W.Frag} {mg : Str → Option Value} {base : Heap} {x : Str} {st : Stmt} {ps ks : List Str} {k : Nat} {sp : Sp}
theorem Def.calX (d : Def K mg x st)
    (b : ∀ (kV doc pm : Value) (an : Option Addr) (cdv ct : Value) (us : List Value), us.length = ps.length → bindArgs (PySem.W.fnOf x x (defArgs st) (defBody st) (defScope st) .none kV doc pm an cdv ct) ⟨us, []⟩ = pure (ps.zip us))
    (ok : ∀ (f : Addr) (fd : FuncData), Fun K x x st f fd → FnOk P w K mg base (L2.CX P w) k f fd ps sp) : CalX P w K mg base x ps k sp := by
  obtain ⟨f, fd, F, m⟩ := d
  exact ⟨f, fd, ok f fd F, m, F.kp, F.binds b⟩
theorem Def.calKX {g : List Value → List Value → List Value} {gV : List V → List V → List V} (d : Def K mg x st)
    (b : ∀ (kV doc pm : Value) (an : Option Addr) (cdv ct : Value) (us ws : List Value), (g us ws).length = ps.length → bindArgs (PySem.W.fnOf x x (defArgs st) (defBody st) (defScope st) .none kV doc pm an cdv ct) ⟨us, ks.zip ws⟩ = pure (ps.zip (g us ws)))
    (rel : ∀ {vs : List V} {us : List Value} {zs : List V} {ws : List Value}, Vals vs us → Vals zs ws → Vals (gV vs zs) (g us ws))
    (ok : ∀ (f : Addr) (fd : FuncData), Fun K x x st f fd → FnOk P w K mg base (L2.CX P w) k f fd ps sp) : CalKX P w K mg base x ps k sp ks g gV := by
  obtain ⟨f, fd, F, m⟩ := d
  have O := ok f fd F
  have kp := F.kp
  obtain ⟨oc, od, kV, doc, pm, an, cdv, ct, osl, rfl, lk, hcd⟩ := F.ex
  exact ⟨f, _, O, m, kp, fun s us ws _ hl => .of_eq (b kV doc pm an cdv ct us ws hl), rel⟩
end
def tKwS (sp : Sp) (gV : List V → List V → List V) (E : L2.St → XK) (tk : TA) : TE := fun σ H Q => tk σ H fun zs H1 => sp (gV [] zs) H1 Q (E σ)
section
variable {X : Cx} {x : Str} {ps ks : List Str} {k n : Nat} {sp : Sp} {e : Expr} {es : List Expr} {t : TA} {p pos : Pos} {W : WX} {g : List Value → List Value → List Value} {gV : List V → List V → List V} {kws : List Keyword}
theorem pe_calX (c : CalX X.prog X.w X.K X.mg X.base x ps k sp) (hr : Room n X.A) (tk : Takes X W) (ha : PA X (e :: es) t) (hg : Gl X x := by rfl) (hk : k ≤ n := by decide)
    (hdb : (x == ("__debug__" : Str)) = false := by decide) (he : starEach (e :: es) X.env = (false, eval e X.env) :: starEach es X.env := by rfl) (hpl : (backTo pos (starEach es X.env)).any (·.1) = false := by rfl) :
    PE X (.Call (.Name x p) (e :: es) [] pos) (tCallS sp (WE W) t) := by
  obtain ⟨f, fd, F, m, kp, b⟩ := c
  exact pe_callS F (hr.mono hk) hg m kp b (passAt tk) ha hdb he hpl
theorem i_callS {σ : L2.St} {H : Hp} {Q : VK} {E : L2.St → XK} (h : t σ H fun vs H1 => sp vs H1 Q (E σ)) : tCallS sp E t σ H Q := h
theorem pe_calKX (c : CalKX X.prog X.w X.K X.mg X.base x ps k sp ks g gV) (hr : Room n X.A) (tk : Takes X W) (hkw : PK X kws t) (hg : Gl X x := by rfl) (hk : k ≤ n := by decide)
    (hall : (backToKw pos (keywordEach kws X.env)).all (·.1.isSome) = true := by rfl) (hks : (backToKw pos (keywordEach kws X.env)).filterMap (·.1) = ks := by rfl) (hdb : (x == ("__debug__" : Str)) = false := by decide)
    (hpl : ((backTo pos (starEach [] X.env)).any (·.1) || (backToKw pos (keywordEach kws X.env)).any (·.1.isNone)) = false := by rfl) :
    PE X (.Call (.Name x p) [] kws pos) (tKwS sp gV (WE W) t) := by
  obtain ⟨f, fd, F, m, kp, b⟩ := c
  constructor
  intro pins s σ H Q I h
  apply wpAny_Call_Name_kw (ld_glob I hg m ?_ hdb)
  refine PySem.W.callWith_KW0 (h₀ := X.base) I.ok.mod.kin kp hall (thn (hkw.run pos pins s σ H _ I h) fun ws s2 ⟨zs, H2, I2, rz, q⟩ => ⟨I2.kIn, ?_⟩) hpl
  rw [hks]
  have rel := b.rel (vs := []) (us := []) .nil rz
  have count : (g [] ws).length = ps.length := by rw [← rel.length]; exact F.len _ _ _ _ q
  apply wpAny_call
  apply codeAny_mono (F.run X.A X.stack s2 H2 ⟨[], ks.zip ws⟩ (g [] ws) (gV [] zs) Q (WE W σ) (hr.mono hk) I2.env0 (b.to s2 [] ws I2.kIn count) rel q)
  intro o s' z
  rcases o with er | fl
  · exact passAt tk σ pins H2 s2 er s' I2 z
  · cases fl with
    | ret u => exact I2.after z
    | next => exact z.elim
    | brk => exact z.elim
    | cont => exact z.elim
theorem i_kwS {σ : L2.St} {H : Hp} {Q : VK} {E : L2.St → XK} (h : t σ H fun zs H1 => sp (gV [] zs) H1 Q (E σ)) : tKwS sp gV E t σ H Q := h
end
theorem takes_none {X : Cx} : Takes X (fun _ _ _ _ => False) := fun u s' z => by
  obtain ⟨a, B, sI, pins, σ, H, cls, d, e, I, nb, up, sky, na, os, ag, w⟩ := z
  exact w.elim
end Sw
namespace Sw
open PySem PySem.Spec PyProof.Rows L2 PySem.SwE
/-- InvalidText.__init__(self, given) -/
def spInit (K : PySem.W.Frag) : Sp := fun vs H Q _ => ∃ (a C : Addr) (v : V), vs = [.ref a, v] ∧ H a = some (exo a C none) ∧ OexE K C ∧ PySem.W.findIn K (.ref C) "given" = some none ∧
  ∀ dx, H dx = none → dx ≠ a → Q .non (upd (upd H dx (exd dx [("given", v)])) a (exo a C (some dx)))
/-- what the written part says of the class that is called over -/
structure Over (K : PySem.W.Frag) (mg : Str → Option Value) (B : Addr) : Prop where
  hm : mg "CodecError" = some (.ref B)
  ga : PySem.W.specialIn K (.ref B) "__getattribute__" = some (some (.builtin "type.__getattribute__"))
  ty : PySem.W.typeIn K (.ref B) = some (.type "type")
  rd : PySem.W.readsIn K B (.type "type") = true
  fi : PySem.W.findCls K (.ref B) (.type "type") "__init__" = some (.val (.builtin "Exception.__init__"))
theorem i_init {K : PySem.W.Frag} {ta : TA} {σ : L2.St} {H : Hp} {Q : VK} (h : ta σ H fun vs H1 => ∃ (a C : Addr) (ws : List V), vs = .ref a :: ws ∧ ws.length ≤ 1000 ∧ OexE K C ∧ H1 a = some (exo a C none) ∧ Q .non H1) : tInit K ta σ H Q := h
theorem i_fst {K : PySem.W.Frag} {f : Str} {to te : TE} {D : Ends} {σ : L2.St} {H : Hp} (h : te σ H fun y H1 => to σ H1 fun x H2 => ∃ a C : Addr, x = .ref a ∧ OexE K C ∧ PySem.W.findIn K (.ref C) f = some none ∧
  H2 a = some (exo a C none) ∧ ∀ dx, H2 dx = none → dx ≠ a → D.nx σ (upd (upd H2 dx (exd dx [(f, y)])) a (exo a C (some dx)))) : tFst K f to te D σ H := h
/-- the class InvalidText, as it stands behind the top -/
structure XT (P : Program) (w : World) (K : PySem.W.Frag) (mg : Str → Option Value) (base : Heap) (C : Addr) : Prop where
  T : OexE K C
  xf : XfC K C
  no : PySem.W.findIn K (.ref C) "given" = some none
  hm : mg "InvalidText" = some (.ref C)
  me : PySem.W.exmOne K (.ref C) (.ref C) = some true
  ini : ∃ (fI : Addr) (fd : FuncData), PySem.W.findIn K (.ref C) "__init__" = some (some (.ref fI)) ∧ PySem.W.typeIn K (.ref fI) = some (.type "function") ∧ FnOk P w K mg base CX0 1 fI fd ["self", "given"] (spInit K) ∧ Binds K fd ["self", "given"] []
theorem pmk_T {X : Cx} {C : Addr} {n : Nat} {e : Expr} {te : TE} {p pos : Pos} (xt : XT X.prog X.w X.K X.mg X.base C) (hr : Room n X.A) (he : PE X e te) (hn : 2 ≤ n := by decide) (hg : Gl X "InvalidText" := by rfl)
    (he2 : starEach [e] X.env = (false, eval e X.env) :: starEach [] X.env := by rfl) : PMk X (.Call (.Name "InvalidText" p) [e] [] pos) (tMkO C (spInit X.K) [] (tCons te tNil)) := by
  obtain ⟨fI, fd, h1, h2, h3, h4⟩ := xt.ini
  exact pmk_E xt.T h1 h2 h3 (hr.mono hn) h4 pass0 xt.hm (pa_cons he pa_nil he2) hg (by decide) he2 (by rfl)
def Thrown (K : PySem.W.Frag) (C : Addr) (vs : List V) (H1 : Hp) (Q : XK) : Prop := vs.length ≤ 1000 ∧ ∀ a, H1 a = none → spInit K (.ref a :: (vs ++ [])) (upd H1 a (exo a C none))
  (fun v H2 => v = .non ∧ ∃ (d : Addr) (fs : List (Str × V)), H2 a = some (exo a C (some d)) ∧ H2 d = some (exd d fs) ∧ H1 d = none ∧ Q (.ref C) (some d) (upd (del H2 a) d (.xd fs))) (fun _ _ _ => False)
theorem i_mk {K : PySem.W.Frag} {C : Addr} {ta : TA} {σ : L2.St} {H : Hp} {Q : XK} (h : ta σ H fun vs H1 => Thrown K C vs H1 Q) : tMkO C (spInit K) [] ta σ H Q := h
def tRs (t : L2.St → Hp → XK → Prop) (W : WX) : TS := fun _ σ H => t σ H fun cls d H' => W cls d σ H'
theorem ps_rs {X : Cx} {W : WX} {e : Expr} {t : L2.St → Hp → XK → Prop} {pos : Pos} (hc : X.calm = true) (tk : Takes X W) (he : PMk X e t) : PS X (.Raise (some e) none pos) (tRs t W) := L2.ps_raise hc tk he
theorem i_raise {t : L2.St → Hp → XK → Prop} {W : WX} {D : Ends} {σ : L2.St} {H : Hp} (h : t σ H fun cls d H' => W cls d σ H') : tRs t W D σ H := h
theorem i_thrown {K : PySem.W.Frag} {C : Addr} {v : V} {H1 : Hp} {Q : XK} (T : OexE K C) (no : PySem.W.findIn K (.ref C) "given" = some none) (h : ∀ dx, H1 dx = none → Q (.ref C) (some dx) (upd H1 dx (.xd [("given", v)]))) : Thrown K C [v] H1 Q := by
  refine ⟨by simp, fun a na => ⟨a, C, v, rfl, upd_same, T, no, fun dx nx ne => ⟨rfl, dx, [("given", v)], upd_same, ?_, ?_, ?_⟩⟩⟩
  · rw [upd_ne ne, upd_same]
  · rw [upd_ne ne] at nx; exact nx
  · rw [upd_ne ne] at nx
    have e : upd (del (upd (upd (upd H1 a (exo a C none)) dx (exd dx [("given", v)])) a (exo a C (some dx))) a) dx (.xd [("given", v)]) = upd H1 dx (.xd [("given", v)]) := by
      funext b
      by_cases c : b = dx
      · rw [c, upd_same, upd_same]
      · rw [upd_ne c, upd_ne c]
        by_cases c2 : b = a
        · rw [c2, del_same, na]
        · rw [del_ne c2, upd_ne c2, upd_ne c, upd_ne c2]
    rw [e]
    exact h dx nx
theorem i_dnew {σ : L2.St} {H : Hp} {Q : VK} (h : ∀ p, H p = none → Q (.ref p) (upd H p (.dK []))) : tDNewK σ H Q := h
end Sw
namespace Sw
open PySem PySem.Spec PyProof.Rows L2
/-! ### two lists of unlike lengths -/
def rEqLen (K : PySem.W.Frag) : R2 := fun x y H Q => ∃ (p q : Addr) (xs ys : List V), x = .ref p ∧ y = .ref q ∧ SqL K H p xs ∧ SqL K H q ys ∧ xs.length ≠ ys.length ∧ Q (.bl false) H
theorem op_eqLen {X : Cx} (hu : X.A.units + 64 < cLine) : OpR X (compareOp .Eq) (rEqLen X.K) := by
  intro pins s σ H x y v u Q I rx ry h
  obtain ⟨p, q, xs, ys, rfl, rfl, hp, hq, hn, k⟩ := h
  cases rx
  cases ry
  obtain ⟨a, ra, la, _⟩ := I.list hp
  obtain ⟨b, rb, lb, _⟩ := I.list hq
  have l1 := ra.length
  have l2 := rb.length
  have ne : (a.toArray.size != b.toArray.size) = true := by
    rw [List.size_toArray, List.size_toArray, bne_iff_ne]
    omega
  have z := SeqAt.RcAt.lists_lengths (A := X.A) la.isList lb.isList ne (by omega)
  exact z X.prog X.w X.xe _ ⟨.bl false, H, I, rfl, k⟩
theorem i_eqLen {K : PySem.W.Frag} {p q : Addr} {xs ys : List V} {H : Hp} {Q : VK} (h1 : SqL K H p xs) (h2 : SqL K H q ys) (n : xs.length ≠ ys.length) (h : Q (.bl false) H) : rEqLen K (.ref p) (.ref q) H Q := ⟨p, q, xs, ys, rfl, rfl, h1, h2, n, h⟩
end Sw
namespace Sw
open PySem PySem.Spec PyProof.Rows L2
/-! ### try with several clauses that name the error -/
inductive AsOk (X : Cx) (Wo : WX) : List ExceptHandler → (Ends → WX) → Prop
  | nil : AsOk X Wo [] fun _ => Wo
  | cons {x n : Str} {c : Value} {i : Nat} {ts : Addr → Value → Option Addr → TS} {st : Stmt} {more : List Stmt} {p1 p2 : Pos} {hds : List ExceptHandler} {W : Ends → WX}
      (hi : X.N[i]? = some n) (hl : X.env.kindOf n = some .local) (hc : Names X x c)
      (su : ∀ (a : Addr) (o : Obj) (cls : Value) (d : Option Addr) (pn : List (Addr × Obj)), Zc cls d o → (∃ vs, o.data = .fields vs) → PSs (X.suite a ((a, o) :: pn)) (st :: more) (ts a cls d))
      (rest : AsOk X Wo hds W) : AsOk X Wo (.ExceptHandler (some (.Name x p1)) (some n) (st :: more) p2 :: hds) fun D => wAs X.K c i ts (W D) D
theorem ps_tries {X : Cx} {Wo : WX} {W : Ends → WX} {body : List Stmt} {h₀ : ExceptHandler} {hds : List ExceptHandler} {pos : Pos} {tb : WX → TS} (hs : X.stack = X.env :: X.outer) (hf : X.env.frame = some X.env.locals) (nd : X.N.Nodup) (tk : Takes X Wo)
    (hb : ∀ (V : WX) (pn : List (Addr × Obj)) (xe : Value → Shared → Prop), Takes (X.tr pn xe) V → PassesOwn (model X.prog X.w) X.A X.env xe → PSs (X.tr pn xe) body (tb V))
    (hh : AsOk X Wo (h₀ :: hds) W) : PS X (.Try body (h₀ :: hds) [] [] pos) fun D σ H => tb (W D) D σ H := by
  constructor
  intro pins s σ H D I h
  have ok := I.ok
  have fr : X.A.frames = some (X.env :: X.outer) := by rw [← hs]; exact ok.frames
  let after : Value → Shared → Prop := fun e s₁ => wpAny (model X.prog X.w) X.A (noteFrame e X.env) (fun _ s₂ => wpAny (model X.prog X.w) X.A (setFlight e none) (fun _ s₃ => wpAny (model X.prog X.w) X.A (handleBy e X.env (h₀ :: hds)) (SP X pins D) X.xe s₃) X.xe s₂) X.xe s₁
  have run := (hb (W D) (X.pn ++ pins) after (fun u s' air => ?_) PassesOwn.looking).run [] s σ H D (I.toTry _) h
  · refine wpAny_Try_except (wpAny_mono run (fun f s1 z => ?_) fun _ _ z => z)
    cases f <;> obtain ⟨_, _, z⟩ := z
    · exact wpAny_execs_nil ⟨_, _, z.1.ofTry ok, z.2⟩
    · exact ⟨_, _, z.1.ofTry ok, z.2⟩
    · exact ⟨_, _, z.1.ofTry ok, z.2⟩
    · obtain ⟨H', J, r, q⟩ := z
      exact ⟨_, _, _, J.ofTry ok, r, q⟩
  · obtain ⟨a, B, sI, pins', σ', H', cls, d, rfl, J0, nb, up, sky, na, os, ag, w⟩ := air
    have J := J0.ofTry ok
    show wpAny (model X.prog X.w) X.A (noteFrame (.ref a) X.env) _ _ _
    refine Sky.land Zc.steady fr hf (by rw [← hs]; exact sky) fun h3 fl3 up3 => ?_
    have J3 : Inv X pins σ' H' { s' with heap := h3 } := J.landed nb fl3.1 (up.trans up3) os ag
    obtain ⟨o3, vs3, ho3, z3, d3⟩ := fl3.there
    have out : a ∉ frs (X.env :: X.outer) := fun hm => by
      obtain ⟨_, o', e', hn⟩ := fl3.2.2.1.mem hm
      cases ho3.symm.trans e'
      exact hn _ d3
    have nL : a ≠ X.env.locals := fun z => out (List.mem_filterMap.mpr ⟨_, List.mem_cons_self, by rw [hf, z]⟩)
    have nF : a ∉ X.fs := fun hm => by
      obtain ⟨e, he, q⟩ := List.mem_filterMap.mp hm
      exact out (List.mem_filterMap.mpr ⟨e, List.mem_cons_of_mem _ he, q⟩)
    have S3 := J3.suite ho3 d3 na nL nF
    clear h
    revert w
    generalize h₀ :: hds = all at hh
    intro w
    induction hh with
    | nil =>
      refine wpAny_handleBy_nil ?_
      obtain ⟨_, _, _, o, vs, T, _, _, g1, _, g2, g3, _⟩ := id fl3
      unfold PySem.passOn
      refine wpAny_bind (wpAny_field g1 g2 g3 ?_)
      rw [if_neg (by simp : ¬ (Value.ref T == Value.none) = true)]
      have away : wpAny (model X.prog X.w) X.A (setFlight (.ref a) X.env.frame) (fun _ s4 => wpAny (model X.prog X.w) X.A (throw (.ref a) : Sem Flow) (SP X pins D) X.xe s4) X.xe { s' with heap := h3 } := by
        rw [hf]
        exact HandSPX.setFlight_upZ fl3 fun h4 hh4 up4 => wpAny_throw (tk _ _ ⟨a, B, sI, pins, σ', H', cls, d, rfl, J, nb, (up.trans up3).trans up4, .inr (.inr (by rw [hs]; exact hh4)), na, os, ag, w⟩)
      first | exact wpAny_bind (wpAny_pure (wpAny_bind away)) | exact wpAny_bind away
    | @cons x n c i ts st more p1 p2 hds W hi hl hc su rest ih =>
      obtain ⟨b, hb1, yes, no⟩ := w
      refine wpAny_handleBy_cons (codeAny_handlers_test ?_) (by intro q; cases q)
      have ty : PySem.W.Looks (model X.prog X.w) h3 (typeOf (.ref a)) cls := fun _ _ _ s k q => wpAny_typeOf_ref (k _ _ ho3) (by rw [z3.1]; exact q)
      have hit := PySem.W.exm_one (M := model X.prog X.w) J3.kIn ty hb1
      have name : ∀ {Q E : Value → Shared → Prop}, Q c { s' with heap := h3 } → wpAny (model X.prog X.w) (X.A.mark (some (.ref a))) (eval (.Name x p1) X.env) Q E { s' with heap := h3 } := fun q => by
        obtain ⟨hg, hd, ⟨hm⟩ | ⟨hm, hv, hn⟩⟩ := hc
        · exact ld_glob (X := X.suite a ((a, o3) :: (X.pn ++ pins))) S3 hg (by assumption) q hd
        · exact ld_blt (X := X.suite a ((a, o3) :: (X.pn ++ pins))) S3 hg hm hv q hn hd
      refine name (hit.here ?_)
      cases b with
      | false => exact ih (no rfl)
      | true =>
        refine codeAny_handlers_suite_as (HandSPX.lands_againZ fl3 fun h4 fl4 up4 => ?_)
        obtain ⟨o4, vs4, ho4, z4, d4⟩ := fl4.there
        have J4 : Inv X pins σ' H' { s' with heap := h4 } := J.landed nb fl4.1 ((up.trans up3).trans up4) os ag
        refine store_ok (X := X.suite a ((a, o4) :: (X.pn ++ pins))) (v := .ref a) (J4.suite ho4 d4 na nL nF) nd hi (.inl hl) rfl (fun s5 S5 => ?_) (.inr hl)
        refine wpAny_mono ((su a o4 cls d (X.pn ++ pins) z4 ⟨_, d4⟩).run [] s5 _ H' _ S5 (yes rfl a na)) (fun f s6 z => ?_) fun _ _ z => z.elim
        have bye : ∀ {σ6 : L2.St} {H6 : Hp} {Q : Shared → Prop}, Inv (X.suite a ((a, o4) :: (X.pn ++ pins))) [] σ6 H6 s6 → (∀ s7, Inv X pins (σ6.set i none) H6 s7 → Q s7) →
            wpAny (model X.prog X.w) X.A (do bindName X.env n .none; unbindBehindTheSuite X.env n p2) (fun _ s7 => Q s7) X.xe s6 := fun S6 hq => gone_ok (S6.unsuite ok) nd hi hl hq
        cases f <;> obtain ⟨_, _, z⟩ := z
        · exact bye z.1 fun s7 J7 => ⟨_, _, J7, z.2⟩
        · exact bye z.1 fun s7 J7 => ⟨_, _, J7, z.2⟩
        · exact bye z.1 fun s7 J7 => ⟨_, _, J7, z.2⟩
        · obtain ⟨H6, S6, r6, q6⟩ := z
          exact bye S6 fun s7 J7 => ⟨_, _, _, J7, r6, q6⟩
end Sw
namespace Sw
open PySem PySem.Spec PyProof.Rows L2
local macro_rules | `(tactic| walk_at "hp") => `(tactic| first
  | (with_reducible assumption) | (with_reducible exact upd_same)
  | ((with_reducible refine' upd_old ?q1 ?q2); (case q1 => (with_reducible assumption)); (case q2 => walk_at "hp"))
  | ((with_reducible refine' Same.at ?q1 ?q2); (case q1 => (with_reducible assumption)); (case q2 => walk_at "hp"))
  | ((with_reducible refine' upd_skip ?q1 ?q2); (case q1 => walk_at "ne"); (case q2 => walk_at "hp"))
  | fail)
local macro_rules | `(tactic| walk_at "ne") => `(tactic| first
  | (with_reducible assumption) | (with_reducible exact Ne.symm (by assumption))
  | ((with_reducible refine' ne_of_none ?q1 ?q2); (case q2 => (with_reducible assumption)); (case q1 => walk_at "hp"))
  | fail)
local macro_rules | `(tactic| walk_at "ci") => `(tactic| first | assumption | (show (0 : Int) < _; first | decide | (with_reducible omega)) | exact ⟨by decide, by decide⟩ | exact .inl ⟨by decide, by decide⟩ | exact .inr ⟨by decide, by decide⟩)
local macro_rules | `(tactic| walk_at "ln") => `(tactic| first | (with_reducible assumption) | (with_reducible omega) | (simp only [List.length_append, List.length_take, List.length_drop, List.length_reverse, List.length_cons, List.length_nil]; with_reducible omega))
local macro_rules | `(tactic| walk_at "rd1") => `(tactic| first
  | (with_reducible refine i_seq ?_) | (with_reducible refine i_asg ?_) | (with_reducible refine i_ret ?_) | (with_reducible refine i_name ?_) | ((with_reducible refine' i_var ?q1 ?_); (case q1 => exact rfl)) | (with_reducible refine i_c ?_) | (with_reducible refine i_op ?_) | (with_reducible refine i_un ?_)
  | (with_reducible refine i_rI0 ?_) | (with_reducible refine i_cb ?_) | (with_reducible refine i_cons ?_) | (with_reducible refine i_nil ?_) | (with_reducible refine i_call ?_) | (with_reducible refine i_if ?_) | (with_reducible refine i_ifE ?_) | (with_reducible refine i_test ?_) | (with_reducible refine i_bl ?_)
  | (with_reducible refine i_and ?_) | (with_reducible refine i_or ?_) | (with_reducible refine i_not ?_) | (with_reducible refine i_lst ?_) | (with_reducible refine i_tup ?_) | (with_reducible refine i_next ?_) | (with_reducible refine i_drop ?_) | (with_reducible refine i_sub ?_)
  | (with_reducible refine i_bm ?_) | (with_reducible refine i_sl ?_) | (with_reducible refine i_part ?_) | (with_reducible refine i_nopart ?_) | (with_reducible refine i_exI ?_) | (with_reducible refine i_chain ?_) | ((with_reducible refine' i_aug ?q1 ?_); (case q1 => exact rfl)) | (with_reducible refine i_ip ?_)
  | (with_reducible refine i_par ?_) | (with_reducible refine i_pair ?_) | (with_reducible refine i_andV ?_) | (with_reducible refine i_orV ?_) | (with_reducible refine i_notV ?_) | (with_reducible refine i_m1 ?_) | (with_reducible refine i_str ?_)
  | (with_reducible refine iteF ?_) | (with_reducible refine iteT ?_) | (with_reducible refine iteNT ?_) | (with_reducible refine iteNF ?_) | (with_reducible refine i_tyS ?_) | (with_reducible refine i_tB ?_) | (with_reducible refine i_retN ?_) | (with_reducible refine i_par3 ?_) | (with_reducible refine i_trip ?_) | (with_reducible refine i_gCons ?_) | (with_reducible refine i_gNil ?_) | (with_reducible refine i_lstRg ?_) | (with_reducible refine i_rg1 ?_)
  | (with_reducible refine i_lc ?_) | (with_reducible refine i_for ?_) | (with_reducible refine i_iList ?_) | (with_reducible refine i_iTup ?_) | (with_reducible refine i_iStr ?_) | (with_reducible refine i_iRng1 ?_) | (with_reducible refine i_iEnS ?_)
  | ((with_reducible refine' i_ixTH ?q1 ?q2 ?_); (case q1 => walk_at "hp"); (case q2 => exact rfl))
  | ((with_reducible refine' i_ixLH ?q1 ?q2 ?_); (case q1 => walk_at "hp"); (case q2 => exact rfl))
  | ((with_reducible refine i_addS ?q1 ?_); (case q1 => walk_at "ln")) | ((with_reducible refine i_lenSS ?q1 ?_); (case q1 => walk_at "ln")) | ((with_reducible refine i_slFrom ?q1 ?q2 ?_); (case q1 => walk_at "ln"); (case q2 => walk_at "ln")) | ((with_reducible refine i_slTo ?q1 ?q2 ?_); (case q1 => walk_at "ln"); (case q2 => walk_at "ln"))
  | ((with_reducible refine' i_tyL ?q1 ?_); (case q1 => walk_at "hp"))
  | ((with_reducible refine' i_gTupH ?q1 ?q2 ?_); (case q1 => walk_at "hp"); (case q2 => exact rfl))
  | (with_reducible refine i_dnew ?_) | (with_reducible refine i_init ?_) | (with_reducible refine i_fst ?_) | (with_reducible refine i_mk ?_) | (with_reducible refine i_raise ?_) | (with_reducible refine i_callS ?_) | (with_reducible refine i_kwS ?_)
  | (with_reducible refine i_revT ?_) | (with_reducible refine i_kw ?_) | ((with_reducible refine' ⟨_, _, rfl, sqT_of ?q1, ?_⟩); (case q1 => walk_at "hp"))
  | (with_reducible refine i_revS ?_) | ((with_reducible refine i_revSS ?q1 ?_); (case q1 => walk_at "ln"))
  | (with_reducible refine i_startS ?_) | (with_reducible refine i_inSg ?_) | (with_reducible refine i_absN ?_) | (with_reducible refine i_min2 ?_) | (with_reducible refine i_max2 ?_) | (with_reducible refine i_min3 ?_) | (with_reducible refine i_intN ?_) | (with_reducible refine i_intNB ?_)
  | ((with_reducible refine' i_lenL ?q1 ?_); (case q1 => walk_at "hp")) | ((with_reducible refine' i_lenT ?q1 ?_); (case q1 => walk_at "hp"))
  | (with_reducible refine i_eqI ?_) | (with_reducible refine i_neI ?_) | (with_reducible refine i_eqS ?_) | (with_reducible refine i_neS ?_) | (with_reducible refine i_isNoI ?_) | (with_reducible refine i_isNoN ?_) | (with_reducible refine i_isNoR ?_)
  | ((with_reducible refine i_pow ?q1 ?q2 ?q3 ?_); (case q1 => decide); (case q2 => decide); (case q3 => (with_reducible omega)))
  | ((with_reducible refine i_rI ?q1 ?_); (case q1 => walk_at "ci"))
  | (with_reducible refine Or.inl ⟨_, rfl, ?_⟩) | (with_reducible refine Or.inr ⟨_, rfl, ?_⟩) | (with_reducible refine ⟨_, rfl, ?_⟩) | (with_reducible refine ⟨_, _, rfl, ?_⟩) | (with_reducible refine ⟨_, _, rfl, rfl, ?_⟩)
  | ((with_reducible refine' ⟨_, _, rfl, Or.inl (sqL_of ?q1), ?_⟩); (case q1 => walk_at "hp")) | ((with_reducible refine' ⟨_, _, rfl, Or.inr (sqT_of ?q1), ?_⟩); (case q1 => walk_at "hp")) | fail)
local macro_rules | `(tactic| walk_at "rd") => `(tactic| repeat' walk_at "rd1")

def topS (i : Nat) : Stmt := PySem.Challenge.pw_spoiltways_k12_lags_that_stay.main.body.getD i (.Pass ⟨0, 0, 0, 0⟩)
abbrev s_is_integer : Stmt := topS 6
abbrev n_is_integer : List Str := ["value"]
theorem sc_is_integer : FnScope n_is_integer ["value"] (defScope s_is_integer) := ⟨rfl, rfl, rfl, by decide +kernel, rfl, by decide +kernel, by decide +kernel⟩
abbrev s_is_count : Stmt := topS 7
abbrev n_is_count : List Str := ["value"]
theorem sc_is_count : FnScope n_is_count ["value"] (defScope s_is_count) := ⟨rfl, rfl, rfl, by decide +kernel, rfl, by decide +kernel, by decide +kernel⟩
abbrev s_is_text : Stmt := topS 8
abbrev n_is_text : List Str := ["value", "letter"]
theorem sc_is_text : FnScope n_is_text ["value"] (defScope s_is_text) := ⟨rfl, rfl, rfl, by decide +kernel, rfl, by decide +kernel, by decide +kernel⟩
abbrev s_is_lag : Stmt := topS 9
abbrev n_is_lag : List Str := ["value"]
theorem sc_is_lag : FnScope n_is_lag ["value"] (defScope s_is_lag) := ⟨rfl, rfl, rfl, by decide +kernel, rfl, by decide +kernel, by decide +kernel⟩
abbrev s_check_count : Stmt := topS 10
abbrev n_check_count : List Str := ["count"]
theorem sc_check_count : FnScope n_check_count ["count"] (defScope s_check_count) := ⟨rfl, rfl, rfl, by decide +kernel, rfl, by decide +kernel, by decide +kernel⟩
abbrev s_check_text : Stmt := topS 11
abbrev n_check_text : List Str := ["text"]
theorem sc_check_text : FnScope n_check_text ["text"] (defScope s_check_text) := ⟨rfl, rfl, rfl, by decide +kernel, rfl, by decide +kernel, by decide +kernel⟩
abbrev s_round_length : Stmt := topS 13
abbrev n_round_length : List Str := ["text"]
theorem sc_round_length : FnScope n_round_length ["text"] (defScope s_round_length) := ⟨rfl, rfl, rfl, by decide +kernel, rfl, by decide +kernel, by decide +kernel⟩
abbrev s_turn_number : Stmt := topS 14
abbrev n_turn_number : List Str := ["one", "other"]
theorem sc_turn_number : FnScope n_turn_number ["one", "other"] (defScope s_turn_number) := ⟨rfl, rfl, rfl, by decide +kernel, rfl, by decide +kernel, by decide +kernel⟩
abbrev s_lag_after : Stmt := topS 15
abbrev n_lag_after : List Str := ["left", "right"]
theorem sc_lag_after : FnScope n_lag_after ["left", "right"] (defScope s_lag_after) := ⟨rfl, rfl, rfl, by decide +kernel, rfl, by decide +kernel, by decide +kernel⟩
abbrev s_lag_numbered : Stmt := topS 16
abbrev n_lag_numbered : List Str := ["one", "other", "number", "text", "ahead"]
theorem sc_lag_numbered : FnScope n_lag_numbered ["one", "other", "number"] (defScope s_lag_numbered) := ⟨rfl, rfl, rfl, by decide +kernel, rfl, by decide +kernel, by decide +kernel⟩
abbrev s_check_lag : Stmt := topS 17
abbrev n_check_lag : List Str := ["lag"]
theorem sc_check_lag : FnScope n_check_lag ["lag"] (defScope s_check_lag) := ⟨rfl, rfl, rfl, by decide +kernel, rfl, by decide +kernel, by decide +kernel⟩
abbrev s_lag_behind : Stmt := topS 18
abbrev n_lag_behind : List Str := ["lag", "one", "other"]
theorem sc_lag_behind : FnScope n_lag_behind ["lag", "one", "other"] (defScope s_lag_behind) := ⟨rfl, rfl, rfl, by decide +kernel, rfl, by decide +kernel, by decide +kernel⟩
abbrev s_staying : Stmt := topS 19
abbrev n_staying : List Str := ["one", "other", "most", "number", "size", "first", "at"]
theorem sc_staying : FnScope n_staying ["one", "other", "most"] (defScope s_staying) := ⟨rfl, rfl, rfl, by decide +kernel, rfl, by decide +kernel, by decide +kernel⟩
abbrev s__law_cell : Stmt := topS 21
abbrev n__law_cell : List Str := ["script", "k"]
theorem sc__law_cell : FnScope n__law_cell ["script", "k"] (defScope s__law_cell) := ⟨rfl, rfl, rfl, by decide +kernel, rfl, by decide +kernel, by decide +kernel⟩
abbrev s__law_box : Stmt := topS 22
abbrev n__law_box : List Str := ["great"]
theorem sc__law_box : FnScope n__law_box ["great"] (defScope s__law_box) := ⟨rfl, rfl, rfl, by decide +kernel, rfl, by decide +kernel, by decide +kernel⟩
abbrev s__law_take : Stmt := topS 23
abbrev n__law_take : List Str := ["box", "many", "digit", "mixed"]
theorem sc__law_take : FnScope n__law_take ["box", "many"] (defScope s__law_take) := ⟨rfl, rfl, rfl, by decide +kernel, rfl, by decide +kernel, by decide +kernel⟩
abbrev s__law_letters : Stmt := topS 24
abbrev n__law_letters : List Str := ["box", "first", "second"]
theorem sc__law_letters : FnScope n__law_letters ["box"] (defScope s__law_letters) := ⟨rfl, rfl, rfl, by decide +kernel, rfl, by decide +kernel, by decide +kernel⟩
abbrev s__law_word : Stmt := topS 25
abbrev n__law_word : List Str := ["box", "letters", "size", "turn"]
theorem sc__law_word : FnScope n__law_word ["box", "letters", "size"] (defScope s__law_word) := ⟨rfl, rfl, rfl, by decide +kernel, rfl, by decide +kernel, by decide +kernel⟩
abbrev s__law_pair : Stmt := topS 26
abbrev n__law_pair : List Str := ["box", "letters", "way", "piece", "left", "spot", "right", "place"]
theorem sc__law_pair : FnScope n__law_pair ["box", "letters"] (defScope s__law_pair) := ⟨rfl, rfl, rfl, by decide +kernel, rfl, by decide +kernel, by decide +kernel⟩
abbrev s__law_root_length : Stmt := topS 27
abbrev n__law_root_length : List Str := ["word", "size"]
theorem sc__law_root_length : FnScope n__law_root_length ["word"] (defScope s__law_root_length) := ⟨rfl, rfl, rfl, by decide +kernel, rfl, by decide +kernel, by decide +kernel⟩
abbrev s__law_numbered : Stmt := topS 28
abbrev n__law_numbered : List Str := ["left", "right", "number", "word", "ahead"]
theorem sc__law_numbered : FnScope n__law_numbered ["left", "right", "number"] (defScope s__law_numbered) := ⟨rfl, rfl, rfl, by decide +kernel, rfl, by decide +kernel, by decide +kernel⟩
abbrev s__law_stays : Stmt := topS 29
abbrev n__law_stays : List Str := ["pair", "left", "right"]
theorem sc__law_stays : FnScope n__law_stays ["pair", "left", "right"] (defScope s__law_stays) := ⟨rfl, rfl, rfl, by decide +kernel, rfl, by decide +kernel, by decide +kernel⟩
abbrev s__law_due : Stmt := topS 30
abbrev n__law_due : List Str := ["left", "right", "highest", "found", "number", "pair"]
theorem sc__law_due : FnScope n__law_due ["left", "right", "highest"] (defScope s__law_due) := ⟨rfl, rfl, rfl, by decide +kernel, rfl, by decide +kernel, by decide +kernel⟩
abbrev s__law_number : Stmt := topS 31
abbrev n__law_number : List Str := ["pair"]
theorem sc__law_number : FnScope n__law_number ["pair"] (defScope s__law_number) := ⟨rfl, rfl, rfl, by decide +kernel, rfl, by decide +kernel, by decide +kernel⟩
abbrev s__law_highest : Stmt := topS 32
abbrev n__law_highest : List Str := ["box", "left", "right", "spots", "pair"]
theorem sc__law_highest : FnScope n__law_highest ["box", "left", "right"] (defScope s__law_highest) := ⟨rfl, rfl, rfl, by decide +kernel, rfl, by decide +kernel, by decide +kernel⟩
abbrev s__law_list_right : Stmt := topS 33
abbrev n__law_list_right : List Str := ["left", "right", "highest", "due", "told"]
theorem sc__law_list_right : FnScope n__law_list_right ["left", "right", "highest"] (defScope s__law_list_right) := ⟨rfl, rfl, rfl, by decide +kernel, rfl, by decide +kernel, by decide +kernel⟩
abbrev s__law_pair_right : Stmt := topS 34
abbrev n__law_pair_right : List Str := ["box", "left", "right", "highest", "due", "rounds", "pair", "wide", "turned", "spot", "numbers", "size", "k"]
theorem sc__law_pair_right : FnScope n__law_pair_right ["box", "left", "right"] (defScope s__law_pair_right) := ⟨rfl, rfl, rfl, by decide +kernel, rfl, by decide +kernel, by decide +kernel⟩
abbrev s__law_wide_right : Stmt := topS 35
abbrev n__law_wide_right : List Str := ["box", "letter", "most", "due", "k", "word", "highest"]
theorem sc__law_wide_right : FnScope n__law_wide_right ["box", "letter"] (defScope s__law_wide_right) := ⟨rfl, rfl, rfl, by decide +kernel, rfl, by decide +kernel, by decide +kernel⟩
abbrev s__law_bad_text : Stmt := topS 36
abbrev n__law_bad_text : List Str := ["box", "letters", "way", "word"]
theorem sc__law_bad_text : FnScope n__law_bad_text ["box", "letters"] (defScope s__law_bad_text) := ⟨rfl, rfl, rfl, by decide +kernel, rfl, by decide +kernel, by decide +kernel⟩
abbrev s__law_told : Stmt := topS 37
abbrev n__law_told : List Str := ["turn", "parts", "e"]
theorem sc__law_told : FnScope n__law_told ["turn", "parts"] (defScope s__law_told) := ⟨rfl, rfl, rfl, by decide +kernel, rfl, by decide +kernel, by decide +kernel⟩
abbrev s__law_refuses : Stmt := topS 38
abbrev n__law_refuses : List Str := ["turn", "parts", "kind", "place", "due", "size", "told"]
theorem sc__law_refuses : FnScope n__law_refuses ["turn", "parts", "kind", "place"] (defScope s__law_refuses) := ⟨rfl, rfl, rfl, by decide +kernel, rfl, by decide +kernel, by decide +kernel⟩
abbrev s__law_copy : Stmt := topS 39
abbrev n__law_copy : List Str := ["value"]
theorem sc__law_copy : FnScope n__law_copy ["value"] (defScope s__law_copy) := ⟨rfl, rfl, rfl, by decide +kernel, rfl, by decide +kernel, by decide +kernel⟩
abbrev s__law_refusals_right : Stmt := topS 40
abbrev n__law_refusals_right : List Str := ["box", "letters", "left", "right", "word", "bad", "worse", "number", "turn", "last"]
theorem sc__law_refusals_right : FnScope n__law_refusals_right ["box", "letters", "left", "right"] (defScope s__law_refusals_right) := ⟨rfl, rfl, rfl, by decide +kernel, rfl, by decide +kernel, by decide +kernel⟩
abbrev s__law_right : Stmt := topS 41
abbrev n__law_right : List Str := ["box", "letters", "left", "right", "third", "fourth"]
theorem sc__law_right : FnScope n__law_right ["box"] (defScope s__law_right) := ⟨rfl, rfl, rfl, by decide +kernel, rfl, by decide +kernel, by decide +kernel⟩
abbrev s_law : Stmt := topS 42
abbrev n_law : List Str := ["script", "k"]
theorem sc_law : FnScope n_law ["script"] (defScope s_law) := ⟨rfl, rfl, rfl, by decide +kernel, rfl, by decide +kernel, by decide +kernel⟩
/-- names that stay the built-in ones -/
structure Z (mg : Str → Option Value) : Prop where
  abs : mg "abs" = none
  all : mg "all" = none
  bool : mg "bool" = none
  enumerate : mg "enumerate" = none
  int : mg "int" = none
  isinstance : mg "isinstance" = none
  len : mg "len" = none
  list : mg "list" = none
  max_ : mg "max" = none
  min_ : mg "min" = none
  range : mg "range" = none
  repr : mg "repr" = none
  str : mg "str" = none
  sum : mg "sum" = none
  tuple : mg "tuple" = none
end Sw
namespace Sw
open PySem PySem.Spec PyProof.Rows L2
local macro_rules | `(tactic| walk_at "hp") => `(tactic| first
  | (with_reducible assumption) | (with_reducible exact upd_same)
  | ((with_reducible refine' upd_old ?q1 ?q2); (case q1 => (with_reducible assumption)); (case q2 => walk_at "hp"))
  | ((with_reducible refine' Same.at ?q1 ?q2); (case q1 => (with_reducible assumption)); (case q2 => walk_at "hp"))
  | ((with_reducible refine' upd_skip ?q1 ?q2); (case q1 => walk_at "ne"); (case q2 => walk_at "hp"))
  | fail)
local macro_rules | `(tactic| walk_at "ne") => `(tactic| first
  | (with_reducible assumption) | (with_reducible exact Ne.symm (by assumption))
  | ((with_reducible refine' ne_of_none ?q1 ?q2); (case q2 => (with_reducible assumption)); (case q1 => walk_at "hp"))
  | fail)
local macro_rules | `(tactic| walk_at "ci") => `(tactic| first | assumption | (show (0 : Int) < _; first | decide | (with_reducible omega)) | exact ⟨by decide, by decide⟩ | exact .inl ⟨by decide, by decide⟩ | exact .inr ⟨by decide, by decide⟩)
local macro_rules | `(tactic| walk_at "ln") => `(tactic| first | (with_reducible assumption) | (with_reducible omega) | (simp only [List.length_append, List.length_take, List.length_drop, List.length_reverse, List.length_cons, List.length_nil]; with_reducible omega))
local macro_rules | `(tactic| walk_at "rd1") => `(tactic| first
  | (with_reducible refine i_seq ?_) | (with_reducible refine i_asg ?_) | (with_reducible refine i_ret ?_) | (with_reducible refine i_name ?_) | ((with_reducible refine' i_var ?q1 ?_); (case q1 => exact rfl)) | (with_reducible refine i_c ?_) | (with_reducible refine i_op ?_) | (with_reducible refine i_un ?_)
  | (with_reducible refine i_rI0 ?_) | (with_reducible refine i_cb ?_) | (with_reducible refine i_cons ?_) | (with_reducible refine i_nil ?_) | (with_reducible refine i_call ?_) | (with_reducible refine i_if ?_) | (with_reducible refine i_ifE ?_) | (with_reducible refine i_test ?_) | (with_reducible refine i_bl ?_)
  | (with_reducible refine i_and ?_) | (with_reducible refine i_or ?_) | (with_reducible refine i_not ?_) | (with_reducible refine i_lst ?_) | (with_reducible refine i_tup ?_) | (with_reducible refine i_next ?_) | (with_reducible refine i_drop ?_) | (with_reducible refine i_sub ?_)
  | (with_reducible refine i_bm ?_) | (with_reducible refine i_sl ?_) | (with_reducible refine i_part ?_) | (with_reducible refine i_nopart ?_) | (with_reducible refine i_exI ?_) | (with_reducible refine i_chain ?_) | ((with_reducible refine' i_aug ?q1 ?_); (case q1 => exact rfl)) | (with_reducible refine i_ip ?_)
  | (with_reducible refine i_par ?_) | (with_reducible refine i_pair ?_) | (with_reducible refine i_andV ?_) | (with_reducible refine i_orV ?_) | (with_reducible refine i_notV ?_) | (with_reducible refine i_m1 ?_) | (with_reducible refine i_str ?_)
  | (with_reducible refine iteF ?_) | (with_reducible refine iteT ?_) | (with_reducible refine iteNT ?_) | (with_reducible refine iteNF ?_) | (with_reducible refine i_tyS ?_) | (with_reducible refine i_tB ?_) | (with_reducible refine i_retN ?_) | (with_reducible refine i_par3 ?_) | (with_reducible refine i_trip ?_) | (with_reducible refine i_gCons ?_) | (with_reducible refine i_gNil ?_) | (with_reducible refine i_lstRg ?_) | (with_reducible refine i_rg1 ?_)
  | (with_reducible refine i_lc ?_) | (with_reducible refine i_for ?_) | (with_reducible refine i_iList ?_) | (with_reducible refine i_iTup ?_) | (with_reducible refine i_iStr ?_) | (with_reducible refine i_iRng1 ?_) | (with_reducible refine i_iEnS ?_)
  | ((with_reducible refine' i_ixTH ?q1 ?q2 ?_); (case q1 => walk_at "hp"); (case q2 => exact rfl))
  | ((with_reducible refine' i_ixLH ?q1 ?q2 ?_); (case q1 => walk_at "hp"); (case q2 => exact rfl))
  | ((with_reducible refine i_addS ?q1 ?_); (case q1 => walk_at "ln")) | ((with_reducible refine i_lenSS ?q1 ?_); (case q1 => walk_at "ln")) | ((with_reducible refine i_slFrom ?q1 ?q2 ?_); (case q1 => walk_at "ln"); (case q2 => walk_at "ln")) | ((with_reducible refine i_slTo ?q1 ?q2 ?_); (case q1 => walk_at "ln"); (case q2 => walk_at "ln"))
  | ((with_reducible refine' i_tyL ?q1 ?_); (case q1 => walk_at "hp"))
  | ((with_reducible refine' i_gTupH ?q1 ?q2 ?_); (case q1 => walk_at "hp"); (case q2 => exact rfl))
  | (with_reducible refine i_dnew ?_) | (with_reducible refine i_init ?_) | (with_reducible refine i_fst ?_) | (with_reducible refine i_mk ?_) | (with_reducible refine i_raise ?_) | (with_reducible refine i_callS ?_) | (with_reducible refine i_kwS ?_)
  | (with_reducible refine i_revT ?_) | (with_reducible refine i_kw ?_) | ((with_reducible refine' ⟨_, _, rfl, sqT_of ?q1, ?_⟩); (case q1 => walk_at "hp"))
  | (with_reducible refine i_revS ?_) | ((with_reducible refine i_revSS ?q1 ?_); (case q1 => walk_at "ln"))
  | (with_reducible refine i_startS ?_) | (with_reducible refine i_inSg ?_) | (with_reducible refine i_absN ?_) | (with_reducible refine i_min2 ?_) | (with_reducible refine i_max2 ?_) | (with_reducible refine i_min3 ?_) | (with_reducible refine i_intN ?_) | (with_reducible refine i_intNB ?_)
  | ((with_reducible refine' i_lenL ?q1 ?_); (case q1 => walk_at "hp")) | ((with_reducible refine' i_lenT ?q1 ?_); (case q1 => walk_at "hp"))
  | (with_reducible refine i_eqI ?_) | (with_reducible refine i_neI ?_) | (with_reducible refine i_eqS ?_) | (with_reducible refine i_neS ?_) | (with_reducible refine i_isNoI ?_) | (with_reducible refine i_isNoN ?_) | (with_reducible refine i_isNoR ?_)
  | ((with_reducible refine i_pow ?q1 ?q2 ?q3 ?_); (case q1 => decide); (case q2 => decide); (case q3 => (with_reducible omega)))
  | ((with_reducible refine i_rI ?q1 ?_); (case q1 => walk_at "ci"))
  | (with_reducible refine Or.inl ⟨_, rfl, ?_⟩) | (with_reducible refine Or.inr ⟨_, rfl, ?_⟩) | (with_reducible refine ⟨_, rfl, ?_⟩) | (with_reducible refine ⟨_, _, rfl, ?_⟩) | (with_reducible refine ⟨_, _, rfl, rfl, ?_⟩)
  | ((with_reducible refine' ⟨_, _, rfl, Or.inl (sqL_of ?q1), ?_⟩); (case q1 => walk_at "hp")) | ((with_reducible refine' ⟨_, _, rfl, Or.inr (sqT_of ?q1), ?_⟩); (case q1 => walk_at "hp")) | fail)
local macro_rules | `(tactic| walk_at "rd") => `(tactic| repeat' walk_at "rd1")

/-! ### the exceptions that tell a bad value -/
abbrev s_init : Stmt := inClass (topS 3) 0
abbrev s_init2 : Stmt := inClass (topS 2) 0
abbrev n_init : List Str := ["self", "given"]
theorem sc_init : FnScope n_init ["self", "given"] (defScope s_init) := ⟨rfl, rfl, rfl, by decide +kernel, rfl, by decide +kernel, by decide +kernel⟩
theorem sc_init2 : FnScope n_init ["self", "given"] (defScope s_init2) := ⟨rfl, rfl, rfl, by decide +kernel, rfl, by decide +kernel, by decide +kernel⟩
/-- the class InvalidCount, as it stands behind the top -/
structure XN (P : Program) (w : World) (K : PySem.W.Frag) (mg : Str → Option Value) (base : Heap) (C : Addr) : Prop where
  T : OexE K C
  xf : XfC K C
  no : PySem.W.findIn K (.ref C) "given" = some none
  hm : mg "InvalidCount" = some (.ref C)
  me : PySem.W.exmOne K (.ref C) (.ref C) = some true
  ini : ∃ (fI : Addr) (fd : FuncData), PySem.W.findIn K (.ref C) "__init__" = some (some (.ref fI)) ∧ PySem.W.typeIn K (.ref fI) = some (.type "function") ∧ FnOk P w K mg base CX0 1 fI fd ["self", "given"] (spInit K) ∧ Binds K fd ["self", "given"] []
theorem pmk_C {X : Cx} {C : Addr} {n : Nat} {e : Expr} {te : TE} {p pos : Pos} (xt : XN X.prog X.w X.K X.mg X.base C) (hr : Room n X.A) (he : PE X e te) (hn : 2 ≤ n := by decide) (hg : Gl X "InvalidCount" := by rfl)
    (he2 : starEach [e] X.env = (false, eval e X.env) :: starEach [] X.env := by rfl) : PMk X (.Call (.Name "InvalidCount" p) [e] [] pos) (tMkO C (spInit X.K) [] (tCons te tNil)) := by
  obtain ⟨fI, fd, h1, h2, h3, h4⟩ := xt.ini
  exact pmk_E xt.T h1 h2 h3 (hr.mono hn) h4 pass0 xt.hm (pa_cons he pa_nil he2) hg (by decide) he2 (by rfl)
theorem names_C {P : Program} {w : World} {K : PySem.W.Frag} {mg : Str → Option Value} {base : Heap} {X : Cx} {C : Addr} (xt : XN P w K mg base C) (hm : X.mg = mg := by rfl) (hg : Gl X "InvalidCount" := by rfl) : Names X "InvalidCount" (.ref C) := ⟨hg, by decide, .inl (by rw [hm]; exact xt.hm)⟩
section
variable {P : Program} {w : World} {K : PySem.W.Frag} {mg : Str → Option Value} {base : Heap} {f : Addr} {fd : FuncData}
theorem ok_init {B : Addr} (F : Fun K "__init__" "InvalidText.__init__" s_init f fd) (o : Over K mg B) : FnOk P w K mg base CX0 1 f fd ["self", "given"] (spInit K) := by
  refine F.ok sc_init (fun vs H Q E h => ?_) (fun cdv A outer s H vs Q E hr h => ?_)
  · obtain ⟨a, C, v, rfl, _⟩ := h; rfl
  · obtain ⟨a, C, v, rfl, ha, T, no, k⟩ := h
    refine ⟨_, (pss_cons (ps_expr (ps_init (by rfl) o.hm o.ga o.ty o.rd o.fi (pa_cons (pv 0) (pa_cons pe_str pa_nil))))
      (pss_one (ps_fst (pv 0) (pv 1)))), ?_⟩
    walk_at "rd"
    refine ⟨a, C, _, rfl, by simp, T, ha, ?_⟩
    walk_at "rd"
    exact ⟨a, C, rfl, T, no, ha, fun dx n ne => k dx n ne⟩
theorem ok_init2 {B : Addr} (F : Fun K "__init__" "InvalidCount.__init__" s_init2 f fd) (o : Over K mg B) : FnOk P w K mg base CX0 1 f fd ["self", "given"] (spInit K) := by
  refine F.ok sc_init2 (fun vs H Q E h => ?_) (fun cdv A outer s H vs Q E hr h => ?_)
  · obtain ⟨a, C, v, rfl, _⟩ := h; rfl
  · obtain ⟨a, C, v, rfl, ha, T, no, k⟩ := h
    refine ⟨_, (pss_cons (ps_expr (ps_init (by rfl) o.hm o.ga o.ty o.rd o.fi (pa_cons (pv 0) (pa_cons pe_str pa_nil))))
      (pss_one (ps_fst (pv 0) (pv 1)))), ?_⟩
    walk_at "rd"
    refine ⟨a, C, _, rfl, by simp, T, ha, ?_⟩
    walk_at "rd"
    exact ⟨a, C, rfl, T, no, ha, fun dx n ne => k dx n ne⟩
end
end Sw
namespace Sw
open PySem PySem.Spec PyProof.Rows L2
local macro_rules | `(tactic| walk_at "hp") => `(tactic| first
  | (with_reducible assumption) | (with_reducible exact upd_same)
  | ((with_reducible refine' upd_old ?q1 ?q2); (case q1 => (with_reducible assumption)); (case q2 => walk_at "hp"))
  | ((with_reducible refine' Same.at ?q1 ?q2); (case q1 => (with_reducible assumption)); (case q2 => walk_at "hp"))
  | ((with_reducible refine' upd_skip ?q1 ?q2); (case q1 => walk_at "ne"); (case q2 => walk_at "hp"))
  | fail)
local macro_rules | `(tactic| walk_at "ne") => `(tactic| first
  | (with_reducible assumption) | (with_reducible exact Ne.symm (by assumption))
  | ((with_reducible refine' ne_of_none ?q1 ?q2); (case q2 => (with_reducible assumption)); (case q1 => walk_at "hp"))
  | fail)
local macro_rules | `(tactic| walk_at "ci") => `(tactic| first | assumption | (show (0 : Int) < _; first | decide | (with_reducible omega)) | exact ⟨by decide, by decide⟩ | exact .inl ⟨by decide, by decide⟩ | exact .inr ⟨by decide, by decide⟩)
local macro_rules | `(tactic| walk_at "ln") => `(tactic| first | (with_reducible assumption) | (with_reducible omega) | (simp only [List.length_append, List.length_take, List.length_drop, List.length_reverse, List.length_cons, List.length_nil]; with_reducible omega))
local macro_rules | `(tactic| walk_at "rd1") => `(tactic| first
  | (with_reducible refine i_seq ?_) | (with_reducible refine i_asg ?_) | (with_reducible refine i_ret ?_) | (with_reducible refine i_name ?_) | ((with_reducible refine' i_var ?q1 ?_); (case q1 => exact rfl)) | (with_reducible refine i_c ?_) | (with_reducible refine i_op ?_) | (with_reducible refine i_un ?_)
  | (with_reducible refine i_rI0 ?_) | (with_reducible refine i_cb ?_) | (with_reducible refine i_cons ?_) | (with_reducible refine i_nil ?_) | (with_reducible refine i_call ?_) | (with_reducible refine i_if ?_) | (with_reducible refine i_ifE ?_) | (with_reducible refine i_test ?_) | (with_reducible refine i_bl ?_)
  | (with_reducible refine i_and ?_) | (with_reducible refine i_or ?_) | (with_reducible refine i_not ?_) | (with_reducible refine i_lst ?_) | (with_reducible refine i_tup ?_) | (with_reducible refine i_next ?_) | (with_reducible refine i_drop ?_) | (with_reducible refine i_sub ?_)
  | (with_reducible refine i_bm ?_) | (with_reducible refine i_sl ?_) | (with_reducible refine i_part ?_) | (with_reducible refine i_nopart ?_) | (with_reducible refine i_exI ?_) | (with_reducible refine i_chain ?_) | ((with_reducible refine' i_aug ?q1 ?_); (case q1 => exact rfl)) | (with_reducible refine i_ip ?_)
  | (with_reducible refine i_par ?_) | (with_reducible refine i_pair ?_) | (with_reducible refine i_andV ?_) | (with_reducible refine i_orV ?_) | (with_reducible refine i_notV ?_) | (with_reducible refine i_m1 ?_) | (with_reducible refine i_str ?_)
  | (with_reducible refine iteF ?_) | (with_reducible refine iteT ?_) | (with_reducible refine iteNT ?_) | (with_reducible refine iteNF ?_) | (with_reducible refine i_tyS ?_) | (with_reducible refine i_tB ?_) | (with_reducible refine i_retN ?_) | (with_reducible refine i_par3 ?_) | (with_reducible refine i_trip ?_) | (with_reducible refine i_gCons ?_) | (with_reducible refine i_gNil ?_) | (with_reducible refine i_lstRg ?_) | (with_reducible refine i_rg1 ?_)
  | (with_reducible refine i_lc ?_) | (with_reducible refine i_for ?_) | (with_reducible refine i_iList ?_) | (with_reducible refine i_iTup ?_) | (with_reducible refine i_iStr ?_) | (with_reducible refine i_iRng1 ?_) | (with_reducible refine i_iEnS ?_)
  | ((with_reducible refine' i_ixTH ?q1 ?q2 ?_); (case q1 => walk_at "hp"); (case q2 => exact rfl))
  | ((with_reducible refine' i_ixLH ?q1 ?q2 ?_); (case q1 => walk_at "hp"); (case q2 => exact rfl))
  | ((with_reducible refine i_addS ?q1 ?_); (case q1 => walk_at "ln")) | ((with_reducible refine i_lenSS ?q1 ?_); (case q1 => walk_at "ln")) | ((with_reducible refine i_slFrom ?q1 ?q2 ?_); (case q1 => walk_at "ln"); (case q2 => walk_at "ln")) | ((with_reducible refine i_slTo ?q1 ?q2 ?_); (case q1 => walk_at "ln"); (case q2 => walk_at "ln"))
  | ((with_reducible refine' i_tyL ?q1 ?_); (case q1 => walk_at "hp"))
  | ((with_reducible refine' i_gTupH ?q1 ?q2 ?_); (case q1 => walk_at "hp"); (case q2 => exact rfl))
  | (with_reducible refine i_dnew ?_) | (with_reducible refine i_init ?_) | (with_reducible refine i_fst ?_) | (with_reducible refine i_mk ?_) | (with_reducible refine i_raise ?_) | (with_reducible refine i_callS ?_) | (with_reducible refine i_kwS ?_)
  | (with_reducible refine i_revT ?_) | (with_reducible refine i_kw ?_) | ((with_reducible refine' ⟨_, _, rfl, sqT_of ?q1, ?_⟩); (case q1 => walk_at "hp"))
  | (with_reducible refine i_revS ?_) | ((with_reducible refine i_revSS ?q1 ?_); (case q1 => walk_at "ln"))
  | (with_reducible refine i_startS ?_) | (with_reducible refine i_inSg ?_) | (with_reducible refine i_absN ?_) | (with_reducible refine i_min2 ?_) | (with_reducible refine i_max2 ?_) | (with_reducible refine i_min3 ?_) | (with_reducible refine i_intN ?_) | (with_reducible refine i_intNB ?_)
  | ((with_reducible refine' i_lenL ?q1 ?_); (case q1 => walk_at "hp")) | ((with_reducible refine' i_lenT ?q1 ?_); (case q1 => walk_at "hp"))
  | (with_reducible refine i_eqI ?_) | (with_reducible refine i_neI ?_) | (with_reducible refine i_eqS ?_) | (with_reducible refine i_neS ?_) | (with_reducible refine i_isNoI ?_) | (with_reducible refine i_isNoN ?_) | (with_reducible refine i_isNoR ?_)
  | ((with_reducible refine i_pow ?q1 ?q2 ?q3 ?_); (case q1 => decide); (case q2 => decide); (case q3 => (with_reducible omega)))
  | ((with_reducible refine i_rI ?q1 ?_); (case q1 => walk_at "ci"))
  | (with_reducible refine Or.inl ⟨_, rfl, ?_⟩) | (with_reducible refine Or.inr ⟨_, rfl, ?_⟩) | (with_reducible refine ⟨_, rfl, ?_⟩) | (with_reducible refine ⟨_, _, rfl, ?_⟩) | (with_reducible refine ⟨_, _, rfl, rfl, ?_⟩)
  | ((with_reducible refine' ⟨_, _, rfl, Or.inl (sqL_of ?q1), ?_⟩); (case q1 => walk_at "hp")) | ((with_reducible refine' ⟨_, _, rfl, Or.inr (sqT_of ?q1), ?_⟩); (case q1 => walk_at "hp")) | fail)
local macro_rules | `(tactic| walk_at "rd") => `(tactic| repeat' walk_at "rd1")

section
variable {P : Program} {w : World} {K : PySem.W.Frag} {mg : Str → Option Value} {base : Heap} {f : Addr} {fd : FuncData}
theorem ok__law_take (F : Fun K "_law_take" "_law_take" s__law_take f fd) (z : Z mg) : FnOk P w K mg base CX0 1 f fd ["box", "many"] spTake := by
  refine F.ok sc__law_take (fun vs H Q E h => ?_) (fun cdv A outer s H vs Q E hr h => ?_)
  · obtain ⟨b, m, d, rfl, _⟩ := h; rfl
  · obtain ⟨b, m, d, rfl, B, hd, hm, hm2, k⟩ := h
    obtain ⟨n, g, c, e, hb, hn, hc0, hc1, he0, he1⟩ := B.ex
    have L : SqL K H b [.int n, .bl g, .int c, .int e] := .inl (.inl hb)
    refine ⟨_, (pss_cons (ps_if (PW.pt (pw_and (pt_val (pe_ix ix_list (pv 0) pe_int (fun _ _ => rfl))) (pw_and1 (pt_cmpR op_gt (pe_ix ix_list (pv 0) pe_int (fun _ _ => rfl)) pe_int (nomark _)))))
        (pss_cons (ps_set (i := 2) sc__law_take.nd rfl (.inl rfl) (pe_op op_mod (pe_callTy call_intN (by rfl) z.int (by decide +kernel) (pa_cons (pe_ix ix_list (pv 0) pe_int (fun _ _ => rfl)) pa_nil)) (pv 1)))
        (pss_cons (ps_asg (pe_op op_fdivW (pe_ix ix_list (pv 0) pe_int (fun _ _ => rfl)) (pv 1)) (pg_sub (pv 0) pe_int set_list))
        (pss_one (ps_ret (pv 2)))))
        pss_nil)
      (pss_cons (ps_asg (pe_op op_add (pe_ix ix_list (pv 0) pe_int (fun _ _ => rfl)) pe_int) (pg_sub (pv 0) pe_int set_list))
      (pss_cons (ps_set (i := 3) sc__law_take.nd rfl (.inl rfl) (pe_op op_mod (pe_callTy call_intN (by rfl) z.int (by decide +kernel) (pa_cons (pe_op op_pow (pe_op op_add (pe_op op_add (pe_ix ix_list (pv 0) pe_int (fun _ _ => rfl)) (pe_op op_mul pe_int (pe_ix ix_list (pv 0) pe_int (fun _ _ => rfl)))) pe_int) pe_int) pa_nil)) pe_int))
      (pss_one (ps_ret (pe_op op_mod (pe_op op_fdiv (pe_op op_mod (pe_callTy call_intN (by rfl) z.int (by decide +kernel) (pa_cons (pe_op op_pow (pe_op op_add (pe_op op_mul (pv 3) pe_int) (pe_op op_mul pe_int (pe_ix ix_list (pv 0) pe_int (fun _ _ => rfl)))) pe_int) pa_nil)) pe_int) pe_int) (pv 1))))))), ?_⟩
    walk_at "rd"
    refine iteC (fun hg => ?_) (fun hg => ?_)
    · walk_at "rd"
      refine iteB (fun h0 => ?_) (fun h0 => ?_)
      · walk_at "rd"
        refine i_rI (wide_div hm (by omega : m.natAbs < 2 ^ 64) (by decide) (by decide)) ?_
        walk_at "rd"
        refine i_setL hb rfl ?_
        walk_at "rd"
        refine k _ _ (Int.emod_nonneg _ (by omega)) (Int.emod_lt_of_pos _ hm) ⟨n / m, g, c, e, upd_same, Int.ediv_nonneg hn (by omega), hc0, hc1, he0, by omega⟩ SB.upd
      · walk_at "rd"
        refine i_setL hb rfl ?_
        walk_at "rd"
        exact k _ _ (Int.emod_nonneg _ (by omega)) (Int.emod_lt_of_pos _ hm) ⟨n, g, c, e + 1, upd_same, hn, hc0, hc1, by omega, by omega⟩ SB.upd
    · walk_at "rd"
      refine i_setL hb rfl ?_
      walk_at "rd"
      exact k _ _ (Int.emod_nonneg _ (by omega)) (Int.emod_lt_of_pos _ hm) ⟨n, g, c, e + 1, upd_same, hn, hc0, hc1, by omega, by omega⟩ SB.upd
theorem ok__law_box (F : Fun K "_law_box" "_law_box" s__law_box f fd) (z : Z mg) : FnOk P w K mg base CX0 1 f fd ["great"] spBox := by
  refine F.ok sc__law_box (fun vs H Q E h => ?_) (fun cdv A outer s H vs Q E hr h => ?_)
  · obtain ⟨n, rfl, _⟩ := h; rfl
  · obtain ⟨n, rfl, k⟩ := h
    refine ⟨_, (pss_one (ps_ret (pe_lst (pa_cons (pe_callB call_absN (by rfl) z.abs (by decide +kernel) (pa_cons (pv 0) pa_nil)) (pa_cons (pe_cmpR op_ge (pe_callB call_absN (by rfl) z.abs (by decide +kernel) (pa_cons (pv 0) pa_nil)) (pe_op op_pow pe_int pe_int) (nomark _)) (pa_cons (pe_op op_mod (pe_callTy call_intN (by rfl) z.int (by decide +kernel) (pa_cons (pe_callB call_absN (by rfl) z.abs (by decide +kernel) (pa_cons (pv 0) pa_nil)) pa_nil)) pe_int) (pa_cons pe_int pa_nil))))))), ?_⟩
    walk_at "rd"
    have q0 := Int.emod_nonneg (if n < 0 then -n else n) (show (2147483629 : Int) ≠ 0 by decide)
    have q1 := Int.emod_lt_of_pos (if n < 0 then -n else n) (show (0 : Int) < 2147483629 by decide)
    refine ⟨Nat.le_of_ble_eq_true rfl, fun p np => ?_⟩
    refine k p _ np (same_upd np) ⟨_, _, _, _, upd_same, by split <;> omega, q0, q1, by omega, by omega⟩
theorem ok__law_cell (F : Fun K "_law_cell" "_law_cell" s__law_cell f fd) (z : Z mg) : FnOk P w K mg base CX0 1 f fd ["script", "k"] (spCell K) := by
  refine F.ok sc__law_cell (fun vs H Q E h => ?_) (fun cdv A outer s H vs Q E hr h => ?_)
  · obtain ⟨a, ns, j, rfl, _⟩ := h; rfl
  · obtain ⟨a, ns, j, rfl, L, h0, h1, k⟩ := h
    refine ⟨_, (pss_one (ps_ret (pe_ifExp (pt_cmpR op_lt (pv 1) (pe_callB call_lenQ (by rfl) z.len PySem.boot_len (pa_cons (pv 0) pa_nil)) (nomark _)) (pe_ix ix_list (pv 0) (pv 1) (fun _ _ => rfl)) (pe_op op_add (pe_op op_mul pe_int (pv 1)) (pe_op op_mod (pe_callB (cr_sum rfl) (by rfl) z.sum (by decide +kernel) (pa_cons (pe_slice sl_list (pv 0) po_none (po_some pe_int)) pa_nil)) pe_int))))), ?_⟩
    walk_at "rd"
    refine i_lenK L ?_
    walk_at "rd"
    rw [List.length_map]
    refine iteB (fun hlt => ?_) (fun hlt => ?_)
    · walk_at "rd"
      refine i_ixL L (atI_ints h0 hlt) ?_
      exact k _ _ (Same.refl _)
    · walk_at "rd"
      refine ⟨a, _, rfl, L, fun p np => ?_⟩
      walk_at "rd"
      have e : cutV (ns.map V.int) none (some 1) = (ns.take 1).map V.int := by
        unfold cutV
        rw [show HT.sIx (ns.map V.int).length (ns.map V.int).length (some 1) = min 1 (ns.map V.int).length from HT.sIx_nat _ _ 1, HT.sIx_none, List.drop_zero, Nat.sub_zero, List.map_take]
        rcases Nat.le_total 1 (ns.map V.int).length with q | q
        · rw [Nat.min_eq_left q]
        · rw [Nat.min_eq_right q, List.take_length, List.take_of_length_le q]
      rw [e]
      refine ⟨p, ns.take 1, rfl, sqL_of upd_same, ?_⟩
      walk_at "rd"
      exact k _ _ (same_upd np)
end
end Sw
namespace Sw
open PySem PySem.Spec PyProof.Rows L2
local macro_rules | `(tactic| walk_at "hp") => `(tactic| first
  | (with_reducible assumption) | (with_reducible exact upd_same)
  | ((with_reducible refine' upd_old ?q1 ?q2); (case q1 => (with_reducible assumption)); (case q2 => walk_at "hp"))
  | ((with_reducible refine' Same.at ?q1 ?q2); (case q1 => (with_reducible assumption)); (case q2 => walk_at "hp"))
  | ((with_reducible refine' upd_skip ?q1 ?q2); (case q1 => walk_at "ne"); (case q2 => walk_at "hp"))
  | fail)
local macro_rules | `(tactic| walk_at "ne") => `(tactic| first
  | (with_reducible assumption) | (with_reducible exact Ne.symm (by assumption))
  | ((with_reducible refine' ne_of_none ?q1 ?q2); (case q2 => (with_reducible assumption)); (case q1 => walk_at "hp"))
  | fail)
local macro_rules | `(tactic| walk_at "ci") => `(tactic| first | assumption | (show (0 : Int) < _; first | decide | (with_reducible omega)) | exact ⟨by decide, by decide⟩ | exact .inl ⟨by decide, by decide⟩ | exact .inr ⟨by decide, by decide⟩)
local macro_rules | `(tactic| walk_at "ln") => `(tactic| first | (with_reducible assumption) | (with_reducible omega) | (simp only [List.length_append, List.length_take, List.length_drop, List.length_reverse, List.length_cons, List.length_nil]; with_reducible omega))
local macro_rules | `(tactic| walk_at "rd1") => `(tactic| first
  | (with_reducible refine i_seq ?_) | (with_reducible refine i_asg ?_) | (with_reducible refine i_ret ?_) | (with_reducible refine i_name ?_) | ((with_reducible refine' i_var ?q1 ?_); (case q1 => exact rfl)) | (with_reducible refine i_c ?_) | (with_reducible refine i_op ?_) | (with_reducible refine i_un ?_)
  | (with_reducible refine i_rI0 ?_) | (with_reducible refine i_cb ?_) | (with_reducible refine i_cons ?_) | (with_reducible refine i_nil ?_) | (with_reducible refine i_call ?_) | (with_reducible refine i_if ?_) | (with_reducible refine i_ifE ?_) | (with_reducible refine i_test ?_) | (with_reducible refine i_bl ?_)
  | (with_reducible refine i_and ?_) | (with_reducible refine i_or ?_) | (with_reducible refine i_not ?_) | (with_reducible refine i_lst ?_) | (with_reducible refine i_tup ?_) | (with_reducible refine i_next ?_) | (with_reducible refine i_drop ?_) | (with_reducible refine i_sub ?_)
  | (with_reducible refine i_bm ?_) | (with_reducible refine i_sl ?_) | (with_reducible refine i_part ?_) | (with_reducible refine i_nopart ?_) | (with_reducible refine i_exI ?_) | (with_reducible refine i_chain ?_) | ((with_reducible refine' i_aug ?q1 ?_); (case q1 => exact rfl)) | (with_reducible refine i_ip ?_)
  | (with_reducible refine i_par ?_) | (with_reducible refine i_pair ?_) | (with_reducible refine i_andV ?_) | (with_reducible refine i_orV ?_) | (with_reducible refine i_notV ?_) | (with_reducible refine i_m1 ?_) | (with_reducible refine i_str ?_)
  | (with_reducible refine iteF ?_) | (with_reducible refine iteT ?_) | (with_reducible refine iteNT ?_) | (with_reducible refine iteNF ?_) | (with_reducible refine i_tyS ?_) | (with_reducible refine i_tB ?_) | (with_reducible refine i_retN ?_) | (with_reducible refine i_par3 ?_) | (with_reducible refine i_trip ?_) | (with_reducible refine i_gCons ?_) | (with_reducible refine i_gNil ?_) | (with_reducible refine i_lstRg ?_) | (with_reducible refine i_rg1 ?_)
  | (with_reducible refine i_lc ?_) | (with_reducible refine i_for ?_) | (with_reducible refine i_iList ?_) | (with_reducible refine i_iTup ?_) | (with_reducible refine i_iStr ?_) | (with_reducible refine i_iRng1 ?_) | (with_reducible refine i_iEnS ?_)
  | ((with_reducible refine' i_ixTH ?q1 ?q2 ?_); (case q1 => walk_at "hp"); (case q2 => exact rfl))
  | ((with_reducible refine' i_ixLH ?q1 ?q2 ?_); (case q1 => walk_at "hp"); (case q2 => exact rfl))
  | ((with_reducible refine i_addS ?q1 ?_); (case q1 => walk_at "ln")) | ((with_reducible refine i_lenSS ?q1 ?_); (case q1 => walk_at "ln")) | ((with_reducible refine i_slFrom ?q1 ?q2 ?_); (case q1 => walk_at "ln"); (case q2 => walk_at "ln")) | ((with_reducible refine i_slTo ?q1 ?q2 ?_); (case q1 => walk_at "ln"); (case q2 => walk_at "ln"))
  | ((with_reducible refine' i_tyL ?q1 ?_); (case q1 => walk_at "hp"))
  | ((with_reducible refine' i_gTupH ?q1 ?q2 ?_); (case q1 => walk_at "hp"); (case q2 => exact rfl))
  | (with_reducible refine i_dnew ?_) | (with_reducible refine i_init ?_) | (with_reducible refine i_fst ?_) | (with_reducible refine i_mk ?_) | (with_reducible refine i_raise ?_) | (with_reducible refine i_callS ?_) | (with_reducible refine i_kwS ?_)
  | (with_reducible refine i_revT ?_) | (with_reducible refine i_kw ?_) | ((with_reducible refine' ⟨_, _, rfl, sqT_of ?q1, ?_⟩); (case q1 => walk_at "hp"))
  | (with_reducible refine i_revS ?_) | ((with_reducible refine i_revSS ?q1 ?_); (case q1 => walk_at "ln"))
  | (with_reducible refine i_startS ?_) | (with_reducible refine i_inSg ?_) | (with_reducible refine i_absN ?_) | (with_reducible refine i_min2 ?_) | (with_reducible refine i_max2 ?_) | (with_reducible refine i_min3 ?_) | (with_reducible refine i_intN ?_) | (with_reducible refine i_intNB ?_)
  | ((with_reducible refine' i_lenL ?q1 ?_); (case q1 => walk_at "hp")) | ((with_reducible refine' i_lenT ?q1 ?_); (case q1 => walk_at "hp"))
  | (with_reducible refine i_eqI ?_) | (with_reducible refine i_neI ?_) | (with_reducible refine i_eqS ?_) | (with_reducible refine i_neS ?_) | (with_reducible refine i_isNoI ?_) | (with_reducible refine i_isNoN ?_) | (with_reducible refine i_isNoR ?_)
  | ((with_reducible refine i_pow ?q1 ?q2 ?q3 ?_); (case q1 => decide); (case q2 => decide); (case q3 => (with_reducible omega)))
  | ((with_reducible refine i_rI ?q1 ?_); (case q1 => walk_at "ci"))
  | (with_reducible refine Or.inl ⟨_, rfl, ?_⟩) | (with_reducible refine Or.inr ⟨_, rfl, ?_⟩) | (with_reducible refine ⟨_, rfl, ?_⟩) | (with_reducible refine ⟨_, _, rfl, ?_⟩) | (with_reducible refine ⟨_, _, rfl, rfl, ?_⟩)
  | ((with_reducible refine' ⟨_, _, rfl, Or.inl (sqL_of ?q1), ?_⟩); (case q1 => walk_at "hp")) | ((with_reducible refine' ⟨_, _, rfl, Or.inr (sqT_of ?q1), ?_⟩); (case q1 => walk_at "hp")) | fail)
local macro_rules | `(tactic| walk_at "rd") => `(tactic| repeat' walk_at "rd1")

/-- is_text(value) -/
def spIsText (K : PySem.W.Frag) : Sp := fun vs H Q _ => ∃ x, vs = [x] ∧ ((∃ l, x = .str (S l) ∧ l.length ≤ 100000 ∧ ∀ H', Same H H' → Q (.bl (azB l)) H') ∨
  (∃ t, TyX K H x t ∧ PySem.W.kitOne K t (.type "str") = some false ∧ Q (.bl false) H))
/-- check_text(text), of a text -/
def spCheckText : Sp := fun vs H Q _ => ∃ l, vs = [.str (S l)] ∧ l.length ≤ 100000 ∧ azB l = true ∧ ∀ H', Same H H' → Q .non H'
/-- is_lag(value), of a lag -/
def spIsLag (K : PySem.W.Frag) : Sp := fun vs H Q _ => ∃ a l r, vs = [.ref a] ∧ H a = some (.tup [.str (S l), .str (S r)]) ∧ l.length ≤ 100000 ∧ r.length ≤ 100000 ∧ azB l = true ∧ azB r = true ∧ (l = [] ∨ r = []) ∧
  ∀ H', Same H H' → Q (.bl true) H'
section
variable {P : Program} {w : World} {K : PySem.W.Frag} {mg : Str → Option Value} {base : Heap} {f : Addr} {fd : FuncData}
theorem ok_is_text (F : Fun K "is_text" "is_text" s_is_text f fd) (z : Z mg) {t : Tok} (g_LETTERS : mg "LETTERS" = some (.str (("abcdefghijklmnopqrstuvwxyz" : Str)) t)) : FnOk P w K mg base CX0 1 f fd ["value"] (spIsText K) := by
  refine F.ok sc_is_text (fun vs H Q E h => ?_) (fun cdv A outer s H vs Q E hr h => ?_)
  · obtain ⟨x, rfl, _⟩ := h; rfl
  · obtain ⟨x, rfl, h⟩ := h
    refine ⟨_, (pss_one (ps_ret (pe_and (pe_callB call_isi (by rfl) z.isinstance (by decide +kernel) (pa_cons (pv 0) (pa_cons (pe_bltn (v := .ty "str") (by rfl) z.str (by decide +kernel) rfl) pa_nil))) (pe_one (pe_callB (cr_all rfl) (by rfl) z.all (by decide +kernel) (pa_cons (pe_lc (own := [("letter", 1)]) (g := gName 1) (tt := tYes) rfl sc_is_text.nd (pi_str (pv 0)) (blkOk_by (own := [("letter", 1)]) (N := n_is_text) (sc := defScope s_is_text) (by decide +kernel)) (fun _ _ _ _ _ => (pg_name (i := 1) sc_is_text.nd rfl (.inl rfl))) (fun _ _ _ _ _ => pts_nil) (fun _ _ _ _ _ => (pe_cmpR op_inSg (pv 1) (pe_glob (v := .str ("abcdefghijklmnopqrstuvwxyz" : Str)) rfl g_LETTERS ⟨_, rfl⟩) rfl))) pa_nil)))))), ?_⟩
    walk_at "rd"
    rcases h with ⟨l, rfl, hl, k⟩ | ⟨t, ty, kt, k⟩
    · refine i_isi true (.base (.str _)) (kit_ty (by decide +kernel)) ?_
      walk_at "rd"
      refine go_map walk_S (fun i => V.bl (decide (97 ≤ l.getD i 0 ∧ l.getD i 0 ≤ 122))) (by omega) (fun _ _ => trivial) (fun i x H2 H3 hi s2 y R hR => ?_) mono_name (fun p H2 np s2 e2 => ?_)
      · obtain ⟨rfl, c, hc, rfl⟩ := y
        have ec : l.getD i 0 = c := by rw [List.getD_eq_getElem?_getD, hc]; rfl
        walk_at "rd"
        refine ⟨rfl, ?_⟩
        walk_at "rd"
        rw [az_in, ← ec]
        exact hR _ (Same.refl _)
      · walk_at "rd"
        have e3 : H2 p = some (.lst (((List.range l.length).map fun i => decide (97 ≤ l.getD i 0 ∧ l.getD i 0 ≤ 122)).map V.bl)) := by
          rw [e2, List.map_map]
          rfl
        refine i_all e3 ?_
        rw [range_map_get l _ (fun c => decide (97 ≤ c ∧ c ≤ 122)) (fun i x hx => by rw [List.getD_eq_getElem?_getD, hx]; rfl), List.all_map]
        exact k _ s2
    · refine i_isi false ty kt ?_
      walk_at "rd"
      exact k
theorem ok_check_text (F : Fun K "check_text" "check_text" s_check_text f fd) (c_is_text : Cal P w K mg base "is_text" ["value"] 1 (spIsText K)) : FnOk P w K mg base CX0 2 f fd ["text"] spCheckText := by
  refine F.ok sc_check_text (fun vs H Q E h => ?_) (fun cdv A outer s H vs Q E hr h => ?_)
  · obtain ⟨l, rfl, _⟩ := h; rfl
  · obtain ⟨l, rfl, hl, ha, k⟩ := h
    refine ⟨_, (pss_one (ps_if (pt_not (pt_val (pe_cal c_is_text hr (pa_cons (pv 0) pa_nil))))
        (pss_one ps_never)
        pss_nil)), ?_⟩
    walk_at "rd"
    refine ⟨_, rfl, .inl ⟨l, rfl, hl, fun H' s' => ?_⟩⟩
    rw [ha]
    walk_at "rd"
    exact k _ s'
theorem ok_is_lag (F : Fun K "is_lag" "is_lag" s_is_lag f fd) (z : Z mg) (c_is_text : Cal P w K mg base "is_text" ["value"] 1 (spIsText K)) : FnOk P w K mg base CX0 2 f fd ["value"] (spIsLag K) := by
  refine F.ok sc_is_lag (fun vs H Q E h => ?_) (fun cdv A outer s H vs Q E hr h => ?_)
  · obtain ⟨a, l, r, rfl, _⟩ := h; rfl
  · obtain ⟨a, l, r, rfl, ha, hl, hr', azl, azr, he, k⟩ := h
    refine ⟨_, (pss_cons (ps_if (PW.pt (pw_or (pt_not (pt_val (pe_callB call_isi (by rfl) z.isinstance (by decide +kernel) (pa_cons (pv 0) (pa_cons (pe_bltn (v := .ty "tuple") (by rfl) z.tuple (by decide +kernel) rfl) pa_nil))))) (pw_or1 (pt_cmpR op_ne (pe_callB call_lenQ (by rfl) z.len PySem.boot_len (pa_cons (pv 0) pa_nil)) pe_int (nomark _)))))
        (pss_one (ps_ret pe_bl))
        pss_nil)
      (pss_one (ps_ret (pe_and (pe_cal c_is_text hr (pa_cons (pe_ix ix_tup (pv 0) pe_int (fun _ _ => rfl)) pa_nil)) (pe_and (pe_cal c_is_text hr (pa_cons (pe_ix ix_tup (pv 0) pe_int (fun _ _ => rfl)) pa_nil)) (pe_one (pe_cmpR op_in_seq (pe_strS (l := []) (by decide +kernel)) (pv 0) (by rfl)))))))), ?_⟩
    walk_at "rd"
    refine i_isi true (.base (.tup ha)) (kit_ty (by decide +kernel)) ?_
    walk_at "rd"
    refine iteNB (fun q => absurd rfl q) (fun _ => ?_)
    walk_at "rd"
    refine ⟨_, rfl, .inl ⟨l, rfl, hl, fun H1 s1 => ?_⟩⟩
    rw [azl]
    walk_at "rd"
    refine ⟨_, rfl, .inl ⟨r, rfl, hr', fun H2 s2 => ?_⟩⟩
    rw [azr]
    walk_at "rd"
    refine i_inSeq (xs := [.str (S l), .str (S r)]) (.inr (sqT_of (Same.at s2 (Same.at s1 ha)))) rfl rfl ?_
    have e : inV (.str (S [])) [.str (S l), .str (S r)] = true := by
      unfold inV
      rcases he with rfl | rfl <;> simp [eqV]
    rw [e]
    exact k _ (s1.trans s2)
end
end Sw
namespace Sw
open PySem PySem.Spec PyProof.Rows L2
local macro_rules | `(tactic| walk_at "hp") => `(tactic| first
  | (with_reducible assumption) | (with_reducible exact upd_same)
  | ((with_reducible refine' upd_old ?q1 ?q2); (case q1 => (with_reducible assumption)); (case q2 => walk_at "hp"))
  | ((with_reducible refine' Same.at ?q1 ?q2); (case q1 => (with_reducible assumption)); (case q2 => walk_at "hp"))
  | ((with_reducible refine' upd_skip ?q1 ?q2); (case q1 => walk_at "ne"); (case q2 => walk_at "hp"))
  | fail)
local macro_rules | `(tactic| walk_at "ne") => `(tactic| first
  | (with_reducible assumption) | (with_reducible exact Ne.symm (by assumption))
  | ((with_reducible refine' ne_of_none ?q1 ?q2); (case q2 => (with_reducible assumption)); (case q1 => walk_at "hp"))
  | fail)
local macro_rules | `(tactic| walk_at "ci") => `(tactic| first | assumption | (show (0 : Int) < _; first | decide | (with_reducible omega)) | exact ⟨by decide, by decide⟩ | exact .inl ⟨by decide, by decide⟩ | exact .inr ⟨by decide, by decide⟩)
local macro_rules | `(tactic| walk_at "ln") => `(tactic| first | (with_reducible assumption) | (with_reducible omega) | (simp only [List.length_append, List.length_take, List.length_drop, List.length_reverse, List.length_cons, List.length_nil]; with_reducible omega))
local macro_rules | `(tactic| walk_at "rd1") => `(tactic| first
  | (with_reducible refine i_seq ?_) | (with_reducible refine i_asg ?_) | (with_reducible refine i_ret ?_) | (with_reducible refine i_name ?_) | ((with_reducible refine' i_var ?q1 ?_); (case q1 => exact rfl)) | (with_reducible refine i_c ?_) | (with_reducible refine i_op ?_) | (with_reducible refine i_un ?_)
  | (with_reducible refine i_rI0 ?_) | (with_reducible refine i_cb ?_) | (with_reducible refine i_cons ?_) | (with_reducible refine i_nil ?_) | (with_reducible refine i_call ?_) | (with_reducible refine i_if ?_) | (with_reducible refine i_ifE ?_) | (with_reducible refine i_test ?_) | (with_reducible refine i_bl ?_)
  | (with_reducible refine i_and ?_) | (with_reducible refine i_or ?_) | (with_reducible refine i_not ?_) | (with_reducible refine i_lst ?_) | (with_reducible refine i_tup ?_) | (with_reducible refine i_next ?_) | (with_reducible refine i_drop ?_) | (with_reducible refine i_sub ?_)
  | (with_reducible refine i_bm ?_) | (with_reducible refine i_sl ?_) | (with_reducible refine i_part ?_) | (with_reducible refine i_nopart ?_) | (with_reducible refine i_exI ?_) | (with_reducible refine i_chain ?_) | ((with_reducible refine' i_aug ?q1 ?_); (case q1 => exact rfl)) | (with_reducible refine i_ip ?_)
  | (with_reducible refine i_par ?_) | (with_reducible refine i_pair ?_) | (with_reducible refine i_andV ?_) | (with_reducible refine i_orV ?_) | (with_reducible refine i_notV ?_) | (with_reducible refine i_m1 ?_) | (with_reducible refine i_str ?_)
  | (with_reducible refine iteF ?_) | (with_reducible refine iteT ?_) | (with_reducible refine iteNT ?_) | (with_reducible refine iteNF ?_) | (with_reducible refine i_tyS ?_) | (with_reducible refine i_tB ?_) | (with_reducible refine i_retN ?_) | (with_reducible refine i_par3 ?_) | (with_reducible refine i_trip ?_) | (with_reducible refine i_gCons ?_) | (with_reducible refine i_gNil ?_) | (with_reducible refine i_lstRg ?_) | (with_reducible refine i_rg1 ?_)
  | (with_reducible refine i_lc ?_) | (with_reducible refine i_for ?_) | (with_reducible refine i_iList ?_) | (with_reducible refine i_iTup ?_) | (with_reducible refine i_iStr ?_) | (with_reducible refine i_iRng1 ?_) | (with_reducible refine i_iEnS ?_)
  | ((with_reducible refine' i_ixTH ?q1 ?q2 ?_); (case q1 => walk_at "hp"); (case q2 => exact rfl))
  | ((with_reducible refine' i_ixLH ?q1 ?q2 ?_); (case q1 => walk_at "hp"); (case q2 => exact rfl))
  | ((with_reducible refine i_addS ?q1 ?_); (case q1 => walk_at "ln")) | ((with_reducible refine i_lenSS ?q1 ?_); (case q1 => walk_at "ln")) | ((with_reducible refine i_slFrom ?q1 ?q2 ?_); (case q1 => walk_at "ln"); (case q2 => walk_at "ln")) | ((with_reducible refine i_slTo ?q1 ?q2 ?_); (case q1 => walk_at "ln"); (case q2 => walk_at "ln"))
  | ((with_reducible refine' i_tyL ?q1 ?_); (case q1 => walk_at "hp"))
  | ((with_reducible refine' i_gTupH ?q1 ?q2 ?_); (case q1 => walk_at "hp"); (case q2 => exact rfl))
  | (with_reducible refine i_dnew ?_) | (with_reducible refine i_init ?_) | (with_reducible refine i_fst ?_) | (with_reducible refine i_mk ?_) | (with_reducible refine i_raise ?_) | (with_reducible refine i_callS ?_) | (with_reducible refine i_kwS ?_)
  | (with_reducible refine i_revT ?_) | (with_reducible refine i_kw ?_) | ((with_reducible refine' ⟨_, _, rfl, sqT_of ?q1, ?_⟩); (case q1 => walk_at "hp"))
  | (with_reducible refine i_revS ?_) | ((with_reducible refine i_revSS ?q1 ?_); (case q1 => walk_at "ln"))
  | (with_reducible refine i_startS ?_) | (with_reducible refine i_inSg ?_) | (with_reducible refine i_absN ?_) | (with_reducible refine i_min2 ?_) | (with_reducible refine i_max2 ?_) | (with_reducible refine i_min3 ?_) | (with_reducible refine i_intN ?_) | (with_reducible refine i_intNB ?_)
  | ((with_reducible refine' i_lenL ?q1 ?_); (case q1 => walk_at "hp")) | ((with_reducible refine' i_lenT ?q1 ?_); (case q1 => walk_at "hp"))
  | (with_reducible refine i_eqI ?_) | (with_reducible refine i_neI ?_) | (with_reducible refine i_eqS ?_) | (with_reducible refine i_neS ?_) | (with_reducible refine i_isNoI ?_) | (with_reducible refine i_isNoN ?_) | (with_reducible refine i_isNoR ?_)
  | ((with_reducible refine i_pow ?q1 ?q2 ?q3 ?_); (case q1 => decide); (case q2 => decide); (case q3 => (with_reducible omega)))
  | ((with_reducible refine i_rI ?q1 ?_); (case q1 => walk_at "ci"))
  | (with_reducible refine Or.inl ⟨_, rfl, ?_⟩) | (with_reducible refine Or.inr ⟨_, rfl, ?_⟩) | (with_reducible refine ⟨_, rfl, ?_⟩) | (with_reducible refine ⟨_, _, rfl, ?_⟩) | (with_reducible refine ⟨_, _, rfl, rfl, ?_⟩)
  | ((with_reducible refine' ⟨_, _, rfl, Or.inl (sqL_of ?q1), ?_⟩); (case q1 => walk_at "hp")) | ((with_reducible refine' ⟨_, _, rfl, Or.inr (sqT_of ?q1), ?_⟩); (case q1 => walk_at "hp")) | fail)
local macro_rules | `(tactic| walk_at "rd") => `(tactic| repeat' walk_at "rd1")

theorem eqV_S (a b : List Nat) : eqV (.str (S a)) (.str (S b)) = decide (V.str (S a) = .str (S b)) := by
  show (S a == S b) = _
  rw [S_dec]
  by_cases c : a = b
  · rw [c, decide_eq_true rfl, beq_self_eq_true]
  · rw [decide_eq_false c, beq_eq_false_iff_ne]
    exact fun q => c (S_inj.mp q)
/-- whether is_text says yes -/
def IsT (K : PySem.W.Frag) (H : Hp) (v : V) (b : Bool) : Prop := (∃ l, v = .str (S l) ∧ l.length ≤ 100000 ∧ b = azB l) ∨ (∃ t, TyX K H v t ∧ PySem.W.kitOne K t (.type "str") = some false ∧ b = false)
theorem TyX.same {K : PySem.W.Frag} {H H' : Hp} {v : V} {t : Value} (s : Same H H') (h : TyX K H v t) : TyX K H' v t := by
  cases h with
  | base b =>
    cases b with
    | non => exact .base .non
    | bl x => exact .base (.bl x)
    | int i => exact .base (.int i)
    | str x => exact .base (.str x)
    | flt x => exact .base (.flt x)
    | lst e => exact .base (.lst (s _ _ e))
    | frz e => exact .base (.frz (s _ _ e))
    | tup e => exact .base (.tup (s _ _ e))
    | dK e => exact .base (.dK (s _ _ e))
    | dT e => exact .base (.dT (s _ _ e))
    | ins e cl ha hn htk hm => exact .base (.ins (s _ _ e) cl ha hn htk hm)
  | byt b => exact .byt b
  | set e => exact .set (s _ _ e)
  | kList e c => exact .kList e c
  | kTuple e c => exact .kTuple e c
  | kDict e c => exact .kDict e c
  | fTuple e => exact .fTuple (s _ _ e)
  | fDict e => exact .fDict (s _ _ e)
theorem IsT.same {K : PySem.W.Frag} {H H' : Hp} {v : V} {b : Bool} (s : Same H H') (h : IsT K H v b) : IsT K H' v b := by
  rcases h with h | ⟨t, h1, h2⟩
  · exact .inl h
  · exact .inr ⟨t, TyX.same s h1, h2⟩
/-- is_text(value) -/
def spIsT (K : PySem.W.Frag) : Sp := fun vs H Q _ => ∃ x b, vs = [x] ∧ IsT K H x b ∧ ∀ H', Same H H' → Q (.bl b) H'
/-- check_text(text) -/
def spCheckX (K : PySem.W.Frag) (C : Addr) : Sp := fun vs H Q E => ∃ x b, vs = [x] ∧ IsT K H x b ∧ (b = true → ∀ H', Same H H' → Q .non H') ∧
  (b = false → ∀ dx H', H dx = none → Same H H' → H' dx = some (.xd [("given", x)]) → E (.ref C) (some dx) H')
theorem IsT.yes {K : PySem.W.Frag} {H : Hp} {v : V} (h : IsT K H v true) : ∃ l, v = .str (S l) ∧ l.length ≤ 100000 ∧ azB l = true := by
  rcases h with ⟨l, h1, h2, h3⟩ | ⟨t, h1, h2, h3⟩
  · exact ⟨l, h1, h2, h3.symm⟩
  · cases h3
/-- whether is_lag says yes -/
def IsL (K : PySem.W.Frag) (H : Hp) (v : V) (b : Bool) : Prop := (∃ t, TyX K H v t ∧ PySem.W.kitOne K t (.type "tuple") = some false ∧ b = false) ∨ (∃ a xs, v = .ref a ∧ H a = some (.tup xs) ∧ xs.length ≠ 2 ∧ b = false) ∨
  (∃ a x y bx by', v = .ref a ∧ H a = some (.tup [x, y]) ∧ IsT K H x bx ∧ IsT K H y by' ∧ b = (bx && by' && (decide (x = .str (S [])) || decide (y = .str (S [])))))
theorem IsL.same {K : PySem.W.Frag} {H H' : Hp} {v : V} {b : Bool} (s : Same H H') (h : IsL K H v b) : IsL K H' v b := by
  rcases h with ⟨t, h1, h2⟩ | ⟨a, xs, rfl, h1, h2⟩ | ⟨a, x, y, bx, by', rfl, h1, h2, h3, h4⟩
  · exact .inl ⟨t, TyX.same s h1, h2⟩
  · exact .inr (.inl ⟨a, xs, rfl, s _ _ h1, h2⟩)
  · exact .inr (.inr ⟨a, x, y, bx, by', rfl, s _ _ h1, h2.same s, h3.same s, h4⟩)
/-- is_lag(value) -/
def spIsL (K : PySem.W.Frag) : Sp := fun vs H Q _ => ∃ x b, vs = [x] ∧ IsL K H x b ∧ ∀ H', Same H H' → Q (.bl b) H'
section
variable {P : Program} {w : World} {K : PySem.W.Frag} {mg : Str → Option Value} {base : Heap} {f : Addr} {fd : FuncData}
theorem ok_is_t (O : FnOk P w K mg base CX0 1 f fd ["value"] (spIsText K)) : FnOk P w K mg base CX0 1 f fd ["value"] (spIsT K) := by
  refine O.imp fun vs H Q E h => ?_
  obtain ⟨x, b, rfl, hb, k⟩ := h
  rcases hb with ⟨l, rfl, hl, rfl⟩ | ⟨t, h1, h2, rfl⟩
  · exact ⟨_, rfl, .inl ⟨l, rfl, hl, k⟩⟩
  · exact ⟨_, rfl, .inr ⟨t, h1, h2, k _ (Same.refl _)⟩⟩
theorem ok_checkX {C : Addr} (F : Fun K "check_text" "check_text" s_check_text f fd) (xt : XT P w K mg base C) (c_is_text : Cal P w K mg base "is_text" ["value"] 1 (spIsT K)) : FnOk P w K mg base (L2.CX P w) 3 f fd ["text"] (spCheckX K C) := by
  refine Sw.Fun.okX F sc_check_text (fun vs H Q E h => ?_) (fun cdv A outer s H vs Q E hr h tk => ?_)
  · obtain ⟨x, b, rfl, _⟩ := h; rfl
  · obtain ⟨x, b, rfl, hb, k1, k2⟩ := h
    refine ⟨_, (pss_one (ps_if (pt_not (pt_val (pe_cal c_is_text hr (pa_cons (pv 0) pa_nil))))
        (pss_one (ps_rs rfl tk (pmk_T xt hr (pv 0))))
        pss_nil)), ?_⟩
    walk_at "rd"
    refine ⟨x, b, rfl, hb, fun H1 s1 => ?_⟩
    walk_at "rd"
    refine iteNC (fun e => ?_) (fun e => ?_)
    · walk_at "rd"
      refine i_thrown xt.T xt.no (fun dx nx => ?_)
      exact k2 e dx _ (s1.free nx) (s1.trans (same_upd nx)) upd_same
    · walk_at "rd"
      exact k1 e _ s1
theorem ok_is_lagG (F : Fun K "is_lag" "is_lag" s_is_lag f fd) (z : Z mg) (c_is_text : Cal P w K mg base "is_text" ["value"] 1 (spIsT K)) : FnOk P w K mg base CX0 2 f fd ["value"] (spIsL K) := by
  refine F.ok sc_is_lag (fun vs H Q E h => ?_) (fun cdv A outer s H vs Q E hr h => ?_)
  · obtain ⟨x, b, rfl, _⟩ := h; rfl
  · obtain ⟨x, b, rfl, hb, k⟩ := h
    refine ⟨_, (pss_cons (ps_if (PW.pt (pw_or (pt_not (pt_val (pe_callB call_isi (by rfl) z.isinstance (by decide +kernel) (pa_cons (pv 0) (pa_cons (pe_bltn (v := .ty "tuple") (by rfl) z.tuple (by decide +kernel) rfl) pa_nil))))) (pw_or1 (pt_cmpR op_ne (pe_callB call_lenQ (by rfl) z.len PySem.boot_len (pa_cons (pv 0) pa_nil)) pe_int (nomark _)))))
        (pss_one (ps_ret pe_bl))
        pss_nil)
      (pss_one (ps_ret (pe_and (pe_cal c_is_text hr (pa_cons (pe_ix ix_tup (pv 0) pe_int (fun _ _ => rfl)) pa_nil)) (pe_and (pe_cal c_is_text hr (pa_cons (pe_ix ix_tup (pv 0) pe_int (fun _ _ => rfl)) pa_nil)) (pe_one (pe_cmpR op_in_seq (pe_strS (l := []) (by decide +kernel)) (pv 0) (by rfl)))))))), ?_⟩
    walk_at "rd"
    rcases hb with ⟨t, h1, h2, rfl⟩ | ⟨a, xs, rfl, ha, hl, rfl⟩ | ⟨a, u, v, bu, bv, rfl, ha, hu, hv, rfl⟩
    · refine i_isi false h1 h2 ?_
      walk_at "rd"
      exact k _ (Same.refl _)
    · refine i_isi true (.base (.tup ha)) (kit_ty (by decide +kernel)) ?_
      walk_at "rd"
      refine iteNB (fun q => ?_) (fun q => absurd (by omega) hl)
      walk_at "rd"
      exact k _ (Same.refl _)
    · refine i_isi true (.base (.tup ha)) (kit_ty (by decide +kernel)) ?_
      walk_at "rd"
      refine iteNB (fun q => absurd rfl q) (fun _ => ?_)
      walk_at "rd"
      refine ⟨u, bu, rfl, hu, fun H1 s1 => ?_⟩
      walk_at "rd"
      cases bu with
      | false =>
        walk_at "rd"
        exact k _ s1
      | true =>
        walk_at "rd"
        refine ⟨v, bv, rfl, hv.same s1, fun H2 s2 => ?_⟩
        walk_at "rd"
        have s12 := s1.trans s2
        cases bv with
        | false =>
          walk_at "rd"
          exact k _ s12
        | true =>
          walk_at "rd"
          obtain ⟨l, rfl, _⟩ := hu.yes
          obtain ⟨r, rfl, _⟩ := hv.yes
          refine i_inSeq (xs := [.str (S l), .str (S r)]) (.inr (sqT_of (s12 _ _ ha))) rfl rfl ?_
          have e : inV (.str (S [])) [.str (S l), .str (S r)] = (decide (V.str (S l) = .str (S [])) || decide (V.str (S r) = .str (S []))) := by
            show (eqV (.str (S l)) (.str (S [])) || (eqV (.str (S r)) (.str (S [])) || false)) = _
            rw [eqV_S, eqV_S, Bool.or_false]
          rw [e]
          exact k _ s12
end
end Sw
namespace Sw
open PySem PySem.Spec PyProof.Rows L2
local macro_rules | `(tactic| walk_at "hp") => `(tactic| first
  | (with_reducible assumption) | (with_reducible exact upd_same)
  | ((with_reducible refine' upd_old ?q1 ?q2); (case q1 => (with_reducible assumption)); (case q2 => walk_at "hp"))
  | ((with_reducible refine' Same.at ?q1 ?q2); (case q1 => (with_reducible assumption)); (case q2 => walk_at "hp"))
  | ((with_reducible refine' upd_skip ?q1 ?q2); (case q1 => walk_at "ne"); (case q2 => walk_at "hp"))
  | fail)
local macro_rules | `(tactic| walk_at "ne") => `(tactic| first
  | (with_reducible assumption) | (with_reducible exact Ne.symm (by assumption))
  | ((with_reducible refine' ne_of_none ?q1 ?q2); (case q2 => (with_reducible assumption)); (case q1 => walk_at "hp"))
  | fail)
local macro_rules | `(tactic| walk_at "ci") => `(tactic| first | assumption | (show (0 : Int) < _; first | decide | (with_reducible omega)) | exact ⟨by decide, by decide⟩ | exact .inl ⟨by decide, by decide⟩ | exact .inr ⟨by decide, by decide⟩)
local macro_rules | `(tactic| walk_at "ln") => `(tactic| first | (with_reducible assumption) | (with_reducible omega) | (simp only [List.length_append, List.length_take, List.length_drop, List.length_reverse, List.length_cons, List.length_nil]; with_reducible omega))
local macro_rules | `(tactic| walk_at "rd1") => `(tactic| first
  | (with_reducible refine i_seq ?_) | (with_reducible refine i_asg ?_) | (with_reducible refine i_ret ?_) | (with_reducible refine i_name ?_) | ((with_reducible refine' i_var ?q1 ?_); (case q1 => exact rfl)) | (with_reducible refine i_c ?_) | (with_reducible refine i_op ?_) | (with_reducible refine i_un ?_)
  | (with_reducible refine i_rI0 ?_) | (with_reducible refine i_cb ?_) | (with_reducible refine i_cons ?_) | (with_reducible refine i_nil ?_) | (with_reducible refine i_call ?_) | (with_reducible refine i_if ?_) | (with_reducible refine i_ifE ?_) | (with_reducible refine i_test ?_) | (with_reducible refine i_bl ?_)
  | (with_reducible refine i_and ?_) | (with_reducible refine i_or ?_) | (with_reducible refine i_not ?_) | (with_reducible refine i_lst ?_) | (with_reducible refine i_tup ?_) | (with_reducible refine i_next ?_) | (with_reducible refine i_drop ?_) | (with_reducible refine i_sub ?_)
  | (with_reducible refine i_bm ?_) | (with_reducible refine i_sl ?_) | (with_reducible refine i_part ?_) | (with_reducible refine i_nopart ?_) | (with_reducible refine i_exI ?_) | (with_reducible refine i_chain ?_) | ((with_reducible refine' i_aug ?q1 ?_); (case q1 => exact rfl)) | (with_reducible refine i_ip ?_)
  | (with_reducible refine i_par ?_) | (with_reducible refine i_pair ?_) | (with_reducible refine i_andV ?_) | (with_reducible refine i_orV ?_) | (with_reducible refine i_notV ?_) | (with_reducible refine i_m1 ?_) | (with_reducible refine i_str ?_)
  | (with_reducible refine iteF ?_) | (with_reducible refine iteT ?_) | (with_reducible refine iteNT ?_) | (with_reducible refine iteNF ?_) | (with_reducible refine i_tyS ?_) | (with_reducible refine i_tB ?_) | (with_reducible refine i_retN ?_) | (with_reducible refine i_par3 ?_) | (with_reducible refine i_trip ?_) | (with_reducible refine i_gCons ?_) | (with_reducible refine i_gNil ?_) | (with_reducible refine i_lstRg ?_) | (with_reducible refine i_rg1 ?_)
  | (with_reducible refine i_lc ?_) | (with_reducible refine i_for ?_) | (with_reducible refine i_iList ?_) | (with_reducible refine i_iTup ?_) | (with_reducible refine i_iStr ?_) | (with_reducible refine i_iRng1 ?_) | (with_reducible refine i_iEnS ?_)
  | ((with_reducible refine' i_ixTH ?q1 ?q2 ?_); (case q1 => walk_at "hp"); (case q2 => exact rfl))
  | ((with_reducible refine' i_ixLH ?q1 ?q2 ?_); (case q1 => walk_at "hp"); (case q2 => exact rfl))
  | ((with_reducible refine i_addS ?q1 ?_); (case q1 => walk_at "ln")) | ((with_reducible refine i_lenSS ?q1 ?_); (case q1 => walk_at "ln")) | ((with_reducible refine i_slFrom ?q1 ?q2 ?_); (case q1 => walk_at "ln"); (case q2 => walk_at "ln")) | ((with_reducible refine i_slTo ?q1 ?q2 ?_); (case q1 => walk_at "ln"); (case q2 => walk_at "ln"))
  | ((with_reducible refine' i_tyL ?q1 ?_); (case q1 => walk_at "hp"))
  | ((with_reducible refine' i_gTupH ?q1 ?q2 ?_); (case q1 => walk_at "hp"); (case q2 => exact rfl))
  | (with_reducible refine i_dnew ?_) | (with_reducible refine i_init ?_) | (with_reducible refine i_fst ?_) | (with_reducible refine i_mk ?_) | (with_reducible refine i_raise ?_) | (with_reducible refine i_callS ?_) | (with_reducible refine i_kwS ?_)
  | (with_reducible refine i_revT ?_) | (with_reducible refine i_kw ?_) | ((with_reducible refine' ⟨_, _, rfl, sqT_of ?q1, ?_⟩); (case q1 => walk_at "hp"))
  | (with_reducible refine i_revS ?_) | ((with_reducible refine i_revSS ?q1 ?_); (case q1 => walk_at "ln"))
  | (with_reducible refine i_startS ?_) | (with_reducible refine i_inSg ?_) | (with_reducible refine i_absN ?_) | (with_reducible refine i_min2 ?_) | (with_reducible refine i_max2 ?_) | (with_reducible refine i_min3 ?_) | (with_reducible refine i_intN ?_) | (with_reducible refine i_intNB ?_)
  | ((with_reducible refine' i_lenL ?q1 ?_); (case q1 => walk_at "hp")) | ((with_reducible refine' i_lenT ?q1 ?_); (case q1 => walk_at "hp"))
  | (with_reducible refine i_eqI ?_) | (with_reducible refine i_neI ?_) | (with_reducible refine i_eqS ?_) | (with_reducible refine i_neS ?_) | (with_reducible refine i_isNoI ?_) | (with_reducible refine i_isNoN ?_) | (with_reducible refine i_isNoR ?_)
  | ((with_reducible refine i_pow ?q1 ?q2 ?q3 ?_); (case q1 => decide); (case q2 => decide); (case q3 => (with_reducible omega)))
  | ((with_reducible refine i_rI ?q1 ?_); (case q1 => walk_at "ci"))
  | (with_reducible refine Or.inl ⟨_, rfl, ?_⟩) | (with_reducible refine Or.inr ⟨_, rfl, ?_⟩) | (with_reducible refine ⟨_, rfl, ?_⟩) | (with_reducible refine ⟨_, _, rfl, ?_⟩) | (with_reducible refine ⟨_, _, rfl, rfl, ?_⟩)
  | ((with_reducible refine' ⟨_, _, rfl, Or.inl (sqL_of ?q1), ?_⟩); (case q1 => walk_at "hp")) | ((with_reducible refine' ⟨_, _, rfl, Or.inr (sqT_of ?q1), ?_⟩); (case q1 => walk_at "hp")) | fail)
local macro_rules | `(tactic| walk_at "rd") => `(tactic| repeat' walk_at "rd1")


def lagAfter (l r : List Nat) : Option (List Nat × List Nat) := if l.take r.length = r then some (l.drop r.length, []) else if r.take l.length = l then some ([], r.drop l.length) else none
/-- lag_after(left, right) -/
def spAfter : Sp := fun vs H Q _ => ∃ (l r : List Nat), vs = [.str (S l), .str (S r)] ∧ l.length ≤ 500000 ∧ r.length ≤ 500000 ∧
  (∀ u v p H', lagAfter l r = some (u, v) → Same H H' → H p = none → H' p = some (.tup [.str (S u), .str (S v)]) → Q (.ref p) H') ∧ (lagAfter l r = none → Q .non H)
/-- lag_behind(lag, one, other) -/
def spBehind : Sp := fun vs H Q _ => ∃ (p : Addr) (l r a b : List Nat), vs = [.ref p, .str (S a), .str (S b)] ∧ H p = some (.tup [.str (S l), .str (S r)]) ∧ (l = [] ∨ r = []) ∧ azB l = true ∧ azB r = true ∧ azB a = true ∧ azB b = true ∧
  l.length ≤ 10000 ∧ r.length ≤ 10000 ∧ a.length ≤ 10000 ∧ b.length ≤ 10000 ∧
  (∀ u v p H', lagAfter (l ++ a) (r ++ b) = some (u, v) → Same H H' → H p = none → H' p = some (.tup [.str (S u), .str (S v)]) → Q (.ref p) H') ∧ (lagAfter (l ++ a) (r ++ b) = none → ∀ H', Same H H' → Q .non H')
def spCheckLag : Sp := fun vs H Q _ => ∃ a l r, vs = [.ref a] ∧ H a = some (.tup [.str (S l), .str (S r)]) ∧ l.length ≤ 100000 ∧ r.length ≤ 100000 ∧ azB l = true ∧ azB r = true ∧ (l = [] ∨ r = []) ∧
  ∀ H', Same H H' → Q .non H'
section
variable {P : Program} {w : World} {K : PySem.W.Frag} {mg : Str → Option Value} {base : Heap} {f : Addr} {fd : FuncData}
theorem ok_after (F : Fun K "lag_after" "lag_after" s_lag_after f fd) (z : Z mg) : FnOk P w K mg base CX0 1 f fd ["left", "right"] spAfter := by
  refine F.ok sc_lag_after (fun vs H Q E h => ?_) (fun cdv A outer s H vs Q E hr h => ?_)
  · obtain ⟨l, r, rfl, _⟩ := h; rfl
  · obtain ⟨l, r, rfl, hl, hr', k1, k2⟩ := h
    unfold lagAfter at k1 k2
    refine ⟨_, (pss_cons (ps_if (pt_val (pe_m1 PySem.F.slot_str_startswith PySem.F.type_str_startswith mt_startsS (pv 0) (pv 1)))
        (pss_one (ps_ret (pe_tup (pa_cons (pe_slice sl_S (pv 0) (po_some (pe_callB call_lenS (by rfl) z.len PySem.boot_len (pa_cons (pv 1) pa_nil))) po_none) (pa_cons (pe_strS (l := []) (by decide +kernel)) pa_nil)))))
        pss_nil)
      (pss_cons (ps_if (pt_val (pe_m1 PySem.F.slot_str_startswith PySem.F.type_str_startswith mt_startsS (pv 1) (pv 0)))
        (pss_one (ps_ret (pe_tup (pa_cons (pe_strS (l := []) (by decide +kernel)) (pa_cons (pe_slice sl_S (pv 1) (po_some (pe_callB call_lenS (by rfl) z.len PySem.boot_len (pa_cons (pv 0) pa_nil))) po_none) pa_nil)))))
        pss_nil)
      (pss_one (ps_ret pe_non)))), ?_⟩
    walk_at "rd"
    refine iteB (fun c => ?_) (fun c => ?_)
    · rw [if_pos c] at k1
      walk_at "rd"
      refine ⟨Nat.le_of_ble_eq_true rfl, fun p np => ?_⟩
      exact k1 _ _ p _ rfl (same_upd np) np upd_same
    · rw [if_neg c] at k1 k2
      walk_at "rd"
      refine iteB (fun c => ?_) (fun c => ?_)
      · rw [if_pos c] at k1
        walk_at "rd"
        refine ⟨Nat.le_of_ble_eq_true rfl, fun p np => ?_⟩
        exact k1 _ _ p _ rfl (same_upd np) np upd_same
      · rw [if_neg c] at k2
        walk_at "rd"
        exact k2 rfl
theorem ok_check_lag (F : Fun K "check_lag" "check_lag" s_check_lag f fd) (c_is_lag : Cal P w K mg base "is_lag" ["value"] 2 (spIsLag K)) : FnOk P w K mg base CX0 3 f fd ["lag"] spCheckLag := by
  refine F.ok sc_check_lag (fun vs H Q E h => ?_) (fun cdv A outer s H vs Q E hr h => ?_)
  · obtain ⟨a, l, r, rfl, _⟩ := h; rfl
  · obtain ⟨a, l, r, rfl, ha, n1, n2, z1, z2, e, k⟩ := h
    refine ⟨_, (pss_one (ps_if (pt_not (pt_val (pe_cal c_is_lag hr (pa_cons (pv 0) pa_nil))))
        (pss_one ps_never)
        pss_nil)), ?_⟩
    walk_at "rd"
    refine ⟨a, l, r, rfl, ha, n1, n2, z1, z2, e, fun H1 s1 => ?_⟩
    walk_at "rd"
    exact k _ s1
theorem ok_behind (F : Fun K "lag_behind" "lag_behind" s_lag_behind f fd) (c_check_lag : Cal P w K mg base "check_lag" ["lag"] 3 spCheckLag) (c_check_text : Cal P w K mg base "check_text" ["text"] 2 spCheckText) (c_lag_after : Cal P w K mg base "lag_after" ["left", "right"] 1 spAfter) :
    FnOk P w K mg base CX0 4 f fd ["lag", "one", "other"] spBehind := by
  refine F.ok sc_lag_behind (fun vs H Q E h => ?_) (fun cdv A outer s H vs Q E hr h => ?_)
  · obtain ⟨p, l, r, a, b, rfl, _⟩ := h; rfl
  · obtain ⟨p, l, r, a, b, rfl, hp, e, z1, z2, z3, z4, n1, n2, n3, n4, k1, k2⟩ := h
    refine ⟨_, (pss_cons (ps_expr (pe_cal c_check_lag hr (pa_cons (pv 0) pa_nil)))
      (pss_cons (ps_expr (pe_cal c_check_text hr (pa_cons (pv 1) pa_nil)))
      (pss_cons (ps_expr (pe_cal c_check_text hr (pa_cons (pv 2) pa_nil)))
      (pss_one (ps_ret (pe_cal c_lag_after hr (pa_cons (pe_op op_addS (pe_ix ix_tup (pv 0) pe_int (fun _ _ => rfl)) (pv 1)) (pa_cons (pe_op op_addS (pe_ix ix_tup (pv 0) pe_int (fun _ _ => rfl)) (pv 2)) pa_nil)))))))), ?_⟩
    walk_at "rd"
    refine ⟨p, l, r, rfl, hp, by omega, by omega, z1, z2, e, fun H1 s1 => ?_⟩
    walk_at "rd"
    refine ⟨a, rfl, by omega, z3, fun H2 s2 => ?_⟩
    walk_at "rd"
    refine ⟨b, rfl, by omega, z4, fun H3 s3 => ?_⟩
    walk_at "rd"
    have s := s1.trans (s2.trans s3)
    refine ⟨l ++ a, r ++ b, rfl, by walk_at "ln", by walk_at "ln", fun u v q H4 eq s4 nq hq => ?_, fun eq => ?_⟩
    · exact k1 u v q H4 eq (s.trans s4) (s.free nq) hq
    · exact k2 eq _ s
end
end Sw
namespace Sw
open PySem PySem.Spec PyProof.Rows L2
local macro_rules | `(tactic| walk_at "hp") => `(tactic| first
  | (with_reducible assumption) | (with_reducible exact upd_same)
  | ((with_reducible refine' upd_old ?q1 ?q2); (case q1 => (with_reducible assumption)); (case q2 => walk_at "hp"))
  | ((with_reducible refine' Same.at ?q1 ?q2); (case q1 => (with_reducible assumption)); (case q2 => walk_at "hp"))
  | ((with_reducible refine' upd_skip ?q1 ?q2); (case q1 => walk_at "ne"); (case q2 => walk_at "hp"))
  | fail)
local macro_rules | `(tactic| walk_at "ne") => `(tactic| first
  | (with_reducible assumption) | (with_reducible exact Ne.symm (by assumption))
  | ((with_reducible refine' ne_of_none ?q1 ?q2); (case q2 => (with_reducible assumption)); (case q1 => walk_at "hp"))
  | fail)
local macro_rules | `(tactic| walk_at "ci") => `(tactic| first | assumption | (show (0 : Int) < _; first | decide | (with_reducible omega)) | exact ⟨by decide, by decide⟩ | exact .inl ⟨by decide, by decide⟩ | exact .inr ⟨by decide, by decide⟩)
local macro_rules | `(tactic| walk_at "ln") => `(tactic| first | (with_reducible assumption) | (with_reducible omega) | (simp only [List.length_append, List.length_take, List.length_drop, List.length_reverse, List.length_cons, List.length_nil]; with_reducible omega))
local macro_rules | `(tactic| walk_at "rd1") => `(tactic| first
  | (with_reducible refine i_seq ?_) | (with_reducible refine i_asg ?_) | (with_reducible refine i_ret ?_) | (with_reducible refine i_name ?_) | ((with_reducible refine' i_var ?q1 ?_); (case q1 => exact rfl)) | (with_reducible refine i_c ?_) | (with_reducible refine i_op ?_) | (with_reducible refine i_un ?_)
  | (with_reducible refine i_rI0 ?_) | (with_reducible refine i_cb ?_) | (with_reducible refine i_cons ?_) | (with_reducible refine i_nil ?_) | (with_reducible refine i_call ?_) | (with_reducible refine i_if ?_) | (with_reducible refine i_ifE ?_) | (with_reducible refine i_test ?_) | (with_reducible refine i_bl ?_)
  | (with_reducible refine i_and ?_) | (with_reducible refine i_or ?_) | (with_reducible refine i_not ?_) | (with_reducible refine i_lst ?_) | (with_reducible refine i_tup ?_) | (with_reducible refine i_next ?_) | (with_reducible refine i_drop ?_) | (with_reducible refine i_sub ?_)
  | (with_reducible refine i_bm ?_) | (with_reducible refine i_sl ?_) | (with_reducible refine i_part ?_) | (with_reducible refine i_nopart ?_) | (with_reducible refine i_exI ?_) | (with_reducible refine i_chain ?_) | ((with_reducible refine' i_aug ?q1 ?_); (case q1 => exact rfl)) | (with_reducible refine i_ip ?_)
  | (with_reducible refine i_par ?_) | (with_reducible refine i_pair ?_) | (with_reducible refine i_andV ?_) | (with_reducible refine i_orV ?_) | (with_reducible refine i_notV ?_) | (with_reducible refine i_m1 ?_) | (with_reducible refine i_str ?_)
  | (with_reducible refine iteF ?_) | (with_reducible refine iteT ?_) | (with_reducible refine iteNT ?_) | (with_reducible refine iteNF ?_) | (with_reducible refine i_tyS ?_) | (with_reducible refine i_tB ?_) | (with_reducible refine i_retN ?_) | (with_reducible refine i_par3 ?_) | (with_reducible refine i_trip ?_) | (with_reducible refine i_gCons ?_) | (with_reducible refine i_gNil ?_) | (with_reducible refine i_lstRg ?_) | (with_reducible refine i_rg1 ?_)
  | (with_reducible refine i_lc ?_) | (with_reducible refine i_for ?_) | (with_reducible refine i_iList ?_) | (with_reducible refine i_iTup ?_) | (with_reducible refine i_iStr ?_) | (with_reducible refine i_iRng1 ?_) | (with_reducible refine i_iEnS ?_)
  | ((with_reducible refine' i_ixTH ?q1 ?q2 ?_); (case q1 => walk_at "hp"); (case q2 => exact rfl))
  | ((with_reducible refine' i_ixLH ?q1 ?q2 ?_); (case q1 => walk_at "hp"); (case q2 => exact rfl))
  | ((with_reducible refine i_addS ?q1 ?_); (case q1 => walk_at "ln")) | ((with_reducible refine i_lenSS ?q1 ?_); (case q1 => walk_at "ln")) | ((with_reducible refine i_slFrom ?q1 ?q2 ?_); (case q1 => walk_at "ln"); (case q2 => walk_at "ln")) | ((with_reducible refine i_slTo ?q1 ?q2 ?_); (case q1 => walk_at "ln"); (case q2 => walk_at "ln"))
  | ((with_reducible refine' i_tyL ?q1 ?_); (case q1 => walk_at "hp"))
  | ((with_reducible refine' i_gTupH ?q1 ?q2 ?_); (case q1 => walk_at "hp"); (case q2 => exact rfl))
  | (with_reducible refine i_dnew ?_) | (with_reducible refine i_init ?_) | (with_reducible refine i_fst ?_) | (with_reducible refine i_mk ?_) | (with_reducible refine i_raise ?_) | (with_reducible refine i_callS ?_) | (with_reducible refine i_kwS ?_)
  | (with_reducible refine i_revT ?_) | (with_reducible refine i_kw ?_) | ((with_reducible refine' ⟨_, _, rfl, sqT_of ?q1, ?_⟩); (case q1 => walk_at "hp"))
  | (with_reducible refine i_revS ?_) | ((with_reducible refine i_revSS ?q1 ?_); (case q1 => walk_at "ln"))
  | (with_reducible refine i_startS ?_) | (with_reducible refine i_inSg ?_) | (with_reducible refine i_absN ?_) | (with_reducible refine i_min2 ?_) | (with_reducible refine i_max2 ?_) | (with_reducible refine i_min3 ?_) | (with_reducible refine i_intN ?_) | (with_reducible refine i_intNB ?_)
  | ((with_reducible refine' i_lenL ?q1 ?_); (case q1 => walk_at "hp")) | ((with_reducible refine' i_lenT ?q1 ?_); (case q1 => walk_at "hp"))
  | (with_reducible refine i_eqI ?_) | (with_reducible refine i_neI ?_) | (with_reducible refine i_eqS ?_) | (with_reducible refine i_neS ?_) | (with_reducible refine i_isNoI ?_) | (with_reducible refine i_isNoN ?_) | (with_reducible refine i_isNoR ?_)
  | ((with_reducible refine i_pow ?q1 ?q2 ?q3 ?_); (case q1 => decide); (case q2 => decide); (case q3 => (with_reducible omega)))
  | ((with_reducible refine i_rI ?q1 ?_); (case q1 => walk_at "ci"))
  | (with_reducible refine Or.inl ⟨_, rfl, ?_⟩) | (with_reducible refine Or.inr ⟨_, rfl, ?_⟩) | (with_reducible refine ⟨_, rfl, ?_⟩) | (with_reducible refine ⟨_, _, rfl, ?_⟩) | (with_reducible refine ⟨_, _, rfl, rfl, ?_⟩)
  | ((with_reducible refine' ⟨_, _, rfl, Or.inl (sqL_of ?q1), ?_⟩); (case q1 => walk_at "hp")) | ((with_reducible refine' ⟨_, _, rfl, Or.inr (sqT_of ?q1), ?_⟩); (case q1 => walk_at "hp")) | fail)
local macro_rules | `(tactic| walk_at "rd") => `(tactic| repeat' walk_at "rd1")

open Wd (rot rlen turn)
open Ly (pre num stays)
/-- whether is_count says yes -/
def IsC (K : PySem.W.Frag) (H : Hp) (v : V) (b : Bool) : Prop := (∃ n : Int, v = .int n ∧ b = decide (0 ≤ n)) ∨ (∃ x : Bool, v = .bl x ∧ b = false) ∨ (∃ t, TyX K H v t ∧ PySem.W.kitOne K t (.type "int") = some false ∧ b = false)
theorem IsC.same {K : PySem.W.Frag} {H H' : Hp} {v : V} {b : Bool} (s : Same H H') (h : IsC K H v b) : IsC K H' v b := by
  rcases h with h | h | ⟨t, h1, h2⟩
  · exact .inl h
  · exact .inr (.inl h)
  · exact .inr (.inr ⟨t, TyX.same s h1, h2⟩)
theorem IsC.yes {K : PySem.W.Frag} {H : Hp} {v : V} (h : IsC K H v true) : ∃ n : Nat, v = .int (n : Int) := by
  rcases h with ⟨n, h1, h2⟩ | ⟨x, h1, h2⟩ | ⟨t, h1, h2, h3⟩
  · have : 0 ≤ n := of_decide_eq_true h2.symm
    exact ⟨n.toNat, by rw [h1, Int.toNat_of_nonneg this]⟩
  · cases h2
  · cases h3
/-- is_integer(value) -/
def spInt (K : PySem.W.Frag) : Sp := fun vs H Q _ => ∃ x, vs = [x] ∧ ((∃ n : Int, x = .int n ∧ Q (.bl true) H) ∨ (∃ c : Bool, x = .bl c ∧ Q (.bl false) H) ∨ (∃ t, TyX K H x t ∧ PySem.W.kitOne K t (.type "int") = some false ∧ Q (.bl false) H))
/-- is_count(value) -/
def spIsC (K : PySem.W.Frag) : Sp := fun vs H Q _ => ∃ x b, vs = [x] ∧ IsC K H x b ∧ ∀ H', Same H H' → Q (.bl b) H'
/-- check_count(count) -/
def spCountX (K : PySem.W.Frag) (C : Addr) : Sp := fun vs H Q E => ∃ x b, vs = [x] ∧ IsC K H x b ∧ (b = true → ∀ H', Same H H' → Q .non H') ∧
  (b = false → ∀ dx H', H dx = none → Same H H' → H' dx = some (.xd [("given", x)]) → E (.ref C) (some dx) H')
def spRL : Sp := fun vs H Q _ => ∃ t : List Nat, vs = [.str (S t)] ∧ 0 < t.length ∧ t.length ≤ 100000 ∧ Q (.int (rlen t : Nat)) H
def spTN : Sp := fun vs H Q _ => ∃ a b : List Nat, vs = [.str (S a), .str (S b)] ∧ a.length ≤ 100000 ∧ b.length ≤ 100000 ∧ Q (.int (optZ (turn a b))) H
theorem rl_le {t : List Nat} : rlen t ≤ t.length := by
  rw [← Wd.root_len]
  unfold Wd.root
  rw [List.length_take]
  omega
/-- a pair of texts -/
abbrev pairO (p : List Nat × List Nat) : HO := .tup [.str (S p.1), .str (S p.2)]
/-- lag_numbered(one, other, number) -/
def spNum : Sp := fun vs H Q _ => ∃ (l r : List Nat) (z : Int), vs = [.str (S l), .str (S r), .int z] ∧ l.length ≤ 1000 ∧ r.length ≤ 1000 ∧ z.natAbs ≤ 500 ∧ (0 < z → 0 < r.length) ∧ (¬ 0 < z → 0 < l.length) ∧
  ∀ p H', H p = none → Same H H' → H' p = some (pairO (num l r z)) → Q (.ref p) H'
/-- addresses of pairs -/
inductive PA (H : Hp) : List Addr → List (List Nat × List Nat) → Prop
  | nil : PA H [] []
  | cons {a : Addr} {p : List Nat × List Nat} {as : List Addr} {ps : List (List Nat × List Nat)} (h : H a = some (pairO p)) (t : PA H as ps) : PA H (a :: as) (p :: ps)
theorem PA.same {H H' : Hp} {as : List Addr} {ps : List (List Nat × List Nat)} (s : Same H H') (h : PA H as ps) : PA H' as ps := by
  induction h with
  | nil => exact .nil
  | cons h _ ih => exact .cons (s _ _ h) ih
theorem PA.snoc {H : Hp} {as : List Addr} {ps : List (List Nat × List Nat)} {a : Addr} {p : List Nat × List Nat} (h : PA H as ps) (e : H a = some (pairO p)) : PA H (as ++ [a]) (ps ++ [p]) := by
  induction h with
  | nil => exact .cons e .nil
  | cons h _ ih => exact .cons h ih
theorem PA.len {H : Hp} {as : List Addr} {ps : List (List Nat × List Nat)} (h : PA H as ps) : as.length = ps.length := by
  induction h with
  | nil => rfl
  | cons _ _ ih => rw [List.length_cons, List.length_cons, ih]
theorem PA.get {H : Hp} {as : List Addr} {ps : List (List Nat × List Nat)} (h : PA H as ps) {i : Nat} {a : Addr} (e : as[i]? = some a) : ∃ p, ps[i]? = some p ∧ H a = some (pairO p) := by
  induction h generalizing i with
  | nil => simp at e
  | @cons b p as ps h _ ih =>
    rcases i with _ | i
    · cases e; exact ⟨p, rfl, h⟩
    · exact ih e
theorem PA.at {H H' : Hp} {as : List Addr} {ps : List (List Nat × List Nat)} (h : PA H as ps) (k : ∀ a p, a ∈ as → H a = some (pairO p) → H' a = some (pairO p)) : PA H' as ps := by
  induction h with
  | nil => exact .nil
  | cons h _ ih => exact .cons (k _ _ List.mem_cons_self h) (ih fun a p m => k a p (List.mem_cons_of_mem _ m))
/-- staying(one, other, most), of texts -/
def spStay : Sp := fun vs H Q _ => ∃ (l r : List Nat) (m : Nat), vs = [.str (S l), .str (S r), .int (m : Int)] ∧ azB l = true ∧ azB r = true ∧ l.length ≤ 1000 ∧ r.length ≤ 1000 ∧ m ≤ 500 ∧ (0 < l.length ∨ 0 < r.length) ∧
  ∀ q as H', Same H H' → H q = none → H' q = some (.lst (as.map V.ref)) → PA H' as (Ly.told l r m) → Q (.ref q) H'
/-- which of the three is told, and whether as a text -/
def spStayX (K : PySem.W.Frag) (C D : Addr) : Sp := fun vs H Q E => ∃ (l r m : V) (bl br bm : Bool), vs = [l, r, m] ∧ IsT K H l bl ∧ IsT K H r br ∧ IsC K H m bm ∧ (∀ x, l = .str (S x) → x.length ≤ 1000) ∧ (∀ x, r = .str (S x) → x.length ≤ 1000) ∧ (bm = true → ∀ n : Nat, m = .int (n : Int) → n ≤ 500) ∧
  (bl = true → br = true → bm = true → (l ≠ .str (S []) ∨ r ≠ .str (S [])) → ∀ v H', Same H H' → Q v H') ∧
  ((bl = false ∨ (br = true ∧ l = .str (S []) ∧ r = .str (S []))) → ∀ dx H', H dx = none → Same H H' → H' dx = some (.xd [("given", l)]) → E (.ref C) (some dx) H') ∧
  (bl = true → br = false → ∀ dx H', H dx = none → Same H H' → H' dx = some (.xd [("given", r)]) → E (.ref C) (some dx) H') ∧
  (bl = true → br = true → (l ≠ .str (S []) ∨ r ≠ .str (S [])) → bm = false → ∀ dx H', H dx = none → Same H H' → H' dx = some (.xd [("given", m)]) → E (.ref D) (some dx) H')
/-- check_count(count), of a count -/
def spCount : Sp := fun vs H Q _ => ∃ n : Nat, vs = [.int (n : Int)] ∧ ∀ H', Same H H' → Q .non H'
theorem i_yes {σ : L2.St} {H : Hp} {R : Bool → Hp → Prop} (h : R true H) : tYes σ H R := h
theorem tk_snoc {α : Type} {l : List α} {i : Nat} {x : α} (h : l[i]? = some x) : l.take (i + 1) = l.take i ++ [x] := by
  rw [List.take_add_one, h]; rfl
theorem i_iRng3 {ta : TA} {R : It → Hp → Prop} {σ : L2.St} {H : Hp} (h : ta σ H fun vs H1 => ∃ (i j c : Int) (n : Nat), vs = [.int i, .int j, .int c] ∧ RgC i j c n ∧ R (Itc i c n) H1) : iRng3 ta σ H R := h
theorem cnt_le {f : Int} {m s : Nat} (hm : m ≤ 1000) (f0 : -1000 ≤ f) : Ly.cnt f m s ≤ 2001 := by
  unfold Ly.cnt
  split
  · have d := Int.ediv_le_self (s : Int) (show (0 : Int) ≤ (m : Int) - f by omega)
    omega
  · omega
theorem rgC_up {f : Int} {m s : Nat} (hs : 0 < s) (hs2 : s ≤ 1000) (hm : m ≤ 1000) (f0 : -1000 ≤ f) (f1 : f ≤ 1000) : RgC f ((m : Int) + 1) (s : Int) (Ly.cnt f m s) := by
  have e : Builtin.Range.rangeSize f ((m : Int) + 1) (s : Int) = (Ly.cnt f m s : Int) := by
    unfold Builtin.Range.rangeSize Ly.cnt
    rw [if_pos (show (s : Int) > 0 by omega)]
    by_cases c : f ≤ (m : Int)
    · rw [if_pos (show f < (m : Int) + 1 by omega), if_pos c, show (m : Int) + 1 - f - 1 = (m : Int) - f by omega]
      have := Int.ediv_nonneg (show (0 : Int) ≤ (m : Int) - f by omega) (show (0 : Int) ≤ (s : Int) by omega)
      omega
    · rw [if_neg (show ¬ f < (m : Int) + 1 by omega), if_neg c]; rfl
  have le : (Ly.cnt f m s : Int) ≤ 2001 := by
    unfold Ly.cnt
    split
    · have d := Int.ediv_le_self (s : Int) (show (0 : Int) ≤ (m : Int) - f by omega)
      omega
    · omega
  refine ⟨by omega, by omega, ?_, e⟩
  unfold Builtin.Range.small
  rw [e]
  unfold Builtin.Range.rangeFitsLong
  rw [if_pos (show (s : Int) > 0 by omega)]
  simp only [Bool.and_eq_true, Bool.or_eq_true, decide_eq_true_eq]
  omega
section
variable {P : Program} {w : World} {K : PySem.W.Frag} {mg : Str → Option Value} {base : Heap} {f : Addr} {fd : FuncData}
theorem ok_integer (F : Fun K "is_integer" "is_integer" s_is_integer f fd) (z : Z mg) : FnOk P w K mg base CX0 1 f fd ["value"] (spInt K) := by
  refine F.ok sc_is_integer (fun vs H Q E h => ?_) (fun cdv A outer s H vs Q E hr h => ?_)
  · obtain ⟨x, rfl, _⟩ := h; rfl
  · obtain ⟨x, rfl, h⟩ := h
    refine ⟨_, (pss_one (ps_ret (pe_and (pe_callB call_isi (by rfl) z.isinstance (by decide +kernel) (pa_cons (pv 0) (pa_cons (pe_bltn (v := .ty "int") (by rfl) z.int (by decide +kernel) rfl) pa_nil))) (pe_one (pe_not (pe_callB call_isi (by rfl) z.isinstance (by decide +kernel) (pa_cons (pv 0) (pa_cons (pe_bltn (v := .ty "bool") (by rfl) z.bool (by decide +kernel) rfl) pa_nil)))))))), ?_⟩
    walk_at "rd"
    rcases h with ⟨n, rfl, k⟩ | ⟨c, rfl, k⟩ | ⟨t, h1, h2, k⟩
    · refine i_isi true (.base (.int _)) (kit_ty (by decide +kernel)) ?_
      walk_at "rd"
      refine i_isi false (.base (.int _)) (kit_ty (by decide +kernel)) ?_
      walk_at "rd"
      exact k
    · refine i_isi true (.base (.bl _)) (kit_ty (by decide +kernel)) ?_
      walk_at "rd"
      refine i_isi true (.base (.bl _)) (kit_ty (by decide +kernel)) ?_
      walk_at "rd"
      exact k
    · refine i_isi false h1 h2 ?_
      walk_at "rd"
      exact k
theorem ok_count (F : Fun K "is_count" "is_count" s_is_count f fd) (c_is_integer : Cal P w K mg base "is_integer" ["value"] 1 (spInt K)) : FnOk P w K mg base CX0 2 f fd ["value"] (spIsC K) := by
  refine F.ok sc_is_count (fun vs H Q E h => ?_) (fun cdv A outer s H vs Q E hr h => ?_)
  · obtain ⟨x, b, rfl, _⟩ := h; rfl
  · obtain ⟨x, b, rfl, h, k⟩ := h
    have k := k H (Same.refl _)
    refine ⟨_, (pss_one (ps_ret (pe_and (pe_cal c_is_integer hr (pa_cons (pv 0) pa_nil)) (pe_one (pe_cmpR op_ge (pv 0) pe_int (nomark _)))))), ?_⟩
    walk_at "rd"
    rcases h with ⟨n, rfl, rfl⟩ | ⟨c, rfl, rfl⟩ | ⟨t, h1, h2, rfl⟩
    · refine ⟨_, rfl, .inl ⟨n, rfl, ?_⟩⟩
      walk_at "rd"
      exact k
    · refine ⟨_, rfl, .inr (.inl ⟨c, rfl, ?_⟩)⟩
      walk_at "rd"
      exact k
    · refine ⟨_, rfl, .inr (.inr ⟨t, h1, h2, ?_⟩)⟩
      walk_at "rd"
      exact k
theorem ok_countX {C : Addr} (F : Fun K "check_count" "check_count" s_check_count f fd) (xc : XN P w K mg base C) (c_is_count : Cal P w K mg base "is_count" ["value"] 2 (spIsC K)) : FnOk P w K mg base (L2.CX P w) 3 f fd ["count"] (spCountX K C) := by
  refine Sw.Fun.okX F sc_check_count (fun vs H Q E h => ?_) (fun cdv A outer s H vs Q E hr h tk => ?_)
  · obtain ⟨x, b, rfl, _⟩ := h; rfl
  · obtain ⟨x, b, rfl, hb, k1, k2⟩ := h
    refine ⟨_, (pss_one (ps_if (pt_not (pt_val (pe_cal c_is_count hr (pa_cons (pv 0) pa_nil))))
        (pss_one (ps_rs rfl tk (pmk_C xc hr (pv 0))))
        pss_nil)), ?_⟩
    walk_at "rd"
    refine ⟨x, b, rfl, hb, fun H1 s1 => ?_⟩
    walk_at "rd"
    refine iteNC (fun e => ?_) (fun e => ?_)
    · walk_at "rd"
      refine i_thrown xc.T xc.no (fun dx nx => ?_)
      exact k2 e dx _ (s1.free nx) (s1.trans (same_upd nx)) upd_same
    · walk_at "rd"
      exact k1 e _ s1
theorem ok_rl (F : Fun K "round_length" "round_length" s_round_length f fd) : FnOk P w K mg base CX0 1 f fd ["text"] spRL := by
  refine F.ok sc_round_length (fun vs H Q E h => ?_) (fun cdv A outer s H vs Q E hr h => ?_)
  · obtain ⟨t, rfl, _⟩ := h; rfl
  · obtain ⟨t, rfl, h0, h1, k⟩ := h
    refine ⟨_, (pss_one (ps_ret (pe_bm PySem.F.plainAttrs_str PySem.F.slot_str_find PySem.F.type_str_find mt_find3 (pe_op op_addS (pv 0) (pv 0)) (pa_cons (pv 0) (pa_cons pe_int pa_nil))))), ?_⟩
    walk_at "rd"
    refine ⟨S (t ++ t), S t, 1, rfl, rfl, ?_⟩
    rw [round_S h0]
    exact k
theorem ok_tn (F : Fun K "turn_number" "turn_number" s_turn_number f fd) (z : Z mg) : FnOk P w K mg base CX0 1 f fd ["one", "other"] spTN := by
  refine F.ok sc_turn_number (fun vs H Q E h => ?_) (fun cdv A outer s H vs Q E hr h => ?_)
  · obtain ⟨a, b, rfl, _⟩ := h; rfl
  · obtain ⟨a, b, rfl, h1, h2, k⟩ := h
    refine ⟨_, (pss_one (ps_ret (pe_ifExp (pt_cmpR op_eq (pe_callB call_lenS (by rfl) z.len PySem.boot_len (pa_cons (pv 0) pa_nil)) (pe_callB call_lenS (by rfl) z.len PySem.boot_len (pa_cons (pv 1) pa_nil)) (nomark _)) (pe_m1 PySem.F.slot_str_find PySem.F.type_str_find mt_find (pe_op op_addS (pv 0) (pv 0)) (pv 1)) (pe_un un_neg pe_int)))), ?_⟩
    walk_at "rd"
    refine iteB (fun e => ?_) (fun e => ?_)
    · walk_at "rd"
      rw [turn_S (by omega)]
      exact k
    · walk_at "rd"
      refine i_rU ?_
      have e2 : turn a b = none := by unfold turn; rw [if_neg (by omega)]
      rw [e2] at k
      exact k
theorem ok_num (F : Fun K "lag_numbered" "lag_numbered" s_lag_numbered f fd) (z : Z mg) : FnOk P w K mg base CX0 1 f fd ["one", "other", "number"] spNum := by
  refine F.ok sc_lag_numbered (fun vs H Q E h => ?_) (fun cdv A outer s H vs Q E hr h => ?_)
  · obtain ⟨l, r, n, rfl, _⟩ := h; rfl
  · obtain ⟨l, r, n, rfl, ll, lr, ln, hp, hn, k⟩ := h
    refine ⟨_, (pss_cons (ps_set (i := 3) sc_lag_numbered.nd rfl (.inl rfl) (pe_ifExp (pt_cmpR op_gt (pv 2) pe_int (nomark _)) (pv 1) (pv 0)))
      (pss_cons (ps_set (i := 4) sc_lag_numbered.nd rfl (.inl rfl) (pe_slice sl_S (pe_op op_mulS (pv 3) (pe_op op_add (pe_op op_fdiv (pe_callB call_absN (by rfl) z.abs (by decide +kernel) (pa_cons (pv 2) pa_nil)) (pe_callB call_lenS (by rfl) z.len PySem.boot_len (pa_cons (pv 3) pa_nil))) pe_int)) po_none (po_some (pe_callB call_absN (by rfl) z.abs (by decide +kernel) (pa_cons (pv 2) pa_nil)))))
      (pss_one (ps_ret (pe_ifExp (pt_cmpR op_gt (pv 2) pe_int (nomark _)) (pe_tup (pa_cons (pv 4) (pa_cons (pe_strS (l := []) (by decide +kernel)) pa_nil))) (pe_tup (pa_cons (pe_strS (l := []) (by decide +kernel)) (pa_cons (pv 4) pa_nil)))))))), ?_⟩
    walk_at "rd"
    refine iteB (fun c => ?_) (fun c => ?_)
    · have hT := hp c
      walk_at "rd"
      rw [show (if n < 0 then -n else n) = (n.natAbs : Int) by split <;> omega]
      refine i_rI ⟨by omega, by omega⟩ ?_
      walk_at "rd"
      rw [show (n.natAbs : Int) / (r.length : Int) + 1 = ((n.natAbs / r.length + 1 : Nat) : Int) by rw [Int.natCast_add, Int.natCast_ediv]; rfl]
      have hd := Nat.div_le_self n.natAbs r.length
      refine i_mulS (by omega) (by omega) ?_
      have hfl : ((List.replicate (n.natAbs / r.length + 1) r).flatten).length ≤ 1000000 := by
        rw [Wd.flat_len]
        exact Nat.le_trans (Nat.mul_le_mul (show n.natAbs / r.length + 1 ≤ 501 by omega) (show r.length ≤ 1000 by omega)) (by decide)
      walk_at "rd"
      rw [show (if n < 0 then -n else n).toNat = n.natAbs by split <;> omega]
      refine iteB (fun _ => ?_) (fun c' => absurd c c')
      walk_at "rd"
      refine ⟨Nat.le_of_ble_eq_true rfl, fun p np => ?_⟩
      exact k p _ np (same_upd np) (by unfold num; rw [if_pos c]; exact upd_same)
    · have hT := hn c
      walk_at "rd"
      rw [show (if n < 0 then -n else n) = (n.natAbs : Int) by split <;> omega]
      refine i_rI ⟨by omega, by omega⟩ ?_
      walk_at "rd"
      rw [show (n.natAbs : Int) / (l.length : Int) + 1 = ((n.natAbs / l.length + 1 : Nat) : Int) by rw [Int.natCast_add, Int.natCast_ediv]; rfl]
      have hd := Nat.div_le_self n.natAbs l.length
      refine i_mulS (by omega) (by omega) ?_
      have hfl : ((List.replicate (n.natAbs / l.length + 1) l).flatten).length ≤ 1000000 := by
        rw [Wd.flat_len]
        exact Nat.le_trans (Nat.mul_le_mul (show n.natAbs / l.length + 1 ≤ 501 by omega) (show l.length ≤ 1000 by omega)) (by decide)
      walk_at "rd"
      rw [show (if n < 0 then -n else n).toNat = n.natAbs by split <;> omega]
      refine iteB (fun c' => absurd c' c) (fun _ => ?_)
      walk_at "rd"
      refine ⟨Nat.le_of_ble_eq_true rfl, fun p np => ?_⟩
      exact k p _ np (same_upd np) (by unfold num; rw [if_neg c]; exact upd_same)
theorem ok_lnum (F : Fun K "_law_numbered" "_law_numbered" s__law_numbered f fd) (z : Z mg) : FnOk P w K mg base CX0 1 f fd ["left", "right", "number"] spNum := by
  refine F.ok sc__law_numbered (fun vs H Q E h => ?_) (fun cdv A outer s H vs Q E hr h => ?_)
  · obtain ⟨l, r, n, rfl, _⟩ := h; rfl
  · obtain ⟨l, r, n, rfl, ll, lr, ln, hp, hn, k⟩ := h
    refine ⟨_, (pss_cons (ps_set (i := 3) sc__law_numbered.nd rfl (.inl rfl) (pe_ifExp (pt_cmpR op_gt (pv 2) pe_int (nomark _)) (pv 1) (pv 0)))
      (pss_cons (ps_set (i := 4) sc__law_numbered.nd rfl (.inl rfl) (pe_slice sl_S (pe_op op_mulS (pv 3) (pe_op op_add (pe_op op_fdiv (pe_callB call_absN (by rfl) z.abs (by decide +kernel) (pa_cons (pv 2) pa_nil)) (pe_callB call_lenS (by rfl) z.len PySem.boot_len (pa_cons (pv 3) pa_nil))) pe_int)) po_none (po_some (pe_callB call_absN (by rfl) z.abs (by decide +kernel) (pa_cons (pv 2) pa_nil)))))
      (pss_one (ps_ret (pe_ifExp (pt_cmpR op_gt (pv 2) pe_int (nomark _)) (pe_tup (pa_cons (pv 4) (pa_cons (pe_strS (l := []) (by decide +kernel)) pa_nil))) (pe_tup (pa_cons (pe_strS (l := []) (by decide +kernel)) (pa_cons (pv 4) pa_nil)))))))), ?_⟩
    walk_at "rd"
    refine iteB (fun c => ?_) (fun c => ?_)
    · have hT := hp c
      walk_at "rd"
      rw [show (if n < 0 then -n else n) = (n.natAbs : Int) by split <;> omega]
      refine i_rI ⟨by omega, by omega⟩ ?_
      walk_at "rd"
      rw [show (n.natAbs : Int) / (r.length : Int) + 1 = ((n.natAbs / r.length + 1 : Nat) : Int) by rw [Int.natCast_add, Int.natCast_ediv]; rfl]
      have hd := Nat.div_le_self n.natAbs r.length
      refine i_mulS (by omega) (by omega) ?_
      have hfl : ((List.replicate (n.natAbs / r.length + 1) r).flatten).length ≤ 1000000 := by
        rw [Wd.flat_len]
        exact Nat.le_trans (Nat.mul_le_mul (show n.natAbs / r.length + 1 ≤ 501 by omega) (show r.length ≤ 1000 by omega)) (by decide)
      walk_at "rd"
      rw [show (if n < 0 then -n else n).toNat = n.natAbs by split <;> omega]
      refine iteB (fun _ => ?_) (fun c' => absurd c c')
      walk_at "rd"
      refine ⟨Nat.le_of_ble_eq_true rfl, fun p np => ?_⟩
      exact k p _ np (same_upd np) (by unfold num; rw [if_pos c]; exact upd_same)
    · have hT := hn c
      walk_at "rd"
      rw [show (if n < 0 then -n else n) = (n.natAbs : Int) by split <;> omega]
      refine i_rI ⟨by omega, by omega⟩ ?_
      walk_at "rd"
      rw [show (n.natAbs : Int) / (l.length : Int) + 1 = ((n.natAbs / l.length + 1 : Nat) : Int) by rw [Int.natCast_add, Int.natCast_ediv]; rfl]
      have hd := Nat.div_le_self n.natAbs l.length
      refine i_mulS (by omega) (by omega) ?_
      have hfl : ((List.replicate (n.natAbs / l.length + 1) l).flatten).length ≤ 1000000 := by
        rw [Wd.flat_len]
        exact Nat.le_trans (Nat.mul_le_mul (show n.natAbs / l.length + 1 ≤ 501 by omega) (show l.length ≤ 1000 by omega)) (by decide)
      walk_at "rd"
      rw [show (if n < 0 then -n else n).toNat = n.natAbs by split <;> omega]
      refine iteB (fun c' => absurd c' c) (fun _ => ?_)
      walk_at "rd"
      refine ⟨Nat.le_of_ble_eq_true rfl, fun p np => ?_⟩
      exact k p _ np (same_upd np) (by unfold num; rw [if_neg c]; exact upd_same)
theorem ok_cnt (F : Fun K "check_count" "check_count" s_check_count f fd) (c_is_count : Cal P w K mg base "is_count" ["value"] 2 (spIsC K)) : FnOk P w K mg base CX0 3 f fd ["count"] spCount := by
  refine F.ok sc_check_count (fun vs H Q E h => ?_) (fun cdv A outer s H vs Q E hr h => ?_)
  · obtain ⟨n, rfl, _⟩ := h; rfl
  · obtain ⟨n, rfl, k⟩ := h
    refine ⟨_, (pss_one (ps_if (pt_not (pt_val (pe_cal c_is_count hr (pa_cons (pv 0) pa_nil))))
        (pss_one ps_never)
        pss_nil)), ?_⟩
    walk_at "rd"
    refine ⟨.int (n : Int), true, rfl, .inl ⟨n, rfl, by simp⟩, fun H1 s1 => ?_⟩
    walk_at "rd"
    exact k _ s1
theorem ok_stay (F : Fun K "staying" "staying" s_staying f fd) (z : Z mg) (c_check_text : Cal P w K mg base "check_text" ["text"] 2 spCheckText) (c_check_count : Cal P w K mg base "check_count" ["count"] 3 spCount) (c_turn_number : Cal P w K mg base "turn_number" ["one", "other"] 1 spTN) (c_round_length : Cal P w K mg base "round_length" ["text"] 1 spRL) (c_lag_numbered : Cal P w K mg base "lag_numbered" ["one", "other", "number"] 1 spNum) : FnOk P w K mg base CX0 4 f fd ["one", "other", "most"] spStay := by
  refine F.ok sc_staying (fun vs H Q E h => ?_) (fun cdv A outer s H vs Q E hr h => ?_)
  · obtain ⟨l, r, m, rfl, _⟩ := h; rfl
  · obtain ⟨l, r, m, rfl, zl, zr, ll, lr, lm, no, k⟩ := h
    refine ⟨_, (pss_cons (ps_expr (pe_cal c_check_text hr (pa_cons (pv 0) pa_nil)))
      (pss_cons (ps_expr (pe_cal c_check_text hr (pa_cons (pv 1) pa_nil)))
      (C8.pss_cut (ps_if (PW.pt (pw_and (pt_cmpR op_eq (pv 0) (pe_strS (l := []) (by decide +kernel)) (nomark _)) (pw_and1 (pt_cmpR op_eq (pv 1) (pe_strS (l := []) (by decide +kernel)) (nomark _)))))
        (pss_one ps_never)
        pss_nil)
      (pss_cons (ps_expr (pe_cal c_check_count hr (pa_cons (pv 2) pa_nil)))
      (pss_cons (ps_set (i := 3) sc_staying.nd rfl (.inl rfl) (pe_cal c_turn_number hr (pa_cons (pv 1) (pa_cons (pv 0) pa_nil))))
      (pss_cons (ps_if (pt_cmpR op_lt (pv 3) pe_int (nomark _))
        (pss_one (ps_ret (pe_lst pa_nil)))
        pss_nil)
      (pss_cons (ps_set (i := 4) sc_staying.nd rfl (.inl rfl) (pe_cal c_round_length hr (pa_cons (pv 0) pa_nil)))
      (pss_cons (ps_set (i := 5) sc_staying.nd rfl (.inl rfl) (pe_op op_sub (pe_op op_mod (pe_op op_add (pv 3) (pv 2)) (pv 4)) (pv 2)))
      (pss_one (ps_ret (pe_lc (own := [("at", 6)]) (g := gName 6) (tt := tYes) rfl sc_staying.nd (pi_range3 (by rfl) z.range (pa_cons (pv 5) (pa_cons (pe_op op_add (pv 2) pe_int) (pa_cons (pv 4) pa_nil)))) (blkOk_by (own := [("at", 6)]) (N := n_staying) (sc := defScope s_staying) (by decide +kernel)) (fun _ _ _ _ _ => (pg_name (i := 6) sc_staying.nd rfl (.inl rfl))) (fun _ _ _ _ _ => pts_nil) (fun _ _ _ _ _ => (pe_cal c_lag_numbered hr (pa_cons (pv 0) (pa_cons (pv 1) (pa_cons (pv 6) pa_nil)))))))))))))))), ?_⟩
    walk_at "rd"
    refine ⟨l, rfl, by omega, zl, fun H1 s1 => ?_⟩
    walk_at "rd"
    refine ⟨r, rfl, by omega, zr, fun H2 s2 => ?_⟩
    have s12 := s1.trans s2
    walk_at "rd"
    refine i_cut (fun σ' H' => σ' = [some (.str (S l)), some (.str (S r)), some (.int (m : Int)), none, none, none, none] ∧ Same H H') ?_ ?_
    · walk_at "rd"
      refine iteB (fun e1 => ?_) (fun e1 => ?_)
      · walk_at "rd"
        refine iteB (fun e2 => ?_) (fun e2 => ?_)
        · rw [e1, e2] at no
          exact absurd no (by simp)
        · walk_at "rd"
          exact ⟨rfl, s12⟩
      · walk_at "rd"
        exact ⟨rfl, s12⟩
    · rintro σ' H3 ⟨rfl, s3⟩
      walk_at "rd"
      refine ⟨m, rfl, fun H4 s4 => ?_⟩
      have s14 := s3.trans s4
      walk_at "rd"
      refine ⟨r, l, rfl, by omega, by omega, ?_⟩
      walk_at "rd"
      unfold Ly.told at k
      cases et : turn r l with
      | none =>
        rw [et] at k
        walk_at "rd"
        refine iteB (fun _ => ?_) (fun c => absurd (by decide) c)
        walk_at "rd"
        refine ⟨Nat.zero_le _, fun q nq => ?_⟩
        exact k q [] _ (s14.trans (same_upd nq)) (s14.free nq) upd_same .nil
      | some j =>
        rw [et] at k
        dsimp only at k
        have hlr : l.length = r.length := by
          unfold turn at et
          by_cases c : r.length = l.length
          · exact c.symm
          · rw [if_neg c] at et; cases et
        have h0 : 0 < l.length := by omega
        have hj : j ≤ r.length := by
          unfold turn at et
          rw [if_pos hlr.symm] at et
          have := (Wd.find_range' et).2.1
          omega
        have L := (Wd.rlen_least h0).1.pos
        have Lb := rl_le (t := l)
        walk_at "rd"
        refine iteB (fun c => absurd c (by unfold optZ; simp)) (fun _ => ?_)
        walk_at "rd"
        refine ⟨l, rfl, by omega, by omega, ?_⟩
        walk_at "rd"
        have hs := Int.emod_nonneg ((j : Int) + (m : Int)) (show (rlen l : Int) ≠ 0 by omega)
        have hs2 := Int.emod_lt_of_pos ((j : Int) + (m : Int)) (show (0 : Int) < (rlen l : Int) by omega)
        have ef : (optZ (some j) + (m : Int)) % (rlen l : Int) - (m : Int) = Ly.fst j m (rlen l) := rfl
        rw [ef]
        have fb : -500 ≤ Ly.fst j m (rlen l) ∧ Ly.fst j m (rlen l) ≤ 1000 := by
          unfold Ly.fst
          omega
        have mem := Ly.prog_mem (j := j) (h := m) L
        have get : ∀ i, i < Ly.cnt (Ly.fst j m (rlen l)) m (rlen l) → ((Ly.prog (Ly.fst j m (rlen l)) (rlen l) (Ly.cnt (Ly.fst j m (rlen l)) m (rlen l))).map (num l r))[i]? = some (num l r (Ly.fst j m (rlen l) + (i : Nat) * (rlen l : Int))) ∧ (Ly.fst j m (rlen l) + (i : Nat) * (rlen l : Int)).natAbs ≤ 500 := by
          intro i hi
          have e : (Ly.prog (Ly.fst j m (rlen l)) (rlen l) (Ly.cnt (Ly.fst j m (rlen l)) m (rlen l)))[i]? = some (Ly.fst j m (rlen l) + (i : Nat) * (rlen l : Int)) := by
            unfold Ly.prog
            rw [List.getElem?_map, List.getElem?_range hi]; rfl
          refine ⟨by rw [List.getElem?_map, e]; rfl, ?_⟩
          have := (mem _).mp (List.mem_of_getElem? e)
          omega
        have n2 := cnt_le (f := Ly.fst j m (rlen l)) (m := m) (s := rlen l) (by omega) (by omega)
        have lps : ((Ly.prog (Ly.fst j m (rlen l)) (rlen l) (Ly.cnt (Ly.fst j m (rlen l)) m (rlen l))).map (num l r)).length = Ly.cnt (Ly.fst j m (rlen l)) m (rlen l) := by
          unfold Ly.prog
          rw [List.length_map, List.length_map, List.length_range]
        generalize Ly.fst j m (rlen l) = ff at *
        have rg := rgC_up (f := ff) (m := m) L (by omega) (by omega) (by omega) (by omega)
        generalize Ly.cnt ff m (rlen l) = n at *
        generalize (Ly.prog ff (rlen l) n).map (num l r) = ps at *
        refine i_iRng3 ?_
        walk_at "rd"
        refine ⟨_, _, _, n, rfl, rg, ?_⟩
        refine go_lc walk_rangeC (fun p i H5 => ∃ as : List Addr, H5 p = some (.lst (as.map V.ref)) ∧ PA H5 as (ps.take i) ∧ as.length = i ∧ Same H4 H5)
          (fun p np => ⟨[], upd_same, .nil, rfl, same_upd np⟩) (fun _ _ _ _ _ => trivial) (fun p np i v H5 H6 hi q y => ?_) (fun p H5 np q => ?_)
        · obtain ⟨as, ep, pa, la, s5⟩ := q
          obtain ⟨rfl, rfl⟩ := y
          walk_at "rd"
          refine ⟨rfl, i_yes (iteT ?_)⟩
          walk_at "rd"
          obtain ⟨g1, g2⟩ := get i hi
          refine ⟨l, r, _, rfl, by omega, by omega, g2, fun _ => by omega, fun _ => by omega, fun t H7 nt s6 et7 => ?_⟩
          have ep7 := s6 _ _ ep
          refine ⟨_, ep7, by rw [List.length_map]; exact Nat.lt_of_le_of_lt (show as.length ≤ 2001 by omega) (by decide), as ++ [t], ?_, ?_, by rw [List.length_append, la]; rfl, Same.set_new (s5.trans s6) np⟩
          · rw [upd_same, List.map_append]; rfl
          · rw [tk_snoc g1]
            refine ((pa.same s6).snoc et7).at fun a pr _ ha => ?_
            rw [L2.upd_ne fun e => by rw [e, ep7] at ha; cases ha]
            exact ha
        · obtain ⟨as, ep, pa, la, s5⟩ := q
          rw [List.take_of_length_le (by omega)] at pa
          exact k p as _ (s14.trans s5) (s14.free np) ep pa
end
end Sw
namespace Sw
open PySem PySem.Spec PyProof.Rows L2
local macro_rules | `(tactic| walk_at "hp") => `(tactic| first
  | (with_reducible assumption) | (with_reducible exact upd_same)
  | ((with_reducible refine' upd_old ?q1 ?q2); (case q1 => (with_reducible assumption)); (case q2 => walk_at "hp"))
  | ((with_reducible refine' Same.at ?q1 ?q2); (case q1 => (with_reducible assumption)); (case q2 => walk_at "hp"))
  | ((with_reducible refine' upd_skip ?q1 ?q2); (case q1 => walk_at "ne"); (case q2 => walk_at "hp"))
  | fail)
local macro_rules | `(tactic| walk_at "ne") => `(tactic| first
  | (with_reducible assumption) | (with_reducible exact Ne.symm (by assumption))
  | ((with_reducible refine' ne_of_none ?q1 ?q2); (case q2 => (with_reducible assumption)); (case q1 => walk_at "hp"))
  | fail)
local macro_rules | `(tactic| walk_at "ci") => `(tactic| first | assumption | (show (0 : Int) < _; first | decide | (with_reducible omega)) | exact ⟨by decide, by decide⟩ | exact .inl ⟨by decide, by decide⟩ | exact .inr ⟨by decide, by decide⟩)
local macro_rules | `(tactic| walk_at "ln") => `(tactic| first | (with_reducible assumption) | (with_reducible omega) | (simp only [List.length_append, List.length_take, List.length_drop, List.length_reverse, List.length_cons, List.length_nil]; with_reducible omega))
local macro_rules | `(tactic| walk_at "rd1") => `(tactic| first
  | (with_reducible refine i_seq ?_) | (with_reducible refine i_asg ?_) | (with_reducible refine i_ret ?_) | (with_reducible refine i_name ?_) | ((with_reducible refine' i_var ?q1 ?_); (case q1 => exact rfl)) | (with_reducible refine i_c ?_) | (with_reducible refine i_op ?_) | (with_reducible refine i_un ?_)
  | (with_reducible refine i_rI0 ?_) | (with_reducible refine i_cb ?_) | (with_reducible refine i_cons ?_) | (with_reducible refine i_nil ?_) | (with_reducible refine i_call ?_) | (with_reducible refine i_if ?_) | (with_reducible refine i_ifE ?_) | (with_reducible refine i_test ?_) | (with_reducible refine i_bl ?_)
  | (with_reducible refine i_and ?_) | (with_reducible refine i_or ?_) | (with_reducible refine i_not ?_) | (with_reducible refine i_lst ?_) | (with_reducible refine i_tup ?_) | (with_reducible refine i_next ?_) | (with_reducible refine i_drop ?_) | (with_reducible refine i_sub ?_)
  | (with_reducible refine i_bm ?_) | (with_reducible refine i_sl ?_) | (with_reducible refine i_part ?_) | (with_reducible refine i_nopart ?_) | (with_reducible refine i_exI ?_) | (with_reducible refine i_chain ?_) | ((with_reducible refine' i_aug ?q1 ?_); (case q1 => exact rfl)) | (with_reducible refine i_ip ?_)
  | (with_reducible refine i_par ?_) | (with_reducible refine i_pair ?_) | (with_reducible refine i_andV ?_) | (with_reducible refine i_orV ?_) | (with_reducible refine i_notV ?_) | (with_reducible refine i_m1 ?_) | (with_reducible refine i_str ?_)
  | (with_reducible refine iteF ?_) | (with_reducible refine iteT ?_) | (with_reducible refine iteNT ?_) | (with_reducible refine iteNF ?_) | (with_reducible refine i_tyS ?_) | (with_reducible refine i_tB ?_) | (with_reducible refine i_retN ?_) | (with_reducible refine i_par3 ?_) | (with_reducible refine i_trip ?_) | (with_reducible refine i_gCons ?_) | (with_reducible refine i_gNil ?_) | (with_reducible refine i_lstRg ?_) | (with_reducible refine i_rg1 ?_)
  | (with_reducible refine i_lc ?_) | (with_reducible refine i_for ?_) | (with_reducible refine i_iList ?_) | (with_reducible refine i_iTup ?_) | (with_reducible refine i_iStr ?_) | (with_reducible refine i_iRng1 ?_) | (with_reducible refine i_iEnS ?_)
  | ((with_reducible refine' i_ixTH ?q1 ?q2 ?_); (case q1 => walk_at "hp"); (case q2 => exact rfl))
  | ((with_reducible refine' i_ixLH ?q1 ?q2 ?_); (case q1 => walk_at "hp"); (case q2 => exact rfl))
  | ((with_reducible refine i_addS ?q1 ?_); (case q1 => walk_at "ln")) | ((with_reducible refine i_lenSS ?q1 ?_); (case q1 => walk_at "ln")) | ((with_reducible refine i_slFrom ?q1 ?q2 ?_); (case q1 => walk_at "ln"); (case q2 => walk_at "ln")) | ((with_reducible refine i_slTo ?q1 ?q2 ?_); (case q1 => walk_at "ln"); (case q2 => walk_at "ln"))
  | ((with_reducible refine' i_tyL ?q1 ?_); (case q1 => walk_at "hp"))
  | ((with_reducible refine' i_gTupH ?q1 ?q2 ?_); (case q1 => walk_at "hp"); (case q2 => exact rfl))
  | (with_reducible refine i_dnew ?_) | (with_reducible refine i_init ?_) | (with_reducible refine i_fst ?_) | (with_reducible refine i_mk ?_) | (with_reducible refine i_raise ?_) | (with_reducible refine i_callS ?_) | (with_reducible refine i_kwS ?_)
  | (with_reducible refine i_revT ?_) | (with_reducible refine i_kw ?_) | ((with_reducible refine' ⟨_, _, rfl, sqT_of ?q1, ?_⟩); (case q1 => walk_at "hp"))
  | (with_reducible refine i_revS ?_) | ((with_reducible refine i_revSS ?q1 ?_); (case q1 => walk_at "ln"))
  | (with_reducible refine i_startS ?_) | (with_reducible refine i_inSg ?_) | (with_reducible refine i_absN ?_) | (with_reducible refine i_min2 ?_) | (with_reducible refine i_max2 ?_) | (with_reducible refine i_min3 ?_) | (with_reducible refine i_intN ?_) | (with_reducible refine i_intNB ?_)
  | ((with_reducible refine' i_lenL ?q1 ?_); (case q1 => walk_at "hp")) | ((with_reducible refine' i_lenT ?q1 ?_); (case q1 => walk_at "hp"))
  | (with_reducible refine i_eqI ?_) | (with_reducible refine i_neI ?_) | (with_reducible refine i_eqS ?_) | (with_reducible refine i_neS ?_) | (with_reducible refine i_isNoI ?_) | (with_reducible refine i_isNoN ?_) | (with_reducible refine i_isNoR ?_)
  | ((with_reducible refine i_pow ?q1 ?q2 ?q3 ?_); (case q1 => decide); (case q2 => decide); (case q3 => (with_reducible omega)))
  | ((with_reducible refine i_rI ?q1 ?_); (case q1 => walk_at "ci"))
  | (with_reducible refine Or.inl ⟨_, rfl, ?_⟩) | (with_reducible refine Or.inr ⟨_, rfl, ?_⟩) | (with_reducible refine ⟨_, rfl, ?_⟩) | (with_reducible refine ⟨_, _, rfl, ?_⟩) | (with_reducible refine ⟨_, _, rfl, rfl, ?_⟩)
  | ((with_reducible refine' ⟨_, _, rfl, Or.inl (sqL_of ?q1), ?_⟩); (case q1 => walk_at "hp")) | ((with_reducible refine' ⟨_, _, rfl, Or.inr (sqT_of ?q1), ?_⟩); (case q1 => walk_at "hp")) | fail)
local macro_rules | `(tactic| walk_at "rd") => `(tactic| repeat' walk_at "rd1")

open Wd (rot rlen turn)
open Ly (pre num stays)
section
variable {P : Program} {w : World} {K : PySem.W.Frag} {mg : Str → Option Value} {base : Heap} {f : Addr} {fd : FuncData}
theorem ok_stayX {C D : Addr} (F : Fun K "staying" "staying" s_staying f fd) (z : Z mg) (xt : XT P w K mg base C) (x_check_text : CalX P w K mg base "check_text" ["text"] 3 (spCheckX K C)) (x_check_count : CalX P w K mg base "check_count" ["count"] 3 (spCountX K D)) (c_turn_number : Cal P w K mg base "turn_number" ["one", "other"] 1 spTN) (c_round_length : Cal P w K mg base "round_length" ["text"] 1 spRL) (c_lag_numbered : Cal P w K mg base "lag_numbered" ["one", "other", "number"] 1 spNum) : FnOk P w K mg base (L2.CX P w) 5 f fd ["one", "other", "most"] (spStayX K C D) := by
  refine Sw.Fun.okX F sc_staying (fun vs H Q E h => ?_) (fun cdv A outer s H vs Q E hr h tk => ?_)
  · obtain ⟨l, r, m, _, _, _, rfl, _⟩ := h; rfl
  · obtain ⟨l, r, m, bl, br, bm, rfl, hl, hr', hm, nl, nr, nm, k1, k2, k3, k4⟩ := h
    refine ⟨_, (pss_cons (ps_expr (pe_calX x_check_text hr tk (pa_cons (pv 0) pa_nil)))
      (pss_cons (ps_expr (pe_calX x_check_text hr tk (pa_cons (pv 1) pa_nil)))
      (C8.pss_cut (ps_if (PW.pt (pw_and (pt_cmpR op_eq (pv 0) (pe_strS (l := []) (by decide +kernel)) (nomark _)) (pw_and1 (pt_cmpR op_eq (pv 1) (pe_strS (l := []) (by decide +kernel)) (nomark _)))))
        (pss_one (ps_rs rfl tk (pmk_T xt hr (pv 0))))
        pss_nil)
      (pss_cons (ps_expr (pe_calX x_check_count hr tk (pa_cons (pv 2) pa_nil)))
      (pss_cons (ps_set (i := 3) sc_staying.nd rfl (.inl rfl) (pe_cal c_turn_number hr (pa_cons (pv 1) (pa_cons (pv 0) pa_nil))))
      (pss_cons (ps_if (pt_cmpR op_lt (pv 3) pe_int (nomark _))
        (pss_one (ps_ret (pe_lst pa_nil)))
        pss_nil)
      (pss_cons (ps_set (i := 4) sc_staying.nd rfl (.inl rfl) (pe_cal c_round_length hr (pa_cons (pv 0) pa_nil)))
      (pss_cons (ps_set (i := 5) sc_staying.nd rfl (.inl rfl) (pe_op op_sub (pe_op op_mod (pe_op op_add (pv 3) (pv 2)) (pv 4)) (pv 2)))
      (pss_one (ps_ret (pe_lc (own := [("at", 6)]) (g := gName 6) (tt := tYes) rfl sc_staying.nd (pi_range3 (by rfl) z.range (pa_cons (pv 5) (pa_cons (pe_op op_add (pv 2) pe_int) (pa_cons (pv 4) pa_nil)))) (blkOk_by (own := [("at", 6)]) (N := n_staying) (sc := defScope s_staying) (by decide +kernel)) (fun _ _ _ _ _ => (pg_name (i := 6) sc_staying.nd rfl (.inl rfl))) (fun _ _ _ _ _ => pts_nil) (fun _ _ _ _ _ => (pe_cal c_lag_numbered hr (pa_cons (pv 0) (pa_cons (pv 1) (pa_cons (pv 6) pa_nil)))))))))))))))), ?_⟩
    walk_at "rd"
    refine ⟨l, bl, rfl, hl, fun e H1 s1 => ?_, fun e dx H1 nx s1 ed => k2 (.inl e) dx _ nx s1 ed⟩
    subst e
    walk_at "rd"
    refine ⟨r, br, rfl, hr'.same s1, fun e H2 s2 => ?_, fun e dx H2 nx s2 ed => k3 rfl e dx _ (s1.free nx) (s1.trans s2) ed⟩
    subst e
    have s12 := s1.trans s2
    obtain ⟨l, rfl, _, zl⟩ := hl.yes
    obtain ⟨r, rfl, _, zr⟩ := hr'.yes
    have ll := nl l rfl
    have lr := nr r rfl
    walk_at "rd"
    refine i_cut (fun σ' H' => σ' = [some (.str (S l)), some (.str (S r)), some m, none, none, none, none] ∧ Same H H' ∧ ¬ (l = [] ∧ r = [])) ?_ ?_
    · walk_at "rd"
      refine iteB (fun e1 => ?_) (fun e1 => ?_)
      · walk_at "rd"
        refine iteB (fun e2 => ?_) (fun e2 => ?_)
        · walk_at "rd"
          refine i_thrown xt.T xt.no (fun dx nx => ?_)
          exact k2 (.inr ⟨rfl, by rw [e1], by rw [e2]⟩) dx _ (s12.free nx) (s12.trans (same_upd nx)) upd_same
        · walk_at "rd"
          exact ⟨rfl, s12, fun q => e2 q.2⟩
      · walk_at "rd"
        exact ⟨rfl, s12, fun q => e1 q.1⟩
    · rintro σ' H3 ⟨rfl, s3, nn⟩
      have no : 0 < l.length ∨ 0 < r.length := by
        rcases l with _ | _
        · rcases r with _ | _
          · exact absurd ⟨rfl, rfl⟩ nn
          · right; simp
        · left; simp
      have ne : V.str (S l) ≠ .str (S []) ∨ V.str (S r) ≠ .str (S []) := by
        by_cases c : l = []
        · right
          intro q
          exact nn ⟨c, S_inj.mp (V.str.inj q)⟩
        · left
          intro q
          exact c (S_inj.mp (V.str.inj q))
      walk_at "rd"
      refine ⟨m, bm, rfl, hm.same s3, fun e H4 s4 => ?_, fun e dx H4 nx s4 ed => k4 rfl rfl ne e dx _ (s3.free nx) (s3.trans s4) ed⟩
      subst e
      obtain ⟨m, rfl⟩ := hm.yes
      have lm := nm rfl m rfl
      have k := k1 rfl rfl rfl ne
      have s14 := s3.trans s4
      walk_at "rd"
      refine ⟨r, l, rfl, by omega, by omega, ?_⟩
      walk_at "rd"
      cases et : turn r l with
      | none =>
        walk_at "rd"
        refine iteB (fun _ => ?_) (fun c => absurd (by decide) c)
        walk_at "rd"
        refine ⟨Nat.zero_le _, fun q nq => ?_⟩
        exact k (.ref q) _ (s14.trans (same_upd nq))
      | some j =>
        have hlr : l.length = r.length := by
          unfold turn at et
          by_cases c : r.length = l.length
          · exact c.symm
          · rw [if_neg c] at et; cases et
        have h0 : 0 < l.length := by omega
        have hj : j ≤ r.length := by
          unfold turn at et
          rw [if_pos hlr.symm] at et
          have := (Wd.find_range' et).2.1
          omega
        have L := (Wd.rlen_least h0).1.pos
        have Lb := rl_le (t := l)
        walk_at "rd"
        refine iteB (fun c => absurd c (by unfold optZ; simp)) (fun _ => ?_)
        walk_at "rd"
        refine ⟨l, rfl, by omega, by omega, ?_⟩
        walk_at "rd"
        have hs := Int.emod_nonneg ((j : Int) + (m : Int)) (show (rlen l : Int) ≠ 0 by omega)
        have hs2 := Int.emod_lt_of_pos ((j : Int) + (m : Int)) (show (0 : Int) < (rlen l : Int) by omega)
        have ef : (optZ (some j) + (m : Int)) % (rlen l : Int) - (m : Int) = Ly.fst j m (rlen l) := rfl
        rw [ef]
        have fb : -500 ≤ Ly.fst j m (rlen l) ∧ Ly.fst j m (rlen l) ≤ 1000 := by
          unfold Ly.fst
          omega
        have mem := Ly.prog_mem (j := j) (h := m) L
        have get : ∀ i, i < Ly.cnt (Ly.fst j m (rlen l)) m (rlen l) → ((Ly.prog (Ly.fst j m (rlen l)) (rlen l) (Ly.cnt (Ly.fst j m (rlen l)) m (rlen l))).map (num l r))[i]? = some (num l r (Ly.fst j m (rlen l) + (i : Nat) * (rlen l : Int))) ∧ (Ly.fst j m (rlen l) + (i : Nat) * (rlen l : Int)).natAbs ≤ 500 := by
          intro i hi
          have e : (Ly.prog (Ly.fst j m (rlen l)) (rlen l) (Ly.cnt (Ly.fst j m (rlen l)) m (rlen l)))[i]? = some (Ly.fst j m (rlen l) + (i : Nat) * (rlen l : Int)) := by
            unfold Ly.prog
            rw [List.getElem?_map, List.getElem?_range hi]; rfl
          refine ⟨by rw [List.getElem?_map, e]; rfl, ?_⟩
          have := (mem _).mp (List.mem_of_getElem? e)
          omega
        have n2 := cnt_le (f := Ly.fst j m (rlen l)) (m := m) (s := rlen l) (by omega) (by omega)
        have lps : ((Ly.prog (Ly.fst j m (rlen l)) (rlen l) (Ly.cnt (Ly.fst j m (rlen l)) m (rlen l))).map (num l r)).length = Ly.cnt (Ly.fst j m (rlen l)) m (rlen l) := by
          unfold Ly.prog
          rw [List.length_map, List.length_map, List.length_range]
        generalize Ly.fst j m (rlen l) = ff at *
        have rg := rgC_up (f := ff) (m := m) L (by omega) (by omega) (by omega) (by omega)
        generalize Ly.cnt ff m (rlen l) = n at *
        generalize (Ly.prog ff (rlen l) n).map (num l r) = ps at *
        refine i_iRng3 ?_
        walk_at "rd"
        refine ⟨_, _, _, n, rfl, rg, ?_⟩
        refine go_lc walk_rangeC (fun p i H5 => ∃ as : List Addr, H5 p = some (.lst (as.map V.ref)) ∧ PA H5 as (ps.take i) ∧ as.length = i ∧ Same H4 H5)
          (fun p np => ⟨[], upd_same, .nil, rfl, same_upd np⟩) (fun _ _ _ _ _ => trivial) (fun p np i v H5 H6 hi q y => ?_) (fun p H5 np q => ?_)
        · obtain ⟨as, ep, pa, la, s5⟩ := q
          obtain ⟨rfl, rfl⟩ := y
          walk_at "rd"
          refine ⟨rfl, i_yes (iteT ?_)⟩
          walk_at "rd"
          obtain ⟨g1, g2⟩ := get i hi
          refine ⟨l, r, _, rfl, by omega, by omega, g2, fun _ => by omega, fun _ => by omega, fun t H7 nt s6 et7 => ?_⟩
          have ep7 := s6 _ _ ep
          refine ⟨_, ep7, by rw [List.length_map]; exact Nat.lt_of_le_of_lt (show as.length ≤ 2001 by omega) (by decide), as ++ [t], ?_, ?_, by rw [List.length_append, la]; rfl, Same.set_new (s5.trans s6) np⟩
          · rw [upd_same, List.map_append]; rfl
          · rw [tk_snoc g1]
            refine ((pa.same s6).snoc et7).at fun a pr _ ha => ?_
            rw [L2.upd_ne fun e => by rw [e, ep7] at ha; cases ha]
            exact ha
        · obtain ⟨as, ep, pa, la, s5⟩ := q
          exact k (.ref p) _ (s14.trans s5)
end
end Sw
namespace Sw
open PySem PySem.Spec PyProof.Rows L2
local macro_rules | `(tactic| walk_at "hp") => `(tactic| first
  | (with_reducible assumption) | (with_reducible exact upd_same)
  | ((with_reducible refine' upd_old ?q1 ?q2); (case q1 => (with_reducible assumption)); (case q2 => walk_at "hp"))
  | ((with_reducible refine' Same.at ?q1 ?q2); (case q1 => (with_reducible assumption)); (case q2 => walk_at "hp"))
  | ((with_reducible refine' upd_skip ?q1 ?q2); (case q1 => walk_at "ne"); (case q2 => walk_at "hp"))
  | fail)
local macro_rules | `(tactic| walk_at "ne") => `(tactic| first
  | (with_reducible assumption) | (with_reducible exact Ne.symm (by assumption))
  | ((with_reducible refine' ne_of_none ?q1 ?q2); (case q2 => (with_reducible assumption)); (case q1 => walk_at "hp"))
  | fail)
local macro_rules | `(tactic| walk_at "ci") => `(tactic| first | assumption | (show (0 : Int) < _; first | decide | (with_reducible omega)) | exact ⟨by decide, by decide⟩ | exact .inl ⟨by decide, by decide⟩ | exact .inr ⟨by decide, by decide⟩)
local macro_rules | `(tactic| walk_at "ln") => `(tactic| first | (with_reducible assumption) | (with_reducible omega) | (simp only [List.length_append, List.length_take, List.length_drop, List.length_reverse, List.length_cons, List.length_nil]; with_reducible omega))
local macro_rules | `(tactic| walk_at "rd1") => `(tactic| first
  | (with_reducible refine i_seq ?_) | (with_reducible refine i_asg ?_) | (with_reducible refine i_ret ?_) | (with_reducible refine i_name ?_) | ((with_reducible refine' i_var ?q1 ?_); (case q1 => exact rfl)) | (with_reducible refine i_c ?_) | (with_reducible refine i_op ?_) | (with_reducible refine i_un ?_)
  | (with_reducible refine i_rI0 ?_) | (with_reducible refine i_cb ?_) | (with_reducible refine i_cons ?_) | (with_reducible refine i_nil ?_) | (with_reducible refine i_call ?_) | (with_reducible refine i_if ?_) | (with_reducible refine i_ifE ?_) | (with_reducible refine i_test ?_) | (with_reducible refine i_bl ?_)
  | (with_reducible refine i_and ?_) | (with_reducible refine i_or ?_) | (with_reducible refine i_not ?_) | (with_reducible refine i_lst ?_) | (with_reducible refine i_tup ?_) | (with_reducible refine i_next ?_) | (with_reducible refine i_drop ?_) | (with_reducible refine i_sub ?_)
  | (with_reducible refine i_bm ?_) | (with_reducible refine i_sl ?_) | (with_reducible refine i_part ?_) | (with_reducible refine i_nopart ?_) | (with_reducible refine i_exI ?_) | (with_reducible refine i_chain ?_) | ((with_reducible refine' i_aug ?q1 ?_); (case q1 => exact rfl)) | (with_reducible refine i_ip ?_)
  | (with_reducible refine i_par ?_) | (with_reducible refine i_pair ?_) | (with_reducible refine i_andV ?_) | (with_reducible refine i_orV ?_) | (with_reducible refine i_notV ?_) | (with_reducible refine i_m1 ?_) | (with_reducible refine i_str ?_)
  | (with_reducible refine iteF ?_) | (with_reducible refine iteT ?_) | (with_reducible refine iteNT ?_) | (with_reducible refine iteNF ?_) | (with_reducible refine i_tyS ?_) | (with_reducible refine i_tB ?_) | (with_reducible refine i_retN ?_) | (with_reducible refine i_par3 ?_) | (with_reducible refine i_trip ?_) | (with_reducible refine i_gCons ?_) | (with_reducible refine i_gNil ?_) | (with_reducible refine i_lstRg ?_) | (with_reducible refine i_rg1 ?_)
  | (with_reducible refine i_lc ?_) | (with_reducible refine i_for ?_) | (with_reducible refine i_iList ?_) | (with_reducible refine i_iTup ?_) | (with_reducible refine i_iStr ?_) | (with_reducible refine i_iRng1 ?_) | (with_reducible refine i_iEnS ?_)
  | ((with_reducible refine' i_ixTH ?q1 ?q2 ?_); (case q1 => walk_at "hp"); (case q2 => exact rfl))
  | ((with_reducible refine' i_ixLH ?q1 ?q2 ?_); (case q1 => walk_at "hp"); (case q2 => exact rfl))
  | ((with_reducible refine i_addS ?q1 ?_); (case q1 => walk_at "ln")) | ((with_reducible refine i_lenSS ?q1 ?_); (case q1 => walk_at "ln")) | ((with_reducible refine i_slFrom ?q1 ?q2 ?_); (case q1 => walk_at "ln"); (case q2 => walk_at "ln")) | ((with_reducible refine i_slTo ?q1 ?q2 ?_); (case q1 => walk_at "ln"); (case q2 => walk_at "ln"))
  | ((with_reducible refine' i_tyL ?q1 ?_); (case q1 => walk_at "hp"))
  | ((with_reducible refine' i_gTupH ?q1 ?q2 ?_); (case q1 => walk_at "hp"); (case q2 => exact rfl))
  | (with_reducible refine i_dnew ?_) | (with_reducible refine i_init ?_) | (with_reducible refine i_fst ?_) | (with_reducible refine i_mk ?_) | (with_reducible refine i_raise ?_) | (with_reducible refine i_callS ?_) | (with_reducible refine i_kwS ?_)
  | (with_reducible refine i_revT ?_) | (with_reducible refine i_kw ?_) | ((with_reducible refine' ⟨_, _, rfl, sqT_of ?q1, ?_⟩); (case q1 => walk_at "hp"))
  | (with_reducible refine i_revS ?_) | ((with_reducible refine i_revSS ?q1 ?_); (case q1 => walk_at "ln"))
  | (with_reducible refine i_startS ?_) | (with_reducible refine i_inSg ?_) | (with_reducible refine i_absN ?_) | (with_reducible refine i_min2 ?_) | (with_reducible refine i_max2 ?_) | (with_reducible refine i_min3 ?_) | (with_reducible refine i_intN ?_) | (with_reducible refine i_intNB ?_)
  | ((with_reducible refine' i_lenL ?q1 ?_); (case q1 => walk_at "hp")) | ((with_reducible refine' i_lenT ?q1 ?_); (case q1 => walk_at "hp"))
  | (with_reducible refine i_eqI ?_) | (with_reducible refine i_neI ?_) | (with_reducible refine i_eqS ?_) | (with_reducible refine i_neS ?_) | (with_reducible refine i_isNoI ?_) | (with_reducible refine i_isNoN ?_) | (with_reducible refine i_isNoR ?_)
  | ((with_reducible refine i_pow ?q1 ?q2 ?q3 ?_); (case q1 => decide); (case q2 => decide); (case q3 => (with_reducible omega)))
  | ((with_reducible refine i_rI ?q1 ?_); (case q1 => walk_at "ci"))
  | (with_reducible refine Or.inl ⟨_, rfl, ?_⟩) | (with_reducible refine Or.inr ⟨_, rfl, ?_⟩) | (with_reducible refine ⟨_, rfl, ?_⟩) | (with_reducible refine ⟨_, _, rfl, ?_⟩) | (with_reducible refine ⟨_, _, rfl, rfl, ?_⟩)
  | ((with_reducible refine' ⟨_, _, rfl, Or.inl (sqL_of ?q1), ?_⟩); (case q1 => walk_at "hp")) | ((with_reducible refine' ⟨_, _, rfl, Or.inr (sqT_of ?q1), ?_⟩); (case q1 => walk_at "hp")) | fail)
local macro_rules | `(tactic| walk_at "rd") => `(tactic| repeat' walk_at "rd1")

open Wd (rot rlen turn)
open Ly (pre num stays nums due told)
theorem walk_rangeN {lo n : Nat} : Walk (Itr (lo : Int) n) n (fun _ => True) (YFn fun i => .int ((lo + i : Nat) : Int)) :=
  (walk_range (lo := (lo : Int)) (n := n)).mono (fun _ h => h) fun i H x H' _ _ y => ⟨y.1, by rw [y.2]; show V.int ((lo : Int) + (i : Int)) = V.int ((lo + i : Nat) : Int); rw [Int.natCast_add]⟩
theorem i_iRng2 {ta : TA} {R : It → Hp → Prop} {σ : L2.St} {H : Hp} (h : ta σ H fun vs H1 => ∃ i j : Int, vs = [.int i, .int j] ∧ (-(2 ^ 62) ≤ i ∧ i < 2 ^ 62 ∧ -(2 ^ 62) ≤ j ∧ j < 2 ^ 62) ∧ R (Itr i (j - i).toNat) H1) : iRng2 ta σ H R := h
theorem num_b (l r : List Nat) (z : Int) : (num l r z).1.length ≤ z.natAbs ∧ (num l r z).2.length ≤ z.natAbs := by
  unfold num pre
  split
  · refine ⟨?_, by simp⟩
    rw [List.length_take]; omega
  · refine ⟨by simp, ?_⟩
    rw [List.length_take]; omega
/-- _law_root_length(word) -/
def spRootLen : Sp := fun vs H Q _ => ∃ t : List Nat, vs = [.str (S t)] ∧ t.length ≤ 1000 ∧ ∀ H', Same H H' → Q (.int (rlen t : Nat)) H'
/-- _law_stays(pair, left, right) -/
def spStays : Sp := fun vs H Q _ => ∃ (a : Addr) (p : List Nat × List Nat) (l r : List Nat), vs = [.ref a, .str (S l), .str (S r)] ∧ H a = some (pairO p) ∧ l.length ≤ 1000 ∧ r.length ≤ 1000 ∧ p.1.length ≤ 1000 ∧ p.2.length ≤ 1000 ∧ Q (.bl (decide (stays p l r))) H
/-- _law_due(left, right, highest) -/
def spDue : Sp := fun vs H Q _ => ∃ (l r : List Nat) (m : Nat), vs = [.str (S l), .str (S r), .int (m : Int)] ∧ l.length ≤ 1000 ∧ r.length ≤ 1000 ∧ m ≤ 500 ∧ (0 < l.length ∨ 0 < r.length) ∧
  ∀ q as H', Same H H' → H q = none → H' q = some (.lst (as.map V.ref)) → PA H' as (due l r m) → Q (.ref q) H'
/-- _law_number(pair) -/
def spNumber : Sp := fun vs H Q _ => ∃ (a : Addr) (p : List Nat × List Nat), vs = [.ref a] ∧ H a = some (pairO p) ∧ p.1.length ≤ 1000 ∧ p.2.length ≤ 1000 ∧ Q (.int ((p.1.length : Int) - (p.2.length : Int))) H
section
variable {P : Program} {w : World} {K : PySem.W.Frag} {mg : Str → Option Value} {base : Heap} {f : Addr} {fd : FuncData}
theorem ok_rootlen (F : Fun K "_law_root_length" "_law_root_length" s__law_root_length f fd) (z : Z mg) : FnOk P w K mg base CX0 1 f fd ["word"] spRootLen := by
  refine F.ok sc__law_root_length (fun vs H Q E h => ?_) (fun cdv A outer s H vs Q E hr h => ?_)
  · obtain ⟨t, rfl, _⟩ := h; rfl
  · obtain ⟨t, rfl, hl, k⟩ := h
    refine ⟨_, (pss_cons (ps_for PassesOwn.never rfl (pi_range2 (by rfl) z.range (pa_cons pe_int (pa_cons (pe_op op_add (pe_callB call_lenS (by rfl) z.len PySem.boot_len (pa_cons (pv 0) pa_nil)) pe_int) pa_nil))) (pg_name (i := 1) sc__law_root_length.nd rfl (.inl rfl))
        (pss_one (ps_if (PW.pt (pw_and (pt_cmpR op_eq (pe_op op_mod (pe_callB call_lenS (by rfl) z.len PySem.boot_len (pa_cons (pv 0) pa_nil)) (pv 1)) pe_int (nomark _)) (pw_and1 (pt_cmpR op_eq (pe_op op_mulS (pe_slice sl_S (pv 0) po_none (po_some (pv 1))) (pe_op op_fdiv (pe_callB call_lenS (by rfl) z.len PySem.boot_len (pa_cons (pv 0) pa_nil)) (pv 1))) (pv 0) (nomark _)))))
          (pss_one (ps_ret (pv 1)))
          pss_nil)))
      (pss_one (ps_ret pe_int))), ?_⟩
    walk_at "rd"
    refine i_iRng2 ?_
    walk_at "rd"
    refine ⟨⟨by omega, by omega, by omega, by omega⟩, ?_⟩
    rw [show ((t.length : Int) + 1 - 1).toNat = t.length by omega]
    refine go_for (walk_rangeN (lo := 1)) (fun i σ H2 => ∃ u1 : Option V, σ = [some (.str (S t)), u1] ∧ Same H H2 ∧ ∀ q, 1 ≤ q → q < 1 + i → (decide (t.length % q = 0) && decide ((List.replicate (t.length / q) (t.take q)).flatten = t)) = false)
      ⟨none, rfl, Same.refl _, fun q h1 h2 => by omega⟩ (fun _ _ _ _ _ => trivial) (fun i v σ H2 H3 hi p y => ?_) (fun σ H2 p => ?_)
    · obtain ⟨u1, rfl, s2, hn⟩ := p
      obtain ⟨rfl, rfl⟩ := y
      have nx : (decide (t.length % (1 + i) = 0) && decide ((List.replicate (t.length / (1 + i)) (t.take (1 + i))).flatten = t)) = false → ∀ q, 1 ≤ q → q < 1 + (i + 1) → (decide (t.length % q = 0) && decide ((List.replicate (t.length / q) (t.take q)).flatten = t)) = false := fun e q h1 h2 => by
        by_cases c : q = 1 + i
        · rw [c]; exact e
        · exact hn q h1 (by omega)
      walk_at "rd"
      refine iteB (fun e => ?_) (fun e => ?_)
      · walk_at "rd"
        refine i_rI (a := (t.length : Int)) (b := ((1 + i : Nat) : Int)) ⟨by omega, by omega⟩ ?_
        rw [Int.toNat_natCast, ← Int.natCast_ediv]
        have lt : (t.take (1 + i)).length ≤ 1000 := by rw [List.length_take]; omega
        refine i_mulS lt (Nat.le_trans (Nat.div_le_self _ _) hl) ?_
        walk_at "rd"
        have em : t.length % (1 + i) = 0 := by omega
        refine iteB (fun e2 => ?_) (fun e2 => ?_)
        · walk_at "rd"
          have er : rlen t = 1 + i := by
            rw [← Wd.root_len, ← Wd.root_eq]
            unfold Wd.lroot
            rw [Wd.find_range'_is (s := 1 + i) (by omega) (by omega) (by rw [decide_eq_true em, decide_eq_true e2]; rfl) hn]
            show (t.take (1 + i)).length = 1 + i
            rw [List.length_take]; omega
          rw [er] at k
          exact k _ s2
        · walk_at "rd"
          have nn := nx (by rw [decide_eq_false e2, Bool.and_false])
          first | exact nn | exact ⟨s2, nn⟩ | exact ⟨_, rfl, s2, nn⟩
      · walk_at "rd"
        exact ⟨s2, nx (by rw [decide_eq_false (by omega), Bool.false_and])⟩
    · obtain ⟨u1, rfl, s2, hn⟩ := p
      walk_at "rd"
      have er : rlen t = 0 := by
        rw [← Wd.root_len, ← Wd.root_eq]
        unfold Wd.lroot
        rw [List.find?_eq_none.mpr fun x hx => by
          have := hn x (List.mem_range'_1.mp hx).1 (List.mem_range'_1.mp hx).2
          rw [this]; simp]
        rfl
      rw [er] at k
      exact k _ s2
theorem ok_stays (F : Fun K "_law_stays" "_law_stays" s__law_stays f fd) (z : Z mg) : FnOk P w K mg base CX0 1 f fd ["pair", "left", "right"] spStays := by
  refine F.ok sc__law_stays (fun vs H Q E h => ?_) (fun cdv A outer s H vs Q E hr h => ?_)
  · obtain ⟨a, p, l, r, rfl, _⟩ := h; rfl
  · obtain ⟨a, p, l, r, rfl, ha, ll, lr, l1, l2, k⟩ := h
    refine ⟨_, (pss_one (ps_ret (pe_and (pe_cmpR op_eq (pe_callB call_lenS (by rfl) z.len PySem.boot_len (pa_cons (pv 1) pa_nil)) (pe_callB call_lenS (by rfl) z.len PySem.boot_len (pa_cons (pv 2) pa_nil)) (nomark _)) (pe_one (pe_cmpR op_eq (pe_op op_addS (pe_op op_addS (pe_ix ix_tup (pv 0) pe_int (fun _ _ => rfl)) (pv 1)) (pe_ix ix_tup (pv 0) pe_int (fun _ _ => rfl))) (pe_op op_addS (pe_op op_addS (pe_ix ix_tup (pv 0) pe_int (fun _ _ => rfl)) (pv 2)) (pe_ix ix_tup (pv 0) pe_int (fun _ _ => rfl))) (nomark _)))))), ?_⟩
    walk_at "rd"
    refine iteB (fun e => ?_) (fun e => ?_)
    · have ed : decide (stays p l r) = decide (p.1 ++ l ++ p.2 = p.2 ++ r ++ p.1) := by
        by_cases c : p.1 ++ l ++ p.2 = p.2 ++ r ++ p.1
        · rw [decide_eq_true c, decide_eq_true ⟨by omega, c⟩]
        · rw [decide_eq_false c, decide_eq_false fun q => c q.2]
      rw [ed] at k
      walk_at "rd"
      exact k
    · have ed : decide (stays p l r) = false := decide_eq_false fun q => e (by have := q.1; omega)
      rw [ed] at k
      exact k
theorem ok_number (F : Fun K "_law_number" "_law_number" s__law_number f fd) (z : Z mg) : FnOk P w K mg base CX0 1 f fd ["pair"] spNumber := by
  refine F.ok sc__law_number (fun vs H Q E h => ?_) (fun cdv A outer s H vs Q E hr h => ?_)
  · obtain ⟨a, p, rfl, _⟩ := h; rfl
  · obtain ⟨a, p, rfl, ha, l1, l2, k⟩ := h
    refine ⟨_, (pss_one (ps_ret (pe_op op_sub (pe_callB call_lenS (by rfl) z.len PySem.boot_len (pa_cons (pe_ix ix_tup (pv 0) pe_int (fun _ _ => rfl)) pa_nil)) (pe_callB call_lenS (by rfl) z.len PySem.boot_len (pa_cons (pe_ix ix_tup (pv 0) pe_int (fun _ _ => rfl)) pa_nil))))), ?_⟩
    walk_at "rd"
    exact k
theorem ok_due (F : Fun K "_law_due" "_law_due" s__law_due f fd) (z : Z mg) (c__law_numbered : Cal P w K mg base "_law_numbered" ["left", "right", "number"] 1 spNum) (c__law_stays : Cal P w K mg base "_law_stays" ["pair", "left", "right"] 1 spStays) : FnOk P w K mg base CX0 2 f fd ["left", "right", "highest"] spDue := by
  refine F.ok sc__law_due (fun vs H Q E h => ?_) (fun cdv A outer s H vs Q E hr h => ?_)
  · obtain ⟨l, r, m, rfl, _⟩ := h; rfl
  · obtain ⟨l, r, m, rfl, ll, lr, lm, no, k⟩ := h
    unfold due at k
    refine ⟨_, (pss_cons (ps_if (pt_cmpR op_ne (pe_callB call_lenS (by rfl) z.len PySem.boot_len (pa_cons (pv 0) pa_nil)) (pe_callB call_lenS (by rfl) z.len PySem.boot_len (pa_cons (pv 1) pa_nil)) (nomark _))
        (pss_one (ps_ret (pe_lst pa_nil)))
        pss_nil)
      (pss_cons (ps_set (i := 3) sc__law_due.nd rfl (.inl rfl) (pe_lst pa_nil))
      (pss_cons (ps_for PassesOwn.never rfl (pi_range2 (by rfl) z.range (pa_cons (pe_op op_sub pe_int (pv 2)) (pa_cons (pe_op op_add (pv 2) pe_int) pa_nil))) (pg_name (i := 4) sc__law_due.nd rfl (.inl rfl))
        (pss_cons (ps_set (i := 5) sc__law_due.nd rfl (.inl rfl) (pe_cal c__law_numbered hr (pa_cons (pv 0) (pa_cons (pv 1) (pa_cons (pv 4) pa_nil)))))
        (pss_one (ps_if (pt_val (pe_cal c__law_stays hr (pa_cons (pv 5) (pa_cons (pv 0) (pa_cons (pv 1) pa_nil)))))
          (pss_one (ps_expr (pe_bm PySem.F.plainAttrs_list PySem.F.slot_list_append PySem.F.type_list_append mt_append (pv 3) (pa_cons (pv 5) pa_nil))))
          pss_nil))))
      (pss_one (ps_ret (pv 3)))))), ?_⟩
    walk_at "rd"
    refine iteNB (fun e => ?_) (fun e => ?_)
    · rw [if_neg (show ¬ l.length = r.length by omega)] at k
      walk_at "rd"
      refine ⟨Nat.zero_le _, fun q nq => ?_⟩
      exact k q [] _ (same_upd nq) nq upd_same .nil
    · rw [if_pos (show l.length = r.length by omega)] at k
      unfold nums at k
      walk_at "rd"
      refine ⟨Nat.zero_le _, fun q nq => ?_⟩
      walk_at "rd"
      refine i_iRng2 ?_
      walk_at "rd"
      refine ⟨⟨by omega, by omega, by omega, by omega⟩, ?_⟩
      rw [show ((m : Int) + 1 - (0 - (m : Int))).toNat = 2 * m + 1 by omega, show (0 : Int) - (m : Int) = -(m : Int) by omega]
      have get : ∀ i, i < 2 * m + 1 → (Ly.zints m)[i]? = some (-(m : Int) + (i : Nat)) := by
        intro i hi
        unfold Ly.zints
        rw [List.getElem?_map, List.getElem?_range hi]
        show some ((i : Int) - (m : Int)) = _
        congr 1
        omega
      have li : (Ly.zints m).length = 2 * m + 1 := by unfold Ly.zints; rw [List.length_map, List.length_range]
      generalize Ly.zints m = is at *
      refine go_for walk_range (fun i σ H2 => ∃ (as : List Addr) (u4 u5 : Option V), σ = [some (.str (S l)), some (.str (S r)), some (.int (m : Int)), some (.ref q), u4, u5] ∧ Same H H2 ∧ H2 q = some (.lst (as.map V.ref)) ∧ PA H2 as (((is.take i).filter fun z => decide (stays (num l r z) l r)).map (num l r)) ∧ as.length ≤ i)
        ⟨[], none, none, rfl, same_upd nq, upd_same, .nil, Nat.zero_le _⟩ (fun _ _ _ _ _ => trivial) (fun i v σ H2 H3 hi h y => ?_) (fun σ H2 h => ?_)
      · obtain ⟨as, u4, u5, rfl, s2, eq2, pa, la⟩ := h
        obtain ⟨rfl, rfl⟩ := y
        have gi := get i hi
        have hz : (-(m : Int) + (i : Nat)).natAbs ≤ 500 := by omega
        walk_at "rd"
        refine ⟨l, r, -(m : Int) + (i : Nat), rfl, by omega, by omega, hz, fun _ => by omega, fun _ => by omega, fun t H4 nt s4 et => ?_⟩
        walk_at "rd"
        have nb := num_b l r (-(m : Int) + (i : Nat))
        have eq4 := s4 _ _ eq2
        have tk := tk_snoc gi
        refine ⟨t, num l r (-(m : Int) + (i : Nat)), l, r, rfl, et, by omega, by omega, by omega, by omega, ?_⟩
        walk_at "rd"
        refine iteB (fun c => ?_) (fun c => ?_)
        · walk_at "rd"
          refine i_append eq4 (by rw [List.length_map]; exact Nat.lt_of_le_of_lt (show as.length ≤ 1001 by omega) (by decide)) ?_
          refine ⟨as ++ [t], _, _, rfl, Same.set_new (s2.trans s4) nq, by rw [upd_same, List.map_append]; rfl, ?_, by rw [List.length_append]; simp only [List.length_cons, List.length_nil]; omega⟩
          rw [tk, List.filter_append, List.map_append, List.filter_cons_of_pos (by rw [decide_eq_true c])]
          refine ((pa.same s4).snoc et).at fun a pr _ ha => ?_
          rw [L2.upd_ne fun e => by rw [e, eq4] at ha; cases ha]
          exact ha
        · walk_at "rd"
          refine ⟨as, _, _, rfl, s2.trans s4, eq4, ?_, by omega⟩
          rw [tk, List.filter_append, List.map_append, List.filter_cons_of_neg (by rw [decide_eq_false c]; simp)]
          show PA H4 as (_ ++ [])
          rw [List.append_nil]
          exact pa.same s4
      · obtain ⟨as, u4, u5, rfl, s2, eq2, pa, la⟩ := h
        rw [List.take_of_length_le (by omega)] at pa
        walk_at "rd"
        exact k q as _ s2 nq eq2 pa
end
end Sw
namespace Sw
open PySem PySem.Spec PyProof.Rows L2
local macro_rules | `(tactic| walk_at "hp") => `(tactic| first
  | (with_reducible assumption) | (with_reducible exact upd_same)
  | ((with_reducible refine' upd_old ?q1 ?q2); (case q1 => (with_reducible assumption)); (case q2 => walk_at "hp"))
  | ((with_reducible refine' Same.at ?q1 ?q2); (case q1 => (with_reducible assumption)); (case q2 => walk_at "hp"))
  | ((with_reducible refine' upd_skip ?q1 ?q2); (case q1 => walk_at "ne"); (case q2 => walk_at "hp"))
  | fail)
local macro_rules | `(tactic| walk_at "ne") => `(tactic| first
  | (with_reducible assumption) | (with_reducible exact Ne.symm (by assumption))
  | ((with_reducible refine' ne_of_none ?q1 ?q2); (case q2 => (with_reducible assumption)); (case q1 => walk_at "hp"))
  | fail)
local macro_rules | `(tactic| walk_at "ci") => `(tactic| first | assumption | (show (0 : Int) < _; first | decide | (with_reducible omega)) | exact ⟨by decide, by decide⟩ | exact .inl ⟨by decide, by decide⟩ | exact .inr ⟨by decide, by decide⟩)
local macro_rules | `(tactic| walk_at "ln") => `(tactic| first | (with_reducible assumption) | (with_reducible omega) | (simp only [List.length_append, List.length_take, List.length_drop, List.length_reverse, List.length_cons, List.length_nil]; with_reducible omega))
local macro_rules | `(tactic| walk_at "rd1") => `(tactic| first
  | (with_reducible refine i_seq ?_) | (with_reducible refine i_asg ?_) | (with_reducible refine i_ret ?_) | (with_reducible refine i_name ?_) | ((with_reducible refine' i_var ?q1 ?_); (case q1 => exact rfl)) | (with_reducible refine i_c ?_) | (with_reducible refine i_op ?_) | (with_reducible refine i_un ?_)
  | (with_reducible refine i_rI0 ?_) | (with_reducible refine i_cb ?_) | (with_reducible refine i_cons ?_) | (with_reducible refine i_nil ?_) | (with_reducible refine i_call ?_) | (with_reducible refine i_if ?_) | (with_reducible refine i_ifE ?_) | (with_reducible refine i_test ?_) | (with_reducible refine i_bl ?_)
  | (with_reducible refine i_and ?_) | (with_reducible refine i_or ?_) | (with_reducible refine i_not ?_) | (with_reducible refine i_lst ?_) | (with_reducible refine i_tup ?_) | (with_reducible refine i_next ?_) | (with_reducible refine i_drop ?_) | (with_reducible refine i_sub ?_)
  | (with_reducible refine i_bm ?_) | (with_reducible refine i_sl ?_) | (with_reducible refine i_part ?_) | (with_reducible refine i_nopart ?_) | (with_reducible refine i_exI ?_) | (with_reducible refine i_chain ?_) | ((with_reducible refine' i_aug ?q1 ?_); (case q1 => exact rfl)) | (with_reducible refine i_ip ?_)
  | (with_reducible refine i_par ?_) | (with_reducible refine i_pair ?_) | (with_reducible refine i_andV ?_) | (with_reducible refine i_orV ?_) | (with_reducible refine i_notV ?_) | (with_reducible refine i_m1 ?_) | (with_reducible refine i_str ?_)
  | (with_reducible refine iteF ?_) | (with_reducible refine iteT ?_) | (with_reducible refine iteNT ?_) | (with_reducible refine iteNF ?_) | (with_reducible refine i_tyS ?_) | (with_reducible refine i_tB ?_) | (with_reducible refine i_retN ?_) | (with_reducible refine i_par3 ?_) | (with_reducible refine i_trip ?_) | (with_reducible refine i_gCons ?_) | (with_reducible refine i_gNil ?_) | (with_reducible refine i_lstRg ?_) | (with_reducible refine i_rg1 ?_)
  | (with_reducible refine i_lc ?_) | (with_reducible refine i_for ?_) | (with_reducible refine i_iList ?_) | (with_reducible refine i_iTup ?_) | (with_reducible refine i_iStr ?_) | (with_reducible refine i_iRng1 ?_) | (with_reducible refine i_iEnS ?_)
  | ((with_reducible refine' i_ixTH ?q1 ?q2 ?_); (case q1 => walk_at "hp"); (case q2 => exact rfl))
  | ((with_reducible refine' i_ixLH ?q1 ?q2 ?_); (case q1 => walk_at "hp"); (case q2 => exact rfl))
  | ((with_reducible refine i_addS ?q1 ?_); (case q1 => walk_at "ln")) | ((with_reducible refine i_lenSS ?q1 ?_); (case q1 => walk_at "ln")) | ((with_reducible refine i_slFrom ?q1 ?q2 ?_); (case q1 => walk_at "ln"); (case q2 => walk_at "ln")) | ((with_reducible refine i_slTo ?q1 ?q2 ?_); (case q1 => walk_at "ln"); (case q2 => walk_at "ln"))
  | ((with_reducible refine' i_tyL ?q1 ?_); (case q1 => walk_at "hp"))
  | ((with_reducible refine' i_gTupH ?q1 ?q2 ?_); (case q1 => walk_at "hp"); (case q2 => exact rfl))
  | (with_reducible refine i_dnew ?_) | (with_reducible refine i_init ?_) | (with_reducible refine i_fst ?_) | (with_reducible refine i_mk ?_) | (with_reducible refine i_raise ?_) | (with_reducible refine i_callS ?_) | (with_reducible refine i_kwS ?_)
  | (with_reducible refine i_revT ?_) | (with_reducible refine i_kw ?_) | ((with_reducible refine' ⟨_, _, rfl, sqT_of ?q1, ?_⟩); (case q1 => walk_at "hp"))
  | (with_reducible refine i_revS ?_) | ((with_reducible refine i_revSS ?q1 ?_); (case q1 => walk_at "ln"))
  | (with_reducible refine i_startS ?_) | (with_reducible refine i_inSg ?_) | (with_reducible refine i_absN ?_) | (with_reducible refine i_min2 ?_) | (with_reducible refine i_max2 ?_) | (with_reducible refine i_min3 ?_) | (with_reducible refine i_intN ?_) | (with_reducible refine i_intNB ?_)
  | ((with_reducible refine' i_lenL ?q1 ?_); (case q1 => walk_at "hp")) | ((with_reducible refine' i_lenT ?q1 ?_); (case q1 => walk_at "hp"))
  | (with_reducible refine i_eqI ?_) | (with_reducible refine i_neI ?_) | (with_reducible refine i_eqS ?_) | (with_reducible refine i_neS ?_) | (with_reducible refine i_isNoI ?_) | (with_reducible refine i_isNoN ?_) | (with_reducible refine i_isNoR ?_)
  | ((with_reducible refine i_pow ?q1 ?q2 ?q3 ?_); (case q1 => decide); (case q2 => decide); (case q3 => (with_reducible omega)))
  | ((with_reducible refine i_rI ?q1 ?_); (case q1 => walk_at "ci"))
  | (with_reducible refine Or.inl ⟨_, rfl, ?_⟩) | (with_reducible refine Or.inr ⟨_, rfl, ?_⟩) | (with_reducible refine ⟨_, rfl, ?_⟩) | (with_reducible refine ⟨_, _, rfl, ?_⟩) | (with_reducible refine ⟨_, _, rfl, rfl, ?_⟩)
  | ((with_reducible refine' ⟨_, _, rfl, Or.inl (sqL_of ?q1), ?_⟩); (case q1 => walk_at "hp")) | ((with_reducible refine' ⟨_, _, rfl, Or.inr (sqT_of ?q1), ?_⟩); (case q1 => walk_at "hp")) | fail)
local macro_rules | `(tactic| walk_at "rd") => `(tactic| repeat' walk_at "rd1")

theorem BoxAt.ne_lst {H : Hp} {b p : Addr} {d : Int} {x : Str} {xs : List V} (B : BoxAt H b d) (h : H p = some (.lst (.str x :: xs))) : p ≠ b := by
  obtain ⟨n, g, c, e, hb, _⟩ := B.ex
  rintro rfl
  rw [h] at hb
  cases hb
theorem BoxAt.ne_tup {H : Hp} {b p : Addr} {d : Int} {xs : List V} (B : BoxAt H b d) (h : H p = some (.tup xs)) : p ≠ b := by
  obtain ⟨n, g, c, e, hb, _⟩ := B.ex
  rintro rfl
  rw [h] at hb
  cases hb
theorem BoxAt.ne_new {H : Hp} {b p : Addr} {d : Int} (B : BoxAt H b d) (h : H p = none) : p ≠ b := by
  obtain ⟨n, g, c, e, hb, _⟩ := B.ex
  rintro rfl
  rw [h] at hb
  cases hb
theorem SB.free {b p : Addr} {H H' : Hp} {d : Int} (s : SB b H H') (B : BoxAt H' b d) (n : H' p = none) : H p = none := by
  have npb := B.ne_new n
  rcases e : H p with _ | o
  · rfl
  · rw [s _ _ npb e] at n; cases n
theorem BoxAt.upd_ne {H : Hp} {b p : Addr} {d : Int} {o : HO} (B : BoxAt H b d) (h : p ≠ b) : BoxAt (upd H p o) b d := by
  obtain ⟨n, g, c, e, hb, hr⟩ := B.ex
  exact ⟨n, g, c, e, by rw [L2.upd_ne (Ne.symm h)]; exact hb, hr⟩
theorem flat_one (ws : List Nat) : (ws.map fun c => [c]).flatten = ws := by
  induction ws with
  | nil => rfl
  | cons c ws ih => rw [List.map_cons, List.flatten_cons, ih]; rfl
theorem letters_get : ∀ i, i < 26 → ([97, 98, 99, 100, 101, 102, 103, 104, 105, 106, 107, 108, 109, 110, 111, 112, 113, 114, 115, 116, 117, 118, 119, 120, 121, 122] : List Nat)[i]? = some (97 + i) := by decide
theorem azB_one {i : Nat} (h : i < 26) : azB [97 + i] = true := by
  unfold azB
  simp
  omega
/-- of two letters -/
def In2 (c1 c2 : Nat) (t : List Nat) : Prop := ∀ c ∈ t, c = c1 ∨ c = c2
theorem In2.az {c1 c2 : Nat} {t : List Nat} (z1 : azB [c1] = true) (z2 : azB [c2] = true) (h : In2 c1 c2 t) : azB t = true := by
  unfold azB at *
  simp only [List.all_cons, List.all_nil, Bool.and_true] at z1 z2
  rw [List.all_eq_true]
  intro c hc
  rcases h c hc with rfl | rfl
  · exact z1
  · exact z2
theorem In2.app {c1 c2 : Nat} {a b : List Nat} (h1 : In2 c1 c2 a) (h2 : In2 c1 c2 b) : In2 c1 c2 (a ++ b) := fun c hc => (List.mem_append.mp hc).elim (h1 c) (h2 c)
theorem In2.take {c1 c2 : Nat} {a : List Nat} (h : In2 c1 c2 a) (n : Nat) : In2 c1 c2 (a.take n) := fun c hc => h c (List.mem_of_mem_take hc)
theorem In2.drop {c1 c2 : Nat} {a : List Nat} (h : In2 c1 c2 a) (n : Nat) : In2 c1 c2 (a.drop n) := fun c hc => h c (List.mem_of_mem_drop hc)
theorem In2.rep {c1 c2 : Nat} {a : List Nat} (h : In2 c1 c2 a) : ∀ n, In2 c1 c2 (List.replicate n a).flatten
  | 0 => fun c hc => by simp at hc
  | n + 1 => by rw [List.replicate_succ, List.flatten_cons]; exact h.app (h.rep n)
/-- _law_letters(box) -/
def spLetters : Sp := fun vs H Q _ => ∃ (b : Addr) (d : Int), vs = [.ref b] ∧ BoxAt H b d ∧ d + 2 ≤ 1000000 ∧
  ∀ (p : Addr) (c1 c2 : Nat) (H' : Hp), H p = none → H' p = some (.lst [.str (S [c1]), .str (S [c2])]) → azB [c1] = true → azB [c2] = true → BoxAt H' b (d + 2) → SB b H H' → Q (.ref p) H'
/-- _law_word(box, letters, many) -/
def spWord : Sp := fun vs H Q _ => ∃ (b lp : Addr) (c1 c2 n : Nat) (d : Int), vs = [.ref b, .ref lp, .int (n : Int)] ∧ H lp = some (.lst [.str (S [c1]), .str (S [c2])]) ∧ azB [c1] = true ∧ azB [c2] = true ∧ BoxAt H b d ∧ n ≤ 1000 ∧ d + n ≤ 1000000 ∧
  ∀ (t : List Nat) (H' : Hp), t.length = n → In2 c1 c2 t → BoxAt H' b (d + n) → SB b H H' → Q (.str (S t)) H'
/-- _law_pair(box, letters) -/
def spPair : Sp := fun vs H Q _ => ∃ (b lp : Addr) (c1 c2 : Nat) (d : Int), vs = [.ref b, .ref lp] ∧ H lp = some (.lst [.str (S [c1]), .str (S [c2])]) ∧ azB [c1] = true ∧ azB [c2] = true ∧ BoxAt H b d ∧ d + 60 ≤ 1000000 ∧
  ∀ (p : Addr) (u v : List Nat) (H' : Hp), H p = none → H' p = some (.lst [.str (S u), .str (S v)]) → u.length ≤ 25 → v.length ≤ 25 → (0 < u.length ∨ 0 < v.length) → In2 c1 c2 u → In2 c1 c2 v → BoxAt H' b (d + 60) → SB b H H' → Q (.ref p) H'
section
variable {P : Program} {w : World} {K : PySem.W.Frag} {mg : Str → Option Value} {base : Heap} {f : Addr} {fd : FuncData}
theorem ok_letters (F : Fun K "_law_letters" "_law_letters" s__law_letters f fd) (z : Z mg) (c__law_take : Cal P w K mg base "_law_take" ["box", "many"] 1 spTake) : FnOk P w K mg base CX0 2 f fd ["box"] spLetters := by
  refine F.ok sc__law_letters (fun vs H Q E h => ?_) (fun cdv A outer s H vs Q E hr h => ?_)
  · obtain ⟨b, d, rfl, _⟩ := h; rfl
  · obtain ⟨b, d, rfl, B, hd, k⟩ := h
    refine ⟨_, (pss_cons (ps_set (i := 1) sc__law_letters.nd rfl (.inl rfl) (pe_cal c__law_take hr (pa_cons (pv 0) (pa_cons pe_int pa_nil))))
      (pss_cons (ps_set (i := 2) sc__law_letters.nd rfl (.inl rfl) (pe_op op_mod (pe_callTy call_intN (by rfl) z.int (by decide +kernel) (pa_cons (pe_op op_add (pe_op op_add (pv 1) pe_int) (pe_cal c__law_take hr (pa_cons (pv 0) (pa_cons pe_int pa_nil)))) pa_nil)) pe_int))
      (pss_one (ps_ret (pe_lst (pa_cons (pe_ix ix_S (pe_strS (l := [97, 98, 99, 100, 101, 102, 103, 104, 105, 106, 107, 108, 109, 110, 111, 112, 113, 114, 115, 116, 117, 118, 119, 120, 121, 122]) (by decide +kernel)) (pv 1) (fun _ _ => rfl)) (pa_cons (pe_ix ix_S (pe_strS (l := [97, 98, 99, 100, 101, 102, 103, 104, 105, 106, 107, 108, 109, 110, 111, 112, 113, 114, 115, 116, 117, 118, 119, 120, 121, 122]) (by decide +kernel)) (pv 2) (fun _ _ => rfl)) pa_nil))))))), ?_⟩
    walk_at "rd"
    refine ⟨b, 26, d, rfl, B, by omega, by omega, by omega, fun r H1 r0 r1 B1 s1 => ?_⟩
    walk_at "rd"
    refine ⟨b, 25, d + 1, rfl, B1, by omega, by omega, by omega, fun q H2 q0 q1 B2 s2 => ?_⟩
    walk_at "rd"
    refine i_ixSI r0 (letters_get r.toNat (by omega)) (by decide) ?_
    walk_at "rd"
    have m0 := Int.emod_nonneg (r + 1 + q) (show (26 : Int) ≠ 0 by decide)
    have m1 := Int.emod_lt_of_pos (r + 1 + q) (show (0 : Int) < 26 by decide)
    refine i_ixSI m0 (letters_get _ (by omega)) (by decide) ?_
    walk_at "rd"
    refine ⟨Nat.le_of_ble_eq_true rfl, fun p np => ?_⟩
    exact k p _ _ _ ((s1.trans s2).free B2 np) upd_same (azB_one (by omega)) (azB_one (by omega)) ((B2.same (same_upd np)).mono (by omega)) ((s1.trans s2).trans (SB.of (same_upd np)))
theorem ok_word (F : Fun K "_law_word" "_law_word" s__law_word f fd) (z : Z mg) (c__law_take : Cal P w K mg base "_law_take" ["box", "many"] 1 spTake) : FnOk P w K mg base CX0 2 f fd ["box", "letters", "size"] spWord := by
  refine F.ok sc__law_word (fun vs H Q E h => ?_) (fun cdv A outer s H vs Q E hr h => ?_)
  · obtain ⟨b, lp, c1, c2, n, d, rfl, _⟩ := h; rfl
  · obtain ⟨b, lp, c1, c2, n, d, rfl, hL, z1, z2, B, hn, hd, k⟩ := h
    have nlb := B.ne_lst hL
    refine ⟨_, (pss_one (ps_ret (pe_m1 PySem.F.slot_str_join PySem.F.type_str_join mt_joinS (pe_strS (l := []) (by decide +kernel)) (pe_lc (own := [("turn", 3)]) (g := gName 3) (tt := tYes) rfl sc__law_word.nd (pi_range1 (by rfl) z.range (pa_cons (pv 2) pa_nil)) (blkOk_by (own := [("turn", 3)]) (N := n__law_word) (sc := defScope s__law_word) (by decide +kernel)) (fun _ _ _ _ _ => (pg_name (i := 3) sc__law_word.nd rfl (.inl rfl))) (fun _ _ _ _ _ => pts_nil) (fun _ _ _ _ _ => (pe_ix (r := rIxL K) ix_list (pv 1) (pe_cal c__law_take hr (pa_cons (pv 0) (pa_cons pe_int pa_nil))) (fun _ _ => rfl))))))), ?_⟩
    walk_at "rd"
    refine i_rng (by omega) (by omega) ?_
    refine go_lc walk_rangeZ (fun p i H2 => ∃ ws : List Nat, ws.length = i ∧ In2 c1 c2 ws ∧ H2 p = some (.lst (ws.map fun c => .str (S [c]))) ∧ BoxAt H2 b (d + i) ∧ SB b H H2)
      (fun p np => ⟨[], rfl, (by intro c hc; cases hc), upd_same, (BoxAt.same B (same_upd np)).mono (by omega), SB.of (same_upd np)⟩) (fun _ _ _ _ _ => trivial) (fun p np i v H2 H3 hi q y => ?_) (fun p H2 np q => ?_)
    · obtain ⟨ws, lw, hw, ew, B2, s2⟩ := q
      obtain ⟨rfl, rfl⟩ := y
      walk_at "rd"
      refine ⟨rfl, i_yes (iteT ?_)⟩
      walk_at "rd"
      refine ⟨b, 2, d + i, rfl, B2, by omega, by omega, by omega, fun j H4 j0 j1 B4 s4 => ?_⟩
      have npb : p ≠ b := B.ne_new np
      have hL4 := s4 _ _ nlb (s2 _ _ nlb hL)
      obtain ⟨c, ec, zc⟩ : ∃ c, ([.str (S [c1]), .str (S [c2])] : List V)[j.toNat]? = some (.str (S [c])) ∧ (c = c1 ∨ c = c2) := by
        have hj : j = 0 ∨ j = 1 := by omega
        rcases hj with rfl | rfl
        · exact ⟨c1, rfl, .inl rfl⟩
        · exact ⟨c2, rfl, .inr rfl⟩
      refine i_ixLv hL4 j0 ec ?_
      refine ⟨_, s4 _ _ npb ew, by rw [List.length_map]; exact Nat.lt_of_le_of_lt (show ws.length ≤ 1000 by omega) (by decide), ws ++ [c], by rw [List.length_append, lw]; rfl, hw.app (fun x hx => by rw [List.mem_singleton.mp hx]; exact zc), ?_, ?_, ?_⟩
      · rw [upd_same, List.map_append]; rfl
      · exact (B4.upd_ne npb).mono (by omega)
      · refine fun a o na ha => ?_
        by_cases e : a = p
        · rw [e] at ha; rw [np] at ha; cases ha
        · rw [L2.upd_ne e]; exact (s2.trans s4) a o na ha
    · obtain ⟨ws, lw, hw, ew, B2, s2⟩ := q
      refine i_joinS (ws := ws.map fun c => [c]) (by rw [List.map_map]; exact ew) ?_ ?_
      · rw [flat_one]; omega
      · rw [flat_one]
        exact k ws H2 (by omega) hw (B2.mono (by omega)) s2
theorem ok_pair (F : Fun K "_law_pair" "_law_pair" s__law_pair f fd) (z : Z mg) (c__law_take : Cal P w K mg base "_law_take" ["box", "many"] 1 spTake) (c__law_word : Cal P w K mg base "_law_word" ["box", "letters", "size"] 2 spWord) : FnOk P w K mg base CX0 3 f fd ["box", "letters"] spPair := by
  refine F.ok sc__law_pair (fun vs H Q E h => ?_) (fun cdv A outer s H vs Q E hr h => ?_)
  · obtain ⟨b, lp, c1, c2, d, rfl, _⟩ := h; rfl
  · obtain ⟨b, lp, c1, c2, d, rfl, hL, z1, z2, B, hd, k⟩ := h
    have nlb := B.ne_lst hL
    refine ⟨_, (pss_cons (ps_set (i := 2) sc__law_pair.nd rfl (.inl rfl) (pe_cal c__law_take hr (pa_cons (pv 0) (pa_cons pe_int pa_nil))))
      (pss_cons (ps_set (i := 3) sc__law_pair.nd rfl (.inl rfl) (pe_cal c__law_word hr (pa_cons (pv 0) (pa_cons (pv 1) (pa_cons (pe_op op_add pe_int (pe_cal c__law_take hr (pa_cons (pv 0) (pa_cons pe_int pa_nil)))) pa_nil)))))
      (pss_cons (ps_set (i := 4) sc__law_pair.nd rfl (.inl rfl) (pe_op op_mulS (pv 3) (pe_op op_add pe_int (pe_cal c__law_take hr (pa_cons (pv 0) (pa_cons pe_int pa_nil))))))
      (pss_cons (ps_set (i := 5) sc__law_pair.nd rfl (.inl rfl) (pe_cal c__law_take hr (pa_cons (pv 0) (pa_cons (pe_callB call_lenS (by rfl) z.len PySem.boot_len (pa_cons (pv 4) pa_nil)) pa_nil))))
      (pss_cons (ps_set (i := 6) sc__law_pair.nd rfl (.inl rfl) (pe_op op_addS (pe_slice sl_S (pv 4) (po_some (pv 5)) po_none) (pe_slice sl_S (pv 4) po_none (po_some (pv 5)))))
      (pss_cons (ps_if (pt_cmpR op_lt (pv 2) pe_int (nomark _))
        (pss_one (ps_ret (pe_lst (pa_cons (pv 4) (pa_cons (pv 6) pa_nil)))))
        pss_nil)
      (pss_cons (ps_if (pt_cmpR op_eq (pv 2) pe_int (nomark _))
        (pss_cons (ps_set (i := 7) sc__law_pair.nd rfl (.inl rfl) (pe_cal c__law_take hr (pa_cons (pv 0) (pa_cons (pe_callB call_lenS (by rfl) z.len PySem.boot_len (pa_cons (pv 6) pa_nil)) pa_nil))))
        (pss_one (ps_ret (pe_lst (pa_cons (pv 4) (pa_cons (pe_op op_addS (pe_op op_addS (pe_slice sl_S (pv 6) po_none (po_some (pv 7))) (pe_ix ix_list (pv 1) (pe_op op_sub pe_int (pe_bm PySem.F.plainAttrs_list PySem.F.slot_list_index PySem.F.type_list_index mt_index (pv 1) (pa_cons (pe_ix ix_S (pv 6) (pv 7) (fun _ _ => rfl)) pa_nil))) (fun _ _ => rfl))) (pe_slice sl_S (pv 6) (po_some (pe_op op_add (pv 7) pe_int)) po_none)) pa_nil))))))
        pss_nil)
      (pss_cons (ps_if (pt_cmpR op_eq (pv 2) pe_int (nomark _))
        (pss_one (ps_ret (pe_lst (pa_cons (pv 4) (pa_cons (pe_cal c__law_word hr (pa_cons (pv 0) (pa_cons (pv 1) (pa_cons (pe_callB call_lenS (by rfl) z.len PySem.boot_len (pa_cons (pv 4) pa_nil)) pa_nil)))) pa_nil)))))
        pss_nil)
      (pss_cons (ps_if (pt_cmpR op_eq (pv 2) pe_int (nomark _))
        (pss_one (ps_ret (pe_lst (pa_cons (pv 4) (pa_cons (pe_op op_mulS (pv 3) (pe_op op_add pe_int (pe_cal c__law_take hr (pa_cons (pv 0) (pa_cons pe_int pa_nil))))) pa_nil)))))
        pss_nil)
      (pss_one (ps_ret (pe_ix ix_list (pe_lst (pa_cons (pe_lst (pa_cons (pv 4) (pa_cons (pe_strS (l := []) (by decide +kernel)) pa_nil))) (pa_cons (pe_lst (pa_cons (pe_strS (l := []) (by decide +kernel)) (pa_cons (pv 4) pa_nil))) (pa_cons (pe_lst (pa_cons (pe_op op_addS (pv 4) (pe_ix ix_list (pv 1) pe_int (fun _ _ => rfl))) (pa_cons (pv 6) pa_nil))) pa_nil)))) (pe_cal c__law_take hr (pa_cons (pv 0) (pa_cons pe_int pa_nil))) (fun _ _ => rfl))))))))))))), ?_⟩
    walk_at "rd"
    refine ⟨b, 8, d, rfl, B, by omega, by omega, by omega, fun way H1 w0 w1 B1 s1 => ?_⟩
    walk_at "rd"
    refine ⟨b, 6, d + 1, rfl, B1, by omega, by omega, by omega, fun q H2 q0 q1 B2 s2 => ?_⟩
    walk_at "rd"
    obtain ⟨n, rfl⟩ : ∃ n : Nat, q = n := ⟨q.toNat, by omega⟩
    refine ⟨b, lp, c1, c2, n + 1, d + 2, by rw [show (1 : Int) + (n : Int) = ((n + 1 : Nat) : Int) by omega] <;> rfl, (s1.trans s2) _ _ nlb hL, z1, z2, B2.mono (by omega), by omega, by omega, fun t H3 ht it B3 s3 => ?_⟩
    walk_at "rd"
    refine ⟨b, 4, d + 8, rfl, B3.mono (by omega), by omega, by omega, by omega, fun q2 H4 q20 q21 B4 s4 => ?_⟩
    obtain ⟨m, rfl⟩ : ∃ n : Nat, q2 = n := ⟨q2.toNat, by omega⟩
    walk_at "rd"
    refine ⟨t, m + 1, rfl, by rw [show (1 : Int) + (m : Int) = ((m + 1 : Nat) : Int) by omega], by omega, by omega, ?_⟩
    have s14 := s1.trans (s2.trans (s3.trans s4))
    have hL4 := s14 _ _ nlb hL
    have lv : ((List.replicate (m + 1) t).flatten).length = (m + 1) * (n + 1) := by rw [Wd.flat_len, ht]
    have lm : (m + 1) * (n + 1) ≤ 4 * 6 := Nat.mul_le_mul (by omega) (by omega)
    have lp0 : 0 < (m + 1) * (n + 1) := Nat.mul_pos (by omega) (by omega)
    have iv := it.rep (m + 1)
    generalize (List.replicate (m + 1) t).flatten = v at *
    have lv24 : v.length ≤ 24 := by omega
    have lv0 : 0 < v.length := by omega
    walk_at "rd"
    refine ⟨b, (v.length : Int), _, rfl, B4, by omega, by omega, by omega, fun j H5 j0 j1 B5 s5 => ?_⟩
    obtain ⟨j, rfl⟩ : ∃ n : Nat, j = n := ⟨j.toNat, by omega⟩
    have s15 := s14.trans s5
    have hL5 := s15 _ _ nlb hL
    walk_at "rd"
    obtain ⟨r, er⟩ : ∃ r, v.drop (j : Int).toNat ++ v.take (j : Int).toNat = r := ⟨_, rfl⟩
    rw [er]
    have ir : In2 c1 c2 r := by rw [← er]; exact (iv.drop _).app (iv.take _)
    have lr : r.length = v.length := by rw [← er]; simp only [List.length_append, List.length_take, List.length_drop]; omega
    refine iteB (fun _ => ?_) (fun _ => ?_)
    · walk_at "rd"
      refine ⟨Nat.le_of_ble_eq_true rfl, fun p np => ?_⟩
      exact k p v r _ (s15.free B5 np) upd_same (by omega) (by omega) (by omega) iv ir ((B5.same (same_upd np)).mono (by omega)) (s15.trans (SB.of (same_upd np)))
    walk_at "rd"
    refine iteB (fun _ => ?_) (fun _ => ?_)
    · walk_at "rd"
      refine ⟨b, (r.length : Int), _, rfl, B5, by omega, by omega, by omega, fun j6 H6 j60 j61 B6 s6 => ?_⟩
      obtain ⟨j6, rfl⟩ : ∃ n : Nat, j6 = n := ⟨j6.toNat, by omega⟩
      have hL1 := s6 _ _ nlb hL5
      have s16 := s15.trans s6
      have hj : j6 < r.length := by omega
      obtain ⟨x, ex⟩ : ∃ x, r[j6]? = some x := ⟨_, List.getElem?_eq_getElem hj⟩
      have hx := ir x (List.mem_of_getElem? ex)
      walk_at "rd"
      refine i_ixSI (by omega) (by rw [Int.toNat_natCast]; exact ex) (by omega) ?_
      walk_at "rd"
      obtain ⟨m, c', e1, e2, e3, hm⟩ : ∃ m c', ([.str (S [c1]), .str (S [c2])] : List V)[m]? = some (.str (S [x])) ∧ (∀ (i : Nat) (z' : V), i < m → ([.str (S [c1]), .str (S [c2])] : List V)[i]? = some z' → eqV z' (.str (S [x])) = false) ∧ ([.str (S [c1]), .str (S [c2])] : List V)[1 - m]? = some (.str (S [c'])) ∧ m ≤ 1 ∧ (c' = c1 ∨ c' = c2) := by
        by_cases c : x = c1
        · exact ⟨0, c2, by rw [c]; rfl, fun i z' hi => absurd hi (by omega), rfl, by omega, .inr rfl⟩
        · have c' : x = c2 := hx.resolve_left c
          refine ⟨1, c1, by rw [c']; rfl, fun i z' hi hz => ?_, rfl, by omega, .inl rfl⟩
          have : i = 0 := by omega
          subst this
          cases hz
          rw [eqV_S, S_dec, decide_eq_false]
          intro q
          exact c (List.cons.inj q).1.symm
      refine ⟨lp, _, _, m, _, rfl, rfl, sqL_of hL1, rfl, rfl, e1, by rw [eqV_S, S_dec, decide_eq_true rfl], e2, ?_⟩
      walk_at "rd"
      refine i_ixLv hL1 (by omega) (by rw [show ((1 : Int) - (m : Int)).toNat = 1 - m by omega]; exact e3) ?_
      walk_at "rd"
      refine ⟨Nat.le_of_ble_eq_true rfl, fun p np => ?_⟩
      exact k p v _ _ (s16.free B6 np) upd_same (by omega) (by simp only [List.length_append, List.length_take, List.length_drop, List.length_cons, List.length_nil]; omega) (by omega) iv (((ir.take _).app fun y hy => by rw [List.mem_singleton.mp hy]; exact hm.2).app (ir.drop _)) ((B6.same (same_upd np)).mono (by omega)) (s16.trans (SB.of (same_upd np)))
    walk_at "rd"
    refine iteB (fun _ => ?_) (fun _ => ?_)
    · walk_at "rd"
      refine ⟨b, lp, c1, c2, v.length, _, rfl, hL5, z1, z2, B5, by omega, by omega, fun u H6 lu iu B6 s6 => ?_⟩
      walk_at "rd"
      refine ⟨Nat.le_of_ble_eq_true rfl, fun p np => ?_⟩
      exact k p v u _ ((s15.trans s6).free B6 np) upd_same (by omega) (by omega) (by omega) iv iu ((B6.same (same_upd np)).mono (by omega)) ((s15.trans s6).trans (SB.of (same_upd np)))
    walk_at "rd"
    refine iteB (fun _ => ?_) (fun _ => ?_)
    · walk_at "rd"
      refine ⟨b, 4, _, rfl, B5, by omega, by omega, by omega, fun q3 H6 q30 q31 B6 s6 => ?_⟩
      obtain ⟨m3, rfl⟩ : ∃ n : Nat, q3 = n := ⟨q3.toNat, by omega⟩
      walk_at "rd"
      refine ⟨t, m3 + 1, rfl, by rw [show (1 : Int) + (m3 : Int) = ((m3 + 1 : Nat) : Int) by omega], by omega, by omega, ?_⟩
      have l3 : ((List.replicate (m3 + 1) t).flatten).length ≤ 4 * 6 := by rw [Wd.flat_len, ht]; exact Nat.mul_le_mul (by omega) (by omega)
      walk_at "rd"
      refine ⟨Nat.le_of_ble_eq_true rfl, fun p np => ?_⟩
      exact k p v _ _ ((s15.trans s6).free B6 np) upd_same (by omega) (by omega) (by omega) iv (it.rep _) ((B6.same (same_upd np)).mono (by omega)) ((s15.trans s6).trans (SB.of (same_upd np)))
    walk_at "rd"
    refine ⟨Nat.le_of_ble_eq_true rfl, fun p1 n1 => ?_⟩
    walk_at "rd"
    refine ⟨Nat.le_of_ble_eq_true rfl, fun p2 n2 => ?_⟩
    have u1 := same_upd (o := .lst [.str (S v), .str (S [])]) n1
    have u2 := same_upd (o := .lst [.str (S []), .str (S v)]) n2
    have e1 := u2 _ _ (upd_same (H := H5) (a := p1) (o := .lst [.str (S v), .str (S [])]))
    have e2 := upd_same (H := upd H5 p1 (.lst [.str (S v), .str (S [])])) (a := p2) (o := .lst [.str (S []), .str (S v)])
    have f2 : H5 p2 = none := u1.free n2
    have u12 := u1.trans u2
    generalize upd (upd H5 p1 (.lst [.str (S v), .str (S [])])) p2 (.lst [.str (S []), .str (S v)]) = H7 at *
    have hL7 := u12 _ _ hL5
    walk_at "rd"
    refine ⟨Nat.le_of_ble_eq_true rfl, fun p3 n3 => ?_⟩
    walk_at "rd"
    refine ⟨Nat.le_of_ble_eq_true rfl, fun p4 n4 => ?_⟩
    have u3 := same_upd (o := .lst [.str (S (v ++ [c1])), .str (S r)]) n3
    have u4 := same_upd (o := .lst [.ref p1, .ref p2, .ref p3]) n4
    have e3 := u4 _ _ (upd_same (H := H7) (a := p3) (o := .lst [.str (S (v ++ [c1])), .str (S r)]))
    have e4 := upd_same (H := upd H7 p3 (.lst [.str (S (v ++ [c1])), .str (S r)])) (a := p4) (o := .lst [.ref p1, .ref p2, .ref p3])
    have f3 : H5 p3 = none := u12.free n3
    have f4 : H5 p4 = none := (u12.trans u3).free n4
    have u34 := u3.trans u4
    generalize upd (upd H7 p3 (.lst [.str (S (v ++ [c1])), .str (S r)])) p4 (.lst [.ref p1, .ref p2, .ref p3]) = H8 at *
    have u18 := u12.trans u34
    walk_at "rd"
    refine ⟨b, 3, _, rfl, B5.same u18, by omega, by omega, by omega, fun q3 H9 q30 q31 B9 s9 => ?_⟩
    have e19 := s9 _ _ (B5.ne_new n1) (u34 _ _ e1)
    have e29 := s9 _ _ (B5.ne_new f2) (u34 _ _ e2)
    have e39 := s9 _ _ (B5.ne_new f3) e3
    have e49 := s9 _ _ (B5.ne_new f4) e4
    have s19 := s15.trans ((SB.of u18).trans s9)
    have hq : q3 = 0 ∨ q3 = 1 ∨ q3 = 2 := by omega
    rcases hq with rfl | rfl | rfl
    · refine i_ixLv e49 (by omega) rfl ?_
      exact k p1 v [] _ (s15.free B5 n1) e19 (by omega) (by simp) (by omega) iv (fun c hc => by cases hc) (B9.mono (by omega)) s19
    · refine i_ixLv e49 (by omega) rfl ?_
      exact k p2 [] v _ (s15.free B5 f2) e29 (by simp) (by omega) (by omega) (fun c hc => by cases hc) iv (B9.mono (by omega)) s19
    · refine i_ixLv e49 (by omega) rfl ?_
      exact k p3 _ r _ (s15.free B5 f3) e39 (by rw [List.length_append]; simp only [List.length_cons, List.length_nil]; omega) (by omega) (by omega) (iv.app fun c hc => .inl (List.mem_singleton.mp hc)) ir (B9.mono (by omega)) s19
end
end Sw
namespace Sw
open PySem PySem.Spec PyProof.Rows L2
local macro_rules | `(tactic| walk_at "hp") => `(tactic| first
  | (with_reducible assumption) | (with_reducible exact upd_same)
  | ((with_reducible refine' upd_old ?q1 ?q2); (case q1 => (with_reducible assumption)); (case q2 => walk_at "hp"))
  | ((with_reducible refine' Same.at ?q1 ?q2); (case q1 => (with_reducible assumption)); (case q2 => walk_at "hp"))
  | ((with_reducible refine' upd_skip ?q1 ?q2); (case q1 => walk_at "ne"); (case q2 => walk_at "hp"))
  | fail)
local macro_rules | `(tactic| walk_at "ne") => `(tactic| first
  | (with_reducible assumption) | (with_reducible exact Ne.symm (by assumption))
  | ((with_reducible refine' ne_of_none ?q1 ?q2); (case q2 => (with_reducible assumption)); (case q1 => walk_at "hp"))
  | fail)
local macro_rules | `(tactic| walk_at "ci") => `(tactic| first | assumption | (show (0 : Int) < _; first | decide | (with_reducible omega)) | exact ⟨by decide, by decide⟩ | exact .inl ⟨by decide, by decide⟩ | exact .inr ⟨by decide, by decide⟩)
local macro_rules | `(tactic| walk_at "ln") => `(tactic| first | (with_reducible assumption) | (with_reducible omega) | (simp only [List.length_append, List.length_take, List.length_drop, List.length_reverse, List.length_cons, List.length_nil]; with_reducible omega))
local macro_rules | `(tactic| walk_at "rd1") => `(tactic| first
  | (with_reducible refine i_seq ?_) | (with_reducible refine i_asg ?_) | (with_reducible refine i_ret ?_) | (with_reducible refine i_name ?_) | ((with_reducible refine' i_var ?q1 ?_); (case q1 => exact rfl)) | (with_reducible refine i_c ?_) | (with_reducible refine i_op ?_) | (with_reducible refine i_un ?_)
  | (with_reducible refine i_rI0 ?_) | (with_reducible refine i_cb ?_) | (with_reducible refine i_cons ?_) | (with_reducible refine i_nil ?_) | (with_reducible refine i_call ?_) | (with_reducible refine i_if ?_) | (with_reducible refine i_ifE ?_) | (with_reducible refine i_test ?_) | (with_reducible refine i_bl ?_)
  | (with_reducible refine i_and ?_) | (with_reducible refine i_or ?_) | (with_reducible refine i_not ?_) | (with_reducible refine i_lst ?_) | (with_reducible refine i_tup ?_) | (with_reducible refine i_next ?_) | (with_reducible refine i_drop ?_) | (with_reducible refine i_sub ?_)
  | (with_reducible refine i_bm ?_) | (with_reducible refine i_sl ?_) | (with_reducible refine i_part ?_) | (with_reducible refine i_nopart ?_) | (with_reducible refine i_exI ?_) | (with_reducible refine i_chain ?_) | ((with_reducible refine' i_aug ?q1 ?_); (case q1 => exact rfl)) | (with_reducible refine i_ip ?_)
  | (with_reducible refine i_par ?_) | (with_reducible refine i_pair ?_) | (with_reducible refine i_andV ?_) | (with_reducible refine i_orV ?_) | (with_reducible refine i_notV ?_) | (with_reducible refine i_m1 ?_) | (with_reducible refine i_str ?_)
  | (with_reducible refine iteF ?_) | (with_reducible refine iteT ?_) | (with_reducible refine iteNT ?_) | (with_reducible refine iteNF ?_) | (with_reducible refine i_tyS ?_) | (with_reducible refine i_tB ?_) | (with_reducible refine i_retN ?_) | (with_reducible refine i_par3 ?_) | (with_reducible refine i_trip ?_) | (with_reducible refine i_gCons ?_) | (with_reducible refine i_gNil ?_) | (with_reducible refine i_lstRg ?_) | (with_reducible refine i_rg1 ?_)
  | (with_reducible refine i_lc ?_) | (with_reducible refine i_for ?_) | (with_reducible refine i_iList ?_) | (with_reducible refine i_iTup ?_) | (with_reducible refine i_iStr ?_) | (with_reducible refine i_iRng1 ?_) | (with_reducible refine i_iEnS ?_)
  | ((with_reducible refine' i_ixTH ?q1 ?q2 ?_); (case q1 => walk_at "hp"); (case q2 => exact rfl))
  | ((with_reducible refine' i_ixLH ?q1 ?q2 ?_); (case q1 => walk_at "hp"); (case q2 => exact rfl))
  | ((with_reducible refine i_addS ?q1 ?_); (case q1 => walk_at "ln")) | ((with_reducible refine i_lenSS ?q1 ?_); (case q1 => walk_at "ln")) | ((with_reducible refine i_slFrom ?q1 ?q2 ?_); (case q1 => walk_at "ln"); (case q2 => walk_at "ln")) | ((with_reducible refine i_slTo ?q1 ?q2 ?_); (case q1 => walk_at "ln"); (case q2 => walk_at "ln"))
  | ((with_reducible refine' i_tyL ?q1 ?_); (case q1 => walk_at "hp"))
  | ((with_reducible refine' i_gTupH ?q1 ?q2 ?_); (case q1 => walk_at "hp"); (case q2 => exact rfl))
  | (with_reducible refine i_dnew ?_) | (with_reducible refine i_init ?_) | (with_reducible refine i_fst ?_) | (with_reducible refine i_mk ?_) | (with_reducible refine i_raise ?_) | (with_reducible refine i_callS ?_) | (with_reducible refine i_kwS ?_)
  | (with_reducible refine i_revT ?_) | (with_reducible refine i_kw ?_) | ((with_reducible refine' ⟨_, _, rfl, sqT_of ?q1, ?_⟩); (case q1 => walk_at "hp"))
  | (with_reducible refine i_revS ?_) | ((with_reducible refine i_revSS ?q1 ?_); (case q1 => walk_at "ln"))
  | (with_reducible refine i_startS ?_) | (with_reducible refine i_inSg ?_) | (with_reducible refine i_absN ?_) | (with_reducible refine i_min2 ?_) | (with_reducible refine i_max2 ?_) | (with_reducible refine i_min3 ?_) | (with_reducible refine i_intN ?_) | (with_reducible refine i_intNB ?_)
  | ((with_reducible refine' i_lenL ?q1 ?_); (case q1 => walk_at "hp")) | ((with_reducible refine' i_lenT ?q1 ?_); (case q1 => walk_at "hp"))
  | (with_reducible refine i_eqI ?_) | (with_reducible refine i_neI ?_) | (with_reducible refine i_eqS ?_) | (with_reducible refine i_neS ?_) | (with_reducible refine i_isNoI ?_) | (with_reducible refine i_isNoN ?_) | (with_reducible refine i_isNoR ?_)
  | ((with_reducible refine i_pow ?q1 ?q2 ?q3 ?_); (case q1 => decide); (case q2 => decide); (case q3 => (with_reducible omega)))
  | ((with_reducible refine i_rI ?q1 ?_); (case q1 => walk_at "ci"))
  | (with_reducible refine Or.inl ⟨_, rfl, ?_⟩) | (with_reducible refine Or.inr ⟨_, rfl, ?_⟩) | (with_reducible refine ⟨_, rfl, ?_⟩) | (with_reducible refine ⟨_, _, rfl, ?_⟩) | (with_reducible refine ⟨_, _, rfl, rfl, ?_⟩)
  | ((with_reducible refine' ⟨_, _, rfl, Or.inl (sqL_of ?q1), ?_⟩); (case q1 => walk_at "hp")) | ((with_reducible refine' ⟨_, _, rfl, Or.inr (sqT_of ?q1), ?_⟩); (case q1 => walk_at "hp")) | fail)
local macro_rules | `(tactic| walk_at "rd") => `(tactic| repeat' walk_at "rd1")

open Wd (rot rlen turn)
open Ly (pre num stays nums)
theorem isT_str {K : PySem.W.Frag} {H : Hp} (l : List Nat) (h : l.length ≤ 100000) : IsT K H (.str (S l)) (azB l) := .inl ⟨l, rfl, h, rfl⟩
/-! ### data of which repr is asked -/
structure Small (n w : Nat) (d : PyData) : Prop where
  lay : d.canLay0 = true
  dep : d.depth ≤ n
  wei : d.weight ≤ w
  sh : d.showable = true
  int : d.intsShort 13 = true
  nd : d.hasDict = false
theorem Small.mono {n w n' w' : Nat} {d : PyData} (s : Small n w d) (h1 : n ≤ n') (h2 : w ≤ w') : Small n' w' d := ⟨s.lay, Nat.le_trans s.dep h1, Nat.le_trans s.wei h2, s.sh, s.int, s.nd⟩
theorem strOk_lt {l : List Nat} (h : ∀ c ∈ l, c ≤ 1000) : PyData.strOk (S l) = true := by
  unfold PyData.strOk
  rw [Array.all_eq_true]
  intro i hi
  have q := h (l[i]'(by simpa [S] using hi)) (List.getElem_mem _)
  have e : (S l).cps[i] = l[i]'(by simpa [S] using hi) := by simp [S]
  rw [e]
  exact decide_eq_true (by omega)
theorem azB_le {l : List Nat} (h : azB l = true) : ∀ c ∈ l, c ≤ 1000 := by
  unfold azB at h
  rw [List.all_eq_true] at h
  intro c hc
  have := of_decide_eq_true (h c hc)
  omega
theorem small_str {l : List Nat} (h : ∀ c ∈ l, c ≤ 1000) (n : l.length ≤ 1000) : Small 0 1000 (.str (S l)) :=
  ⟨by simp only [PyData.canLay0]; exact strOk_lt h, by simp only [PyData.depth]; omega, by simp only [PyData.weight, S_size]; exact n, by simp only [PyData.showable], by simp only [PyData.intsShort], by simp only [PyData.hasDict]⟩
theorem small_non : Small 0 1000 .none := ⟨by simp only [PyData.canLay0], by simp only [PyData.depth]; omega, by simp only [PyData.weight]; omega, by simp only [PyData.showable], by simp only [PyData.intsShort], by simp only [PyData.hasDict]⟩
theorem small_all {n w : Nat} : ∀ {ds : List PyData}, (∀ d ∈ ds, Small n w d) → PyData.canLayAll0 ds = true ∧ PyData.depthAll ds ≤ n ∧ PyData.weightAll ds ≤ ds.length * (w + 1) ∧ PyData.showableAll ds = true ∧ PyData.intsShortAll 13 ds = true ∧ PyData.hasDictAll ds = false
  | [], _ => ⟨by simp only [PyData.canLayAll0], by simp only [PyData.depthAll]; omega, by simp only [PyData.weightAll]; omega, by simp only [PyData.showableAll], by simp only [PyData.intsShortAll], by simp only [PyData.hasDictAll]⟩
  | d :: ds, h => by
    obtain ⟨a1, a2, a3, a4, a5, a6⟩ := h d List.mem_cons_self
    obtain ⟨b1, b2, b3, b4, b5, b6⟩ := small_all (ds := ds) fun x hx => h x (List.mem_cons_of_mem _ hx)
    refine ⟨by simp only [PyData.canLayAll0, a1, b1, Bool.and_self], by simp only [PyData.depthAll]; omega, ?_, by simp only [PyData.showableAll, a4, b4, Bool.and_self], by simp only [PyData.intsShortAll, a5, b5, Bool.and_self], by simp only [PyData.hasDictAll, a6, b6, Bool.or_self]⟩
    simp only [PyData.weightAll, List.length_cons, Nat.succ_mul]
    omega
theorem small_lst {n w : Nat} {ds : List PyData} (h : ∀ d ∈ ds, Small n w d) : Small (n + 1) (ds.length * (w + 1)) (.list ds) := by
  obtain ⟨b1, b2, b3, b4, b5, b6⟩ := small_all h
  exact ⟨by simp only [PyData.canLay0, b1], by simp only [PyData.depth]; omega, by simp only [PyData.weight]; exact b3, by simp only [PyData.showable, b4], by simp only [PyData.intsShort, b5], by simp only [PyData.hasDict, b6]⟩
theorem small_tup {n w : Nat} {ds : List PyData} (h : ∀ d ∈ ds, Small n w d) : Small (n + 1) (ds.length * (w + 1)) (.tuple ds) := by
  obtain ⟨b1, b2, b3, b4, b5, b6⟩ := small_all h
  exact ⟨by simp only [PyData.canLay0, b1], by simp only [PyData.depth]; omega, by simp only [PyData.weight]; exact b3, by simp only [PyData.showable, b4], by simp only [PyData.intsShort, b5], by simp only [PyData.hasDict, b6]⟩
theorem Small.shaped {n w : Nat} {d : PyData} (s : Small n w d) (h : n ≤ 60) : (PyData.canLay0 d && decide (PyData.depth d ≤ 64)) = true := by
  rw [s.lay, Bool.true_and]
  exact decide_eq_true (Nat.le_trans s.dep (by omega))
theorem i_rep {K : PySem.W.Frag} {M : Hp} {x : V} {d : PyData} {n w : Nat} {R : VK} (h1 : Dp K M x d) (s : Small n w d) (hn : n ≤ 60) (hw : w ≤ 1000000) (h : R (.str d.shown) M) : rRepD K [x] M R := by
  refine ⟨x, d, rfl, h1, s.sh, s.nd, Nat.le_trans s.dep hn, ?_, h⟩
  have l : PyData.layable0 d = true := by
    unfold PyData.layable0
    rw [s.lay, decide_eq_true (Nat.le_trans s.dep (by omega)), decide_eq_true (Nat.le_trans s.wei (by omega))]
    rfl
  exact Nat.le_trans (shown_le13 l s.int) (by decide)
mutual
theorem dp_same {K : PySem.W.Frag} {H H' : Hp} (s : Same H H') : ∀ {v : V} {d : PyData}, Dp K H v d → Dp K H' v d
  | _, _, .non => .non
  | _, _, .bl b => .bl b
  | _, _, .int i => .int i
  | _, _, .str x => .str x
  | _, _, .lst h1 h2 => .lst (Same.sqL s h1) (dpAll_same s h2)
  | _, _, .tup h1 h2 => .tup (Same.sqT s h1) (dpAll_same s h2)
theorem dpAll_same {K : PySem.W.Frag} {H H' : Hp} (s : Same H H') : ∀ {vs : List V} {ds : List PyData}, DpAll K H vs ds → DpAll K H' vs ds
  | _, _, .nil => .nil
  | _, _, .cons h1 h2 => .cons (dp_same s h1) (dpAll_same s h2)
end
theorem dp_strs {K : PySem.W.Frag} {H : Hp} : ∀ ws : List (List Nat), DpAll K H (ws.map fun l => V.str (S l)) (ws.map fun l => PyData.str (S l))
  | [] => .nil
  | l :: ws => .cons (.str _) (dp_strs ws)
theorem Fun.okG0 {P : Program} {w : World} {K : PySem.W.Frag} {mg : Str → Option Value} {base : Heap} {k : Nat} {f : Addr} {fd : FuncData} {ps : List Str} {sp : Sp} {x qual : Str} {st : Stmt} {N : List Str} (F : Fun K x qual st f fd) (S : FnScope N ps (defScope st)) (len : ∀ xs M R X, sp xs M R X → xs.length = ps.length)
    (body : ∀ (cdv : Value) (A : Around) (out : List Env) (t : Shared) (M : Hp) (xs : List V) (R : VK) (X : XK), Room k (A.deeper (envOfC qual (defScope st) t.heap.objs.size f cdv)) → A.guards = some [] → sp xs M R X →
      ∃ r, PSs (cxOf CX0 P w K mg base N qual (defScope st) f cdv A out t M X).nox (defBody st) r ∧ r { nx := fun _ M' => R .non M', rt := R } (start N xs) M) : FnG P w K mg base CX0 (k + 1) f fd ps sp :=
  Sw.Fun.okG F S len fun cdv A out t M xs R X room quiet prom => by
    obtain ⟨r, h, q⟩ := body cdv A out t M xs R X room quiet prom
    exact ⟨r, h.nox, q⟩
theorem small_nat {n : Nat} (h : n ≤ 1000) : Small 0 1000 (.int (n : Int)) := by
  have lg : n.log2 ≤ 10 := by
    rcases Nat.eq_zero_or_pos n with e | e
    · subst e; decide
    · have := (Nat.log2_lt (by omega) (k := 11)).mpr (show n < 2 ^ 11 by omega)
      omega
  refine ⟨by simp only [PyData.canLay0], by simp only [PyData.depth]; omega, ?_, ?_, ?_, by simp only [PyData.hasDict]⟩
  · simp only [PyData.weight]
    split
    · omega
    · simp only [Int.natAbs_natCast]; omega
  · simp only [PyData.showable, Int.natAbs_natCast]
    exact decide_eq_true (by omega)
  · simp only [PyData.intsShort]
    have : ∀ m : Nat, m < 1001 → (PyData.int (m : Int)).shown.length ≤ 13 := by decide +kernel
    exact decide_eq_true (this n (by omega))
/-- data, or an empty dict -/
def Dc (n w : Nat) (K : PySem.W.Frag) (H : Hp) (v : V) (d : PyData) : Prop := (Dp K H v d ∧ Small n w d) ∨ ∃ (a : Addr), v = .ref a ∧ H a = some (.dK []) ∧ d = .dict []
def rRepW (K : PySem.W.Frag) : List V → Hp → VK → Prop := fun xs M R => ∃ x d n w, xs = [x] ∧ Dc n w K M x d ∧ n ≤ 60 ∧ w ≤ 1000000 ∧ R (.str d.shown) M
theorem call_repW {X : Cx} (quiet : X.A.guards = some []) (hu : X.A.units + 64 < cLine) : CallR X (.builtin "repr") (rRepW X.K) := by
  intro pins s σ M xs us R I r h
  obtain ⟨x, d, n, w, rfl, hd, hn, hw, q⟩ := h
  rcases hd with ⟨hd, sd⟩ | ⟨a, rfl, ha, rfl⟩
  · exact call_repD quiet hu pins s σ M [x] us R I r (i_rep hd sd hn hw q)
  · obtain ⟨u, rfl, ru⟩ := vals1 r
    cases ru
    have there : ObjOk X.prog X.w M s.heap a (.dK []) := I.hok a _ ha
    obtain ⟨_, notSys, vs, kv, o, es, ep, ho, ex, hd, _, pr, _⟩ := there
    cases kv
    have none' : es.toList = [] := by
      generalize es.toList = l at pr
      cases pr
      rfl
    have rd : Reads s.heap (.ref a) (.dict []) (a :: [] ++ []) := .dict ho ex.1 hd (by rw [none']; exact .nil) (by rw [none']; exact .nil)
    refine repr_of_reads' rd (by decide +kernel) (fun _ z => ?_) quiet (by show X.A.units + (_ + 1) < cLine; simp only [PyData.depth, PyData.depthKv]; omega) (fun _ _ e => e) (fun h' t tk keep => ⟨.str _, M, I.kept (t' := tk) keep, ⟨t, rfl⟩, q⟩) (by decide +kernel)
    have z' : sysModules = a := by simpa using z
    rw [← z'] at notSys
    exact absurd notSys (by decide)
theorem i_repW {K : PySem.W.Frag} {M : Hp} {x : V} {d : PyData} {n w : Nat} {R : VK} (h : Dc n w K M x d) (hn : n ≤ 60) (hw : w ≤ 1000000) (k : R (.str d.shown) M) : rRepW K [x] M R := ⟨x, d, n, w, rfl, h, hn, hw, k⟩
theorem Dc.same {n w : Nat} {K : PySem.W.Frag} {H H' : Hp} {v : V} {d : PyData} (s : Same H H') (h : Dc n w K H v d) : Dc n w K H' v d := by
  rcases h with ⟨h1, h2⟩ | ⟨a, e, h1, h2⟩
  · exact .inl ⟨dp_same s h1, h2⟩
  · exact .inr ⟨a, e, s _ _ h1, h2⟩
theorem small_bl (b : Bool) : Small 0 1000 (.bool b) := ⟨by simp only [PyData.canLay0], by simp only [PyData.depth]; omega, by simp only [PyData.weight]; omega, by simp only [PyData.showable], by simp only [PyData.intsShort], by simp only [PyData.hasDict]⟩
def stayKs : List Str := ["most", "other", "one"]
def back3 {α : Type} : List α → List α → List α
  | [], [c, b, a] => [a, b, c]
  | _, _ => []
theorem back3_inv {α : Type} {us ws : List α} (h : (back3 us ws).length = 3) : us = [] ∧ ∃ c b a, ws = [c, b, a] := by
  unfold back3 at h
  split at h
  · exact ⟨rfl, _, _, _, rfl⟩
  · cases h
theorem back3_rel {vs : List V} {us : List Value} {zs : List V} {ws : List Value} (r : Vals vs us) (r2 : Vals zs ws) : Vals (back3 vs zs) (back3 us ws) := by
  unfold back3
  cases r with
  | cons _ _ => exact .nil
  | nil =>
    cases r2 with
    | nil => exact .nil
    | cons a r2 =>
      cases r2 with
      | nil => exact .nil
      | cons b r2 =>
        cases r2 with
        | nil => exact .nil
        | cons c r2 =>
          cases r2 with
          | nil => exact .cons c (.cons b (.cons a .nil))
          | cons _ _ => exact .nil
def tText : List Nat := [116, 101, 120, 116]
def tCount : List Nat := [99, 111, 117, 110, 116]
abbrev pairD (p : List Nat × List Nat) : PyData := .tuple [.str (S p.1), .str (S p.2)]
theorem PA.dp {K : PySem.W.Frag} {H : Hp} {as : List Addr} {ps : List (List Nat × List Nat)} (h : PA H as ps) : DpAll K H (as.map V.ref) (ps.map pairD) := by
  induction h with
  | nil => exact .nil
  | cons h _ ih => exact .cons (.tup (sqT_of h) (.cons (.str _) (.cons (.str _) .nil))) ih
theorem az_rep {t : List Nat} (h : azB t = true) (n : Nat) : azB (List.replicate n t).flatten = true := by
  induction n with
  | zero => rfl
  | succ n ih => rw [List.replicate_succ, List.flatten_cons, azB_app, h, ih]; rfl
theorem pre_az {t : List Nat} (h : azB t = true) (n : Nat) : azB (pre t n) = true := azB_take (az_rep h _) n
theorem num_az {l r : List Nat} (h1 : azB l = true) (h2 : azB r = true) (z : Int) : azB (num l r z).1 = true ∧ azB (num l r z).2 = true := by
  unfold num
  split
  · exact ⟨pre_az h2 _, rfl⟩
  · exact ⟨rfl, pre_az h1 _⟩
/-- the pairs of the law's list -/
theorem due_mem {l r : List Nat} {m : Nat} {p : List Nat × List Nat} (h : p ∈ Ly.due l r m) : l.length = r.length ∧ ∃ z : Int, p = num l r z ∧ z.natAbs ≤ m ∧ stays p l r := by
  unfold Ly.due at h
  split at h
  · rename_i hl
    obtain ⟨z, hz, rfl⟩ := List.mem_map.mp h
    unfold nums at hz
    obtain ⟨h1, h2⟩ := List.mem_filter.mp hz
    have := Ly.ints_mem.mp h1
    exact ⟨hl, z, rfl, by omega, of_decide_eq_true h2⟩
  · cases h
theorem due_len (l r : List Nat) (m : Nat) : (Ly.due l r m).length ≤ 2 * m + 1 := by
  unfold Ly.due
  split
  · rw [List.length_map]
    unfold nums
    refine Nat.le_trans (List.length_filter_le _ _) ?_
    unfold Ly.zints
    rw [List.length_map, List.length_range]
    exact Nat.le_refl _
  · simp
theorem pair_small {p : List Nat × List Nat} (h1 : azB p.1 = true) (h2 : azB p.2 = true) (l1 : p.1.length ≤ 1000) (l2 : p.2.length ≤ 1000) : Small 1 2002 (pairD p) := by
  refine (small_tup (n := 0) (w := 1000) fun x hx => ?_).mono (by omega) (by simp)
  simp only [List.mem_cons, List.not_mem_nil, or_false] at hx
  rcases hx with rfl | rfl
  · exact small_str (azB_le h1) l1
  · exact small_str (azB_le h2) l2
theorem due_small {l r : List Nat} {m : Nat} (h1 : azB l = true) (h2 : azB r = true) (hm : m ≤ 500) : ∀ d ∈ (Ly.due l r m).map pairD, Small 1 2002 d := by
  intro d hd
  obtain ⟨p, hp, rfl⟩ := List.mem_map.mp hd
  obtain ⟨_, z, rfl, hz, _⟩ := due_mem hp
  have a := num_az h1 h2 z
  have b := num_b l r z
  exact pair_small a.1 a.2 (by omega) (by omega)
theorem due_row {l r : List Nat} {m : Nat} (h1 : azB l = true) (h2 : azB r = true) (hm : m ≤ 200) : Small 2 900000 (.list ((Ly.due l r m).map pairD)) := by
  have b := due_len l r m
  refine (small_lst (due_small h1 h2 (by omega))).mono (by omega) ?_
  rw [List.length_map]
  exact Nat.le_trans (Nat.mul_le_mul (show (Ly.due l r m).length ≤ 401 by omega) (Nat.le_refl _)) (by decide)
/-- _law_list_right(left, right, highest) -/
def spLR : Sp := fun vs H Q _ => ∃ (l r : List Nat) (m : Nat), vs = [.str (S l), .str (S r), .int (m : Int)] ∧ azB l = true ∧ azB r = true ∧ l.length ≤ 1000 ∧ r.length ≤ 1000 ∧ m ≤ 200 ∧ (0 < l.length ∨ 0 < r.length) ∧
  ∀ H', Same H H' → Q (.bl true) H'
section
variable {P : Program} {w : World} {K : PySem.W.Frag} {mg : Str → Option Value} {base : Heap} {f : Addr} {fd : FuncData}
theorem ok_lr (F : Fun K "_law_list_right" "_law_list_right" s__law_list_right f fd) (z : Z mg) (c__law_due : Cal P w K mg base "_law_due" ["left", "right", "highest"] 2 spDue) (c_staying : Cal P w K mg base "staying" ["one", "other", "most"] 4 spStay) (k_staying : CalK P w K mg base "staying" ["one", "other", "most"] 4 spStay stayKs back3 back3) : FnG P w K mg base CX0 5 f fd ["left", "right", "highest"] spLR := by
  refine Sw.Fun.okG0 F sc__law_list_right (fun vs H Q E h => ?_) (fun cdv A outer s H vs Q E hr quiet h => ?_)
  · obtain ⟨l, r, m, rfl, _⟩ := h; rfl
  · obtain ⟨l, r, m, rfl, zl, zr, ll, lr, lm, no, k⟩ := h
    have row := due_row (m := m) zl zr lm
    refine ⟨_, (pss_cons (ps_set (i := 3) sc__law_list_right.nd rfl (.inl rfl) (pe_cal c__law_due hr (pa_cons (pv 0) (pa_cons (pv 1) (pa_cons (pv 2) pa_nil)))))
      (pss_cons (ps_set (i := 4) sc__law_list_right.nd rfl (.inl rfl) (pe_cal c_staying hr (pa_cons (pv 0) (pa_cons (pv 1) (pa_cons (pv 2) pa_nil)))))
      (pss_cons (ps_if (PW.pt (pw_or (pt_not (pt_val (pe_callB call_isi (by rfl) z.isinstance (by decide +kernel) (pa_cons (pv 4) (pa_cons (pe_bltn (v := .ty "list") (by rfl) z.list (by decide +kernel) rfl) pa_nil))))) (pw_or1 (pt_cmpR op_ne (pe_callB (call_repD quiet hr.units) (by rfl) z.repr (by decide +kernel) (pa_cons (pv 4) pa_nil)) (pe_callB (call_repD quiet hr.units) (by rfl) z.repr (by decide +kernel) (pa_cons (pv 3) pa_nil)) (nomark _)))))
        (pss_one (ps_ret pe_bl))
        pss_nil)
      (pss_cons (ps_expr (pe_bm PySem.F.plainAttrs_list PySem.F.slot_list_append PySem.F.type_list_append mt_append (pv 4) (pa_cons pe_non pa_nil)))
      (pss_cons (ps_expr (pe_bm0 PySem.F.plainAttrs_list PySem.F.slot_list_reverse PySem.F.type_list_reverse mt_reverse (pv 4)))
      (pss_one (ps_ret (pe_cmpR op_eq (pe_callB (call_repD quiet hr.units) (by rfl) z.repr (by decide +kernel) (pa_cons (pe_calK k_staying hr (pk_cons (pv 2) (pk_cons (pv 1) (pk_cons (pv 0) pk_nil)))) pa_nil)) (pe_callB (call_repD quiet hr.units) (by rfl) z.repr (by decide +kernel) (pa_cons (pv 3) pa_nil)) (nomark _))))))))), ?_⟩
    walk_at "rd"
    refine ⟨l, r, m, rfl, ll, lr, by omega, no, fun p as H1 s1 np ep pa => ?_⟩
    walk_at "rd"
    refine ⟨l, r, m, rfl, zl, zr, ll, lr, by omega, no, fun q bs H2 s2 nq eq pb => ?_⟩
    rw [Ly.told_due no] at pb
    have dp1 : Dp K H2 (.ref p) (.list ((Ly.due l r m).map pairD)) := .lst (sqL_of (s2 _ _ ep)) (pa.same s2).dp
    have dp2 : Dp K H2 (.ref q) (.list ((Ly.due l r m).map pairD)) := .lst (sqL_of eq) pb.dp
    walk_at "rd"
    refine i_isi true (.base (.lst eq)) (kit_ty (by decide +kernel)) ?_
    walk_at "rd"
    refine i_rep dp2 row (by omega) (by omega) ?_
    walk_at "rd"
    refine i_rep dp1 row (by omega) (by omega) ?_
    walk_at "rd"
    refine ⟨rfl, ?_⟩
    rw [decide_eq_true rfl]
    walk_at "rd"
    have lb := pb.len
    have ld := due_len l r m
    refine i_append eq (by rw [List.length_map]; exact Nat.lt_of_le_of_lt (show bs.length ≤ 401 by omega) (by decide)) ?_
    have s3 := Same.set_new (o := .lst (bs.map V.ref ++ [.non])) s2 nq
    have eq3 := upd_same (H := H2) (a := q) (o := .lst (bs.map V.ref ++ [.non]))
    generalize upd H2 q (.lst (bs.map V.ref ++ [.non])) = H3 at *
    walk_at "rd"
    unfold tBM0
    walk_at "rd"
    refine ⟨q, _, rfl, rfl, eq3, ?_⟩
    have s4 := Same.set_new (o := .lst (bs.map V.ref ++ [V.non]).reverse) s3 nq
    generalize upd H3 q (.lst (bs.map V.ref ++ [V.non]).reverse) = H4 at *
    walk_at "rd"
    show spStay [.str (S l), .str (S r), .int (m : Int)] H4 _ _
    refine ⟨l, r, m, rfl, zl, zr, ll, lr, by omega, no, fun q5 cs H5 s5 nq5 eq5 pc => ?_⟩
    rw [Ly.told_due no] at pc
    walk_at "rd"
    refine i_rep (d := .list ((Ly.due l r m).map pairD)) (.lst (sqL_of eq5) pc.dp) row (by omega) (by omega) ?_
    walk_at "rd"
    refine i_rep (d := .list ((Ly.due l r m).map pairD)) (.lst (sqL_of (s5 _ _ (s4 _ _ ep))) ((pa.same s4).same s5).dp) row (by omega) (by omega) ?_
    refine ⟨rfl, ?_⟩
    rw [decide_eq_true rfl]
    exact k _ (s1.trans (s4.trans s5))
end
end Sw
namespace Sw
open PySem PySem.Spec PyProof.Rows L2
local macro_rules | `(tactic| walk_at "hp") => `(tactic| first
  | (with_reducible assumption) | (with_reducible exact upd_same)
  | ((with_reducible refine' upd_old ?q1 ?q2); (case q1 => (with_reducible assumption)); (case q2 => walk_at "hp"))
  | ((with_reducible refine' Same.at ?q1 ?q2); (case q1 => (with_reducible assumption)); (case q2 => walk_at "hp"))
  | ((with_reducible refine' upd_skip ?q1 ?q2); (case q1 => walk_at "ne"); (case q2 => walk_at "hp"))
  | fail)
local macro_rules | `(tactic| walk_at "ne") => `(tactic| first
  | (with_reducible assumption) | (with_reducible exact Ne.symm (by assumption))
  | ((with_reducible refine' ne_of_none ?q1 ?q2); (case q2 => (with_reducible assumption)); (case q1 => walk_at "hp"))
  | fail)
local macro_rules | `(tactic| walk_at "ci") => `(tactic| first | assumption | (show (0 : Int) < _; first | decide | (with_reducible omega)) | exact ⟨by decide, by decide⟩ | exact .inl ⟨by decide, by decide⟩ | exact .inr ⟨by decide, by decide⟩)
local macro_rules | `(tactic| walk_at "ln") => `(tactic| first | (with_reducible assumption) | (with_reducible omega) | (simp only [List.length_append, List.length_take, List.length_drop, List.length_reverse, List.length_cons, List.length_nil]; with_reducible omega))
local macro_rules | `(tactic| walk_at "rd1") => `(tactic| first
  | (with_reducible refine i_seq ?_) | (with_reducible refine i_asg ?_) | (with_reducible refine i_ret ?_) | (with_reducible refine i_name ?_) | ((with_reducible refine' i_var ?q1 ?_); (case q1 => exact rfl)) | (with_reducible refine i_c ?_) | (with_reducible refine i_op ?_) | (with_reducible refine i_un ?_)
  | (with_reducible refine i_rI0 ?_) | (with_reducible refine i_cb ?_) | (with_reducible refine i_cons ?_) | (with_reducible refine i_nil ?_) | (with_reducible refine i_call ?_) | (with_reducible refine i_if ?_) | (with_reducible refine i_ifE ?_) | (with_reducible refine i_test ?_) | (with_reducible refine i_bl ?_)
  | (with_reducible refine i_and ?_) | (with_reducible refine i_or ?_) | (with_reducible refine i_not ?_) | (with_reducible refine i_lst ?_) | (with_reducible refine i_tup ?_) | (with_reducible refine i_next ?_) | (with_reducible refine i_drop ?_) | (with_reducible refine i_sub ?_)
  | (with_reducible refine i_bm ?_) | (with_reducible refine i_sl ?_) | (with_reducible refine i_part ?_) | (with_reducible refine i_nopart ?_) | (with_reducible refine i_exI ?_) | (with_reducible refine i_chain ?_) | ((with_reducible refine' i_aug ?q1 ?_); (case q1 => exact rfl)) | (with_reducible refine i_ip ?_)
  | (with_reducible refine i_par ?_) | (with_reducible refine i_pair ?_) | (with_reducible refine i_andV ?_) | (with_reducible refine i_orV ?_) | (with_reducible refine i_notV ?_) | (with_reducible refine i_m1 ?_) | (with_reducible refine i_str ?_)
  | (with_reducible refine iteF ?_) | (with_reducible refine iteT ?_) | (with_reducible refine iteNT ?_) | (with_reducible refine iteNF ?_) | (with_reducible refine i_tyS ?_) | (with_reducible refine i_tB ?_) | (with_reducible refine i_retN ?_) | (with_reducible refine i_par3 ?_) | (with_reducible refine i_trip ?_) | (with_reducible refine i_gCons ?_) | (with_reducible refine i_gNil ?_) | (with_reducible refine i_lstRg ?_) | (with_reducible refine i_rg1 ?_)
  | (with_reducible refine i_lc ?_) | (with_reducible refine i_for ?_) | (with_reducible refine i_iList ?_) | (with_reducible refine i_iTup ?_) | (with_reducible refine i_iStr ?_) | (with_reducible refine i_iRng1 ?_) | (with_reducible refine i_iEnS ?_)
  | ((with_reducible refine' i_ixTH ?q1 ?q2 ?_); (case q1 => walk_at "hp"); (case q2 => exact rfl))
  | ((with_reducible refine' i_ixLH ?q1 ?q2 ?_); (case q1 => walk_at "hp"); (case q2 => exact rfl))
  | ((with_reducible refine i_addS ?q1 ?_); (case q1 => walk_at "ln")) | ((with_reducible refine i_lenSS ?q1 ?_); (case q1 => walk_at "ln")) | ((with_reducible refine i_slFrom ?q1 ?q2 ?_); (case q1 => walk_at "ln"); (case q2 => walk_at "ln")) | ((with_reducible refine i_slTo ?q1 ?q2 ?_); (case q1 => walk_at "ln"); (case q2 => walk_at "ln"))
  | ((with_reducible refine' i_tyL ?q1 ?_); (case q1 => walk_at "hp"))
  | ((with_reducible refine' i_gTupH ?q1 ?q2 ?_); (case q1 => walk_at "hp"); (case q2 => exact rfl))
  | (with_reducible refine i_dnew ?_) | (with_reducible refine i_init ?_) | (with_reducible refine i_fst ?_) | (with_reducible refine i_mk ?_) | (with_reducible refine i_raise ?_) | (with_reducible refine i_callS ?_) | (with_reducible refine i_kwS ?_)
  | (with_reducible refine i_revT ?_) | (with_reducible refine i_kw ?_) | ((with_reducible refine' ⟨_, _, rfl, sqT_of ?q1, ?_⟩); (case q1 => walk_at "hp"))
  | (with_reducible refine i_revS ?_) | ((with_reducible refine i_revSS ?q1 ?_); (case q1 => walk_at "ln"))
  | (with_reducible refine i_startS ?_) | (with_reducible refine i_inSg ?_) | (with_reducible refine i_absN ?_) | (with_reducible refine i_min2 ?_) | (with_reducible refine i_max2 ?_) | (with_reducible refine i_min3 ?_) | (with_reducible refine i_intN ?_) | (with_reducible refine i_intNB ?_)
  | ((with_reducible refine' i_lenL ?q1 ?_); (case q1 => walk_at "hp")) | ((with_reducible refine' i_lenT ?q1 ?_); (case q1 => walk_at "hp"))
  | (with_reducible refine i_eqI ?_) | (with_reducible refine i_neI ?_) | (with_reducible refine i_eqS ?_) | (with_reducible refine i_neS ?_) | (with_reducible refine i_isNoI ?_) | (with_reducible refine i_isNoN ?_) | (with_reducible refine i_isNoR ?_)
  | ((with_reducible refine i_pow ?q1 ?q2 ?q3 ?_); (case q1 => decide); (case q2 => decide); (case q3 => (with_reducible omega)))
  | ((with_reducible refine i_rI ?q1 ?_); (case q1 => walk_at "ci"))
  | (with_reducible refine Or.inl ⟨_, rfl, ?_⟩) | (with_reducible refine Or.inr ⟨_, rfl, ?_⟩) | (with_reducible refine ⟨_, rfl, ?_⟩) | (with_reducible refine ⟨_, _, rfl, ?_⟩) | (with_reducible refine ⟨_, _, rfl, rfl, ?_⟩)
  | ((with_reducible refine' ⟨_, _, rfl, Or.inl (sqL_of ?q1), ?_⟩); (case q1 => walk_at "hp")) | ((with_reducible refine' ⟨_, _, rfl, Or.inr (sqT_of ?q1), ?_⟩); (case q1 => walk_at "hp")) | fail)
local macro_rules | `(tactic| walk_at "rd") => `(tactic| repeat' walk_at "rd1")

open Wd (rot rlen turn)
open Ly (pre num stays nums)
/-- _law_highest(box, left, right) -/
def spHigh : Sp := fun vs H Q _ => ∃ (b : Addr) (l r : List Nat) (d : Int), vs = [.ref b, .str (S l), .str (S r)] ∧ l.length ≤ 60 ∧ r.length ≤ 60 ∧ (0 < l.length ∨ 0 < r.length) ∧ BoxAt H b d ∧ d + 3 ≤ 1000000 ∧
  ∀ (n : Nat) (H' : Hp), n ≤ 60 → BoxAt H' b (d + 3) → SB b H H' → Q (.int (n : Int)) H'
theorem pre_le (t : List Nat) (n : Nat) : (pre t n).length ≤ n := by
  unfold pre
  rw [List.length_take]; omega
theorem ints_dp {K : PySem.W.Frag} {H : Hp} : ∀ ks : List Nat, DpAll K H (ks.map fun k : Nat => V.int (k : Int)) (ks.map fun k : Nat => PyData.int (k : Int))
  | [] => .nil
  | k :: ks => .cons (.int _) (ints_dp ks)
theorem ints_small {ks : List Nat} (h : ∀ k ∈ ks, k ≤ 1000) : ∀ d ∈ ks.map fun k : Nat => PyData.int (k : Int), Small 0 1000 d := by
  intro d hd
  obtain ⟨k, hk, rfl⟩ := List.mem_map.mp hd
  exact small_nat (h k hk)
theorem nil_small : Small 1 1000 (.list []) := (small_lst (n := 0) (w := 1000) fun x hx => by cases hx).mono (by omega) (by simp)
theorem i_eqD {K : PySem.W.Frag} {H : Hp} {x y : V} {d e : PyData} {Q : VK} {n w m u : Nat} (h1 : Dp K H x d) (h2 : Dp K H y e) (s1 : Small n w d) (s2 : Small m u e) (hn : n ≤ 60) (hm : m ≤ 60) (k : Q (.bl (PyData.eqv d e)) H) : rEqD K x y H Q := ⟨d, e, h1, h2, s1.shaped hn, s2.shaped hm, k⟩
theorem i_neD {K : PySem.W.Frag} {H : Hp} {x y : V} {d e : PyData} {Q : VK} {n w m u : Nat} (h1 : Dp K H x d) (h2 : Dp K H y e) (s1 : Small n w d) (s2 : Small m u e) (hn : n ≤ 60) (hm : m ≤ 60) (k : Q (.bl (!PyData.eqv d e)) H) : rNeD K x y H Q := ⟨d, e, h1, h2, s1.shaped hn, s2.shaped hm, k⟩
theorem i_maxN {K : PySem.W.Frag} {p : Addr} {ks : List Nat} {H : Hp} {Q : VK} {m : Nat} (h1 : H p = some (.lst (ks.map fun k : Nat => V.int (k : Int)))) (h2 : 0 < ks.length) (hm : ∀ k ∈ ks, k ≤ m) (h : ∀ k : Nat, k ≤ m → Q (.int (k : Int)) H) : rMax K [.ref p] H Q := by
  refine ⟨p, ks.map fun k : Nat => (k : Int), rfl, ?_, by rw [List.length_map]; exact h2, fun x hx _ => ?_⟩
  · rw [List.map_map]; exact sqL_of h1
  · obtain ⟨k, hk, rfl⟩ := List.mem_map.mp hx
    exact h k (hm k hk)
theorem i_minN {K : PySem.W.Frag} {p : Addr} {ks : List Nat} {H : Hp} {Q : VK} {m : Nat} (h1 : H p = some (.lst (ks.map fun k : Nat => V.int (k : Int)))) (h2 : 0 < ks.length) (hm : ∀ k ∈ ks, k ≤ m) (h : ∀ k : Nat, k ≤ m → Q (.int (k : Int)) H) : rMin K [.ref p] H Q := by
  refine ⟨p, ks.map fun k : Nat => (k : Int), rfl, ?_, by rw [List.length_map]; exact h2, fun x hx _ => ?_⟩
  · rw [List.map_map]; exact sqL_of h1
  · obtain ⟨k, hk, rfl⟩ := List.mem_map.mp hx
    exact h k (hm k hk)
section
variable {P : Program} {w : World} {K : PySem.W.Frag} {mg : Str → Option Value} {base : Heap} {f : Addr} {fd : FuncData}
theorem ok_high (F : Fun K "_law_highest" "_law_highest" s__law_highest f fd) (z : Z mg) (c__law_take : Cal P w K mg base "_law_take" ["box", "many"] 1 spTake) (c__law_due : Cal P w K mg base "_law_due" ["left", "right", "highest"] 2 spDue) (c__law_number : Cal P w K mg base "_law_number" ["pair"] 1 spNumber) : FnG P w K mg base CX0 3 f fd ["box", "left", "right"] spHigh := by
  refine Sw.Fun.okG0 F sc__law_highest (fun vs H Q E h => ?_) (fun cdv A outer s H vs Q E hr quiet h => ?_)
  · obtain ⟨b, l, r, d, rfl, _⟩ := h; rfl
  · obtain ⟨b, l, r, d, rfl, ll, lr, no, B, hd, k⟩ := h
    refine ⟨_, (pss_cons (ps_setLc (i := 3) (own := [("pair", 4)]) (g := gName 4) (tt := tYes) rfl sc__law_highest.nd rfl rfl (sw_true rfl rfl rfl (by decide +kernel)) (pi_list (pe_cal c__law_due hr (pa_cons (pv 1) (pa_cons (pv 2) (pa_cons (pe_callB call_lenS (by rfl) z.len PySem.boot_len (pa_cons (pv 1) pa_nil)) pa_nil))))) (blkOk_by (own := [("pair", 4)]) (N := n__law_highest) (sc := defScope s__law_highest) (by decide +kernel)) (fun _ _ _ _ _ => (pg_name (i := 4) sc__law_highest.nd rfl (.inl rfl))) (fun _ _ _ _ _ => pts_nil) (fun _ _ _ _ _ => (pe_callB call_absN (by rfl) z.abs (by decide +kernel) (pa_cons (pe_cal c__law_number hr (pa_cons (pv 4) pa_nil)) pa_nil))))
      (pss_cons (ps_if (PW.pt (pw_or (pt_cmpR (op_eqD hr.units) (pv 3) (pe_lst pa_nil) (nomark _)) (pw_or1 (pt_cmpR op_eq (pe_cal c__law_take hr (pa_cons (pv 0) (pa_cons pe_int pa_nil))) pe_int (nomark _)))))
        (pss_one (ps_ret (pe_cal c__law_take hr (pa_cons (pv 0) (pa_cons pe_int pa_nil)))))
        pss_nil)
      (pss_one (ps_ret (pe_callB (call_max2N rfl) (by rfl) z.max_ (by decide +kernel) (pa_cons pe_int (pa_cons (pe_ix ix_list (pe_lst (pa_cons (pe_callB (cr_min rfl) (by rfl) z.min_ (by decide +kernel) (pa_cons (pv 3) pa_nil)) (pa_cons (pe_op op_sub (pe_callB (cr_min rfl) (by rfl) z.min_ (by decide +kernel) (pa_cons (pv 3) pa_nil)) pe_int) (pa_cons (pe_callB (cr_max rfl) (by rfl) z.max_ (by decide +kernel) (pa_cons (pv 3) pa_nil)) (pa_cons (pe_op op_sub (pe_callB (cr_max rfl) (by rfl) z.max_ (by decide +kernel) (pa_cons (pv 3) pa_nil)) pe_int) pa_nil))))) (pe_cal c__law_take hr (pa_cons (pv 0) (pa_cons pe_int pa_nil))) (fun _ _ => rfl)) pa_nil))))))), ?_⟩
    walk_at "rd"
    refine ⟨l, r, l.length, rfl, by omega, by omega, by omega, no, fun q as H1 s1 nq eq pa => ?_⟩
    have mem := fun {p : List Nat × List Nat} (h : p ∈ Ly.due l r l.length) => due_mem h
    have ld := due_len l r l.length
    have la := pa.len
    generalize Ly.due l r l.length = ps at *
    walk_at "rd"
    refine i_sqL (sqL_of eq) ?_
    refine go_lc (walk_list (xs := as.map V.ref)) (fun p i H2 => ∃ ks : List Nat, ks.length = i ∧ H2 p = some (.lst (ks.map fun k : Nat => V.int (k : Int))) ∧ (∀ k ∈ ks, k ≤ 60) ∧ Same H1 H2)
      (fun p np => ⟨[], rfl, upd_same, (fun k hk => by cases hk), same_upd np⟩) (fun p i H2 _ h => by obtain ⟨_, _, _, _, s⟩ := h; exact sqL_of (s _ _ eq)) (fun p np i x H2 H3 hi h y => ?_) (fun p H2 np h => ?_)
    · obtain ⟨ks, lk, ek, bk, s2⟩ := h
      obtain ⟨rfl, hx⟩ := y
      rw [List.getElem?_map] at hx
      obtain ⟨a, ha, rfl⟩ := Option.map_eq_some_iff.mp hx
      obtain ⟨pr, hp, ea⟩ := pa.get ha
      have ea2 := s2 _ _ ea
      obtain ⟨_, zz, rfl, hz, _⟩ := mem (List.mem_of_getElem? hp)
      have nb := num_b l r zz
      rw [List.length_map] at hi
      walk_at "rd"
      refine ⟨rfl, i_yes (iteT ?_)⟩
      walk_at "rd"
      refine ⟨a, _, rfl, ea2, by omega, by omega, ?_⟩
      walk_at "rd"
      obtain ⟨vv, ev, hv⟩ : ∃ n : Nat, (if ((num l r zz).1.length : Int) - ((num l r zz).2.length : Int) < 0 then -(((num l r zz).1.length : Int) - ((num l r zz).2.length : Int)) else ((num l r zz).1.length : Int) - ((num l r zz).2.length : Int)) = (n : Int) ∧ n ≤ 60 := by
        split
        · exact ⟨(num l r zz).2.length - (num l r zz).1.length, by omega, by omega⟩
        · exact ⟨(num l r zz).1.length - (num l r zz).2.length, by omega, by omega⟩
      rw [ev]
      refine ⟨_, ek, by rw [List.length_map]; exact Nat.lt_of_le_of_lt (show ks.length ≤ 500 by omega) (by decide), ks ++ [vv], by rw [List.length_append, lk]; rfl, by rw [upd_same, List.map_append]; rfl, fun k hk => ?_, Same.set_new s2 np⟩
      rcases List.mem_append.mp hk with hk | hk
      · exact bk k hk
      · rw [List.mem_singleton.mp hk]; exact hv
    · obtain ⟨ks, lk, ek, bk, s2⟩ := h
      walk_at "rd"
      refine ⟨Nat.zero_le _, fun p3 n3 => ?_⟩
      have t3 := same_upd (o := .lst []) n3
      have e3 := upd_same (H := H2) (a := p3) (o := .lst [])
      generalize upd H2 p3 (.lst []) = H3 at *
      have ek3 := t3 _ _ ek
      have s13 := s1.trans (s2.trans t3)
      have B3 := B.same s13
      have dk : Dp K H3 (.ref p) (.list (ks.map fun k : Nat => PyData.int (k : Int))) := .lst (sqL_of ek3) (ints_dp ks)
      have d0 : Dp K H3 (.ref p3) (.list []) := .lst (sqL_of e3) .nil
      have lks : ks.length ≤ 121 := by rw [List.length_map] at lk; omega
      refine i_eqD dk d0 ((small_lst (ints_small fun k hk => by have := bk k hk; omega)).mono (show 0 + 1 ≤ 1 by omega) (show _ ≤ 200000 by rw [List.length_map]; omega)) nil_small (by omega) (by omega) ?_
      rcases ks with _ | ⟨k0, ks⟩
      · show ∃ k, V.bl true = V.bl k ∧ _
        refine ⟨_, rfl, ?_⟩
        walk_at "rd"
        refine ⟨b, 41, _, rfl, B3, by omega, by omega, by omega, fun n H4 n0 n1 B4 s4 => ?_⟩
        obtain ⟨n, rfl⟩ : ∃ m : Nat, n = m := ⟨n.toNat, by omega⟩
        exact k n _ (by omega) (B4.mono (by omega)) ((SB.of s13).trans s4)
      · show ∃ k, V.bl false = V.bl k ∧ _
        refine ⟨_, rfl, ?_⟩
        walk_at "rd"
        refine ⟨b, 2, _, rfl, B3, by omega, by omega, by omega, fun tq H4 t0 t1 B4 s4 => ?_⟩
        have ek4 := s4 _ _ (B.ne_new (s1.free np)) ek3
        have s14 := (SB.of s13).trans s4
        walk_at "rd"
        refine iteB (fun _ => ?_) (fun _ => ?_)
        · walk_at "rd"
          refine ⟨b, 41, _, rfl, B4, by omega, by omega, by omega, fun n H5 n0 n1 B5 s5 => ?_⟩
          obtain ⟨n, rfl⟩ : ∃ m : Nat, n = m := ⟨n.toNat, by omega⟩
          exact k n _ (by omega) (B5.mono (by omega)) (s14.trans s5)
        · walk_at "rd"
          refine i_minN ek4 (by simp) bk fun m1 h1 => ?_
          walk_at "rd"
          refine i_minN ek4 (by simp) bk fun m2 h2 => ?_
          walk_at "rd"
          refine i_maxN ek4 (by simp) bk fun m3 h3 => ?_
          walk_at "rd"
          refine i_maxN ek4 (by simp) bk fun m4 h4 => ?_
          walk_at "rd"
          refine ⟨Nat.le_of_ble_eq_true rfl, fun p5 n5 => ?_⟩
          have t5 := same_upd (o := .lst [V.int (m1 : Int), V.int ((m2 : Int) - 1), V.int (m3 : Int), V.int ((m4 : Int) - 1)]) n5
          have e5 := upd_same (H := H4) (a := p5) (o := .lst [V.int (m1 : Int), V.int ((m2 : Int) - 1), V.int (m3 : Int), V.int ((m4 : Int) - 1)])
          have p5b := B4.ne_new n5
          have B5 := B4.same t5
          generalize upd H4 p5 (.lst [V.int (m1 : Int), V.int ((m2 : Int) - 1), V.int (m3 : Int), V.int ((m4 : Int) - 1)]) = H5 at *
          walk_at "rd"
          refine ⟨b, 4, _, rfl, B5, by omega, by omega, by omega, fun q6 H6 q60 q61 B6 s6 => ?_⟩
          have e56 := s6 _ _ p5b e5
          obtain ⟨vv, ev, hv⟩ : ∃ vv : Int, ([V.int (m1 : Int), V.int ((m2 : Int) - 1), V.int (m3 : Int), V.int ((m4 : Int) - 1)] : List V)[q6.toNat]? = some (.int vv) ∧ vv ≤ 60 := by
            have hj : q6 = 0 ∨ q6 = 1 ∨ q6 = 2 ∨ q6 = 3 := by omega
            rcases hj with rfl | rfl | rfl | rfl
            · exact ⟨_, rfl, by omega⟩
            · exact ⟨_, rfl, by omega⟩
            · exact ⟨_, rfl, by omega⟩
            · exact ⟨_, rfl, by omega⟩
          refine i_ixLv e56 q60 ev ?_
          walk_at "rd"
          have em : max 0 vv = ((max 0 vv).toNat : Int) := by omega
          rw [em]
          exact k _ _ (by omega) (B6.mono (by omega)) (s14.trans ((SB.of t5).trans s6))
end
end Sw
namespace Sw
open PySem PySem.Spec PyProof.Rows L2
local macro_rules | `(tactic| walk_at "hp") => `(tactic| first
  | (with_reducible assumption) | (with_reducible exact upd_same)
  | ((with_reducible refine' upd_old ?q1 ?q2); (case q1 => (with_reducible assumption)); (case q2 => walk_at "hp"))
  | ((with_reducible refine' Same.at ?q1 ?q2); (case q1 => (with_reducible assumption)); (case q2 => walk_at "hp"))
  | ((with_reducible refine' upd_skip ?q1 ?q2); (case q1 => walk_at "ne"); (case q2 => walk_at "hp"))
  | fail)
local macro_rules | `(tactic| walk_at "ne") => `(tactic| first
  | (with_reducible assumption) | (with_reducible exact Ne.symm (by assumption))
  | ((with_reducible refine' ne_of_none ?q1 ?q2); (case q2 => (with_reducible assumption)); (case q1 => walk_at "hp"))
  | fail)
local macro_rules | `(tactic| walk_at "ci") => `(tactic| first | assumption | (show (0 : Int) < _; first | decide | (with_reducible omega)) | exact ⟨by decide, by decide⟩ | exact .inl ⟨by decide, by decide⟩ | exact .inr ⟨by decide, by decide⟩)
local macro_rules | `(tactic| walk_at "ln") => `(tactic| first | (with_reducible assumption) | (with_reducible omega) | (simp only [List.length_append, List.length_take, List.length_drop, List.length_reverse, List.length_cons, List.length_nil]; with_reducible omega))
local macro_rules | `(tactic| walk_at "rd1") => `(tactic| first
  | (with_reducible refine i_seq ?_) | (with_reducible refine i_asg ?_) | (with_reducible refine i_ret ?_) | (with_reducible refine i_name ?_) | ((with_reducible refine' i_var ?q1 ?_); (case q1 => exact rfl)) | (with_reducible refine i_c ?_) | (with_reducible refine i_op ?_) | (with_reducible refine i_un ?_)
  | (with_reducible refine i_rI0 ?_) | (with_reducible refine i_cb ?_) | (with_reducible refine i_cons ?_) | (with_reducible refine i_nil ?_) | (with_reducible refine i_call ?_) | (with_reducible refine i_if ?_) | (with_reducible refine i_ifE ?_) | (with_reducible refine i_test ?_) | (with_reducible refine i_bl ?_)
  | (with_reducible refine i_and ?_) | (with_reducible refine i_or ?_) | (with_reducible refine i_not ?_) | (with_reducible refine i_lst ?_) | (with_reducible refine i_tup ?_) | (with_reducible refine i_next ?_) | (with_reducible refine i_drop ?_) | (with_reducible refine i_sub ?_)
  | (with_reducible refine i_bm ?_) | (with_reducible refine i_sl ?_) | (with_reducible refine i_part ?_) | (with_reducible refine i_nopart ?_) | (with_reducible refine i_exI ?_) | (with_reducible refine i_chain ?_) | ((with_reducible refine' i_aug ?q1 ?_); (case q1 => exact rfl)) | (with_reducible refine i_ip ?_)
  | (with_reducible refine i_par ?_) | (with_reducible refine i_pair ?_) | (with_reducible refine i_andV ?_) | (with_reducible refine i_orV ?_) | (with_reducible refine i_notV ?_) | (with_reducible refine i_m1 ?_) | (with_reducible refine i_str ?_)
  | (with_reducible refine iteF ?_) | (with_reducible refine iteT ?_) | (with_reducible refine iteNT ?_) | (with_reducible refine iteNF ?_) | (with_reducible refine i_tyS ?_) | (with_reducible refine i_tB ?_) | (with_reducible refine i_retN ?_) | (with_reducible refine i_par3 ?_) | (with_reducible refine i_trip ?_) | (with_reducible refine i_gCons ?_) | (with_reducible refine i_gNil ?_) | (with_reducible refine i_lstRg ?_) | (with_reducible refine i_rg1 ?_)
  | (with_reducible refine i_lc ?_) | (with_reducible refine i_for ?_) | (with_reducible refine i_iList ?_) | (with_reducible refine i_iTup ?_) | (with_reducible refine i_iStr ?_) | (with_reducible refine i_iRng1 ?_) | (with_reducible refine i_iEnS ?_)
  | ((with_reducible refine' i_ixTH ?q1 ?q2 ?_); (case q1 => walk_at "hp"); (case q2 => exact rfl))
  | ((with_reducible refine' i_ixLH ?q1 ?q2 ?_); (case q1 => walk_at "hp"); (case q2 => exact rfl))
  | ((with_reducible refine i_addS ?q1 ?_); (case q1 => walk_at "ln")) | ((with_reducible refine i_lenSS ?q1 ?_); (case q1 => walk_at "ln")) | ((with_reducible refine i_slFrom ?q1 ?q2 ?_); (case q1 => walk_at "ln"); (case q2 => walk_at "ln")) | ((with_reducible refine i_slTo ?q1 ?q2 ?_); (case q1 => walk_at "ln"); (case q2 => walk_at "ln"))
  | ((with_reducible refine' i_tyL ?q1 ?_); (case q1 => walk_at "hp"))
  | ((with_reducible refine' i_gTupH ?q1 ?q2 ?_); (case q1 => walk_at "hp"); (case q2 => exact rfl))
  | (with_reducible refine i_dnew ?_) | (with_reducible refine i_init ?_) | (with_reducible refine i_fst ?_) | (with_reducible refine i_mk ?_) | (with_reducible refine i_raise ?_) | (with_reducible refine i_callS ?_) | (with_reducible refine i_kwS ?_)
  | (with_reducible refine i_revT ?_) | (with_reducible refine i_kw ?_) | ((with_reducible refine' ⟨_, _, rfl, sqT_of ?q1, ?_⟩); (case q1 => walk_at "hp"))
  | (with_reducible refine i_revS ?_) | ((with_reducible refine i_revSS ?q1 ?_); (case q1 => walk_at "ln"))
  | (with_reducible refine i_startS ?_) | (with_reducible refine i_inSg ?_) | (with_reducible refine i_absN ?_) | (with_reducible refine i_min2 ?_) | (with_reducible refine i_max2 ?_) | (with_reducible refine i_min3 ?_) | (with_reducible refine i_intN ?_) | (with_reducible refine i_intNB ?_)
  | ((with_reducible refine' i_lenL ?q1 ?_); (case q1 => walk_at "hp")) | ((with_reducible refine' i_lenT ?q1 ?_); (case q1 => walk_at "hp"))
  | (with_reducible refine i_eqI ?_) | (with_reducible refine i_neI ?_) | (with_reducible refine i_eqS ?_) | (with_reducible refine i_neS ?_) | (with_reducible refine i_isNoI ?_) | (with_reducible refine i_isNoN ?_) | (with_reducible refine i_isNoR ?_)
  | ((with_reducible refine i_pow ?q1 ?q2 ?q3 ?_); (case q1 => decide); (case q2 => decide); (case q3 => (with_reducible omega)))
  | ((with_reducible refine i_rI ?q1 ?_); (case q1 => walk_at "ci"))
  | (with_reducible refine Or.inl ⟨_, rfl, ?_⟩) | (with_reducible refine Or.inr ⟨_, rfl, ?_⟩) | (with_reducible refine ⟨_, rfl, ?_⟩) | (with_reducible refine ⟨_, _, rfl, ?_⟩) | (with_reducible refine ⟨_, _, rfl, rfl, ?_⟩)
  | ((with_reducible refine' ⟨_, _, rfl, Or.inl (sqL_of ?q1), ?_⟩); (case q1 => walk_at "hp")) | ((with_reducible refine' ⟨_, _, rfl, Or.inr (sqT_of ?q1), ?_⟩); (case q1 => walk_at "hp")) | fail)
local macro_rules | `(tactic| walk_at "rd") => `(tactic| repeat' walk_at "rd1")

open Wd (rot rlen turn)
open Ly (pre num stays nums)
abbrev fl (k : Nat) (t : List Nat) : List Nat := (List.replicate k t).flatten
theorem num_nil (l r : List Nat) (z : Int) : (num l r z).1 = [] ∨ (num l r z).2 = [] := by
  unfold num
  split
  · exact .inr rfl
  · exact .inl rfl
theorem after_ok {l r : List Nat} {z : Int} (h : stays (num l r z) l r) (k : Nat) : lagAfter ((num l r z).1 ++ fl k l) ((num l r z).2 ++ fl k r) = some ((num l r z).1, (num l r z).2) := by
  unfold stays at h
  unfold num at *
  by_cases hz : 0 < z
  · rw [if_pos hz] at *
    have e : pre r z.natAbs ++ l = r ++ pre r z.natAbs := by simpa using h.2
    have f := Ly.flat_pos e k
    show lagAfter (pre r z.natAbs ++ fl k l) ([] ++ fl k r) = some (pre r z.natAbs, [])
    rw [List.nil_append]
    show lagAfter (pre r z.natAbs ++ (List.replicate k l).flatten) _ = _
    rw [f]
    unfold lagAfter
    rw [if_pos (List.take_left' rfl), List.drop_left' rfl]
  · rw [if_neg hz] at *
    have e : l ++ pre l z.natAbs = pre l z.natAbs ++ r := by simpa using h.2
    have f := Ly.flat_neg e k
    show lagAfter ([] ++ fl k l) (pre l z.natAbs ++ fl k r) = some ([], pre l z.natAbs)
    rw [List.nil_append]
    show lagAfter _ (pre l z.natAbs ++ (List.replicate k r).flatten) = _
    rw [← f]
    unfold lagAfter
    by_cases c : (fl k l).take ((List.replicate k l).flatten ++ pre l z.natAbs).length = (List.replicate k l).flatten ++ pre l z.natAbs
    · have len := congrArg List.length c
      rw [List.length_take, List.length_append] at len
      have lfl : (fl k l).length = ((List.replicate k l).flatten).length := rfl
      have a0 : pre l z.natAbs = [] := List.length_eq_zero_iff.mp (by omega)
      rw [if_pos c, a0, List.append_nil, List.drop_length]
    · rw [if_neg c, if_pos (List.take_left' rfl), List.drop_left' rfl]
theorem PA.sb {H H' : Hp} {b : Addr} {d : Int} {as : List Addr} {ps : List (List Nat × List Nat)} (h : PA H as ps) (B : BoxAt H b d) (s : SB b H H') : PA H' as ps := h.at fun a p _ ha => s _ _ (B.ne_tup ha) ha
theorem cut_mem {xs : List V} {i j : Option Int} {x : V} (h : x ∈ cutV xs i j) : x ∈ xs := by
  unfold cutV at h
  exact List.mem_of_mem_drop (List.mem_of_mem_take h)
theorem cut_le {xs : List V} {i j : Option Int} : (cutV xs i j).length ≤ xs.length := by
  unfold cutV
  rw [List.length_take, List.length_drop]
  omega
theorem reps_dp {K : PySem.W.Frag} {H : Hp} (x : Int) : ∀ k : Nat, DpAll K H (List.replicate k (V.int x)) (List.replicate k (PyData.int x))
  | 0 => .nil
  | k + 1 => .cons (.int _) (reps_dp x k)
theorem reps_eqv (x : Int) (k : Nat) : PyData.eqv (.list (List.replicate k (PyData.int x))) (.list (List.replicate k (PyData.int x))) = true := by
  simp only [PyData.eqv]
  induction k with
  | zero => rfl
  | succ k ih => rw [List.replicate_succ]; simp only [PyData.eqvAll, PyData.eqv, ih, beq_self_eq_true, Bool.and_self]
theorem reps_small {x k : Nat} (h : x ≤ 1000) (hk : k ≤ 200) : Small 1 200200 (.list (List.replicate k (PyData.int (x : Int)))) := by
  refine (small_lst (n := 0) (w := 1000) fun d hd => ?_).mono (by omega) (by rw [List.length_replicate]; omega)
  rw [List.eq_of_mem_replicate hd]
  exact small_nat h
theorem flat_one' {α : Type} (x : α) (k : Nat) : (List.replicate k [x]).flatten = List.replicate k x := by
  induction k with
  | zero => rfl
  | succ k ih => rw [List.replicate_succ, List.flatten_cons, ih]; rfl
theorem flat_turned (l : List Nat) (n : Nat) : ((List.range n).map fun s : Nat => V.str (S (rot s l))).all flatV = true := by
  rw [List.all_eq_true]
  intro x hx
  obtain ⟨s, _, rfl⟩ := List.mem_map.mp hx
  rfl
theorem in_turned (l r : List Nat) (n : Nat) : inV (.str (S r)) ((List.range n).map fun s : Nat => V.str (S (rot s l))) = decide (∃ s, s < n ∧ rot s l = r) := by
  unfold inV
  rw [Bool.eq_iff_iff, List.any_eq_true, decide_eq_true_eq]
  constructor
  · rintro ⟨x, hx, e⟩
    obtain ⟨s, hs, rfl⟩ := List.mem_map.mp hx
    rw [eqV_S, decide_eq_true_eq] at e
    exact ⟨s, List.mem_range.mp hs, S_inj.mp (V.str.inj e)⟩
  · rintro ⟨s, hs, e⟩
    refine ⟨_, List.mem_map.mpr ⟨s, List.mem_range.mpr hs, rfl⟩, ?_⟩
    rw [eqV_S, decide_eq_true_eq, e]
theorem wide_yes (ps : List (List Nat × List Nat)) : (!PyData.eqv (.list (ps.map pairD)) (.list [])) = decide (ps ≠ []) := by
  rcases ps with _ | ⟨p, ps⟩
  · rfl
  · rfl
/-- _law_pair_right(box, left, right) -/
def spPR : Sp := fun vs H Q _ => ∃ (b : Addr) (l r : List Nat) (d : Int), vs = [.ref b, .str (S l), .str (S r)] ∧ azB l = true ∧ azB r = true ∧ l.length ≤ 25 ∧ r.length ≤ 25 ∧ (0 < l.length ∨ 0 < r.length) ∧ BoxAt H b d ∧ d + 4 ≤ 1000000 ∧
  ∀ (H' : Hp), BoxAt H' b (d + 4) → SB b H H' → Q (.bl true) H'
section
variable {P : Program} {w : World} {K : PySem.W.Frag} {mg : Str → Option Value} {base : Heap} {f : Addr} {fd : FuncData}
theorem ok_pr (F : Fun K "_law_pair_right" "_law_pair_right" s__law_pair_right f fd) (z : Z mg) (c__law_take : Cal P w K mg base "_law_take" ["box", "many"] 1 spTake) (q__law_highest : CalG P w K mg base "_law_highest" ["box", "left", "right"] 3 spHigh) (q__law_list_right : CalG P w K mg base "_law_list_right" ["left", "right", "highest"] 5 spLR) (c__law_due : Cal P w K mg base "_law_due" ["left", "right", "highest"] 2 spDue) (c_lag_behind : Cal P w K mg base "lag_behind" ["lag", "one", "other"] 4 spBehind) (c_staying : Cal P w K mg base "staying" ["one", "other", "most"] 4 spStay) (c__law_number : Cal P w K mg base "_law_number" ["pair"] 1 spNumber) (c__law_root_length : Cal P w K mg base "_law_root_length" ["word"] 1 spRootLen) : FnG P w K mg base CX0 6 f fd ["box", "left", "right"] spPR := by
  refine Sw.Fun.okG0 F sc__law_pair_right (fun vs H Q E h => ?_) (fun cdv A outer s H vs Q E hr quiet h => ?_)
  · obtain ⟨b, l, r, d, rfl, _⟩ := h; rfl
  · obtain ⟨b, l, r, d, rfl, zl, zr, ll, lr, no, B, hd, k⟩ := h
    refine ⟨_, (pss_cons (ps_set (i := 3) sc__law_pair_right.nd rfl (.inl rfl) (pe_calG q__law_highest hr quiet (pa_cons (pv 0) (pa_cons (pv 1) (pa_cons (pv 2) pa_nil)))))
      (pss_cons (ps_if (PW.pt (pw_or (pt_not (pt_val (pe_calG q__law_list_right hr quiet (pa_cons (pv 1) (pa_cons (pv 2) (pa_cons (pv 3) pa_nil)))))) (pw_or1 (pt_not (pt_val (pe_calG q__law_list_right hr quiet (pa_cons (pv 2) (pa_cons (pv 1) (pa_cons (pv 3) pa_nil)))))))))
        (pss_one (ps_ret pe_bl))
        pss_nil)
      (pss_cons (ps_set (i := 4) sc__law_pair_right.nd rfl (.inl rfl) (pe_cal c__law_due hr (pa_cons (pv 1) (pa_cons (pv 2) (pa_cons (pv 3) pa_nil)))))
      (pss_cons (ps_set (i := 5) sc__law_pair_right.nd rfl (.inl rfl) (pe_op op_add pe_int (pe_cal c__law_take hr (pa_cons (pv 0) (pa_cons pe_int pa_nil)))))
      (pss_cons (ps_for PassesOwn.never rfl (pi_list (pe_op op_cat (pe_slice sl_list (pv 4) po_none (po_some pe_int)) (pe_slice sl_list (pv 4) (po_some (pe_un un_neg pe_int)) po_none))) (pg_name (i := 6) sc__law_pair_right.nd rfl (.inl rfl))
        (pss_one (ps_if (PW.pt (pw_or (pt_cmpR (op_neD hr.units) (pe_cal c_lag_behind hr (pa_cons (pv 6) (pa_cons (pe_op op_mulS (pv 1) (pv 5)) (pa_cons (pe_op op_mulS (pv 2) (pv 5)) pa_nil)))) (pv 6) (nomark _)) (pw_or1 (pt_cmpR op_ne (pe_callB (call_repD quiet hr.units) (by rfl) z.repr (by decide +kernel) (pa_cons (pe_cal c_lag_behind hr (pa_cons (pv 6) (pa_cons (pv 1) (pa_cons (pv 2) pa_nil)))) pa_nil)) (pe_callB (call_repD quiet hr.units) (by rfl) z.repr (by decide +kernel) (pa_cons (pv 6) pa_nil)) (nomark _)))))
          (pss_one (ps_ret pe_bl))
          pss_nil)))
      (pss_cons (ps_set (i := 7) sc__law_pair_right.nd rfl (.inl rfl) (pe_cal c_staying hr (pa_cons (pv 1) (pa_cons (pv 2) (pa_cons (pe_op op_add (pe_callB call_lenS (by rfl) z.len PySem.boot_len (pa_cons (pv 1) pa_nil)) (pe_callB call_lenS (by rfl) z.len PySem.boot_len (pa_cons (pv 2) pa_nil))) pa_nil)))))
      (pss_cons (ps_setLc (i := 8) (own := [("spot", 9)]) (g := gName 9) (tt := tYes) rfl sc__law_pair_right.nd rfl rfl (sw_true rfl rfl rfl (by decide +kernel)) (pi_range1 (by rfl) z.range (pa_cons (pe_callB call_lenS (by rfl) z.len PySem.boot_len (pa_cons (pv 1) pa_nil)) pa_nil)) (blkOk_by (own := [("spot", 9)]) (N := n__law_pair_right) (sc := defScope s__law_pair_right) (by decide +kernel)) (fun _ _ _ _ _ => (pg_name (i := 9) sc__law_pair_right.nd rfl (.inl rfl))) (fun _ _ _ _ _ => pts_nil) (fun _ _ _ _ _ => (pe_op op_addS (pe_slice sl_S (pv 1) (po_some (pv 9)) po_none) (pe_slice sl_S (pv 1) po_none (po_some (pv 9))))))
      (pss_cons (ps_if (pt_cmpR op_ne (pe_cmpR (op_neD hr.units) (pv 7) (pe_lst pa_nil) (nomark _)) (pe_cmpR op_in_seq (pv 2) (pv 8) (by rfl)) (nomark _))
        (pss_one (ps_ret pe_bl))
        pss_nil)
      (pss_cons (ps_set (i := 10) sc__law_pair_right.nd rfl (.inr rfl) (pe_lc (own := [("pair", 6)]) (g := gName 6) (tt := tYes) rfl sc__law_pair_right.nd (pi_list (pv 7)) (blkOk_by (own := [("pair", 6)]) (N := n__law_pair_right) (sc := defScope s__law_pair_right) (by decide +kernel)) (fun _ _ _ _ _ => (pg_name (i := 6) sc__law_pair_right.nd rfl (.inl rfl))) (fun _ _ _ _ _ => pts_nil) (fun _ _ _ _ _ => (pe_cal c__law_number hr (pa_cons (pv 6) pa_nil)))))
      (pss_cons (ps_set (i := 11) sc__law_pair_right.nd rfl (.inl rfl) (pe_cal c__law_root_length hr (pa_cons (pv 1) pa_nil)))
      (pss_one (ps_ret (pe_cmpR (op_eqD hr.units) (pe_lc (own := [("k", 12)]) (g := gName 12) (tt := tYes) rfl sc__law_pair_right.nd (pi_range1 (by rfl) z.range (pa_cons (pe_op op_sub (pe_callB call_lenQ (by rfl) z.len PySem.boot_len (pa_cons (pv 10) pa_nil)) pe_int) pa_nil)) (blkOk_by (own := [("k", 12)]) (N := n__law_pair_right) (sc := defScope s__law_pair_right) (by decide +kernel)) (fun _ _ _ _ _ => (pg_name (i := 12) sc__law_pair_right.nd rfl (.inl rfl))) (fun _ _ _ _ _ => pts_nil) (fun _ _ _ _ _ => (pe_op op_sub (pe_ix (r := rIxL K) ix_list (pv 10) (pe_op op_add (pv 12) pe_int) (fun _ _ => rfl)) (pe_ix (r := rIxL K) ix_list (pv 10) (pv 12) (fun _ _ => rfl))))) (pe_op op_rep (pe_lst (pa_cons (pv 11) pa_nil)) (pe_callB (call_max2N rfl) (by rfl) z.max_ (by decide +kernel) (pa_cons pe_int (pa_cons (pe_op op_sub (pe_callB call_lenQ (by rfl) z.len PySem.boot_len (pa_cons (pv 10) pa_nil)) pe_int) pa_nil)))) (nomark _)))))))))))))), ?_⟩
    walk_at "rd"
    refine ⟨b, l, r, d, rfl, by omega, by omega, no, B, by omega, fun n H1 hn B1 s1 => ?_⟩
    walk_at "rd"
    refine ⟨l, r, n, rfl, zl, zr, by omega, by omega, by omega, no, fun H2 s2 => ?_⟩
    walk_at "rd"
    refine ⟨r, l, n, rfl, zr, zl, by omega, by omega, by omega, no.symm, fun H3 s3 => ?_⟩
    walk_at "rd"
    refine ⟨l, r, n, rfl, by omega, by omega, by omega, no, fun q as H4 s4 nq eq pa => ?_⟩
    have t14 := s2.trans (s3.trans s4)
    have B4 := B1.same t14
    walk_at "rd"
    refine ⟨b, 3, _, rfl, B4, by omega, by omega, by omega, fun rd H5 rd0 rd1 B5 s5 => ?_⟩
    obtain ⟨rd, rfl⟩ : ∃ m : Nat, rd = m := ⟨rd.toNat, by omega⟩
    walk_at "rd"
    rw [show (1 : Int) + (rd : Int) = ((1 + rd : Nat) : Int) by omega]
    have qb : q ≠ b := (B1.same (s2.trans s3)).ne_new nq
    have eq5 := s5 _ _ qb eq
    have pa5 := pa.sb B4 s5
    have s15 := s1.trans ((SB.of t14).trans s5)
    have mem := fun {p : List Nat × List Nat} (h : p ∈ Ly.due l r n) => due_mem h
    have ld := due_len l r n
    have la := pa.len
    generalize Ly.due l r n = ps at *
    refine ⟨q, _, rfl, sqL_of eq5, fun p6 n6 => ?_⟩
    have c1 : ∀ x ∈ cutV (as.map V.ref) none (some 3), x ∈ as.map V.ref := fun x hx => cut_mem hx
    have c1l := cut_le (xs := as.map V.ref) (i := none) (j := some 3)
    generalize cutV (as.map V.ref) none (some 3) = xs1 at *
    have t6 := same_upd (o := .lst xs1) n6
    have e6 := upd_same (H := H5) (a := p6) (o := .lst xs1)
    generalize upd H5 p6 (.lst xs1) = H6 at *
    walk_at "rd"
    refine i_rU ?_
    walk_at "rd"
    refine ⟨q, _, rfl, sqL_of (t6 _ _ eq5), fun p7 n7 => ?_⟩
    have c2 : ∀ x ∈ cutV (as.map V.ref) (some (-3)) none, x ∈ as.map V.ref := fun x hx => cut_mem hx
    have c2l := cut_le (xs := as.map V.ref) (i := some (-3)) (j := none)
    generalize cutV (as.map V.ref) (some (-3)) none = xs2 at *
    have t7 := same_upd (o := .lst xs2) n7
    have e7 := upd_same (H := H6) (a := p7) (o := .lst xs2)
    have e67 := t7 _ _ e6
    generalize upd H6 p7 (.lst xs2) = H7 at *
    rw [List.length_map] at c1l c2l
    refine ⟨p6, p7, xs1, xs2, rfl, rfl, e67, e7, Nat.le_trans (show xs1.length + xs2.length ≤ 1000 by omega) (by decide), fun p8 n8 => ?_⟩
    have c3 : ∀ x ∈ xs1 ++ xs2, x ∈ as.map V.ref := fun x hx => (List.mem_append.mp hx).elim (c1 x) (c2 x)
    generalize xs1 ++ xs2 = xs3 at *
    have t8 := same_upd (o := .lst xs3) n8
    have e8 := upd_same (H := H7) (a := p8) (o := .lst xs3)
    generalize upd H7 p8 (.lst xs3) = H8 at *
    have t58 := t6.trans (t7.trans t8)
    have pa8 := pa5.same t58
    walk_at "rd"
    refine i_sqL (sqL_of e8) ?_
    refine go_for (walk_list (xs := xs3)) (fun i σ H9 => ∃ (u6 : Option V), σ = [some (.ref b), some (.str (S l)), some (.str (S r)), some (.int (n : Int)), some (.ref q), some (.int ((1 + rd : Nat) : Int)), u6, none, none, none, none, none, none] ∧ Same H8 H9) ⟨_, rfl, Same.refl _⟩ (fun i σ H9 _ h => by obtain ⟨_, _, s⟩ := h; exact sqL_of (s _ _ e8)) (fun i x σ H9 HA hi h y => ?_) (fun σ H9 h => ?_)
    · obtain ⟨u6, rfl, s9⟩ := h
      obtain ⟨rfl, hx⟩ := y
      obtain ⟨a, ha, rfl⟩ := List.mem_map.mp (c3 x (List.mem_of_getElem? hx))
      obtain ⟨ia, hia⟩ := List.getElem?_of_mem ha
      obtain ⟨pr, hp, ea⟩ := pa8.get hia
      have eaA := s9 _ _ ea
      obtain ⟨_, zz, rfl, hz, st⟩ := mem (List.mem_of_getElem? hp)
      have nb := num_b l r zz
      have na := num_az zl zr zz
      have sm := pair_small na.1 na.2 (by omega) (by omega)
      have f1 := after_ok st (1 + rd)
      have f2 : lagAfter ((num l r zz).1 ++ l) ((num l r zz).2 ++ r) = some ((num l r zz).1, (num l r zz).2) := by
        have := after_ok st 1
        simpa [fl] using this
      have nn := num_nil l r zz
      generalize num l r zz = pp at *
      obtain ⟨p1, p2⟩ := pp
      have q1 : p1.length ≤ 60 := by have h := nb.1; dsimp only at h; omega
      have q2 : p2.length ≤ 60 := by have h := nb.2; dsimp only at h; omega
      have lfl : ∀ t : List Nat, t.length ≤ 25 → (fl (1 + rd) t).length ≤ 75 := fun t ht => by
        show ((List.replicate (1 + rd) t).flatten).length ≤ 75
        rw [Wd.flat_len]
        exact Nat.le_trans (Nat.mul_le_mul (show 1 + rd ≤ 3 by omega) ht) (by decide)
      have l1 := lfl l ll
      have l2 := lfl r lr
      walk_at "rd"
      refine i_mulS (n := 1 + rd) (by omega) (by omega) ?_
      walk_at "rd"
      refine i_mulS (n := 1 + rd) (by omega) (by omega) ?_
      walk_at "rd"
      refine ⟨a, p1, p2, _, _, rfl, eaA, nn, na.1, na.2, az_rep zl _, az_rep zr _, by omega, by omega, Nat.le_trans l1 (by decide), Nat.le_trans l2 (by decide), fun u v t HB eq' sB nt et => ?_, fun q' => by rw [f1] at q'; cases q'⟩
      rw [f1] at eq'
      cases eq'
      have eaB := sB _ _ eaA
      walk_at "rd"
      refine i_neD (d := pairD (p1, p2)) (e := pairD (p1, p2)) (.tup (sqT_of et) (.cons (.str _) (.cons (.str _) .nil))) (.tup (sqT_of eaB) (.cons (.str _) (.cons (.str _) .nil))) sm sm (by omega) (by omega) ?_
      rw [show PyData.eqv (pairD (p1, p2)) (pairD (p1, p2)) = true from by simp [pairD, PyData.eqv, PyData.eqvAll]]
      refine ⟨_, rfl, ?_⟩
      walk_at "rd"
      refine ⟨a, p1, p2, _, _, rfl, eaB, nn, na.1, na.2, zl, zr, by omega, by omega, by omega, by omega, fun u v t2 HC eq' sC nt2 et2 => ?_, fun q' => by rw [f2] at q'; cases q'⟩
      rw [f2] at eq'
      cases eq'
      have eaC := sC _ _ eaB
      walk_at "rd"
      refine i_rep (d := pairD (p1, p2)) (.tup (sqT_of et2) (.cons (.str _) (.cons (.str _) .nil))) sm (by omega) (by omega) ?_
      walk_at "rd"
      refine i_rep (d := pairD (p1, p2)) (.tup (sqT_of eaC) (.cons (.str _) (.cons (.str _) .nil))) sm (by omega) (by omega) ?_
      walk_at "rd"
      refine ⟨rfl, ?_⟩
      rw [decide_eq_true rfl]
      walk_at "rd"
      exact s9.trans (sB.trans sC)
    · obtain ⟨u6, rfl, s9⟩ := h
      walk_at "rd"
      refine ⟨l, r, l.length + r.length, by rw [Int.natCast_add] <;> rfl, zl, zr, by omega, by omega, by omega, no, fun qw bs HA sA nqw eqw pb => ?_⟩
      rw [Ly.told_due no] at pb
      walk_at "rd"
      refine i_rng (by omega) (by omega) ?_
      rw [Int.toNat_natCast]
      refine go_lc walk_rangeZ (fun p i H2 => H2 p = some (.lst ((List.range i).map fun s : Nat => V.str (S (rot s l)))) ∧ Same HA H2)
        (fun p np => ⟨upd_same, same_upd np⟩) (fun _ _ _ _ _ => trivial) (fun p np i v H2 H3 hi h y => ?_) (fun pt H2 npt h => ?_)
      · obtain ⟨ek, s2'⟩ := h
        obtain ⟨rfl, rfl⟩ := y
        walk_at "rd"
        refine ⟨rfl, i_yes (iteT ?_)⟩
        walk_at "rd"
        refine ⟨_, ek, by rw [List.length_map, List.length_range]; exact Nat.lt_of_le_of_lt (show i ≤ 100 by omega) (by decide), ?_, Same.set_new s2' np⟩
        rw [upd_same, List.range_succ, List.map_append]
        simp only [Int.toNat_natCast]
        rfl
      · obtain ⟨ek, s2'⟩ := h
        walk_at "rd"
        refine ⟨Nat.zero_le _, fun p9 n9 => ?_⟩
        have t9 := same_upd (o := .lst []) n9
        have e9 := upd_same (H := H2) (a := p9) (o := .lst [])
        generalize upd H2 p9 (.lst []) = HC at *
        have dw : Dp K HC (.ref qw) (.list ((Ly.due l r (l.length + r.length)).map pairD)) := .lst (sqL_of (t9 _ _ (s2' _ _ eqw))) ((pb.same s2').same t9).dp
        refine i_neD dw (.lst (sqL_of e9) .nil) (due_row zl zr (by omega)) nil_small (by omega) (by omega) ?_
        walk_at "rd"
        refine i_inSeq (.inl (sqL_of (t9 _ _ ek))) rfl (flat_turned l _) ?_
        rw [in_turned, wide_yes]
        have same : decide (Ly.due l r (l.length + r.length) ≠ []) = decide (∃ s, s < l.length ∧ rot s l = r) := decide_eq_decide.mpr (Ly.wide_iff no)
        rw [same]
        refine ⟨rfl, ?_⟩
        rw [decide_eq_true rfl]
        refine ⟨_, rfl, ?_⟩
        walk_at "rd"
        have eqwC := t9 _ _ (s2' _ _ eqw)
        have pbC := (pb.same s2').same t9
        have ldw := due_len l r (l.length + r.length)
        have memw := fun {p : List Nat × List Nat} (h : p ∈ Ly.due l r (l.length + r.length)) => due_mem h
        have numw := fun {i : Nat} {p : List Nat × List Nat} (h : (Ly.due l r (l.length + r.length))[i]? = some p) => Ly.due_number no h
        have lnw := Ly.numbers_len l r (l.length + r.length)
        have gapw := fun {k : Nat} {x y : Int} (h1 : (Ly.numbers l r (l.length + r.length))[k]? = some x) (h2 : (Ly.numbers l r (l.length + r.length))[k + 1]? = some y) => Ly.numbers_gap no h1 h2
        have lbw := pbC.len
        have lns : (Ly.numbers l r (l.length + r.length)).length ≤ 101 := by omega
        generalize Ly.due l r (l.length + r.length) = pw at *
        generalize Ly.numbers l r (l.length + r.length) = ns at *
        refine i_sqL (sqL_of eqwC) ?_
        refine go_lc (walk_list (xs := bs.map V.ref)) (fun p i H4 => H4 p = some (.lst ((ns.take i).map V.int)) ∧ Same HC H4)
          (fun p np => ⟨upd_same, same_upd np⟩) (fun p i H4 _ h => sqL_of (h.2 _ _ eqwC)) (fun p np i x H4 H5' hi h y => ?_) (fun pn H4 npn h => ?_)
        · obtain ⟨ek, s4'⟩ := h
          obtain ⟨rfl, hx⟩ := y
          rw [List.getElem?_map] at hx
          obtain ⟨a, ha, rfl⟩ := Option.map_eq_some_iff.mp hx
          obtain ⟨pr, hp, ea⟩ := pbC.get ha
          have hn := numw hp
          obtain ⟨_, zz, rfl, hz, _⟩ := memw (List.mem_of_getElem? hp)
          have nb := num_b l r zz
          rw [List.length_map] at hi
          walk_at "rd"
          refine ⟨rfl, i_yes (iteT ?_)⟩
          walk_at "rd"
          refine ⟨a, _, rfl, s4' _ _ ea, by omega, by omega, ?_⟩
          refine ⟨_, ek, by rw [List.length_map, List.length_take]; exact Nat.lt_of_le_of_lt (show min i ns.length ≤ 500 by omega) (by decide), ?_, Same.set_new s4' np⟩
          rw [upd_same, tk_snoc hn, List.map_append]
          rfl
        · obtain ⟨ek, s4'⟩ := h
          rw [List.take_of_length_le (by rw [List.length_map]; omega)] at ek
          walk_at "rd"
          refine ⟨l, rfl, by omega, fun HD sD => ?_⟩
          walk_at "rd"
          rw [List.length_map]
          have ekD := sD _ _ ek
          refine ⟨by omega, by omega, ?_⟩
          rw [show ((ns.length : Int) - 1).toNat = ns.length - 1 by omega]
          have lrl := rl_le (t := l)
          refine go_lc walk_rangeZ (fun p i H6' => H6' p = some (.lst (List.replicate i (V.int (rlen l : Nat)))) ∧ Same HD H6')
            (fun p np => ⟨upd_same, same_upd np⟩) (fun _ _ _ _ _ => trivial) (fun p np i v H6' H7' hi h y => ?_) (fun pd H6' npd h => ?_)
          · obtain ⟨ep6, s6'⟩ := h
            obtain ⟨rfl, rfl⟩ := y
            have i1 : i + 1 < ns.length := by omega
            obtain ⟨x, ex⟩ : ∃ x, ns[i]? = some x := ⟨_, List.getElem?_eq_getElem (by omega)⟩
            obtain ⟨y, ey⟩ : ∃ y, ns[i + 1]? = some y := ⟨_, List.getElem?_eq_getElem i1⟩
            have gp := gapw ex ey
            have ekE := s6' _ _ ekD
            walk_at "rd"
            refine ⟨rfl, i_yes (iteT ?_)⟩
            walk_at "rd"
            refine i_ixLI (i := (i : Int) + 1) ekE (by omega) (by rw [show ((i : Int) + 1).toNat = i + 1 by omega]; exact ey) ?_
            walk_at "rd"
            refine i_ixLI (i := (i : Int)) ekE (by omega) (by rw [Int.toNat_natCast]; exact ex) ?_
            walk_at "rd"
            rw [gp]
            refine ⟨_, ep6, by rw [List.length_replicate]; exact Nat.lt_of_le_of_lt (show i ≤ 200 by omega) (by decide), ?_, Same.set_new s6' np⟩
            rw [upd_same, ← List.replicate_succ']
          · obtain ⟨ep6, s6'⟩ := h
            walk_at "rd"
            refine ⟨Nat.le_of_ble_eq_true rfl, fun p11 n11 => ?_⟩
            have t11 := same_upd (o := .lst [V.int (rlen l : Nat)]) n11
            have e11 := upd_same (H := H6') (a := p11) (o := .lst [V.int (rlen l : Nat)])
            generalize upd H6' p11 (.lst [V.int (rlen l : Nat)]) = HE at *
            have ekE := t11 _ _ (s6' _ _ ekD)
            walk_at "rd"
            rw [List.length_map, show max 0 ((ns.length : Int) - 1) = ((ns.length - 1 : Nat) : Int) by omega]
            refine ⟨p11, _, _, rfl, rfl, e11, by omega, by omega, Nat.le_trans (show 1 * ((ns.length - 1 : Nat) : Int).toNat ≤ 200 by omega) (by decide), fun p12 n12 => ?_⟩
            rw [Int.toNat_natCast, flat_one']
            have t12 := same_upd (o := .lst (List.replicate (ns.length - 1) (V.int (rlen l : Nat)))) n12
            have e12 := upd_same (H := HE) (a := p12) (o := .lst (List.replicate (ns.length - 1) (V.int (rlen l : Nat))))
            generalize upd HE p12 (.lst (List.replicate (ns.length - 1) (V.int (rlen l : Nat)))) = HF at *
            have sm := reps_small (x := rlen l) (k := ns.length - 1) (by omega) (by omega)
            refine i_eqD (.lst (sqL_of (t12 _ _ (t11 _ _ ep6))) (reps_dp _ _)) (.lst (sqL_of e12) (reps_dp _ _)) sm sm (by omega) (by omega) ?_
            rw [reps_eqv]
            have sF := sA.trans (s2'.trans (t9.trans (s4'.trans (sD.trans (s6'.trans (t11.trans t12))))))
            exact k _ ((B5.same (t58.trans (s9.trans sF))).mono (by omega)) (s15.trans (SB.of (t58.trans (s9.trans sF))))
end
end Sw
namespace Sw
open PySem PySem.Spec PyProof.Rows L2
local macro_rules | `(tactic| walk_at "hp") => `(tactic| first
  | (with_reducible assumption) | (with_reducible exact upd_same)
  | ((with_reducible refine' upd_old ?q1 ?q2); (case q1 => (with_reducible assumption)); (case q2 => walk_at "hp"))
  | ((with_reducible refine' Same.at ?q1 ?q2); (case q1 => (with_reducible assumption)); (case q2 => walk_at "hp"))
  | ((with_reducible refine' upd_skip ?q1 ?q2); (case q1 => walk_at "ne"); (case q2 => walk_at "hp"))
  | fail)
local macro_rules | `(tactic| walk_at "ne") => `(tactic| first
  | (with_reducible assumption) | (with_reducible exact Ne.symm (by assumption))
  | ((with_reducible refine' ne_of_none ?q1 ?q2); (case q2 => (with_reducible assumption)); (case q1 => walk_at "hp"))
  | fail)
local macro_rules | `(tactic| walk_at "ci") => `(tactic| first | assumption | (show (0 : Int) < _; first | decide | (with_reducible omega)) | exact ⟨by decide, by decide⟩ | exact .inl ⟨by decide, by decide⟩ | exact .inr ⟨by decide, by decide⟩)
local macro_rules | `(tactic| walk_at "ln") => `(tactic| first | (with_reducible assumption) | (with_reducible omega) | (simp only [List.length_append, List.length_take, List.length_drop, List.length_reverse, List.length_cons, List.length_nil]; with_reducible omega))
local macro_rules | `(tactic| walk_at "rd1") => `(tactic| first
  | (with_reducible refine i_seq ?_) | (with_reducible refine i_asg ?_) | (with_reducible refine i_ret ?_) | (with_reducible refine i_name ?_) | ((with_reducible refine' i_var ?q1 ?_); (case q1 => exact rfl)) | (with_reducible refine i_c ?_) | (with_reducible refine i_op ?_) | (with_reducible refine i_un ?_)
  | (with_reducible refine i_rI0 ?_) | (with_reducible refine i_cb ?_) | (with_reducible refine i_cons ?_) | (with_reducible refine i_nil ?_) | (with_reducible refine i_call ?_) | (with_reducible refine i_if ?_) | (with_reducible refine i_ifE ?_) | (with_reducible refine i_test ?_) | (with_reducible refine i_bl ?_)
  | (with_reducible refine i_and ?_) | (with_reducible refine i_or ?_) | (with_reducible refine i_not ?_) | (with_reducible refine i_lst ?_) | (with_reducible refine i_tup ?_) | (with_reducible refine i_next ?_) | (with_reducible refine i_drop ?_) | (with_reducible refine i_sub ?_)
  | (with_reducible refine i_bm ?_) | (with_reducible refine i_sl ?_) | (with_reducible refine i_part ?_) | (with_reducible refine i_nopart ?_) | (with_reducible refine i_exI ?_) | (with_reducible refine i_chain ?_) | ((with_reducible refine' i_aug ?q1 ?_); (case q1 => exact rfl)) | (with_reducible refine i_ip ?_)
  | (with_reducible refine i_par ?_) | (with_reducible refine i_pair ?_) | (with_reducible refine i_andV ?_) | (with_reducible refine i_orV ?_) | (with_reducible refine i_notV ?_) | (with_reducible refine i_m1 ?_) | (with_reducible refine i_str ?_)
  | (with_reducible refine iteF ?_) | (with_reducible refine iteT ?_) | (with_reducible refine iteNT ?_) | (with_reducible refine iteNF ?_) | (with_reducible refine i_tyS ?_) | (with_reducible refine i_tB ?_) | (with_reducible refine i_retN ?_) | (with_reducible refine i_par3 ?_) | (with_reducible refine i_trip ?_) | (with_reducible refine i_gCons ?_) | (with_reducible refine i_gNil ?_) | (with_reducible refine i_lstRg ?_) | (with_reducible refine i_rg1 ?_)
  | (with_reducible refine i_lc ?_) | (with_reducible refine i_for ?_) | (with_reducible refine i_iList ?_) | (with_reducible refine i_iTup ?_) | (with_reducible refine i_iStr ?_) | (with_reducible refine i_iRng1 ?_) | (with_reducible refine i_iEnS ?_)
  | ((with_reducible refine' i_ixTH ?q1 ?q2 ?_); (case q1 => walk_at "hp"); (case q2 => exact rfl))
  | ((with_reducible refine' i_ixLH ?q1 ?q2 ?_); (case q1 => walk_at "hp"); (case q2 => exact rfl))
  | ((with_reducible refine i_addS ?q1 ?_); (case q1 => walk_at "ln")) | ((with_reducible refine i_lenSS ?q1 ?_); (case q1 => walk_at "ln")) | ((with_reducible refine i_slFrom ?q1 ?q2 ?_); (case q1 => walk_at "ln"); (case q2 => walk_at "ln")) | ((with_reducible refine i_slTo ?q1 ?q2 ?_); (case q1 => walk_at "ln"); (case q2 => walk_at "ln"))
  | ((with_reducible refine' i_tyL ?q1 ?_); (case q1 => walk_at "hp"))
  | ((with_reducible refine' i_gTupH ?q1 ?q2 ?_); (case q1 => walk_at "hp"); (case q2 => exact rfl))
  | (with_reducible refine i_dnew ?_) | (with_reducible refine i_init ?_) | (with_reducible refine i_fst ?_) | (with_reducible refine i_mk ?_) | (with_reducible refine i_raise ?_) | (with_reducible refine i_callS ?_) | (with_reducible refine i_kwS ?_)
  | (with_reducible refine i_revT ?_) | (with_reducible refine i_kw ?_) | ((with_reducible refine' ⟨_, _, rfl, sqT_of ?q1, ?_⟩); (case q1 => walk_at "hp"))
  | (with_reducible refine i_revS ?_) | ((with_reducible refine i_revSS ?q1 ?_); (case q1 => walk_at "ln"))
  | (with_reducible refine i_startS ?_) | (with_reducible refine i_inSg ?_) | (with_reducible refine i_absN ?_) | (with_reducible refine i_min2 ?_) | (with_reducible refine i_max2 ?_) | (with_reducible refine i_min3 ?_) | (with_reducible refine i_intN ?_) | (with_reducible refine i_intNB ?_)
  | ((with_reducible refine' i_lenL ?q1 ?_); (case q1 => walk_at "hp")) | ((with_reducible refine' i_lenT ?q1 ?_); (case q1 => walk_at "hp"))
  | (with_reducible refine i_eqI ?_) | (with_reducible refine i_neI ?_) | (with_reducible refine i_eqS ?_) | (with_reducible refine i_neS ?_) | (with_reducible refine i_isNoI ?_) | (with_reducible refine i_isNoN ?_) | (with_reducible refine i_isNoR ?_)
  | ((with_reducible refine i_pow ?q1 ?q2 ?q3 ?_); (case q1 => decide); (case q2 => decide); (case q3 => (with_reducible omega)))
  | ((with_reducible refine i_rI ?q1 ?_); (case q1 => walk_at "ci"))
  | (with_reducible refine Or.inl ⟨_, rfl, ?_⟩) | (with_reducible refine Or.inr ⟨_, rfl, ?_⟩) | (with_reducible refine ⟨_, rfl, ?_⟩) | (with_reducible refine ⟨_, _, rfl, ?_⟩) | (with_reducible refine ⟨_, _, rfl, rfl, ?_⟩)
  | ((with_reducible refine' ⟨_, _, rfl, Or.inl (sqL_of ?q1), ?_⟩); (case q1 => walk_at "hp")) | ((with_reducible refine' ⟨_, _, rfl, Or.inr (sqT_of ?q1), ?_⟩); (case q1 => walk_at "hp")) | fail)
local macro_rules | `(tactic| walk_at "rd") => `(tactic| repeat' walk_at "rd1")

open Wd (rot rlen turn)
open Ly (pre num stays nums)
/-- the pairs of one letter alone -/
def wideL (m c : Nat) : List (List Nat × List Nat) := (List.range m).map fun k => ([], List.replicate (m - k) c)
def wideR (m c : Nat) : List (List Nat × List Nat) := (List.range (m + 1)).map fun k => (List.replicate k c, [])
theorem pre_one (c n : Nat) : pre [c] n = List.replicate n c := by
  unfold pre
  have e : ∀ k, (List.replicate k [c]).flatten = List.replicate k c := fun k => flat_one' c k
  rw [e, List.take_replicate]
  congr 1
  simp only [List.length_cons, List.length_nil, Nat.zero_add, Nat.div_one]
  omega
theorem wide_due (m c : Nat) : Ly.due [c] [c] m = wideL m c ++ wideR m c := by
  have r1 : rlen [c] = 1 := by
    have a := (Wd.rlen_least (t := [c]) (by simp)).1.pos
    have b := (Wd.rlen_least (t := [c]) (by simp)).2
    simp only [List.length_cons, List.length_nil] at b
    omega
  have all : nums [c] [c] m = Ly.zints m := by
    unfold nums
    rw [List.filter_eq_self]
    intro z _
    rw [decide_eq_true_eq, Ly.stays_iff rfl (by simp) (j := 0) (by simp) (Wd.rot_zero _), r1]
    exact Int.emod_one _
  unfold Ly.due
  rw [if_pos rfl, all]
  apply List.ext_getElem?
  intro i
  unfold Ly.zints wideL wideR
  rw [List.map_map, List.getElem?_append, List.length_map, List.length_range]
  by_cases c1 : i < m
  · rw [if_pos c1, List.getElem?_map, List.getElem?_map, List.getElem?_range (by omega), List.getElem?_range c1]
    show some (num [c] [c] ((i : Int) - (m : Int))) = some ([], List.replicate (m - i) c)
    unfold num
    rw [if_neg (by omega), pre_one, show ((i : Int) - (m : Int)).natAbs = m - i by omega]
  · rw [if_neg c1]
    by_cases c2 : i < 2 * m + 1
    · rw [List.getElem?_map, List.getElem?_map, List.getElem?_range c2, List.getElem?_range (by omega)]
      show some (num [c] [c] ((i : Int) - (m : Int))) = some (List.replicate (i - m) c, [])
      unfold num
      split
      · rw [pre_one, show ((i : Int) - (m : Int)).natAbs = i - m by omega]
      · rw [pre_one, show ((i : Int) - (m : Int)).natAbs = 0 by omega, show i - m = 0 by omega]; rfl
    · rw [List.getElem?_eq_none (by rw [List.length_map, List.length_range]; omega), List.getElem?_eq_none (by rw [List.length_map, List.length_range]; omega)]
theorem pairs_eqv (ps : List (List Nat × List Nat)) : PyData.eqv (.list (ps.map pairD)) (.list (ps.map pairD)) = true := by
  simp only [PyData.eqv]
  induction ps with
  | nil => rfl
  | cons p ps ih => rw [List.map_cons]; simp only [pairD, PyData.eqvAll, PyData.eqv, ih, beq_self_eq_true, Bool.and_self]
theorem PA.app {H : Hp} {as bs : List Addr} {ps qs : List (List Nat × List Nat)} (h : PA H as ps) (k : PA H bs qs) : PA H (as ++ bs) (ps ++ qs) := by
  induction h with
  | nil => exact k
  | cons h _ ih => exact .cons h ih
/-- _law_wide_right(box, letter) -/
def spWR : Sp := fun vs H Q _ => ∃ (b : Addr) (c : Nat) (d : Int), vs = [.ref b, .str (S [c])] ∧ azB [c] = true ∧ BoxAt H b d ∧ d + 5 ≤ 1000000 ∧ ∀ (H' : Hp), BoxAt H' b (d + 5) → SB b H H' → Q (.bl true) H'
section
variable {P : Program} {w : World} {K : PySem.W.Frag} {mg : Str → Option Value} {base : Heap} {f : Addr} {fd : FuncData}
theorem ok_wr (F : Fun K "_law_wide_right" "_law_wide_right" s__law_wide_right f fd) (z : Z mg) (c__law_take : Cal P w K mg base "_law_take" ["box", "many"] 1 spTake) (q__law_list_right : CalG P w K mg base "_law_list_right" ["left", "right", "highest"] 5 spLR) (c_staying : Cal P w K mg base "staying" ["one", "other", "most"] 4 spStay) : FnG P w K mg base CX0 6 f fd ["box", "letter"] spWR := by
  refine Sw.Fun.okG0 F sc__law_wide_right (fun vs H Q E h => ?_) (fun cdv A outer s H vs Q E hr quiet h => ?_)
  · obtain ⟨b, c, d, rfl, _⟩ := h; rfl
  · obtain ⟨b, c, d, rfl, zc, B, hd, k⟩ := h
    refine ⟨_, (pss_cons (ps_set (i := 2) sc__law_wide_right.nd rfl (.inr rfl) (pe_ix ix_list (pe_lst (pa_cons pe_int (pa_cons (pe_cal c__law_take hr (pa_cons (pv 0) (pa_cons pe_int pa_nil))) pa_nil))) (pe_cal c__law_take hr (pa_cons (pv 0) (pa_cons pe_int pa_nil))) (fun _ _ => rfl)))
      (pss_cons (ps_set (i := 3) sc__law_wide_right.nd rfl (.inl rfl) (pe_op op_cat (pe_lc (own := [("k", 4)]) (g := gName 4) (tt := tYes) rfl sc__law_wide_right.nd (pi_range1 (by rfl) z.range (pa_cons (pv 2) pa_nil)) (blkOk_by (own := [("k", 4)]) (N := n__law_wide_right) (sc := defScope s__law_wide_right) (by decide +kernel)) (fun _ _ _ _ _ => (pg_name (i := 4) sc__law_wide_right.nd rfl (.inl rfl))) (fun _ _ _ _ _ => pts_nil) (fun _ _ _ _ _ => (pe_tup (pa_cons (pe_strS (l := []) (by decide +kernel)) (pa_cons (pe_op op_mulS (pv 1) (pe_op op_sub (pv 2) (pv 4))) pa_nil))))) (pe_lc (own := [("k", 4)]) (g := gName 4) (tt := tYes) rfl sc__law_wide_right.nd (pi_range1 (by rfl) z.range (pa_cons (pe_op op_add (pv 2) pe_int) pa_nil)) (blkOk_by (own := [("k", 4)]) (N := n__law_wide_right) (sc := defScope s__law_wide_right) (by decide +kernel)) (fun _ _ _ _ _ => (pg_name (i := 4) sc__law_wide_right.nd rfl (.inl rfl))) (fun _ _ _ _ _ => pts_nil) (fun _ _ _ _ _ => (pe_tup (pa_cons (pe_op op_mulS (pv 1) (pv 4)) (pa_cons (pe_strS (l := []) (by decide +kernel)) pa_nil)))))))
      (pss_cons (ps_if (pt_cmpR (op_neD hr.units) (pe_cal c_staying hr (pa_cons (pv 1) (pa_cons (pv 1) (pa_cons (pv 2) pa_nil)))) (pv 3) (nomark _))
        (pss_one (ps_ret pe_bl))
        pss_nil)
      (pss_cons (ps_par (i := 5) (j := 6) rfl sc__law_wide_right.nd rfl rfl (by decide) rfl rfl (pa_cons (pe_op op_addS (pv 1) (pe_ix ix_list (pe_lst (pa_cons (pe_strS (l := [97]) (by decide +kernel)) (pa_cons (pe_strS (l := [98]) (by decide +kernel)) pa_nil))) (pe_callTy call_intN (by rfl) z.int (by decide +kernel) (pa_cons (pe_cmpR op_eq (pv 1) (pe_strS (l := [97]) (by decide +kernel)) (nomark _)) pa_nil)) (fun _ _ => rfl))) (pa_cons (pe_op op_add pe_int (pe_cal c__law_take hr (pa_cons (pv 0) (pa_cons pe_int pa_nil)))) pa_nil)) (by rfl))
      (pss_one (ps_ret (pe_calG q__law_list_right hr quiet (pa_cons (pv 5) (pa_cons (pe_ix ix_list (pe_lst (pa_cons (pv 5) (pa_cons (pe_revS (pv 5)) pa_nil))) (pe_cal c__law_take hr (pa_cons (pv 0) (pa_cons pe_int pa_nil))) (fun _ _ => rfl)) (pa_cons (pv 6) pa_nil)))))))))), ?_⟩
    walk_at "rd"
    refine ⟨b, 401, d, rfl, B, by omega, by omega, by omega, fun q1 H1 q10 q11 B1 s1 => ?_⟩
    obtain ⟨q1, rfl⟩ : ∃ n : Nat, q1 = n := ⟨q1.toNat, by omega⟩
    walk_at "rd"
    refine ⟨Nat.le_of_ble_eq_true rfl, fun p2 n2 => ?_⟩
    have t2 := same_upd (o := .lst [V.int 400, V.int (q1 : Nat)]) n2
    have e2 := upd_same (H := H1) (a := p2) (o := .lst [V.int 400, V.int (q1 : Nat)])
    have p2b := B1.ne_new n2
    have B2 := B1.same t2
    generalize upd H1 p2 (.lst [V.int 400, V.int (q1 : Nat)]) = H2 at *
    walk_at "rd"
    refine ⟨b, 2, _, rfl, B2, by omega, by omega, by omega, fun q3 H3 q30 q31 B3 s3 => ?_⟩
    have e23 := s3 _ _ p2b e2
    obtain ⟨m, em, hm⟩ : ∃ m : Nat, ([V.int 400, V.int (q1 : Nat)] : List V)[q3.toNat]? = some (.int (m : Int)) ∧ m ≤ 400 := by
      have hj : q3 = 0 ∨ q3 = 1 := by omega
      rcases hj with rfl | rfl
      · exact ⟨400, rfl, by omega⟩
      · exact ⟨q1, rfl, by omega⟩
    refine i_ixLv e23 q30 em ?_
    have s13 := s1.trans ((SB.of t2).trans s3)
    walk_at "rd"
    refine i_rng (by omega) (by omega) ?_
    rw [Int.toNat_natCast]
    refine go_lc walk_rangeZ (fun p i HX => ∃ as : List Addr, HX p = some (.lst (as.map V.ref)) ∧ PA HX as ((wideL m c).take i) ∧ as.length = i ∧ Same H3 HX)
      (fun p np => ⟨[], upd_same, .nil, rfl, same_upd np⟩) (fun _ _ _ _ _ => trivial) (fun p np i v HX HY hi q y => ?_) (fun p4 H4 np4 q => ?_)
    · obtain ⟨as, ep, pa, la, sX⟩ := q
      obtain ⟨rfl, rfl⟩ := y
      have gi : (wideL m c)[i]? = some ([], List.replicate (m - i) c) := by
        unfold wideL
        rw [List.getElem?_map, List.getElem?_range (by omega)]; rfl
      walk_at "rd"
      refine ⟨rfl, i_yes (iteT ?_)⟩
      walk_at "rd"
      rw [show (m : Int) - (i : Int) = ((m - i : Nat) : Int) by omega]
      refine i_mulS (n := m - i) (by simp) (by omega) ?_
      rw [flat_one']
      walk_at "rd"
      refine ⟨Nat.le_of_ble_eq_true rfl, fun t nt => ?_⟩
      have tt := same_upd (o := pairO ([], List.replicate (m - i) c)) nt
      have et := upd_same (H := HY) (a := t) (o := pairO ([], List.replicate (m - i) c))
      generalize upd HY t (pairO ([], List.replicate (m - i) c)) = HZ at *
      have epZ := tt _ _ ep
      refine ⟨_, epZ, by rw [List.length_map]; exact Nat.lt_of_le_of_lt (show as.length ≤ 500 by omega) (by decide), as ++ [t], ?_, ?_, by rw [List.length_append, la]; rfl, Same.set_new (sX.trans tt) np⟩
      · rw [upd_same, List.map_append]; rfl
      · rw [tk_snoc gi]
        refine ((pa.same tt).snoc et).at fun a pr _ ha => ?_
        rw [L2.upd_ne fun e => by rw [e, epZ] at ha; cases ha]
        exact ha
    obtain ⟨as4, ep4, pa4, la4, s4⟩ := q
    rw [List.take_of_length_le (by unfold wideL; rw [List.length_map, List.length_range]; omega)] at pa4
    walk_at "rd"
    refine i_rng (by omega) (by omega) ?_
    rw [show ((m : Int) + 1).toNat = m + 1 by omega]
    refine go_lc walk_rangeZ (fun p i HX => ∃ as : List Addr, HX p = some (.lst (as.map V.ref)) ∧ PA HX as ((wideR m c).take i) ∧ as.length = i ∧ Same H4 HX)
      (fun p np => ⟨[], upd_same, .nil, rfl, same_upd np⟩) (fun _ _ _ _ _ => trivial) (fun p np i v HX HY hi q y => ?_) (fun p5 H5 np5 q => ?_)
    · obtain ⟨as, ep, pa, la, sX⟩ := q
      obtain ⟨rfl, rfl⟩ := y
      have gi : (wideR m c)[i]? = some (List.replicate i c, []) := by
        unfold wideR
        rw [List.getElem?_map, List.getElem?_range (by omega)]; rfl
      walk_at "rd"
      refine ⟨rfl, i_yes (iteT ?_)⟩
      walk_at "rd"
      refine i_mulS (n := i) (by simp) (by omega) ?_
      rw [flat_one']
      walk_at "rd"
      refine ⟨Nat.le_of_ble_eq_true rfl, fun t nt => ?_⟩
      have tt := same_upd (o := pairO (List.replicate i c, [])) nt
      have et := upd_same (H := HY) (a := t) (o := pairO (List.replicate i c, []))
      generalize upd HY t (pairO (List.replicate i c, [])) = HZ at *
      have epZ := tt _ _ ep
      refine ⟨_, epZ, by rw [List.length_map]; exact Nat.lt_of_le_of_lt (show as.length ≤ 500 by omega) (by decide), as ++ [t], ?_, ?_, by rw [List.length_append, la]; rfl, Same.set_new (sX.trans tt) np⟩
      · rw [upd_same, List.map_append]; rfl
      · rw [tk_snoc gi]
        refine ((pa.same tt).snoc et).at fun a pr _ ha => ?_
        rw [L2.upd_ne fun e => by rw [e, epZ] at ha; cases ha]
        exact ha
    obtain ⟨as5, ep5, pa5, la5, s5⟩ := q
    rw [List.take_of_length_le (by unfold wideR; rw [List.length_map, List.length_range]; omega)] at pa5
    walk_at "rd"
    have ep45 := s5 _ _ ep4
    refine ⟨p4, p5, _, _, rfl, rfl, ep45, ep5, by rw [List.length_map, List.length_map]; exact Nat.le_trans (show as4.length + as5.length ≤ 1000 by rw [la4, la5]; omega) (by decide), fun p6 n6 => ?_⟩
    have t6 := same_upd (o := .lst (as4.map V.ref ++ as5.map V.ref)) n6
    have e6 := upd_same (H := H5) (a := p6) (o := .lst (as4.map V.ref ++ as5.map V.ref))
    generalize upd H5 p6 (.lst (as4.map V.ref ++ as5.map V.ref)) = H6 at *
    have pa6 : PA H6 (as4 ++ as5) (Ly.due [c] [c] m) := by
      rw [wide_due]
      exact ((pa4.same s5).app pa5).same t6
    rw [← List.map_append] at e6
    generalize as4 ++ as5 = as6 at *
    walk_at "rd"
    refine ⟨[c], [c], m, rfl, zc, zc, by simp, by simp, by omega, .inl (by simp), fun q7 bs H7 s7 nq7 eq7 pb => ?_⟩
    rw [Ly.told_due (.inl (by simp))] at pb
    have row : Small 2 2000000 (.list ((Ly.due [c] [c] m).map pairD)) := by
      have b := due_len [c] [c] m
      refine (small_lst (due_small zc zc (by omega))).mono (by omega) ?_
      rw [List.length_map]
      exact Nat.le_trans (Nat.mul_le_mul (show (Ly.due [c] [c] m).length ≤ 801 by omega) (Nat.le_refl _)) (by decide)
    walk_at "rd"
    refine i_neD (.lst (sqL_of eq7) pb.dp) (.lst (sqL_of (s7 _ _ e6)) (pa6.same s7).dp) row row (by omega) (by omega) ?_
    rw [pairs_eqv]
    refine ⟨_, rfl, ?_⟩
    walk_at "rd"
    have s37 := s4.trans (s5.trans (t6.trans s7))
    have B7 := B3.same s37
    have s17 := s13.trans (SB.of s37)
    refine ⟨Nat.le_of_ble_eq_true rfl, fun p8 n8 => ?_⟩
    have t8 := same_upd (o := .lst [V.str (S [97]), V.str (S [98])]) n8
    have e8 := upd_same (H := H7) (a := p8) (o := .lst [V.str (S [97]), V.str (S [98])])
    have B8 := B7.same t8
    generalize upd H7 p8 (.lst [V.str (S [97]), V.str (S [98])]) = H8 at *
    walk_at "rd"
    obtain ⟨iv, x2, eiv, iv0, ex2, zx2⟩ : ∃ (iv : Int) (x2 : Nat), (if decide ([c] = [97]) = true then (1 : Int) else 0) = iv ∧ 0 ≤ iv ∧ ([V.str (S [97]), V.str (S [98])] : List V)[iv.toNat]? = some (.str (S [x2])) ∧ azB [x2] = true := by
      by_cases q : [c] = [97]
      · exact ⟨1, 98, by rw [decide_eq_true q]; rfl, by omega, rfl, by decide⟩
      · exact ⟨0, 97, by rw [decide_eq_false q]; rfl, by omega, rfl, by decide⟩
    rw [eiv]
    refine i_ixLv e8 iv0 ex2 ?_
    walk_at "rd"
    have zw : azB ([c] ++ [x2]) = true := by rw [azB_app, zc, zx2]; rfl
    have lw : ([c] ++ [x2]).length = 2 := rfl
    generalize [c] ++ [x2] = wd at *
    refine ⟨b, 51, _, rfl, B8, by omega, by omega, by omega, fun q9 H9 q90 q91 B9 s9 => ?_⟩
    obtain ⟨q9, rfl⟩ : ∃ n : Nat, q9 = n := ⟨q9.toNat, by omega⟩
    have s19 := s17.trans ((SB.of t8).trans s9)
    walk_at "rd"
    refine ⟨Nat.le_of_ble_eq_true rfl, fun pA nA => ?_⟩
    have tA := same_upd (o := .lst [V.str (S wd), V.str (S wd.reverse)]) nA
    have eA := upd_same (H := H9) (a := pA) (o := .lst [V.str (S wd), V.str (S wd.reverse)])
    have pAb := B9.ne_new nA
    have BA := B9.same tA
    generalize upd H9 pA (.lst [V.str (S wd), V.str (S wd.reverse)]) = HA at *
    walk_at "rd"
    refine ⟨b, 2, _, rfl, BA, by omega, by omega, by omega, fun qB HB qB0 qB1 BB sB => ?_⟩
    have eAB := sB _ _ pAb eA
    obtain ⟨w2, ew2, zw2, lw2⟩ : ∃ w2, ([V.str (S wd), V.str (S wd.reverse)] : List V)[qB.toNat]? = some (.str (S w2)) ∧ azB w2 = true ∧ w2.length = 2 := by
      have hj : qB = 0 ∨ qB = 1 := by omega
      rcases hj with rfl | rfl
      · exact ⟨wd, rfl, zw, lw⟩
      · refine ⟨wd.reverse, rfl, ?_, by rw [List.length_reverse]; exact lw⟩
        unfold azB at *
        rw [List.all_reverse]; exact zw
    refine i_ixLv eAB qB0 ew2 ?_
    walk_at "rd"
    refine ⟨wd, w2, 50 + q9, by rw [Int.natCast_add] <;> rfl, zw, zw2, by omega, by omega, by omega, .inl (by omega), fun HC sC => ?_⟩
    exact k _ ((BB.same sC).mono (by omega)) (s19.trans ((SB.of tA).trans (sB.trans (SB.of sC))))
end
end Sw
namespace Sw
open PySem PySem.Spec PyProof.Rows L2
local macro_rules | `(tactic| walk_at "hp") => `(tactic| first
  | (with_reducible assumption) | (with_reducible exact upd_same)
  | ((with_reducible refine' upd_old ?q1 ?q2); (case q1 => (with_reducible assumption)); (case q2 => walk_at "hp"))
  | ((with_reducible refine' Same.at ?q1 ?q2); (case q1 => (with_reducible assumption)); (case q2 => walk_at "hp"))
  | ((with_reducible refine' upd_skip ?q1 ?q2); (case q1 => walk_at "ne"); (case q2 => walk_at "hp"))
  | fail)
local macro_rules | `(tactic| walk_at "ne") => `(tactic| first
  | (with_reducible assumption) | (with_reducible exact Ne.symm (by assumption))
  | ((with_reducible refine' ne_of_none ?q1 ?q2); (case q2 => (with_reducible assumption)); (case q1 => walk_at "hp"))
  | fail)
local macro_rules | `(tactic| walk_at "ci") => `(tactic| first | assumption | (show (0 : Int) < _; first | decide | (with_reducible omega)) | exact ⟨by decide, by decide⟩ | exact .inl ⟨by decide, by decide⟩ | exact .inr ⟨by decide, by decide⟩)
local macro_rules | `(tactic| walk_at "ln") => `(tactic| first | (with_reducible assumption) | (with_reducible omega) | (simp only [List.length_append, List.length_take, List.length_drop, List.length_reverse, List.length_cons, List.length_nil]; with_reducible omega))
local macro_rules | `(tactic| walk_at "rd1") => `(tactic| first
  | (with_reducible refine i_seq ?_) | (with_reducible refine i_asg ?_) | (with_reducible refine i_ret ?_) | (with_reducible refine i_name ?_) | ((with_reducible refine' i_var ?q1 ?_); (case q1 => exact rfl)) | (with_reducible refine i_c ?_) | (with_reducible refine i_op ?_) | (with_reducible refine i_un ?_)
  | (with_reducible refine i_rI0 ?_) | (with_reducible refine i_cb ?_) | (with_reducible refine i_cons ?_) | (with_reducible refine i_nil ?_) | (with_reducible refine i_call ?_) | (with_reducible refine i_if ?_) | (with_reducible refine i_ifE ?_) | (with_reducible refine i_test ?_) | (with_reducible refine i_bl ?_)
  | (with_reducible refine i_and ?_) | (with_reducible refine i_or ?_) | (with_reducible refine i_not ?_) | (with_reducible refine i_lst ?_) | (with_reducible refine i_tup ?_) | (with_reducible refine i_next ?_) | (with_reducible refine i_drop ?_) | (with_reducible refine i_sub ?_)
  | (with_reducible refine i_bm ?_) | (with_reducible refine i_sl ?_) | (with_reducible refine i_part ?_) | (with_reducible refine i_nopart ?_) | (with_reducible refine i_exI ?_) | (with_reducible refine i_chain ?_) | ((with_reducible refine' i_aug ?q1 ?_); (case q1 => exact rfl)) | (with_reducible refine i_ip ?_)
  | (with_reducible refine i_par ?_) | (with_reducible refine i_pair ?_) | (with_reducible refine i_andV ?_) | (with_reducible refine i_orV ?_) | (with_reducible refine i_notV ?_) | (with_reducible refine i_m1 ?_) | (with_reducible refine i_str ?_)
  | (with_reducible refine iteF ?_) | (with_reducible refine iteT ?_) | (with_reducible refine iteNT ?_) | (with_reducible refine iteNF ?_) | (with_reducible refine i_tyS ?_) | (with_reducible refine i_tB ?_) | (with_reducible refine i_retN ?_) | (with_reducible refine i_par3 ?_) | (with_reducible refine i_trip ?_) | (with_reducible refine i_gCons ?_) | (with_reducible refine i_gNil ?_) | (with_reducible refine i_lstRg ?_) | (with_reducible refine i_rg1 ?_)
  | (with_reducible refine i_lc ?_) | (with_reducible refine i_for ?_) | (with_reducible refine i_iList ?_) | (with_reducible refine i_iTup ?_) | (with_reducible refine i_iStr ?_) | (with_reducible refine i_iRng1 ?_) | (with_reducible refine i_iEnS ?_)
  | ((with_reducible refine' i_ixTH ?q1 ?q2 ?_); (case q1 => walk_at "hp"); (case q2 => exact rfl))
  | ((with_reducible refine' i_ixLH ?q1 ?q2 ?_); (case q1 => walk_at "hp"); (case q2 => exact rfl))
  | ((with_reducible refine i_addS ?q1 ?_); (case q1 => walk_at "ln")) | ((with_reducible refine i_lenSS ?q1 ?_); (case q1 => walk_at "ln")) | ((with_reducible refine i_slFrom ?q1 ?q2 ?_); (case q1 => walk_at "ln"); (case q2 => walk_at "ln")) | ((with_reducible refine i_slTo ?q1 ?q2 ?_); (case q1 => walk_at "ln"); (case q2 => walk_at "ln"))
  | ((with_reducible refine' i_tyL ?q1 ?_); (case q1 => walk_at "hp"))
  | ((with_reducible refine' i_gTupH ?q1 ?q2 ?_); (case q1 => walk_at "hp"); (case q2 => exact rfl))
  | (with_reducible refine i_dnew ?_) | (with_reducible refine i_init ?_) | (with_reducible refine i_fst ?_) | (with_reducible refine i_mk ?_) | (with_reducible refine i_raise ?_) | (with_reducible refine i_callS ?_) | (with_reducible refine i_kwS ?_)
  | (with_reducible refine i_revT ?_) | (with_reducible refine i_kw ?_) | ((with_reducible refine' ⟨_, _, rfl, sqT_of ?q1, ?_⟩); (case q1 => walk_at "hp"))
  | (with_reducible refine i_revS ?_) | ((with_reducible refine i_revSS ?q1 ?_); (case q1 => walk_at "ln"))
  | (with_reducible refine i_startS ?_) | (with_reducible refine i_inSg ?_) | (with_reducible refine i_absN ?_) | (with_reducible refine i_min2 ?_) | (with_reducible refine i_max2 ?_) | (with_reducible refine i_min3 ?_) | (with_reducible refine i_intN ?_) | (with_reducible refine i_intNB ?_)
  | ((with_reducible refine' i_lenL ?q1 ?_); (case q1 => walk_at "hp")) | ((with_reducible refine' i_lenT ?q1 ?_); (case q1 => walk_at "hp"))
  | (with_reducible refine i_eqI ?_) | (with_reducible refine i_neI ?_) | (with_reducible refine i_eqS ?_) | (with_reducible refine i_neS ?_) | (with_reducible refine i_isNoI ?_) | (with_reducible refine i_isNoN ?_) | (with_reducible refine i_isNoR ?_)
  | ((with_reducible refine i_pow ?q1 ?q2 ?q3 ?_); (case q1 => decide); (case q2 => decide); (case q3 => (with_reducible omega)))
  | ((with_reducible refine i_rI ?q1 ?_); (case q1 => walk_at "ci"))
  | (with_reducible refine Or.inl ⟨_, rfl, ?_⟩) | (with_reducible refine Or.inr ⟨_, rfl, ?_⟩) | (with_reducible refine ⟨_, rfl, ?_⟩) | (with_reducible refine ⟨_, _, rfl, ?_⟩) | (with_reducible refine ⟨_, _, rfl, rfl, ?_⟩)
  | ((with_reducible refine' ⟨_, _, rfl, Or.inl (sqL_of ?q1), ?_⟩); (case q1 => walk_at "hp")) | ((with_reducible refine' ⟨_, _, rfl, Or.inr (sqT_of ?q1), ?_⟩); (case q1 => walk_at "hp")) | fail)
local macro_rules | `(tactic| walk_at "rd") => `(tactic| repeat' walk_at "rd1")

open Wd (rot rlen turn)
/-! ### values that are refused -/
/-- what lies in a told row -/
def Elt (x : V) : Prop := (∃ l, x = .str (S l) ∧ (∀ c ∈ l, c ≤ 1000) ∧ l.length ≤ 1000) ∨ ∃ n : Nat, x = .int (n : Int) ∧ n ≤ 1000
theorem Elt.dp {x : V} (h : Elt x) : ∃ d, (∀ (K : PySem.W.Frag) (H : Hp), Dp K H x d) ∧ Small 0 1000 d := by
  rcases h with ⟨l, rfl, h1, h2⟩ | ⟨n, rfl, hn⟩
  · exact ⟨_, fun _ _ => .str _, small_str h1 h2⟩
  · exact ⟨_, fun _ _ => .int _, small_nat hn⟩
theorem elts_dp : ∀ {xs : List V}, (∀ x ∈ xs, Elt x) → ∃ ds, (∀ (K : PySem.W.Frag) (H : Hp), DpAll K H xs ds) ∧ ds.length = xs.length ∧ ∀ d ∈ ds, Small 0 1000 d
  | [], _ => ⟨[], fun _ _ => .nil, rfl, fun d h => by cases h⟩
  | x :: xs, h => by
    obtain ⟨d, d1, d2⟩ := (h x List.mem_cons_self).dp
    obtain ⟨ds, e1, e2, e3⟩ := elts_dp (xs := xs) fun y hy => h y (List.mem_cons_of_mem _ hy)
    refine ⟨d :: ds, fun K H => .cons (d1 K H) (e1 K H), by rw [List.length_cons, List.length_cons, e2], fun y hy => ?_⟩
    rcases List.mem_cons.mp hy with rfl | hy
    · exact d2
    · exact e3 y hy
/-- a told value that is no list -/
def Nl (H : Hp) (v : V) : Prop := v = .non ∨ (∃ b, v = .bl b) ∨ (∃ i : Int, v = .int i ∧ Small 0 1000 (.int i)) ∨ (∃ l, v = .str (S l) ∧ (∀ c ∈ l, c ≤ 1000) ∧ l.length ≤ 1000) ∨
  (∃ (a : Addr) (xs : List V), v = .ref a ∧ H a = some (.tup xs) ∧ xs.length ≤ 2 ∧ ∀ x ∈ xs, Elt x) ∨ ∃ a : Addr, v = .ref a ∧ H a = some (.dK [])
/-- a told value -/
def Vl (H : Hp) (v : V) : Prop := (∃ (a : Addr) (x : V), v = .ref a ∧ H a = some (.lst [x]) ∧ Elt x) ∨ Nl H v
theorem Nl.at {H H' : Hp} {v : V} (h : Nl H v) (k : ∀ p o, v = .ref p → (∀ xs, o ≠ .lst xs) → H p = some o → H' p = some o) : Nl H' v := by
  rcases h with h | h | h | h | ⟨a, xs, rfl, h1, h2, h3⟩ | ⟨a, rfl, h1⟩
  · exact .inl h
  · exact .inr (.inl h)
  · exact .inr (.inr (.inl h))
  · exact .inr (.inr (.inr (.inl h)))
  · exact .inr (.inr (.inr (.inr (.inl ⟨a, xs, rfl, k _ _ rfl (fun _ => HO.noConfusion) h1, h2, h3⟩))))
  · exact .inr (.inr (.inr (.inr (.inr ⟨a, rfl, k _ _ rfl (fun _ => HO.noConfusion) h1⟩))))
theorem Vl.at {H H' : Hp} {v : V} (h : Vl H v) (k : ∀ p o, v = .ref p → H p = some o → H' p = some o) : Vl H' v := by
  rcases h with ⟨a, x, rfl, h1, h2⟩ | h
  · exact .inl ⟨a, x, rfl, k _ _ rfl h1, h2⟩
  · exact .inr (h.at fun p o e _ q => k p o e q)
theorem Vl.here {H : Hp} {p : Addr} (h : Vl H (.ref p)) : ∃ o, H p = some o := by
  rcases h with ⟨a, x, e, h1, _⟩ | h | ⟨_, h⟩ | ⟨_, h, _⟩ | ⟨_, h, _⟩ | ⟨a, xs, e, h1, _⟩ | ⟨a, e, h1⟩
  · cases e; exact ⟨_, h1⟩
  · cases h
  · cases h
  · cases h
  · cases h
  · cases e; exact ⟨_, h1⟩
  · cases e; exact ⟨_, h1⟩
theorem Nl.ty {K : PySem.W.Frag} {H : Hp} {v : V} (h : Nl H v) : ∃ t, TyX K H v t ∧ PySem.W.kitOne K t (.type "list") = some false := by
  rcases h with rfl | ⟨b, rfl⟩ | ⟨i, rfl, _⟩ | ⟨l, rfl, _⟩ | ⟨a, xs, rfl, h1, _⟩ | ⟨a, rfl, h1⟩
  · exact ⟨_, .base .non, kit_ty (by decide +kernel)⟩
  · exact ⟨_, .base (.bl _), kit_ty (by decide +kernel)⟩
  · exact ⟨_, .base (.int _), kit_ty (by decide +kernel)⟩
  · exact ⟨_, .base (.str _), kit_ty (by decide +kernel)⟩
  · exact ⟨_, .base (.tup h1), kit_ty (by decide +kernel)⟩
  · exact ⟨_, .base (.dK h1), kit_ty (by decide +kernel)⟩
theorem small_row {xs : List V} (h : ∀ x ∈ xs, Elt x) (h2 : xs.length ≤ 2) : ∃ ds, (∀ (K : PySem.W.Frag) (H : Hp), DpAll K H xs ds) ∧ Small 1 2002 (.list ds) ∧ Small 1 2002 (.tuple ds) := by
  obtain ⟨ds, d1, d2, d3⟩ := elts_dp h
  have l : ds.length * (1000 + 1) ≤ 2002 := by rw [d2]; omega
  exact ⟨ds, d1, (small_lst d3).mono (by omega) l, (small_tup d3).mono (by omega) l⟩
theorem Nl.dc {K : PySem.W.Frag} {H : Hp} {v : V} (h : Nl H v) : ∃ d, Dc 1 2002 K H v d := by
  rcases h with rfl | ⟨b, rfl⟩ | ⟨i, rfl, h1⟩ | ⟨l, rfl, h1, h2⟩ | ⟨a, xs, rfl, h1, h2, h3⟩ | ⟨a, rfl, h1⟩
  · exact ⟨_, .inl ⟨.non, small_non.mono (by omega) (by omega)⟩⟩
  · exact ⟨_, .inl ⟨.bl b, (small_bl b).mono (by omega) (by omega)⟩⟩
  · exact ⟨_, .inl ⟨.int i, h1.mono (by omega) (by omega)⟩⟩
  · exact ⟨_, .inl ⟨.str _, (small_str h1 h2).mono (by omega) (by omega)⟩⟩
  · obtain ⟨ds, d1, _, d3⟩ := small_row h3 h2
    exact ⟨_, .inl ⟨.tup (sqT_of h1) (d1 K H), d3⟩⟩
  · exact ⟨_, .inr ⟨a, rfl, h1, rfl⟩⟩
/-- no text -/
def BT (H : Hp) (v : V) : Prop := Vl H v ∧ ∀ l, v = .str (S l) → azB l = false
/-- no count -/
def BC (H : Hp) (v : V) : Prop := Vl H v ∧ ∀ i : Int, v = .int i → i < 0
theorem BT.isT {K : PySem.W.Frag} {H : Hp} {v : V} (h : BT H v) : IsT K H v false := by
  obtain ⟨⟨a, x, rfl, h1, h2⟩ | h | ⟨b, rfl⟩ | ⟨i, rfl, _⟩ | ⟨l, rfl, h1, h2⟩ | ⟨a, xs, rfl, h1, _⟩ | ⟨a, rfl, h1⟩, hz⟩ := h
  · exact .inr ⟨_, .base (.lst h1), kit_ty (by decide +kernel), rfl⟩
  · subst h; exact .inr ⟨_, .base .non, kit_ty (by decide +kernel), rfl⟩
  · exact .inr ⟨_, .base (.bl _), kit_ty (by decide +kernel), rfl⟩
  · exact .inr ⟨_, .base (.int _), kit_ty (by decide +kernel), rfl⟩
  · have := isT_str (K := K) (H := H) l (by omega)
    rwa [hz l rfl] at this
  · exact .inr ⟨_, .base (.tup h1), kit_ty (by decide +kernel), rfl⟩
  · exact .inr ⟨_, .base (.dK h1), kit_ty (by decide +kernel), rfl⟩
theorem BC.isC {K : PySem.W.Frag} {H : Hp} {v : V} (h : BC H v) : IsC K H v false := by
  obtain ⟨⟨a, x, rfl, h1, h2⟩ | h | ⟨b, rfl⟩ | ⟨i, rfl, _⟩ | ⟨l, rfl, h1, h2⟩ | ⟨a, xs, rfl, h1, _⟩ | ⟨a, rfl, h1⟩, hz⟩ := h
  · exact .inr (.inr ⟨_, .base (.lst h1), kit_ty (by decide +kernel), rfl⟩)
  · subst h; exact .inr (.inr ⟨_, .base .non, kit_ty (by decide +kernel), rfl⟩)
  · exact .inr (.inl ⟨b, rfl, rfl⟩)
  · have := hz i rfl
    exact .inl ⟨i, rfl, by rw [decide_eq_false (by omega)]⟩
  · exact .inr (.inr ⟨_, .base (.str _), kit_ty (by decide +kernel), rfl⟩)
  · exact .inr (.inr ⟨_, .base (.tup h1), kit_ty (by decide +kernel), rfl⟩)
  · exact .inr (.inr ⟨_, .base (.dK h1), kit_ty (by decide +kernel), rfl⟩)
theorem BT.same {H H' : Hp} {v : V} (h : BT H v) (s : Same H H') : BT H' v := ⟨h.1.at fun p o _ e => s p o e, h.2⟩
theorem BC.same {H H' : Hp} {v : V} (h : BC H v) (s : Same H H') : BC H' v := ⟨h.1.at fun p o _ e => s p o e, h.2⟩
theorem Vl.sb {H H' : Hp} {b : Addr} {d : Int} {v : V} (h : Vl H v) (B : BoxAt H b d) (s : SB b H H') : Vl H' v := by
  obtain ⟨n, g, c, e, hb, _⟩ := B.ex
  refine h.at fun p o ev q => s p o (fun ep => ?_) q
  subst ep
  subst ev
  rcases h with ⟨a, x, e, h1, _⟩ | h | ⟨_, h⟩ | ⟨_, h, _⟩ | ⟨_, h, _⟩ | ⟨a, xs, e, h1, _⟩ | ⟨a, e, h1⟩
  · cases e; rw [h1] at hb; cases hb
  · cases h
  · cases h
  · cases h
  · cases h
  · cases e; rw [h1] at hb; cases hb
  · cases e; rw [h1] at hb; cases hb
/-- all is kept but the list v -/
def KeepL (v : V) (H H' : Hp) : Prop := ∀ p o, (V.ref p ≠ v ∨ ∀ xs, o ≠ .lst xs) → H p = some o → H' p = some o
/-- y is x, or a new list like x -/
def Cp (H H' : Hp) (x y : V) : Prop := (y = x ∧ Nl H x) ∨ ∃ (a a' : Addr) (e : V), x = .ref a ∧ y = .ref a' ∧ H a' = none ∧ H' a' = some (.lst [e]) ∧ Elt e
theorem Cp.bt {H H' : Hp} {x y : V} (c : Cp H H' x y) (s : Same H H') (h : BT H x) : BT H' y := by
  rcases c with ⟨rfl, n⟩ | ⟨a, a', e, rfl, rfl, _, h1, h2⟩
  · exact h.same s
  · exact ⟨.inl ⟨a', e, rfl, h1, h2⟩, fun l q => by cases q⟩
theorem Cp.bc {H H' : Hp} {x y : V} (c : Cp H H' x y) (s : Same H H') (h : BC H x) : BC H' y := by
  rcases c with ⟨rfl, n⟩ | ⟨a, a', e, rfl, rfl, _, h1, h2⟩
  · exact h.same s
  · exact ⟨.inl ⟨a', e, rfl, h1, h2⟩, fun l q => by cases q⟩
theorem Cp.sep {H H' : Hp} {x y z : V} (c : Cp H H' x y) (h : Vl H z) : z ≠ y ∨ Nl H z := by
  rcases c with ⟨rfl, n⟩ | ⟨a, a', e, rfl, rfl, h0, h1, h2⟩
  · by_cases q : z = y
    · rw [q]; exact .inr n
    · exact .inl q
  · refine .inl fun q => ?_
    subst q
    obtain ⟨o, ho⟩ := h.here
    rw [h0] at ho
    cases ho
theorem KeepL.vl {H H' : Hp} {v z : V} (k : KeepL v H H') (h : Vl H z) (q : z ≠ v ∨ Nl H z) : Vl H' z := by
  rcases q with q | q
  · exact h.at fun p o e ho => k p o (.inl fun z' => q (e.trans z')) ho
  · exact .inr (q.at fun p o _ nl ho => k p o (.inr nl) ho)
/-- no list of H is y -/
def Fresh (H : Hp) (y : V) : Prop := ∀ p o, H p = some o → V.ref p ≠ y ∨ ∀ xs, o ≠ .lst xs
theorem Cp.fresh {H H1 : Hp} {x y : V} (c : Cp H H1 x y) : Fresh H y := by
  intro p o ho
  rcases c with ⟨rfl, n⟩ | ⟨a, a', e, rfl, rfl, h0, _⟩
  · by_cases q : V.ref p = y
    · right
      intro xs e
      subst e
      subst q
      rcases n with h | ⟨_, h⟩ | ⟨_, h, _⟩ | ⟨_, h, _⟩ | ⟨a, xs, e, h1, _⟩ | ⟨a, e, h1⟩
      · cases h
      · cases h
      · cases h
      · cases h
      · cases e; rw [h1] at ho; cases ho
      · cases e; rw [h1] at ho; cases ho
    · exact .inl q
  · left
    intro q
    cases q
    rw [h0] at ho
    cases ho
theorem Fresh.back {H0 H : Hp} {y : V} (f : Fresh H y) (s : Same H0 H) : Fresh H0 y := fun p o ho => f p o (s p o ho)
theorem Fresh.kept {H0 H H' : Hp} {y : V} (f : Fresh H0 y) (s : Same H0 H) (k : KeepL y H H') : Same H0 H' := fun p o ho => k p o (f p o ho) (s p o ho)
theorem Nl.keep {H H' : Hp} {v z : V} (h : Nl H z) (k : KeepL v H H') : Nl H' z := h.at fun p o _ nl ho => k p o (.inr nl) ho
theorem sep_flip {H : Hp} {x y : V} (h : x ≠ y ∨ Nl H x) : y ≠ x ∨ Nl H y := by
  rcases h with h | h
  · exact .inl (Ne.symm h)
  · by_cases q : y = x
    · rw [q]; exact .inr h
    · exact .inl q
theorem Nl.same {H H' : Hp} {v : V} (h : Nl H v) (s : Same H H') : Nl H' v := h.at fun p o _ _ e => s p o e
/-- _law_copy(value) -/
def spCopy : Sp := fun vs H Q _ => ∃ x, vs = [x] ∧ Vl H x ∧ ∀ y H', Same H H' → Cp H H' x y → Q y H'
theorem names_T {P : Program} {w : World} {K : PySem.W.Frag} {mg : Str → Option Value} {base : Heap} {X : Cx} {C : Addr} (xt : XT P w K mg base C) (hm : X.mg = mg := by rfl) (hg : Gl X "InvalidText" := by rfl) : Names X "InvalidText" (.ref C) := ⟨hg, by decide, .inl (by rw [hm]; exact xt.hm)⟩

/-- _law_bad_text(box, letters) -/
def spBad : Sp := fun vs H Q _ => ∃ (b lp : Addr) (c1 c2 : Nat) (d : Int), vs = [.ref b, .ref lp] ∧ H lp = some (.lst [.str (S [c1]), .str (S [c2])]) ∧ azB [c1] = true ∧ azB [c2] = true ∧ BoxAt H b d ∧ d + 10 ≤ 1000000 ∧
  ∀ (v : V) (H' : Hp), BT H' v → BoxAt H' b (d + 10) → SB b H H' → Q v H'
def rotS {α : Type} : List α → List α → List α
  | [], [c, a, b] => [a, b, c]
  | _, _ => []
theorem rotS_inv {α : Type} {us ws : List α} (h : (rotS us ws).length = 3) : us = [] ∧ ∃ c a b, ws = [c, a, b] := by
  unfold rotS at h
  split at h
  · exact ⟨rfl, _, _, _, rfl⟩
  · cases h
theorem rotS_rel {vs : List V} {us : List Value} {zs : List V} {ws : List Value} (r : Vals vs us) (r2 : Vals zs ws) : Vals (rotS vs zs) (rotS us ws) := by
  unfold rotS
  cases r with
  | cons _ _ => exact .nil
  | nil =>
    cases r2 with
    | nil => exact .nil
    | cons a r2 =>
      cases r2 with
      | nil => exact .nil
      | cons b r2 =>
        cases r2 with
        | nil => exact .nil
        | cons c r2 =>
          cases r2 with
          | nil => exact .cons b (.cons c (.cons a .nil))
          | cons _ _ => exact .nil
/-- _law_told(turn, parts) -/
def spTold (K : PySem.W.Frag) : Sp := fun vs H Q _ => ∃ (i : Int) (pp : Addr) (l r m : V) (bl br bm : Bool), vs = [.int i, .ref pp] ∧ H pp = some (.lst [l, r, m]) ∧ IsT K H l bl ∧ IsT K H r br ∧ IsC K H m bm ∧ (∀ x, l = .str (S x) → x.length ≤ 1000) ∧ (∀ x, r = .str (S x) → x.length ≤ 1000) ∧ (bm = true → ∀ n : Nat, m = .int (n : Int) → n ≤ 500) ∧
  (bl = true → br = true → bm = true → (l ≠ .str (S []) ∨ r ≠ .str (S [])) → ∀ t H', Same H H' → H t = none → H' t = some (.lst []) → Q (.ref t) H') ∧
  ((bl = false ∨ (br = true ∧ l = .str (S []) ∧ r = .str (S []))) → ∀ t H', Same H H' → H t = none → H' t = some (.lst [.str (S tText), l]) → Q (.ref t) H') ∧
  (bl = true → br = false → ∀ t H', Same H H' → H t = none → H' t = some (.lst [.str (S tText), r]) → Q (.ref t) H') ∧
  (bl = true → br = true → (l ≠ .str (S []) ∨ r ≠ .str (S [])) → bm = false → ∀ t H', Same H H' → H t = none → H' t = some (.lst [.str (S tCount), m]) → Q (.ref t) H')
section
variable {P : Program} {w : World} {K : PySem.W.Frag} {mg : Str → Option Value} {base : Heap} {f : Addr} {fd : FuncData}
theorem ok_copy (F : Fun K "_law_copy" "_law_copy" s__law_copy f fd) (z : Z mg) : FnOk P w K mg base CX0 1 f fd ["value"] spCopy := by
  refine F.ok sc__law_copy (fun vs H Q E h => ?_) (fun cdv A outer s H vs Q E hr h => ?_)
  · obtain ⟨v, rfl, _⟩ := h; rfl
  · obtain ⟨v, rfl, hv, k⟩ := h
    refine ⟨_, (pss_one (ps_ret (pe_ifExp (pt_val (pe_callB call_isi (by rfl) z.isinstance (by decide +kernel) (pa_cons (pv 0) (pa_cons (pe_bltn (v := .ty "list") (by rfl) z.list (by decide +kernel) rfl) pa_nil)))) (pe_callTy call_list_of (by rfl) z.list (by decide +kernel) (pa_cons (pv 0) pa_nil)) (pv 0)))), ?_⟩
    walk_at "rd"
    rcases hv with ⟨a, x, rfl, ha, hx⟩ | hn
    · refine i_isi true (.base (.lst ha)) (kit_ty (by decide +kernel)) ?_
      walk_at "rd"
      intro p np
      exact k (.ref p) _ (same_upd np) (.inr ⟨a, p, x, rfl, rfl, np, upd_same, hx⟩)
    · obtain ⟨t, h1, h2⟩ := hn.ty (K := K)
      refine i_isi false h1 h2 ?_
      walk_at "rd"
      exact k v _ (Same.refl _) (.inl ⟨rfl, hn⟩)
theorem ok_told {C D : Addr} (F : Fun K "_law_told" "_law_told" s__law_told f fd) (xt : XT P w K mg base C) (xc : XN P w K mg base D) (hDC : PySem.W.exmOne K (.ref D) (.ref C) = some false) (x_staying : CalX P w K mg base "staying" ["one", "other", "most"] 5 (spStayX K C D)) (kx_staying : CalKX P w K mg base "staying" ["one", "other", "most"] 5 (spStayX K C D) ["most", "one", "other"] rotS rotS) :
    FnOk P w K mg base CX0 6 f fd ["turn", "parts"] (spTold K) := by
  refine F.ok sc__law_told (fun vs H Q E h => ?_) (fun cdv A outer s H vs Q E hr h => ?_)
  · obtain ⟨i, pp, l, r, m, _, _, _, rfl, _⟩ := h; rfl
  · obtain ⟨i, pp, l, r, m, bl, br, bm, rfl, hp, hl, hr', hm, nl, nr, nm, k1, k2, k3, k4⟩ := h
    refine ⟨_, (pss_one (ps_tries (Wo := fun _ _ _ _ => False) rfl rfl sc__law_told.nd takes_none (fun W pn xe tk po => (pss_cons (ps_if (pt_cmpR op_eq (pv 0) pe_int (nomark _))
          (pss_one (ps_expr (pe_calX x_staying hr tk (pa_cons (pe_ix (r := rIxL K) ix_list (pv 1) pe_int (fun _ _ => rfl)) (pa_cons (pe_ix (r := rIxL K) ix_list (pv 1) pe_int (fun _ _ => rfl)) (pa_cons (pe_ix (r := rIxL K) ix_list (pv 1) pe_int (fun _ _ => rfl)) pa_nil))))))
          (pss_one (ps_expr (pe_calKX kx_staying hr tk (pk_cons (pe_ix (r := rIxL K) ix_list (pv 1) pe_int (fun _ _ => rfl)) (pk_cons (pe_ix (r := rIxL K) ix_list (pv 1) pe_int (fun _ _ => rfl)) (pk_cons (pe_ix (r := rIxL K) ix_list (pv 1) pe_int (fun _ _ => rfl)) pk_nil)))))))
        (pss_one (ps_ret (pe_lst pa_nil)))))
      (.cons (i := 2) rfl rfl (names_T xt) (fun a oe cls d pn hz hf => (pss_one (ps_ret (pe_lst (pa_cons (pe_strS (l := [116, 101, 120, 116]) (by decide +kernel)) (pa_cons (pe_xf xt.xf xt.no hz hf (pv 2)) pa_nil)))))) (.cons (i := 2) rfl rfl (names_C xc) (fun a oe cls d pn hz hf => (pss_one (ps_ret (pe_lst (pa_cons (pe_strS (l := [99, 111, 117, 110, 116]) (by decide +kernel)) (pa_cons (pe_xf xc.xf xc.no hz hf (pv 2)) pa_nil)))))) .nil)))), ?_⟩
    walk_at "rd"
    refine iteB (fun _ => ?_) (fun _ => ?_)
    · walk_at "rd"
      refine ⟨l, r, m, bl, br, bm, rfl, hl, hr', hm, nl, nr, nm, fun e1 e2 e3 ne v H1 s1 => ?_, fun e dx H1 nx s1 ed => ?_, fun e1 e2 dx H1 nx s1 ed => ?_, fun e1 e2 ne e3 dx H1 nx s1 ed => ?_⟩
      · walk_at "rd"
        refine ⟨Nat.zero_le _, fun t nt => ?_⟩
        exact k1 e1 e2 e3 ne t _ (Same.upd_new s1 nt) (s1.free nt) upd_same
      · refine ⟨true, xt.me, fun _ a na => ?_, fun z => by cases z⟩
        walk_at "rd"
        refine ⟨_, rfl, rfl, rfl, dx, _, l, rfl, ed, rfl, ?_⟩
        walk_at "rd"
        refine ⟨Nat.le_of_ble_eq_true rfl, fun t nt => ?_⟩
        exact k2 e t _ (Same.upd_new s1 nt) (s1.free nt) upd_same
      · refine ⟨true, xt.me, fun _ a na => ?_, fun z => by cases z⟩
        walk_at "rd"
        refine ⟨_, rfl, rfl, rfl, dx, _, r, rfl, ed, rfl, ?_⟩
        walk_at "rd"
        refine ⟨Nat.le_of_ble_eq_true rfl, fun t nt => ?_⟩
        exact k3 e1 e2 t _ (Same.upd_new s1 nt) (s1.free nt) upd_same
      · refine ⟨false, hDC, (fun z => by cases z), fun _ => ⟨true, xc.me, fun _ a na => ?_, fun z => by cases z⟩⟩
        walk_at "rd"
        refine ⟨_, rfl, rfl, rfl, dx, _, m, rfl, ed, rfl, ?_⟩
        walk_at "rd"
        refine ⟨Nat.le_of_ble_eq_true rfl, fun t nt => ?_⟩
        exact k4 e1 e2 ne e3 t _ (Same.upd_new s1 nt) (s1.free nt) upd_same
    · walk_at "rd"
      refine ⟨l, r, m, bl, br, bm, rfl, hl, hr', hm, nl, nr, nm, fun e1 e2 e3 ne v H1 s1 => ?_, fun e dx H1 nx s1 ed => ?_, fun e1 e2 dx H1 nx s1 ed => ?_, fun e1 e2 ne e3 dx H1 nx s1 ed => ?_⟩
      · walk_at "rd"
        refine ⟨Nat.zero_le _, fun t nt => ?_⟩
        exact k1 e1 e2 e3 ne t _ (Same.upd_new s1 nt) (s1.free nt) upd_same
      · refine ⟨true, xt.me, fun _ a na => ?_, fun z => by cases z⟩
        walk_at "rd"
        refine ⟨_, rfl, rfl, rfl, dx, _, l, rfl, ed, rfl, ?_⟩
        walk_at "rd"
        refine ⟨Nat.le_of_ble_eq_true rfl, fun t nt => ?_⟩
        exact k2 e t _ (Same.upd_new s1 nt) (s1.free nt) upd_same
      · refine ⟨true, xt.me, fun _ a na => ?_, fun z => by cases z⟩
        walk_at "rd"
        refine ⟨_, rfl, rfl, rfl, dx, _, r, rfl, ed, rfl, ?_⟩
        walk_at "rd"
        refine ⟨Nat.le_of_ble_eq_true rfl, fun t nt => ?_⟩
        exact k3 e1 e2 t _ (Same.upd_new s1 nt) (s1.free nt) upd_same
      · refine ⟨false, hDC, (fun z => by cases z), fun _ => ⟨true, xc.me, fun _ a na => ?_, fun z => by cases z⟩⟩
        walk_at "rd"
        refine ⟨_, rfl, rfl, rfl, dx, _, m, rfl, ed, rfl, ?_⟩
        walk_at "rd"
        refine ⟨Nat.le_of_ble_eq_true rfl, fun t nt => ?_⟩
        exact k4 e1 e2 ne e3 t _ (Same.upd_new s1 nt) (s1.free nt) upd_same
end
end Sw
namespace Sw
open PySem PySem.Spec PyProof.Rows L2
local macro_rules | `(tactic| walk_at "hp") => `(tactic| first
  | (with_reducible assumption) | (with_reducible exact upd_same)
  | ((with_reducible refine' upd_old ?q1 ?q2); (case q1 => (with_reducible assumption)); (case q2 => walk_at "hp"))
  | ((with_reducible refine' Same.at ?q1 ?q2); (case q1 => (with_reducible assumption)); (case q2 => walk_at "hp"))
  | ((with_reducible refine' upd_skip ?q1 ?q2); (case q1 => walk_at "ne"); (case q2 => walk_at "hp"))
  | fail)
local macro_rules | `(tactic| walk_at "ne") => `(tactic| first
  | (with_reducible assumption) | (with_reducible exact Ne.symm (by assumption))
  | ((with_reducible refine' ne_of_none ?q1 ?q2); (case q2 => (with_reducible assumption)); (case q1 => walk_at "hp"))
  | fail)
local macro_rules | `(tactic| walk_at "ci") => `(tactic| first | assumption | (show (0 : Int) < _; first | decide | (with_reducible omega)) | exact ⟨by decide, by decide⟩ | exact .inl ⟨by decide, by decide⟩ | exact .inr ⟨by decide, by decide⟩)
local macro_rules | `(tactic| walk_at "ln") => `(tactic| first | (with_reducible assumption) | (with_reducible omega) | (simp only [List.length_append, List.length_take, List.length_drop, List.length_reverse, List.length_cons, List.length_nil]; with_reducible omega))
local macro_rules | `(tactic| walk_at "rd1") => `(tactic| first
  | (with_reducible refine i_seq ?_) | (with_reducible refine i_asg ?_) | (with_reducible refine i_ret ?_) | (with_reducible refine i_name ?_) | ((with_reducible refine' i_var ?q1 ?_); (case q1 => exact rfl)) | (with_reducible refine i_c ?_) | (with_reducible refine i_op ?_) | (with_reducible refine i_un ?_)
  | (with_reducible refine i_rI0 ?_) | (with_reducible refine i_cb ?_) | (with_reducible refine i_cons ?_) | (with_reducible refine i_nil ?_) | (with_reducible refine i_call ?_) | (with_reducible refine i_if ?_) | (with_reducible refine i_ifE ?_) | (with_reducible refine i_test ?_) | (with_reducible refine i_bl ?_)
  | (with_reducible refine i_and ?_) | (with_reducible refine i_or ?_) | (with_reducible refine i_not ?_) | (with_reducible refine i_lst ?_) | (with_reducible refine i_tup ?_) | (with_reducible refine i_next ?_) | (with_reducible refine i_drop ?_) | (with_reducible refine i_sub ?_)
  | (with_reducible refine i_bm ?_) | (with_reducible refine i_sl ?_) | (with_reducible refine i_part ?_) | (with_reducible refine i_nopart ?_) | (with_reducible refine i_exI ?_) | (with_reducible refine i_chain ?_) | ((with_reducible refine' i_aug ?q1 ?_); (case q1 => exact rfl)) | (with_reducible refine i_ip ?_)
  | (with_reducible refine i_par ?_) | (with_reducible refine i_pair ?_) | (with_reducible refine i_andV ?_) | (with_reducible refine i_orV ?_) | (with_reducible refine i_notV ?_) | (with_reducible refine i_m1 ?_) | (with_reducible refine i_str ?_)
  | (with_reducible refine iteF ?_) | (with_reducible refine iteT ?_) | (with_reducible refine iteNT ?_) | (with_reducible refine iteNF ?_) | (with_reducible refine i_tyS ?_) | (with_reducible refine i_tB ?_) | (with_reducible refine i_retN ?_) | (with_reducible refine i_par3 ?_) | (with_reducible refine i_trip ?_) | (with_reducible refine i_gCons ?_) | (with_reducible refine i_gNil ?_) | (with_reducible refine i_lstRg ?_) | (with_reducible refine i_rg1 ?_)
  | (with_reducible refine i_lc ?_) | (with_reducible refine i_for ?_) | (with_reducible refine i_iList ?_) | (with_reducible refine i_iTup ?_) | (with_reducible refine i_iStr ?_) | (with_reducible refine i_iRng1 ?_) | (with_reducible refine i_iEnS ?_)
  | ((with_reducible refine' i_ixTH ?q1 ?q2 ?_); (case q1 => walk_at "hp"); (case q2 => exact rfl))
  | ((with_reducible refine' i_ixLH ?q1 ?q2 ?_); (case q1 => walk_at "hp"); (case q2 => exact rfl))
  | ((with_reducible refine i_addS ?q1 ?_); (case q1 => walk_at "ln")) | ((with_reducible refine i_lenSS ?q1 ?_); (case q1 => walk_at "ln")) | ((with_reducible refine i_slFrom ?q1 ?q2 ?_); (case q1 => walk_at "ln"); (case q2 => walk_at "ln")) | ((with_reducible refine i_slTo ?q1 ?q2 ?_); (case q1 => walk_at "ln"); (case q2 => walk_at "ln"))
  | ((with_reducible refine' i_tyL ?q1 ?_); (case q1 => walk_at "hp"))
  | ((with_reducible refine' i_gTupH ?q1 ?q2 ?_); (case q1 => walk_at "hp"); (case q2 => exact rfl))
  | (with_reducible refine i_dnew ?_) | (with_reducible refine i_init ?_) | (with_reducible refine i_fst ?_) | (with_reducible refine i_mk ?_) | (with_reducible refine i_raise ?_) | (with_reducible refine i_callS ?_) | (with_reducible refine i_kwS ?_)
  | (with_reducible refine i_revT ?_) | (with_reducible refine i_kw ?_) | ((with_reducible refine' ⟨_, _, rfl, sqT_of ?q1, ?_⟩); (case q1 => walk_at "hp"))
  | (with_reducible refine i_revS ?_) | ((with_reducible refine i_revSS ?q1 ?_); (case q1 => walk_at "ln"))
  | (with_reducible refine i_startS ?_) | (with_reducible refine i_inSg ?_) | (with_reducible refine i_absN ?_) | (with_reducible refine i_min2 ?_) | (with_reducible refine i_max2 ?_) | (with_reducible refine i_min3 ?_) | (with_reducible refine i_intN ?_) | (with_reducible refine i_intNB ?_)
  | ((with_reducible refine' i_lenL ?q1 ?_); (case q1 => walk_at "hp")) | ((with_reducible refine' i_lenT ?q1 ?_); (case q1 => walk_at "hp"))
  | (with_reducible refine i_eqI ?_) | (with_reducible refine i_neI ?_) | (with_reducible refine i_eqS ?_) | (with_reducible refine i_neS ?_) | (with_reducible refine i_isNoI ?_) | (with_reducible refine i_isNoN ?_) | (with_reducible refine i_isNoR ?_)
  | ((with_reducible refine i_pow ?q1 ?q2 ?q3 ?_); (case q1 => decide); (case q2 => decide); (case q3 => (with_reducible omega)))
  | ((with_reducible refine i_rI ?q1 ?_); (case q1 => walk_at "ci"))
  | (with_reducible refine Or.inl ⟨_, rfl, ?_⟩) | (with_reducible refine Or.inr ⟨_, rfl, ?_⟩) | (with_reducible refine ⟨_, rfl, ?_⟩) | (with_reducible refine ⟨_, _, rfl, ?_⟩) | (with_reducible refine ⟨_, _, rfl, rfl, ?_⟩)
  | ((with_reducible refine' ⟨_, _, rfl, Or.inl (sqL_of ?q1), ?_⟩); (case q1 => walk_at "hp")) | ((with_reducible refine' ⟨_, _, rfl, Or.inr (sqT_of ?q1), ?_⟩); (case q1 => walk_at "hp")) | fail)
local macro_rules | `(tactic| walk_at "rd") => `(tactic| repeat' walk_at "rd1")

open Wd (rot rlen turn)
/-- _law_refuses(turn, parts, kind, place) -/
def spRef (K : PySem.W.Frag) : Sp := fun vs H Q _ => ∃ (i : Int) (pp : Addr) (l r m v : V) (k : Nat) (w : List Nat) (bl br bm : Bool), vs = [.int i, .ref pp, .str (S w), .int (k : Int)] ∧ H pp = some (.lst [l, r, m]) ∧ IsT K H l bl ∧ IsT K H r br ∧ IsC K H m bm ∧ (∀ x, l = .str (S x) → x.length ≤ 1000) ∧ (∀ x, r = .str (S x) → x.length ≤ 1000) ∧ (bm = true → ∀ n : Nat, m = .int (n : Int) → n ≤ 500) ∧
  ([l, r, m] : List V)[k]? = some v ∧ k ≤ 2 ∧
  ((w = tText ∧ v = l ∧ (bl = false ∨ (bl = true ∧ br = true ∧ l = .str (S []) ∧ r = .str (S [])))) ∨ (w = tText ∧ v = r ∧ bl = true ∧ br = false) ∨ (w = tCount ∧ v = m ∧ bl = true ∧ br = true ∧ (l ≠ .str (S []) ∨ r ≠ .str (S [])) ∧ bm = false)) ∧ Vl H v ∧
  ∀ H', KeepL v H H' → Q (.bl true) H'
theorem told_ref {K : PySem.W.Frag} {H : Hp} {Q : VK} {E : XK} {i : Int} {pp : Addr} {l r m v : V} {w : List Nat} {bl br bm : Bool} (hp : H pp = some (.lst [l, r, m])) (hl : IsT K H l bl) (hr : IsT K H r br) (hm : IsC K H m bm) (nl : ∀ x, l = .str (S x) → x.length ≤ 1000) (nr : ∀ x, r = .str (S x) → x.length ≤ 1000) (nm : bm = true → ∀ n : Nat, m = .int (n : Int) → n ≤ 500)
    (hw : (w = tText ∧ v = l ∧ (bl = false ∨ (bl = true ∧ br = true ∧ l = .str (S []) ∧ r = .str (S [])))) ∨ (w = tText ∧ v = r ∧ bl = true ∧ br = false) ∨ (w = tCount ∧ v = m ∧ bl = true ∧ br = true ∧ (l ≠ .str (S []) ∨ r ≠ .str (S [])) ∧ bm = false))
    (k : ∀ t H', Same H H' → H t = none → H' t = some (.lst [.str (S w), v]) → Q (.ref t) H') : spTold K [.int i, .ref pp] H Q E := by
  refine ⟨i, pp, l, r, m, bl, br, bm, rfl, hp, hl, hr, hm, nl, nr, nm, fun e1 e2 e3 ne => ?_, fun e => ?_, fun e1 e2 => ?_, fun e1 e2 ne e3 => ?_⟩
  all_goals
    rcases hw with ⟨rfl, rfl, h⟩ | ⟨rfl, rfl, h1, h2⟩ | ⟨rfl, rfl, h1, h2, h3, h4⟩
  · exfalso
    rcases h with h | ⟨_, _, h1, h2⟩
    · rw [h] at e1; cases e1
    · exact ne.elim (fun q => q h1) (fun q => q h2)
  · exfalso; rw [h2] at e2; cases e2
  · exfalso; rw [h4] at e3; cases e3
  · exact fun t H' s n x => k t H' s n x
  · exfalso
    rcases e with e | ⟨e, _⟩
    · rw [h1] at e; cases e
    · rw [h2] at e; cases e
  · exfalso
    rcases e with e | ⟨_, e1, e2⟩
    · rw [h1] at e; cases e
    · exact h3.elim (fun q => q e1) (fun q => q e2)
  · exfalso
    rcases h with h | ⟨_, h, _⟩
    · rw [h] at e1; cases e1
    · rw [h] at e2; cases e2
  · exact fun t H' s n x => k t H' s n x
  · exfalso; rw [h2] at e2; cases e2
  · exfalso
    rcases h with h | ⟨_, _, h1, h2⟩
    · rw [h] at e1; cases e1
    · exact ne.elim (fun q => q h1) (fun q => q h2)
  · exfalso; rw [h2] at e2; cases e2
  · exact fun t H' s n x => k t H' s n x
theorem Vl.dc {K : PySem.W.Frag} {H : Hp} {v : V} (h : Vl H v) : ∃ d, Dc 1 2002 K H v d := by
  rcases h with ⟨a, x, rfl, ha, hx⟩ | h
  · obtain ⟨ds, d1, d2, _⟩ := small_row (xs := [x]) (fun y hy => by rw [List.mem_singleton.mp hy]; exact hx) (by simp)
    exact ⟨_, .inl ⟨.lst (sqL_of ha) (d1 K H), d2⟩⟩
  · exact h.dc
section
variable {P : Program} {w : World} {K : PySem.W.Frag} {mg : Str → Option Value} {base : Heap} {f : Addr} {fd : FuncData}
theorem ok_bad (F : Fun K "_law_bad_text" "_law_bad_text" s__law_bad_text f fd) (c__law_take : Cal P w K mg base "_law_take" ["box", "many"] 1 spTake) (c__law_word : Cal P w K mg base "_law_word" ["box", "letters", "size"] 2 spWord) : FnOk P w K mg base CX0 3 f fd ["box", "letters"] spBad := by
  refine F.ok sc__law_bad_text (fun vs H Q E h => ?_) (fun cdv A outer s H vs Q E hr h => ?_)
  · obtain ⟨b, lp, c1, c2, d, rfl, _⟩ := h; rfl
  · obtain ⟨b, lp, c1, c2, d, rfl, hL, z1, z2, B, hd, k⟩ := h
    have nlb := B.ne_lst hL
    refine ⟨_, (pss_cons (ps_par (i := 2) (j := 3) rfl sc__law_bad_text.nd rfl rfl (by decide) rfl rfl (pa_cons (pe_cal c__law_take hr (pa_cons (pv 0) (pa_cons pe_int pa_nil))) (pa_cons (pe_cal c__law_word hr (pa_cons (pv 0) (pa_cons (pv 1) (pa_cons (pe_cal c__law_take hr (pa_cons (pv 0) (pa_cons pe_int pa_nil))) pa_nil)))) pa_nil)) (by rfl))
      (pss_cons (ps_if (pt_cmpR op_lt (pv 2) pe_int (nomark _))
        (pss_one (ps_ret (pe_op op_addS (pe_ix ix_list (pe_lst (pa_cons (pe_strS (l := [90]) (by decide +kernel)) (pa_cons (pe_strS (l := [57]) (by decide +kernel)) (pa_cons (pe_strS (l := [123]) (by decide +kernel)) (pa_cons (pe_strS (l := [45]) (by decide +kernel)) pa_nil))))) (pv 2) (fun _ _ => rfl)) (pv 3))))
        pss_nil)
      (pss_one (ps_ret (pe_ix ix_list (pe_lst (pa_cons (pe_op op_addS (pv 3) (pe_strS (l := [10]) (by decide +kernel))) (pa_cons (pe_lst (pa_cons (pv 3) pa_nil)) (pa_cons (pe_tup (pa_cons (pe_strS (l := []) (by decide +kernel)) (pa_cons (pv 3) pa_nil))) (pa_cons pe_non (pa_cons pe_int pa_nil)))))) (pe_op op_sub (pv 2) pe_int) (fun _ _ => rfl)))))), ?_⟩
    walk_at "rd"
    refine ⟨b, 9, d, rfl, B, by omega, by omega, by omega, fun way H1 w0 w1 B1 s1 => ?_⟩
    walk_at "rd"
    refine ⟨b, 4, _, rfl, B1, by omega, by omega, by omega, fun n H2 n0 n1 B2 s2 => ?_⟩
    obtain ⟨n, rfl⟩ : ∃ m : Nat, n = m := ⟨n.toNat, by omega⟩
    walk_at "rd"
    refine ⟨b, lp, c1, c2, n, _, rfl, (s1.trans s2) _ _ nlb hL, z1, z2, B2, by omega, by omega, fun t H3 lt it B3 s3 => ?_⟩
    have zt := it.az z1 z2
    have s13 := s1.trans (s2.trans s3)
    have B3' : BoxAt H3 b (d + 10) := B3.mono (by omega)
    have le1 := azB_le zt
    walk_at "rd"
    refine iteB (fun c => ?_) (fun c => ?_)
    · walk_at "rd"
      refine ⟨Nat.le_of_ble_eq_true rfl, fun p np => ?_⟩
      walk_at "rd"
      obtain ⟨x, ex, zx, lx⟩ : ∃ x, ([.str (S [90]), .str (S [57]), .str (S [123]), .str (S [45])] : List V)[way.toNat]? = some (.str (S [x])) ∧ azB [x] = false ∧ x ≤ 1000 := by
        have hj : way = 0 ∨ way = 1 ∨ way = 2 ∨ way = 3 := by omega
        rcases hj with rfl | rfl | rfl | rfl
        · exact ⟨_, rfl, by decide, by decide⟩
        · exact ⟨_, rfl, by decide, by decide⟩
        · exact ⟨_, rfl, by decide, by decide⟩
        · exact ⟨_, rfl, by decide, by decide⟩
      refine i_ixLv upd_same w0 ex ?_
      walk_at "rd"
      refine k _ _ ⟨.inr (.inr (.inr (.inr (.inl ⟨_, rfl, fun y hy => ?_, ?_⟩)))), fun u e => ?_⟩ (B3'.same (same_upd np)) (s13.trans (SB.of (same_upd np)))
      · rcases List.mem_append.mp hy with hy | hy
        · rw [List.mem_singleton.mp hy]; exact lx
        · exact le1 y hy
      · rw [List.length_append]; simp only [List.length_cons, List.length_nil]; omega
      · rw [← S_inj.mp (V.str.inj e), azB_app, zx]; rfl
    · walk_at "rd"
      refine ⟨Nat.le_of_ble_eq_true rfl, fun p1 n1 => ?_⟩
      walk_at "rd"
      refine ⟨Nat.le_of_ble_eq_true rfl, fun p2 n2 => ?_⟩
      walk_at "rd"
      refine ⟨Nat.le_of_ble_eq_true rfl, fun p3 n3 => ?_⟩
      have t1 := same_upd (o := .lst [V.str (S t)]) n1
      have t2 := same_upd (o := .tup [V.str (S []), V.str (S t)]) n2
      have t3 := same_upd (o := .lst [V.str (S (t ++ [10])), V.ref p1, V.ref p2, V.non, V.int 0]) n3
      have e1 := t3 _ _ (t2 _ _ (upd_same (H := H3) (a := p1) (o := .lst [V.str (S t)])))
      have e2 := t3 _ _ (upd_same (H := upd H3 p1 (.lst [V.str (S t)])) (a := p2) (o := .tup [V.str (S []), V.str (S t)]))
      have e3 := upd_same (H := upd (upd H3 p1 (.lst [V.str (S t)])) p2 (.tup [V.str (S []), V.str (S t)])) (a := p3) (o := .lst [V.str (S (t ++ [10])), V.ref p1, V.ref p2, V.non, V.int 0])
      have t13 := t1.trans (t2.trans t3)
      generalize upd (upd (upd H3 p1 (.lst [V.str (S t)])) p2 (.tup [V.str (S []), V.str (S t)])) p3 (.lst [V.str (S (t ++ [10])), V.ref p1, V.ref p2, V.non, V.int 0]) = H4 at *
      have B4 := B3'.same t13
      have s14 := s13.trans (SB.of t13)
      walk_at "rd"
      have hw : way = 4 ∨ way = 5 ∨ way = 6 ∨ way = 7 ∨ way = 8 := by omega
      rcases hw with rfl | rfl | rfl | rfl | rfl
      · refine i_ixLv e3 (by omega) rfl ?_
        refine k _ _ ⟨.inr (.inr (.inr (.inr (.inl ⟨_, rfl, fun y hy => ?_, ?_⟩)))), fun u e => ?_⟩ B4 s14
        · rcases List.mem_append.mp hy with hy | hy
          · exact le1 y hy
          · rw [List.mem_singleton.mp hy]; decide
        · rw [List.length_append]; simp only [List.length_cons, List.length_nil]; omega
        · rw [← S_inj.mp (V.str.inj e), azB_app, show azB [10] = false by decide, Bool.and_false]
      · refine i_ixLv e3 (by omega) rfl ?_
        exact k _ _ ⟨.inl ⟨p1, _, rfl, e1, .inl ⟨t, rfl, le1, by omega⟩⟩, fun u e => by cases e⟩ B4 s14
      · refine i_ixLv e3 (by omega) rfl ?_
        refine k _ _ ⟨.inr (.inr (.inr (.inr (.inr (.inl ⟨p2, _, rfl, e2, by simp, fun x hx => ?_⟩))))), fun u e => by cases e⟩ B4 s14
        simp only [List.mem_cons, List.not_mem_nil, or_false] at hx
        rcases hx with rfl | rfl
        · exact .inl ⟨[], rfl, by simp, by simp⟩
        · exact .inl ⟨t, rfl, le1, by omega⟩
      · refine i_ixLv e3 (by omega) rfl ?_
        exact k _ _ ⟨.inr (.inl rfl), fun u e => by cases e⟩ B4 s14
      · refine i_ixLv e3 (by omega) rfl ?_
        exact k _ _ ⟨.inr (.inr (.inr (.inl ⟨0, rfl, small_nat (n := 0) (by omega)⟩))), fun u e => by cases e⟩ B4 s14
theorem ok_ref (F : Fun K "_law_refuses" "_law_refuses" s__law_refuses f fd) (z : Z mg) (c__law_told : Cal P w K mg base "_law_told" ["turn", "parts"] 6 (spTold K)) : FnG P w K mg base CX0 7 f fd ["turn", "parts", "kind", "place"] (spRef K) := by
  refine Sw.Fun.okG0 F sc__law_refuses (fun vs H Q E h => ?_) (fun cdv A outer s H vs Q E hr quiet h => ?_)
  · obtain ⟨i, pp, l, r, m, v, k, w, bl, br, bm, rfl, _⟩ := h; rfl
  · obtain ⟨i, pp, l, r, m, v, k, w, bl, br, bm, rfl, hp, hl, hr', hm, nl, nr, nm, hk, k2, hw, hv, kq⟩ := h
    refine ⟨_, (pss_cons (ps_par (i := 4) (j := 5) rfl sc__law_refuses.nd rfl rfl (by decide) rfl rfl (pa_cons (pe_callB (call_repW quiet hr.units) (by rfl) z.repr (by decide +kernel) (pa_cons (pe_ix ix_list (pv 1) (pv 3) (fun _ _ => rfl)) pa_nil)) (pa_cons (pe_ifExp (pt_val (pe_callB call_isi (by rfl) z.isinstance (by decide +kernel) (pa_cons (pe_ix ix_list (pv 1) (pv 3) (fun _ _ => rfl)) (pa_cons (pe_bltn (v := .ty "list") (by rfl) z.list (by decide +kernel) rfl) pa_nil)))) (pe_callB call_lenQ (by rfl) z.len PySem.boot_len (pa_cons (pe_ix ix_list (pv 1) (pv 3) (fun _ _ => rfl)) pa_nil)) pe_int) pa_nil)) (by rfl))
      (pss_cons (ps_set (i := 6) sc__law_refuses.nd rfl (.inl rfl) (pe_cal c__law_told hr (pa_cons (pv 0) (pa_cons (pv 1) pa_nil))))
      (pss_cons (ps_if (PW.pt (pw_or (pt_cmpR op_ne (pe_callB call_lenQ (by rfl) z.len PySem.boot_len (pa_cons (pv 6) pa_nil)) pe_int (nomark _)) (pw_or (pt_cmpR op_ne (pe_ix ix_list (pv 6) pe_int (fun _ _ => rfl)) (pv 2) (nomark _)) (pw_or1 (pt_cmpR op_ne (pe_callB (call_repW quiet hr.units) (by rfl) z.repr (by decide +kernel) (pa_cons (pe_ix ix_list (pv 6) pe_int (fun _ _ => rfl)) pa_nil)) (pv 4) (nomark _))))))
        (pss_one (ps_ret pe_bl))
        pss_nil)
      (pss_cons (ps_if (pt_cmpR op_eq (pv 5) pe_int (nomark _))
        (pss_one (ps_ret pe_bl))
        pss_nil)
      (pss_cons (ps_if (pt_not (pt_val (pe_callB call_isi (by rfl) z.isinstance (by decide +kernel) (pa_cons (pe_ix ix_list (pv 6) pe_int (fun _ _ => rfl)) (pa_cons (pe_bltn (v := .ty "list") (by rfl) z.list (by decide +kernel) rfl) pa_nil)))))
        (pss_one (ps_ret pe_bl))
        pss_nil)
      (pss_cons (ps_expr (pe_bm PySem.F.plainAttrs_list PySem.F.slot_list_append PySem.F.type_list_append mt_append (pe_ix ix_list (pv 6) pe_int (fun _ _ => rfl)) (pa_cons (pv 0) pa_nil)))
      (pss_one (ps_ret (pe_and (pe_cmpR op_eq (pe_callB call_lenQ (by rfl) z.len PySem.boot_len (pa_cons (pe_ix ix_list (pv 1) (pv 3) (fun _ _ => rfl)) pa_nil)) (pe_op op_add (pv 5) pe_int) (nomark _)) (pe_one (pe_cmpR op_eq (pe_ix ix_list (pe_ix ix_list (pv 1) (pv 3) (fun _ _ => rfl)) (pe_un un_neg pe_int) (fun _ _ => rfl)) (pv 0) (nomark _)))))))))))), ?_⟩
    walk_at "rd"
    obtain ⟨dd, hd⟩ := hv.dc (K := K)
    have hk' : ([l, r, m] : List V)[((k : Int)).toNat]? = some v := by rw [Int.toNat_natCast]; exact hk
    refine i_ixLv hp (by omega) hk' ?_
    walk_at "rd"
    refine i_repW hd (by omega) (by omega) ?_
    walk_at "rd"
    refine i_ixLv hp (by omega) hk' ?_
    walk_at "rd"
    rcases id hv with ⟨a, x, rfl, ha, hx⟩ | hn
    · refine i_isi true (.base (.lst ha)) (kit_ty (by decide +kernel)) ?_
      walk_at "rd"
      refine i_ixLv hp (by omega) hk' ?_
      walk_at "rd"
      refine told_ref hp hl hr' hm nl nr nm hw fun t H1 s1 nt et => ?_
      walk_at "rd"
      refine iteNB (fun q => (q rfl).elim) (fun _ => ?_)
      walk_at "rd"
      refine iteNB (fun q => (q rfl).elim) (fun _ => ?_)
      walk_at "rd"
      refine i_repW (hd.same s1) (by omega) (by omega) ?_
      walk_at "rd"
      refine ⟨rfl, ?_⟩
      rw [decide_eq_true rfl]
      walk_at "rd"
      refine iteB (fun q => by simp at q) (fun _ => ?_)
      walk_at "rd"
      have ha1 := s1 _ _ ha
      refine i_isi true (.base (.lst ha1)) (kit_ty (by decide +kernel)) ?_
      walk_at "rd"
      refine i_append ha1 (by show 1 < sizeLine; decide) ?_
      have npa : pp ≠ a := by
        rintro rfl
        rw [ha] at hp
        cases hp
      have hp2 := upd_skip (o := .lst ([x] ++ [.int i])) npa (s1 _ _ hp)
      have ea2 := upd_same (H := H1) (a := a) (o := .lst ([x] ++ [.int i]))
      have kp : KeepL (.ref a) H (upd H1 a (.lst ([x] ++ [.int i]))) := fun p o q ho => by
        have pa : p ≠ a := by
          rintro rfl
          rcases q with q | q
          · exact q rfl
          · rw [ha] at ho; cases ho; exact q _ rfl
        rw [L2.upd_ne pa]
        exact s1 p o ho
      generalize upd H1 a (.lst ([x] ++ [.int i])) = H2 at *
      walk_at "rd"
      refine i_ixLv hp2 (by omega) hk' ?_
      walk_at "rd"
      refine iteB (fun _ => ?_) (fun q => (q rfl).elim)
      walk_at "rd"
      refine i_ixLv hp2 (by omega) hk' ?_
      walk_at "rd"
      refine i_rU ?_
      refine i_ixLH ea2 (v := .int i) rfl ?_
      walk_at "rd"
      rw [decide_eq_true rfl]
      exact kq _ kp
    · obtain ⟨ty, h1, h2⟩ := hn.ty (K := K)
      refine i_isi false h1 h2 ?_
      walk_at "rd"
      refine told_ref hp hl hr' hm nl nr nm hw fun t H1 s1 nt et => ?_
      walk_at "rd"
      refine iteNB (fun q => (q rfl).elim) (fun _ => ?_)
      walk_at "rd"
      refine iteNB (fun q => (q rfl).elim) (fun _ => ?_)
      walk_at "rd"
      refine i_repW (hd.same s1) (by omega) (by omega) ?_
      walk_at "rd"
      refine ⟨rfl, ?_⟩
      rw [decide_eq_true rfl]
      walk_at "rd"
      exact kq _ fun p o _ ho => s1 p o ho
end
end Sw
namespace Sw
open PySem PySem.Spec PyProof.Rows L2
local macro_rules | `(tactic| walk_at "hp") => `(tactic| first
  | (with_reducible assumption) | (with_reducible exact upd_same)
  | ((with_reducible refine' upd_old ?q1 ?q2); (case q1 => (with_reducible assumption)); (case q2 => walk_at "hp"))
  | ((with_reducible refine' Same.at ?q1 ?q2); (case q1 => (with_reducible assumption)); (case q2 => walk_at "hp"))
  | ((with_reducible refine' upd_skip ?q1 ?q2); (case q1 => walk_at "ne"); (case q2 => walk_at "hp"))
  | fail)
local macro_rules | `(tactic| walk_at "ne") => `(tactic| first
  | (with_reducible assumption) | (with_reducible exact Ne.symm (by assumption))
  | ((with_reducible refine' ne_of_none ?q1 ?q2); (case q2 => (with_reducible assumption)); (case q1 => walk_at "hp"))
  | fail)
local macro_rules | `(tactic| walk_at "ci") => `(tactic| first | assumption | (show (0 : Int) < _; first | decide | (with_reducible omega)) | exact ⟨by decide, by decide⟩ | exact .inl ⟨by decide, by decide⟩ | exact .inr ⟨by decide, by decide⟩)
local macro_rules | `(tactic| walk_at "ln") => `(tactic| first | (with_reducible assumption) | (with_reducible omega) | (simp only [List.length_append, List.length_take, List.length_drop, List.length_reverse, List.length_cons, List.length_nil]; with_reducible omega))
local macro_rules | `(tactic| walk_at "rd1") => `(tactic| first
  | (with_reducible refine i_seq ?_) | (with_reducible refine i_asg ?_) | (with_reducible refine i_ret ?_) | (with_reducible refine i_name ?_) | ((with_reducible refine' i_var ?q1 ?_); (case q1 => exact rfl)) | (with_reducible refine i_c ?_) | (with_reducible refine i_op ?_) | (with_reducible refine i_un ?_)
  | (with_reducible refine i_rI0 ?_) | (with_reducible refine i_cb ?_) | (with_reducible refine i_cons ?_) | (with_reducible refine i_nil ?_) | (with_reducible refine i_call ?_) | (with_reducible refine i_if ?_) | (with_reducible refine i_ifE ?_) | (with_reducible refine i_test ?_) | (with_reducible refine i_bl ?_)
  | (with_reducible refine i_and ?_) | (with_reducible refine i_or ?_) | (with_reducible refine i_not ?_) | (with_reducible refine i_lst ?_) | (with_reducible refine i_tup ?_) | (with_reducible refine i_next ?_) | (with_reducible refine i_drop ?_) | (with_reducible refine i_sub ?_)
  | (with_reducible refine i_bm ?_) | (with_reducible refine i_sl ?_) | (with_reducible refine i_part ?_) | (with_reducible refine i_nopart ?_) | (with_reducible refine i_exI ?_) | (with_reducible refine i_chain ?_) | ((with_reducible refine' i_aug ?q1 ?_); (case q1 => exact rfl)) | (with_reducible refine i_ip ?_)
  | (with_reducible refine i_par ?_) | (with_reducible refine i_pair ?_) | (with_reducible refine i_andV ?_) | (with_reducible refine i_orV ?_) | (with_reducible refine i_notV ?_) | (with_reducible refine i_m1 ?_) | (with_reducible refine i_str ?_)
  | (with_reducible refine iteF ?_) | (with_reducible refine iteT ?_) | (with_reducible refine iteNT ?_) | (with_reducible refine iteNF ?_) | (with_reducible refine i_tyS ?_) | (with_reducible refine i_tB ?_) | (with_reducible refine i_retN ?_) | (with_reducible refine i_par3 ?_) | (with_reducible refine i_trip ?_) | (with_reducible refine i_gCons ?_) | (with_reducible refine i_gNil ?_) | (with_reducible refine i_lstRg ?_) | (with_reducible refine i_rg1 ?_)
  | (with_reducible refine i_lc ?_) | (with_reducible refine i_for ?_) | (with_reducible refine i_iList ?_) | (with_reducible refine i_iTup ?_) | (with_reducible refine i_iStr ?_) | (with_reducible refine i_iRng1 ?_) | (with_reducible refine i_iEnS ?_)
  | ((with_reducible refine' i_ixTH ?q1 ?q2 ?_); (case q1 => walk_at "hp"); (case q2 => exact rfl))
  | ((with_reducible refine' i_ixLH ?q1 ?q2 ?_); (case q1 => walk_at "hp"); (case q2 => exact rfl))
  | ((with_reducible refine i_addS ?q1 ?_); (case q1 => walk_at "ln")) | ((with_reducible refine i_lenSS ?q1 ?_); (case q1 => walk_at "ln")) | ((with_reducible refine i_slFrom ?q1 ?q2 ?_); (case q1 => walk_at "ln"); (case q2 => walk_at "ln")) | ((with_reducible refine i_slTo ?q1 ?q2 ?_); (case q1 => walk_at "ln"); (case q2 => walk_at "ln"))
  | ((with_reducible refine' i_tyL ?q1 ?_); (case q1 => walk_at "hp"))
  | ((with_reducible refine' i_gTupH ?q1 ?q2 ?_); (case q1 => walk_at "hp"); (case q2 => exact rfl))
  | (with_reducible refine i_dnew ?_) | (with_reducible refine i_init ?_) | (with_reducible refine i_fst ?_) | (with_reducible refine i_mk ?_) | (with_reducible refine i_raise ?_) | (with_reducible refine i_callS ?_) | (with_reducible refine i_kwS ?_)
  | (with_reducible refine i_revT ?_) | (with_reducible refine i_kw ?_) | ((with_reducible refine' ⟨_, _, rfl, sqT_of ?q1, ?_⟩); (case q1 => walk_at "hp"))
  | (with_reducible refine i_revS ?_) | ((with_reducible refine i_revSS ?q1 ?_); (case q1 => walk_at "ln"))
  | (with_reducible refine i_startS ?_) | (with_reducible refine i_inSg ?_) | (with_reducible refine i_absN ?_) | (with_reducible refine i_min2 ?_) | (with_reducible refine i_max2 ?_) | (with_reducible refine i_min3 ?_) | (with_reducible refine i_intN ?_) | (with_reducible refine i_intNB ?_)
  | ((with_reducible refine' i_lenL ?q1 ?_); (case q1 => walk_at "hp")) | ((with_reducible refine' i_lenT ?q1 ?_); (case q1 => walk_at "hp"))
  | (with_reducible refine i_eqI ?_) | (with_reducible refine i_neI ?_) | (with_reducible refine i_eqS ?_) | (with_reducible refine i_neS ?_) | (with_reducible refine i_isNoI ?_) | (with_reducible refine i_isNoN ?_) | (with_reducible refine i_isNoR ?_)
  | ((with_reducible refine i_pow ?q1 ?q2 ?q3 ?_); (case q1 => decide); (case q2 => decide); (case q3 => (with_reducible omega)))
  | ((with_reducible refine i_rI ?q1 ?_); (case q1 => walk_at "ci"))
  | (with_reducible refine Or.inl ⟨_, rfl, ?_⟩) | (with_reducible refine Or.inr ⟨_, rfl, ?_⟩) | (with_reducible refine ⟨_, rfl, ?_⟩) | (with_reducible refine ⟨_, _, rfl, ?_⟩) | (with_reducible refine ⟨_, _, rfl, rfl, ?_⟩)
  | ((with_reducible refine' ⟨_, _, rfl, Or.inl (sqL_of ?q1), ?_⟩); (case q1 => walk_at "hp")) | ((with_reducible refine' ⟨_, _, rfl, Or.inr (sqT_of ?q1), ?_⟩); (case q1 => walk_at "hp")) | fail)
local macro_rules | `(tactic| walk_at "rd") => `(tactic| repeat' walk_at "rd1")

open Wd (rot rlen turn)
theorem isC_nat {K : PySem.W.Frag} {H : Hp} (n : Nat) : IsC K H (.int (n : Int)) true := .inl ⟨n, rfl, by simp⟩
theorem small_negs : ∀ m : Nat, m < 101 → Small 0 1000 (.int (-(m : Int))) := by
  have a1 : ∀ m : Nat, m < 101 → (PyData.int (-(m : Int))).weight ≤ 1000 := by decide +kernel
  have a2 : ∀ m : Nat, m < 101 → (PyData.int (-(m : Int))).showable = true := by decide +kernel
  have a3 : ∀ m : Nat, m < 101 → (PyData.int (-(m : Int))).intsShort 13 = true := by decide +kernel
  exact fun m hm => ⟨by simp only [PyData.canLay0], by simp only [PyData.depth]; omega, a1 m hm, a2 m hm, a3 m hm, by simp only [PyData.hasDict]⟩
theorem BC.neg {H : Hp} {i : Int} (h : i < 0) (h2 : -100 ≤ i) : BC H (.int i) := by
  have := small_negs (-i).toNat (by omega)
  rw [show -(((-i).toNat : Nat) : Int) = i by omega] at this
  exact ⟨.inr (.inr (.inr (.inl ⟨i, rfl, this⟩))), fun j e => by cases e; exact h⟩
/-- a count or none -/
def CV (H : Hp) (v : V) (b : Bool) : Prop := (∃ n : Nat, v = .int (n : Int) ∧ n ≤ 100 ∧ b = true) ∨ (BC H v ∧ b = false)
theorem CV.vl {H : Hp} {v : V} {b : Bool} (h : CV H v b) : Vl H v := by
  rcases h with ⟨n, rfl, hn, _⟩ | h
  · exact .inr (.inr (.inr (.inl ⟨_, rfl, small_nat (by omega)⟩)))
  · exact h.1.1
theorem CV.isC {K : PySem.W.Frag} {H : Hp} {v : V} {b : Bool} (h : CV H v b) : IsC K H v b := by
  rcases h with ⟨n, rfl, hn, rfl⟩ | ⟨h, rfl⟩
  · exact isC_nat n
  · exact h.isC
theorem CV.n {H : Hp} {v : V} {b : Bool} (h : CV H v b) : b = true → ∀ n : Nat, v = .int (n : Int) → n ≤ 500 := by
  intro e n ev
  rcases h with ⟨m, rfl, hm, _⟩ | ⟨h, e2⟩
  · cases ev; omega
  · rw [e2] at e; cases e
theorem CV.same {H H' : Hp} {v : V} {b : Bool} (h : CV H v b) (s : Same H H') : CV H' v b := h.imp id fun h => ⟨h.1.same s, h.2⟩
theorem Cp.cv {H H' : Hp} {x y : V} {b : Bool} (c : Cp H H' x y) (s : Same H H') (h : CV H x b) : CV H' y b := by
  rcases h with ⟨n, rfl, hn, e⟩ | h
  · rcases c with ⟨rfl, _⟩ | ⟨a, a', e, q, _⟩
    · exact .inl ⟨n, rfl, hn, by assumption⟩
    · cases q
  · exact .inr ⟨c.bc s h.1, h.2⟩
theorem BT.nl {H : Hp} {v : V} (h : BT H v) : ∀ x, v = .str (S x) → x.length ≤ 1000 := by
  intro x e
  obtain ⟨⟨a, y, rfl, h1, h2⟩ | h | ⟨b, rfl⟩ | ⟨i, rfl, _⟩ | ⟨l, rfl, h1, h2⟩ | ⟨a, xs, rfl, h1, _⟩ | ⟨a, rfl, h1⟩, hz⟩ := h
  · cases e
  · rw [h] at e; cases e
  · cases e
  · cases e
  · rw [← S_inj.mp (V.str.inj e)]; exact h2
  · cases e
  · cases e
theorem nl_str {l : List Nat} (h : l.length ≤ 1000) : ∀ x, V.str (S l) = .str (S x) → x.length ≤ 1000 := by
  intro x e
  rw [← S_inj.mp (V.str.inj e)]; exact h
theorem text_true {K : PySem.W.Frag} {H : Hp} {l : List Nat} (z : azB l = true) (h : l.length ≤ 1000) : IsT K H (.str (S l)) true := by
  have := isT_str (K := K) (H := H) l (by omega)
  rwa [z] at this
/-- _law_refusals_right(box, letters, left, right) -/
def spRfs : Sp := fun vs H Q _ => ∃ (b lp : Addr) (c1 c2 : Nat) (l r : List Nat) (d : Int), vs = [.ref b, .ref lp, .str (S l), .str (S r)] ∧ H lp = some (.lst [.str (S [c1]), .str (S [c2])]) ∧ azB [c1] = true ∧ azB [c2] = true ∧ azB l = true ∧ azB r = true ∧ l.length ≤ 25 ∧ r.length ≤ 25 ∧ BoxAt H b d ∧ d + 40 ≤ 1000000 ∧
  ∀ (H' : Hp), BoxAt H' b (d + 40) → SB b H H' → Q (.bl true) H'
section
variable {P : Program} {w : World} {K : PySem.W.Frag} {mg : Str → Option Value} {base : Heap} {f : Addr} {fd : FuncData}
theorem ok_rfs (F : Fun K "_law_refusals_right" "_law_refusals_right" s__law_refusals_right f fd) (z : Z mg) (c__law_take : Cal P w K mg base "_law_take" ["box", "many"] 1 spTake) (c__law_bad_text : Cal P w K mg base "_law_bad_text" ["box", "letters"] 3 spBad) (c__law_copy : Cal P w K mg base "_law_copy" ["value"] 1 spCopy) (c__law_told : Cal P w K mg base "_law_told" ["turn", "parts"] 6 (spTold K)) (q__law_refuses : CalG P w K mg base "_law_refuses" ["turn", "parts", "kind", "place"] 7 (spRef K)) : FnG P w K mg base CX0 8 f fd ["box", "letters", "left", "right"] spRfs := by
  refine Sw.Fun.okG0 F sc__law_refusals_right (fun vs H Q E h => ?_) (fun cdv A outer s H vs Q E hr quiet h => ?_)
  · obtain ⟨b, lp, c1, c2, l, r, d, rfl, _⟩ := h; rfl
  · obtain ⟨b, lp, c1, c2, l, r, d, rfl, hL, z1, z2, zl, zr, ll, lr, B, hd, k⟩ := h
    have nlb := B.ne_lst hL
    refine ⟨_, (pss_cons (ps_par3 (i := 4) (j := 5) (l := 6) rfl sc__law_refusals_right.nd rfl rfl rfl (by decide) (by decide) (by decide) rfl rfl rfl (pa_cons (pe_op op_addS (pv 2) (pe_ix ix_list (pv 1) pe_int (fun _ _ => rfl))) (pa_cons (pe_cal c__law_bad_text hr (pa_cons (pv 0) (pa_cons (pv 1) pa_nil))) (pa_cons (pe_cal c__law_bad_text hr (pa_cons (pv 0) (pa_cons (pv 1) pa_nil))) pa_nil))) (by rfl))
      (pss_cons (ps_set (i := 7) sc__law_refusals_right.nd rfl (.inl rfl) (pe_ix ix_list (pe_lst (pa_cons (pe_un un_neg pe_int) (pa_cons pe_bl (pa_cons pe_non (pa_cons (pe_strS (l := [51]) (by decide +kernel)) (pa_cons (pe_lst (pa_cons pe_int pa_nil)) (pa_cons (pe_op op_sub (pe_op op_sub pe_int pe_int) (pe_cal c__law_take hr (pa_cons (pv 0) (pa_cons pe_int pa_nil)))) pa_nil))))))) (pe_cal c__law_take hr (pa_cons (pv 0) (pa_cons pe_int pa_nil))) (fun _ _ => rfl)))
      (pss_cons (ps_for PassesOwn.never rfl (pi_range1 (by rfl) z.range (pa_cons pe_int pa_nil)) (pg_name (i := 8) sc__law_refusals_right.nd rfl (.inl rfl))
        (pss_cons (ps_for PassesOwn.never rfl (pi_list (pe_lst (pa_cons (pe_cal c__law_take hr (pa_cons (pv 0) (pa_cons pe_int pa_nil))) (pa_cons (pv 7) pa_nil)))) (pg_name (i := 9) sc__law_refusals_right.nd rfl (.inl rfl))
          (pss_cons (ps_if (pt_not (pt_val (pe_calG q__law_refuses hr quiet (pa_cons (pv 8) (pa_cons (pe_lst (pa_cons (pe_cal c__law_copy hr (pa_cons (pv 5) pa_nil)) (pa_cons (pe_cal c__law_copy hr (pa_cons (pv 6) pa_nil)) (pa_cons (pe_cal c__law_copy hr (pa_cons (pv 9) pa_nil)) pa_nil)))) (pa_cons (pe_strS (l := [116, 101, 120, 116]) (by decide +kernel)) (pa_cons pe_int pa_nil)))))))
            (pss_one (ps_ret pe_bl))
            pss_nil)
          (pss_cons (ps_if (pt_not (pt_val (pe_calG q__law_refuses hr quiet (pa_cons (pv 8) (pa_cons (pe_lst (pa_cons (pe_cal c__law_copy hr (pa_cons (pv 5) pa_nil)) (pa_cons (pv 4) (pa_cons (pe_cal c__law_copy hr (pa_cons (pv 9) pa_nil)) pa_nil)))) (pa_cons (pe_strS (l := [116, 101, 120, 116]) (by decide +kernel)) (pa_cons pe_int pa_nil)))))))
            (pss_one (ps_ret pe_bl))
            pss_nil)
          (pss_cons (ps_if (pt_not (pt_val (pe_calG q__law_refuses hr quiet (pa_cons (pv 8) (pa_cons (pe_lst (pa_cons (pv 4) (pa_cons (pe_cal c__law_copy hr (pa_cons (pv 6) pa_nil)) (pa_cons (pe_cal c__law_copy hr (pa_cons (pv 9) pa_nil)) pa_nil)))) (pa_cons (pe_strS (l := [116, 101, 120, 116]) (by decide +kernel)) (pa_cons pe_int pa_nil)))))))
            (pss_one (ps_ret pe_bl))
            pss_nil)
          (pss_one (ps_if (pt_not (pt_val (pe_calG q__law_refuses hr quiet (pa_cons (pv 8) (pa_cons (pe_lst (pa_cons (pe_strS (l := []) (by decide +kernel)) (pa_cons (pe_strS (l := []) (by decide +kernel)) (pa_cons (pe_cal c__law_copy hr (pa_cons (pv 9) pa_nil)) pa_nil)))) (pa_cons (pe_strS (l := [116, 101, 120, 116]) (by decide +kernel)) (pa_cons pe_int pa_nil)))))))
            (pss_one (ps_ret pe_bl))
            pss_nil))))))
        (pss_cons (ps_if (pt_not (pt_val (pe_calG q__law_refuses hr quiet (pa_cons (pv 8) (pa_cons (pe_lst (pa_cons (pe_strS (l := []) (by decide +kernel)) (pa_cons (pe_cal c__law_copy hr (pa_cons (pv 6) pa_nil)) (pa_cons pe_int pa_nil)))) (pa_cons (pe_strS (l := [116, 101, 120, 116]) (by decide +kernel)) (pa_cons pe_int pa_nil)))))))
          (pss_one (ps_ret pe_bl))
          pss_nil)
        (pss_cons (ps_if (pt_not (pt_val (pe_calG q__law_refuses hr quiet (pa_cons (pv 8) (pa_cons (pe_lst (pa_cons (pv 4) (pa_cons (pv 3) (pa_cons (pe_cal c__law_copy hr (pa_cons (pv 7) pa_nil)) pa_nil)))) (pa_cons (pe_strS (l := [99, 111, 117, 110, 116]) (by decide +kernel)) (pa_cons pe_int pa_nil)))))))
          (pss_one (ps_ret pe_bl))
          pss_nil)
        (pss_one (ps_if (PW.pt (pw_or (pt_cmpR (op_neD hr.units) (pe_cal c__law_told hr (pa_cons (pv 8) (pa_cons (pe_lst (pa_cons (pv 4) (pa_cons (pe_strS (l := []) (by decide +kernel)) (pa_cons pe_int pa_nil)))) pa_nil))) (pe_lst pa_nil) (nomark _)) (pw_or1 (pt_cmpR (op_neD hr.units) (pe_cal c__law_told hr (pa_cons (pv 8) (pa_cons (pe_lst (pa_cons (pe_strS (l := []) (by decide +kernel)) (pa_cons (pv 4) (pa_cons pe_int pa_nil)))) pa_nil))) (pe_lst pa_nil) (nomark _)))))
          (pss_one (ps_ret pe_bl))
          pss_nil))))))
      (pss_one (ps_ret pe_bl))))), ?_⟩
    walk_at "rd"
    refine ⟨b, lp, c1, c2, d, rfl, hL, z1, z2, B, by omega, fun bad H1 bb1 B1 s1 => ?_⟩
    walk_at "rd"
    refine ⟨b, lp, c1, c2, _, rfl, s1 _ _ nlb hL, z1, z2, B1, by omega, fun wor H2 bw2 B2 s2 => ?_⟩
    have bb2 : BT H2 bad := ⟨bb1.1.sb B1 s2, bb1.2⟩
    have s12 := s1.trans s2
    walk_at "rd"
    refine i_rU ?_
    walk_at "rd"
    refine ⟨Nat.le_of_ble_eq_true rfl, fun p3 n3 => ?_⟩
    have t3 := same_upd (o := .lst [V.int 3]) n3
    have e3 := upd_same (H := H2) (a := p3) (o := .lst [V.int 3])
    have p3b := B2.ne_new n3
    have B3 := B2.same t3
    have s13 := s12.trans (SB.of t3)
    have bb3 := bb2.same t3
    have bw3 := bw2.same t3
    generalize upd H2 p3 (.lst [V.int 3]) = H3 at *
    walk_at "rd"
    refine ⟨b, 99, _, rfl, B3, by omega, by omega, by omega, fun q4 H4 q40 q41 B4 s4 => ?_⟩
    have e34 := s4 _ _ p3b e3
    have bb4 : BT H4 bad := ⟨bb3.1.sb B3 s4, bb3.2⟩
    have bw4 : BT H4 wor := ⟨bw3.1.sb B3 s4, bw3.2⟩
    have s14 := s13.trans s4
    walk_at "rd"
    refine ⟨Nat.le_of_ble_eq_true rfl, fun p5 n5 => ?_⟩
    have t5 := same_upd (o := .lst [V.int (-1), V.bl true, V.non, V.str (S [51]), V.ref p3, V.int (0 - 1 - q4)]) n5
    have e5 := upd_same (H := H4) (a := p5) (o := .lst [V.int (-1), V.bl true, V.non, V.str (S [51]), V.ref p3, V.int (0 - 1 - q4)])
    have p5b := B4.ne_new n5
    have e35 := t5 _ _ e34
    have B5 := B4.same t5
    have bb5 := bb4.same t5
    have bw5 := bw4.same t5
    have s15 := s14.trans (SB.of t5)
    generalize upd H4 p5 (.lst [V.int (-1), V.bl true, V.non, V.str (S [51]), V.ref p3, V.int (0 - 1 - q4)]) = H5 at *
    walk_at "rd"
    refine ⟨b, 6, _, rfl, B5, by omega, by omega, by omega, fun q6 H6 q60 q61 B6 s6 => ?_⟩
    have e36 := s6 _ _ p3b e35
    have e6 := s6 _ _ p5b e5
    have bb6 : BT H6 bad := ⟨bb5.1.sb B5 s6, bb5.2⟩
    have bw6 : BT H6 wor := ⟨bw5.1.sb B5 s6, bw5.2⟩
    have s16 := s15.trans s6
    obtain ⟨num, en, bn6⟩ : ∃ wr, ([V.int (-1), V.bl true, V.non, V.str (S [51]), V.ref p3, V.int (0 - 1 - q4)] : List V)[q6.toNat]? = some wr ∧ BC H6 wr := by
      have hj : q6 = 0 ∨ q6 = 1 ∨ q6 = 2 ∨ q6 = 3 ∨ q6 = 4 ∨ q6 = 5 := by omega
      rcases hj with rfl | rfl | rfl | rfl | rfl | rfl
      · exact ⟨_, rfl, .neg (by omega) (by omega)⟩
      · exact ⟨_, rfl, .inr (.inr (.inl ⟨_, rfl⟩)), fun i e => by cases e⟩
      · exact ⟨_, rfl, .inr (.inl rfl), fun i e => by cases e⟩
      · exact ⟨_, rfl, .inr (.inr (.inr (.inr (.inl ⟨[51], rfl, by simp, by simp⟩)))), fun i e => by cases e⟩
      · exact ⟨_, rfl, .inl ⟨p3, _, rfl, e36, .inr ⟨3, rfl, by omega⟩⟩, fun i e => by cases e⟩
      · exact ⟨_, rfl, .neg (by omega) (by omega)⟩
    refine i_ixLv e6 q60 en ?_
    walk_at "rd"
    refine i_rng (by omega) (by omega) ?_
    have zw : azB (l ++ [c1]) = true := by rw [azB_app, zl, z1]; rfl
    have lw : (l ++ [c1]).length ≤ 1000 := by rw [List.length_append]; simp only [List.length_cons, List.length_nil]; omega
    generalize hw : l ++ [c1] = wd at *
    have wne : V.str (S wd) ≠ .str (S []) := by
      intro e
      rw [S_inj.mp (V.str.inj e)] at hw
      simp at hw
    refine go_for walk_rangeZ (fun i σ H7 => ∃ (u8 u9 : Option V), σ = [some (.ref b), some (.ref lp), some (.str (S l)), some (.str (S r)), some (.str (S wd)), some bad, some wor, some num, u8, u9] ∧ BoxAt H7 b (d + 30 + i) ∧ BT H7 bad ∧ BT H7 wor ∧ BC H7 num ∧ SB b H6 H7) ⟨_, _, rfl, B6.mono (by omega), bb6, bw6, bn6, SB.refl _⟩ (fun _ _ _ _ _ => trivial) (fun i x σ H7 HY hi h y => ?_) (fun σ H7 h => ?_)
    · obtain ⟨u8, u9, rfl, B7, bb7, bw7, bn7, s7⟩ := h
      obtain ⟨rfl, rfl⟩ := y
      walk_at "rd"
      refine ⟨b, 9, _, rfl, B7, by omega, by omega, by omega, fun q8 H8 q80 q81 B8 s8 => ?_⟩
      have bb8 : BT H8 bad := ⟨bb7.1.sb B7 s8, bb7.2⟩
      have bw8 : BT H8 wor := ⟨bw7.1.sb B7 s8, bw7.2⟩
      have bn8 : BC H8 num := ⟨bn7.1.sb B7 s8, bn7.2⟩
      walk_at "rd"
      refine ⟨Nat.le_of_ble_eq_true rfl, fun p9 n9 => ?_⟩
      have t9 := same_upd (o := .lst [V.int q8, num]) n9
      have e9 := upd_same (H := H8) (a := p9) (o := .lst [V.int q8, num])
      have B9 := B8.same t9
      have bb9 := bb8.same t9
      have bw9 := bw8.same t9
      have bn9 := bn8.same t9
      have s79 := s7.trans (s8.trans (SB.of t9))
      generalize upd H8 p9 (.lst [V.int q8, num]) = H9 at *
      walk_at "rd"
      refine ⟨⟨_, sqL_of e9⟩, ?_⟩
      refine go_for (walk_list (xs := [.int q8, num])) (fun j σ HA => ∃ (u9 : Option V), σ = [some (.ref b), some (.ref lp), some (.str (S l)), some (.str (S r)), some (.str (S wd)), some bad, some wor, some num, some (.int (i : Int)), u9] ∧ Same H9 HA) ⟨_, rfl, Same.refl _⟩ (fun j σ HA _ h => ?_) (fun j x σ HZ HA hj h y => ?_) (fun σ HA h => ?_)
      · obtain ⟨u, rfl, sA⟩ := h
        exact sqL_of (sA _ _ e9)
      · obtain ⟨u, rfl, sA⟩ := h
        obtain ⟨rfl, hx⟩ := y
        obtain ⟨bm, cx⟩ : ∃ bm, CV HA x bm := by
          have hj2 : j = 0 ∨ j = 1 := by simp only [List.length_cons, List.length_nil] at hj; omega
          rcases hj2 with rfl | rfl
          · cases hx
            exact ⟨true, .inl ⟨q8.toNat, by rw [Int.toNat_of_nonneg q80], by omega, rfl⟩⟩
          · cases hx
            exact ⟨false, .inr ⟨bn9.same sA, rfl⟩⟩
        have bbA := bb9.same sA
        have bwA := bw9.same sA
        walk_at "rd"
        refine ⟨bad, rfl, bbA.1, fun y1 HB sB k1 => ?_⟩
        walk_at "rd"
        refine ⟨wor, rfl, (bwA.same sB).1, fun y2 HC sC k2 => ?_⟩
        have sAC := sB.trans sC
        walk_at "rd"
        refine ⟨x, rfl, (cx.same sAC).vl, fun y3 HD sD k3 => ?_⟩
        have sAD := sAC.trans sD
        walk_at "rd"
        refine ⟨Nat.le_of_ble_eq_true rfl, fun pa na => ?_⟩
        have ta := same_upd (o := .lst [y1, y2, y3]) na
        have ea := upd_same (H := HD) (a := pa) (o := .lst [y1, y2, y3])
        have v1 := ((k1.bt sB bbA).same (sC.trans sD)).same ta
        have v2 := ((k2.bt sC (bwA.same sB)).same sD).same ta
        have v3 := (k3.cv sD (cx.same sAC)).same ta
        have sAE := sAD.trans ta
        generalize upd HD pa (.lst [y1, y2, y3]) = HE at *
        walk_at "rd"
        refine ⟨i, pa, y1, y2, y3, y1, 0, tText, false, false, bm, rfl, ea, v1.isT, v2.isT, v3.isC, v1.nl, v2.nl, v3.n, rfl, by omega, .inl ⟨rfl, rfl, .inl rfl⟩, v1.1, fun HF kF => ?_⟩
        have sAF := k1.fresh.kept sAE kF
        walk_at "rd"
        refine ⟨bad, rfl, (bbA.same sAF).1, fun y4 HG sG k4 => ?_⟩
        have sAG := sAF.trans sG
        walk_at "rd"
        refine ⟨x, rfl, (cx.same sAG).vl, fun y5 HI sI k5 => ?_⟩
        have sAI := sAG.trans sI
        walk_at "rd"
        refine ⟨Nat.le_of_ble_eq_true rfl, fun pb nb => ?_⟩
        have tb := same_upd (o := .lst [y4, .str (S wd), y5]) nb
        have eb := upd_same (H := HI) (a := pb) (o := .lst [y4, .str (S wd), y5])
        have v4 := ((k4.bt sG (bbA.same sAF)).same sI).same tb
        have v5 := (k5.cv sI (cx.same sAG)).same tb
        have sAJ := sAI.trans tb
        generalize upd HI pb (.lst [y4, .str (S wd), y5]) = HJ at *
        walk_at "rd"
        refine ⟨i, pb, y4, .str (S wd), y5, y4, 0, tText, false, true, bm, rfl, eb, v4.isT, text_true zw lw, v5.isC, v4.nl, nl_str lw, v5.n, rfl, by omega, .inl ⟨rfl, rfl, .inl rfl⟩, v4.1, fun HK kK => ?_⟩
        have sAK := (k4.fresh.back sAF).kept sAJ kK
        walk_at "rd"
        refine ⟨wor, rfl, (bwA.same sAK).1, fun y6 HL sL k6 => ?_⟩
        have sAL := sAK.trans sL
        walk_at "rd"
        refine ⟨x, rfl, (cx.same sAL).vl, fun y7 HM sM k7 => ?_⟩
        have sAM := sAL.trans sM
        walk_at "rd"
        refine ⟨Nat.le_of_ble_eq_true rfl, fun pc nc => ?_⟩
        have tc := same_upd (o := .lst [.str (S wd), y6, y7]) nc
        have ec := upd_same (H := HM) (a := pc) (o := .lst [.str (S wd), y6, y7])
        have v6 := ((k6.bt sL (bwA.same sAK)).same sM).same tc
        have v7 := (k7.cv sM (cx.same sAL)).same tc
        have sAN := sAM.trans tc
        generalize upd HM pc (.lst [.str (S wd), y6, y7]) = HN at *
        walk_at "rd"
        refine ⟨i, pc, .str (S wd), y6, y7, y6, 1, tText, true, false, bm, rfl, ec, text_true zw lw, v6.isT, v7.isC, nl_str lw, v6.nl, v7.n, rfl, by omega, .inr (.inl ⟨rfl, rfl, rfl, rfl⟩), v6.1, fun HO kO => ?_⟩
        have sAO := (k6.fresh.back sAK).kept sAN kO
        walk_at "rd"
        refine ⟨x, rfl, (cx.same sAO).vl, fun y8 HP sP k8 => ?_⟩
        have sAP := sAO.trans sP
        walk_at "rd"
        refine ⟨Nat.le_of_ble_eq_true rfl, fun pd nd => ?_⟩
        have td := same_upd (o := .lst [.str (S []), .str (S []), y8]) nd
        have ed := upd_same (H := HP) (a := pd) (o := .lst [.str (S []), .str (S []), y8])
        have v8 := (k8.cv sP (cx.same sAO)).same td
        have sAQ := sAP.trans td
        generalize upd HP pd (.lst [.str (S []), .str (S []), y8]) = HQ at *
        have ve : Vl HQ (.str (S [])) := .inr (.inr (.inr (.inr (.inl ⟨[], rfl, by simp, by simp⟩))))
        walk_at "rd"
        refine ⟨i, pd, .str (S []), .str (S []), y8, .str (S []), 0, tText, true, true, bm, rfl, ed, text_true (by decide) (by simp), text_true (by decide) (by simp), v8.isC, nl_str (by simp), nl_str (by simp), v8.n, rfl, by omega, .inl ⟨rfl, rfl, .inr ⟨rfl, rfl, rfl, rfl⟩⟩, ve, fun HR kR => ?_⟩
        have sAR : Same HA HR := fun p o e => kR p o (.inl (by intro q; cases q)) (sAQ _ _ e)
        walk_at "rd"
        exact sA.trans sAR
      · obtain ⟨u, rfl, sA⟩ := h
        have bbA := bb9.same sA
        have bwA := bw9.same sA
        have bnA := bn9.same sA
        walk_at "rd"
        refine ⟨wor, rfl, bwA.1, fun y1 HB sB k1 => ?_⟩
        walk_at "rd"
        refine ⟨Nat.le_of_ble_eq_true rfl, fun pa na => ?_⟩
        have ta := same_upd (o := .lst [.str (S []), y1, .int 1]) na
        have ea := upd_same (H := HB) (a := pa) (o := .lst [.str (S []), y1, .int 1])
        have v1 := (k1.bt sB bwA).same ta
        have sAC := sB.trans ta
        generalize upd HB pa (.lst [.str (S []), y1, .int 1]) = HC at *
        walk_at "rd"
        refine ⟨i, pa, .str (S []), y1, .int 1, y1, 1, tText, true, false, true, rfl, ea, text_true (by decide) (by simp), v1.isT, isC_nat 1, nl_str (by simp), v1.nl, (fun _ n e => by have := V.int.inj e; omega), rfl, by omega, .inr (.inl ⟨rfl, rfl, rfl, rfl⟩), v1.1, fun HD kD => ?_⟩
        have sAD := k1.fresh.kept sAC kD
        walk_at "rd"
        refine ⟨num, rfl, (bnA.same sAD).1, fun y2 HE sE k2 => ?_⟩
        have sAE := sAD.trans sE
        walk_at "rd"
        refine ⟨Nat.le_of_ble_eq_true rfl, fun pb nb => ?_⟩
        have tb := same_upd (o := .lst [.str (S wd), .str (S r), y2]) nb
        have eb := upd_same (H := HE) (a := pb) (o := .lst [.str (S wd), .str (S r), y2])
        have v2 := (k2.bc sE (bnA.same sAD)).same tb
        have sAF := sAE.trans tb
        generalize upd HE pb (.lst [.str (S wd), .str (S r), y2]) = HF at *
        walk_at "rd"
        refine ⟨i, pb, .str (S wd), .str (S r), y2, y2, 2, tCount, true, true, false, rfl, eb, text_true zw lw, text_true zr (by omega), v2.isC, nl_str lw, nl_str (by omega), (fun e => by cases e), rfl, by omega, .inr (.inr ⟨rfl, rfl, rfl, rfl, .inl wne, rfl⟩), v2.1, fun HG kG => ?_⟩
        have sAG := (k2.fresh.back sAD).kept sAF kG
        walk_at "rd"
        refine ⟨Nat.le_of_ble_eq_true rfl, fun pc nc => ?_⟩
        have tc := same_upd (o := .lst [.str (S wd), .str (S []), .int 0]) nc
        have ec := upd_same (H := HG) (a := pc) (o := .lst [.str (S wd), .str (S []), .int 0])
        have sAH := sAG.trans tc
        generalize upd HG pc (.lst [.str (S wd), .str (S []), .int 0]) = HH at *
        walk_at "rd"
        refine ⟨i, pc, .str (S wd), .str (S []), .int 0, true, true, true, rfl, ec, text_true zw lw, text_true (by decide) (by simp), isC_nat 0, nl_str lw, nl_str (by simp), (fun _ n e => by have := V.int.inj e; omega), fun _ _ _ _ t HI sI nt et => ?_, fun e => ?_, (fun _ e => by cases e), (fun _ _ _ e => by cases e)⟩
        · have sAI := sAH.trans sI
          walk_at "rd"
          refine ⟨Nat.zero_le _, fun pe ne => ?_⟩
          have te := same_upd (o := .lst []) ne
          have ee := upd_same (H := HI) (a := pe) (o := .lst [])
          have et2 := te _ _ et
          have sAJ := sAI.trans te
          generalize upd HI pe (.lst []) = HJ at *
          refine i_neD (.lst (sqL_of et2) .nil) (.lst (sqL_of ee) .nil) (small_lst (n := 0) (w := 0) (ds := []) (fun d h => by cases h)) (small_lst (n := 0) (w := 0) (ds := []) (fun d h => by cases h)) (by omega) (by omega) ?_
          rw [show PyData.eqv (.list []) (.list []) = true from rfl]
          walk_at "rd"
          refine ⟨Nat.le_of_ble_eq_true rfl, fun pf nf => ?_⟩
          have tf := same_upd (o := .lst [.str (S []), .str (S wd), .int 2]) nf
          have ef := upd_same (H := HJ) (a := pf) (o := .lst [.str (S []), .str (S wd), .int 2])
          have sAK := sAJ.trans tf
          generalize upd HJ pf (.lst [.str (S []), .str (S wd), .int 2]) = HK at *
          walk_at "rd"
          refine ⟨i, pf, .str (S []), .str (S wd), .int 2, true, true, true, rfl, ef, text_true (by decide) (by simp), text_true zw lw, isC_nat 2, nl_str (by simp), nl_str lw, (fun _ n e => by have := V.int.inj e; omega), fun _ _ _ _ t HL sL nt et => ?_, fun e => ?_, (fun _ e => by cases e), (fun _ _ _ e => by cases e)⟩
          · have sAL := sAK.trans sL
            walk_at "rd"
            refine ⟨Nat.zero_le _, fun pg ng => ?_⟩
            have tg := same_upd (o := .lst []) ng
            have eg := upd_same (H := HL) (a := pg) (o := .lst [])
            have et3 := tg _ _ et
            have sAM := sAL.trans tg
            generalize upd HL pg (.lst []) = HM at *
            refine i_neD (.lst (sqL_of et3) .nil) (.lst (sqL_of eg) .nil) (small_lst (n := 0) (w := 0) (ds := []) (fun d h => by cases h)) (small_lst (n := 0) (w := 0) (ds := []) (fun d h => by cases h)) (by omega) (by omega) ?_
            rw [show PyData.eqv (.list []) (.list []) = true from rfl]
            walk_at "rd"
            have s9M := sA.trans sAM
            exact ⟨(B9.same s9M).mono (by omega), bb9.same s9M, bw9.same s9M, bn9.same s9M, s79.trans (SB.of s9M)⟩
          · exact (e.elim (fun e => by cases e) fun e => wne e.2.2).elim
        · exact (e.elim (fun e => by cases e) fun e => wne e.2.1).elim
    · obtain ⟨u8, u9, rfl, B7, bb7, bw7, bn7, s7⟩ := h
      walk_at "rd"
      exact k _ (B7.mono (by omega)) (s16.trans s7)
end
end Sw
namespace Sw
open PySem PySem.Spec PyProof.Rows L2
local macro_rules | `(tactic| walk_at "hp") => `(tactic| first
  | (with_reducible assumption) | (with_reducible exact upd_same)
  | ((with_reducible refine' upd_old ?q1 ?q2); (case q1 => (with_reducible assumption)); (case q2 => walk_at "hp"))
  | ((with_reducible refine' Same.at ?q1 ?q2); (case q1 => (with_reducible assumption)); (case q2 => walk_at "hp"))
  | ((with_reducible refine' upd_skip ?q1 ?q2); (case q1 => walk_at "ne"); (case q2 => walk_at "hp"))
  | fail)
local macro_rules | `(tactic| walk_at "ne") => `(tactic| first
  | (with_reducible assumption) | (with_reducible exact Ne.symm (by assumption))
  | ((with_reducible refine' ne_of_none ?q1 ?q2); (case q2 => (with_reducible assumption)); (case q1 => walk_at "hp"))
  | fail)
local macro_rules | `(tactic| walk_at "ci") => `(tactic| first | assumption | (show (0 : Int) < _; first | decide | (with_reducible omega)) | exact ⟨by decide, by decide⟩ | exact .inl ⟨by decide, by decide⟩ | exact .inr ⟨by decide, by decide⟩)
local macro_rules | `(tactic| walk_at "ln") => `(tactic| first | (with_reducible assumption) | (with_reducible omega) | (simp only [List.length_append, List.length_take, List.length_drop, List.length_reverse, List.length_cons, List.length_nil]; with_reducible omega))
local macro_rules | `(tactic| walk_at "rd1") => `(tactic| first
  | (with_reducible refine i_seq ?_) | (with_reducible refine i_asg ?_) | (with_reducible refine i_ret ?_) | (with_reducible refine i_name ?_) | ((with_reducible refine' i_var ?q1 ?_); (case q1 => exact rfl)) | (with_reducible refine i_c ?_) | (with_reducible refine i_op ?_) | (with_reducible refine i_un ?_)
  | (with_reducible refine i_rI0 ?_) | (with_reducible refine i_cb ?_) | (with_reducible refine i_cons ?_) | (with_reducible refine i_nil ?_) | (with_reducible refine i_call ?_) | (with_reducible refine i_if ?_) | (with_reducible refine i_ifE ?_) | (with_reducible refine i_test ?_) | (with_reducible refine i_bl ?_)
  | (with_reducible refine i_and ?_) | (with_reducible refine i_or ?_) | (with_reducible refine i_not ?_) | (with_reducible refine i_lst ?_) | (with_reducible refine i_tup ?_) | (with_reducible refine i_next ?_) | (with_reducible refine i_drop ?_) | (with_reducible refine i_sub ?_)
  | (with_reducible refine i_bm ?_) | (with_reducible refine i_sl ?_) | (with_reducible refine i_part ?_) | (with_reducible refine i_nopart ?_) | (with_reducible refine i_exI ?_) | (with_reducible refine i_chain ?_) | ((with_reducible refine' i_aug ?q1 ?_); (case q1 => exact rfl)) | (with_reducible refine i_ip ?_)
  | (with_reducible refine i_par ?_) | (with_reducible refine i_pair ?_) | (with_reducible refine i_andV ?_) | (with_reducible refine i_orV ?_) | (with_reducible refine i_notV ?_) | (with_reducible refine i_m1 ?_) | (with_reducible refine i_str ?_)
  | (with_reducible refine iteF ?_) | (with_reducible refine iteT ?_) | (with_reducible refine iteNT ?_) | (with_reducible refine iteNF ?_) | (with_reducible refine i_tyS ?_) | (with_reducible refine i_tB ?_) | (with_reducible refine i_retN ?_) | (with_reducible refine i_par3 ?_) | (with_reducible refine i_trip ?_) | (with_reducible refine i_gCons ?_) | (with_reducible refine i_gNil ?_) | (with_reducible refine i_lstRg ?_) | (with_reducible refine i_rg1 ?_)
  | (with_reducible refine i_lc ?_) | (with_reducible refine i_for ?_) | (with_reducible refine i_iList ?_) | (with_reducible refine i_iTup ?_) | (with_reducible refine i_iStr ?_) | (with_reducible refine i_iRng1 ?_) | (with_reducible refine i_iEnS ?_)
  | ((with_reducible refine' i_ixTH ?q1 ?q2 ?_); (case q1 => walk_at "hp"); (case q2 => exact rfl))
  | ((with_reducible refine' i_ixLH ?q1 ?q2 ?_); (case q1 => walk_at "hp"); (case q2 => exact rfl))
  | ((with_reducible refine i_addS ?q1 ?_); (case q1 => walk_at "ln")) | ((with_reducible refine i_lenSS ?q1 ?_); (case q1 => walk_at "ln")) | ((with_reducible refine i_slFrom ?q1 ?q2 ?_); (case q1 => walk_at "ln"); (case q2 => walk_at "ln")) | ((with_reducible refine i_slTo ?q1 ?q2 ?_); (case q1 => walk_at "ln"); (case q2 => walk_at "ln"))
  | ((with_reducible refine' i_tyL ?q1 ?_); (case q1 => walk_at "hp"))
  | ((with_reducible refine' i_gTupH ?q1 ?q2 ?_); (case q1 => walk_at "hp"); (case q2 => exact rfl))
  | (with_reducible refine i_dnew ?_) | (with_reducible refine i_init ?_) | (with_reducible refine i_fst ?_) | (with_reducible refine i_mk ?_) | (with_reducible refine i_raise ?_) | (with_reducible refine i_callS ?_) | (with_reducible refine i_kwS ?_)
  | (with_reducible refine i_revT ?_) | (with_reducible refine i_kw ?_) | ((with_reducible refine' ⟨_, _, rfl, sqT_of ?q1, ?_⟩); (case q1 => walk_at "hp"))
  | (with_reducible refine i_revS ?_) | ((with_reducible refine i_revSS ?q1 ?_); (case q1 => walk_at "ln"))
  | (with_reducible refine i_startS ?_) | (with_reducible refine i_inSg ?_) | (with_reducible refine i_absN ?_) | (with_reducible refine i_min2 ?_) | (with_reducible refine i_max2 ?_) | (with_reducible refine i_min3 ?_) | (with_reducible refine i_intN ?_) | (with_reducible refine i_intNB ?_)
  | ((with_reducible refine' i_lenL ?q1 ?_); (case q1 => walk_at "hp")) | ((with_reducible refine' i_lenT ?q1 ?_); (case q1 => walk_at "hp"))
  | (with_reducible refine i_eqI ?_) | (with_reducible refine i_neI ?_) | (with_reducible refine i_eqS ?_) | (with_reducible refine i_neS ?_) | (with_reducible refine i_isNoI ?_) | (with_reducible refine i_isNoN ?_) | (with_reducible refine i_isNoR ?_)
  | ((with_reducible refine i_pow ?q1 ?q2 ?q3 ?_); (case q1 => decide); (case q2 => decide); (case q3 => (with_reducible omega)))
  | ((with_reducible refine i_rI ?q1 ?_); (case q1 => walk_at "ci"))
  | (with_reducible refine Or.inl ⟨_, rfl, ?_⟩) | (with_reducible refine Or.inr ⟨_, rfl, ?_⟩) | (with_reducible refine ⟨_, rfl, ?_⟩) | (with_reducible refine ⟨_, _, rfl, ?_⟩) | (with_reducible refine ⟨_, _, rfl, rfl, ?_⟩)
  | ((with_reducible refine' ⟨_, _, rfl, Or.inl (sqL_of ?q1), ?_⟩); (case q1 => walk_at "hp")) | ((with_reducible refine' ⟨_, _, rfl, Or.inr (sqT_of ?q1), ?_⟩); (case q1 => walk_at "hp")) | fail)
local macro_rules | `(tactic| walk_at "rd") => `(tactic| repeat' walk_at "rd1")

/-- _law_right(box) -/
def spRight : Sp := fun vs H Q _ => ∃ (b : Addr) (d : Int), vs = [.ref b] ∧ BoxAt H b d ∧ d + 200 ≤ 1000000 ∧ ∀ (H' : Hp), BoxAt H' b (d + 200) → SB b H H' → Q (.bl true) H'
/-- law(script) -/
def spLaw (K : PySem.W.Frag) : Sp := fun vs H Q _ => ∃ (a : Addr) (ns : List Int), vs = [.ref a] ∧ SqL K H a (ns.map V.int) ∧ ∀ H', Same H H' → Q (.bl true) H'
section
variable {P : Program} {w : World} {K : PySem.W.Frag} {mg : Str → Option Value} {base : Heap} {f : Addr} {fd : FuncData}
theorem ok_right (F : Fun K "_law_right" "_law_right" s__law_right f fd) (z : Z mg) (c__law_take : Cal P w K mg base "_law_take" ["box", "many"] 1 spTake) (c__law_letters : Cal P w K mg base "_law_letters" ["box"] 2 spLetters) (c__law_pair : Cal P w K mg base "_law_pair" ["box", "letters"] 3 spPair) (q__law_pair_right : CalG P w K mg base "_law_pair_right" ["box", "left", "right"] 6 spPR) (q__law_wide_right : CalG P w K mg base "_law_wide_right" ["box", "letter"] 6 spWR) (q__law_refusals_right : CalG P w K mg base "_law_refusals_right" ["box", "letters", "left", "right"] 8 spRfs) (q__law_list_right : CalG P w K mg base "_law_list_right" ["left", "right", "highest"] 5 spLR) : FnG P w K mg base CX0 9 f fd ["box"] spRight := by
  refine Sw.Fun.okG0 F sc__law_right (fun vs H Q E h => ?_) (fun cdv A outer s H vs Q E hr quiet h => ?_)
  · obtain ⟨b, d, rfl, _⟩ := h; rfl
  · obtain ⟨b, d, rfl, B, hd, k⟩ := h
    refine ⟨_, (pss_cons (ps_set (i := 1) sc__law_right.nd rfl (.inl rfl) (pe_cal c__law_letters hr (pa_cons (pv 0) pa_nil)))
      (pss_cons (ps_asg (pe_cal c__law_pair hr (pa_cons (pv 0) (pa_cons (pv 1) pa_nil))) (pg_lst rfl (pgs_cons (pg_name (i := 2) sc__law_right.nd rfl (.inl rfl)) (pgs_cons (pg_name (i := 3) sc__law_right.nd rfl (.inl rfl)) pgs_nil))))
      (pss_cons (ps_asg (pe_cal c__law_pair hr (pa_cons (pv 0) (pa_cons (pv 1) pa_nil))) (pg_lst rfl (pgs_cons (pg_name (i := 4) sc__law_right.nd rfl (.inl rfl)) (pgs_cons (pg_name (i := 5) sc__law_right.nd rfl (.inl rfl)) pgs_nil))))
      (pss_cons (ps_if (PW.pt (pw_or (pt_not (pt_val (pe_calG q__law_pair_right hr quiet (pa_cons (pv 0) (pa_cons (pv 2) (pa_cons (pv 3) pa_nil)))))) (pw_or1 (pt_not (pt_val (pe_calG q__law_pair_right hr quiet (pa_cons (pv 0) (pa_cons (pv 4) (pa_cons (pv 5) pa_nil)))))))))
        (pss_one (ps_ret pe_bl))
        pss_nil)
      (pss_cons (ps_if (pt_not (pt_val (pe_calG q__law_wide_right hr quiet (pa_cons (pv 0) (pa_cons (pe_ix ix_list (pv 1) pe_int (fun _ _ => rfl)) pa_nil)))))
        (pss_one (ps_ret pe_bl))
        pss_nil)
      (pss_one (ps_ret (pe_and (pe_calG q__law_refusals_right hr quiet (pa_cons (pv 0) (pa_cons (pv 1) (pa_cons (pv 2) (pa_cons (pv 3) pa_nil))))) (pe_one (pe_calG q__law_list_right hr quiet (pa_cons (pv 2) (pa_cons (pv 3) (pa_cons (pe_cal c__law_take hr (pa_cons (pv 0) (pa_cons pe_int pa_nil))) pa_nil))))))))))))), ?_⟩
    walk_at "rd"
    refine ⟨b, d, rfl, B, by omega, fun lp c1 c2 H1 n1 eL z1 z2 B1 s1 => ?_⟩
    walk_at "rd"
    refine ⟨b, lp, c1, c2, _, rfl, eL, z1, z2, B1, by omega, fun pp l r H2 np e2 ll lr hlr il ir B2 s2 => ?_⟩
    have nlb := B1.ne_lst eL
    have eL2 := s2 _ _ nlb eL
    have zl := il.az z1 z2
    have zr := ir.az z1 z2
    walk_at "rd"
    refine ⟨pp, _, rfl, sqL_of e2, rfl, ?_⟩
    walk_at "rd"
    refine ⟨b, lp, c1, c2, _, rfl, eL2, z1, z2, B2, by omega, fun pq l2 r2 H3 np3 e3 ll2 lr2 hlr2 il2 ir2 B3 s3 => ?_⟩
    have eL3 := s3 _ _ nlb eL2
    have s13 := s1.trans (s2.trans s3)
    walk_at "rd"
    refine ⟨pq, _, rfl, sqL_of e3, rfl, ?_⟩
    walk_at "rd"
    refine ⟨b, l, r, _, rfl, zl, zr, ll, lr, hlr, B3, by omega, fun H4 B4 s4 => ?_⟩
    have eL4 := s4 _ _ nlb eL3
    walk_at "rd"
    refine ⟨b, l2, r2, _, rfl, il2.az z1 z2, ir2.az z1 z2, ll2, lr2, hlr2, B4, by omega, fun H5 B5 s5 => ?_⟩
    have eL5 := s5 _ _ nlb eL4
    have s15 := s13.trans (s4.trans s5)
    walk_at "rd"
    refine ⟨b, c1, _, rfl, z1, B5, by omega, fun H6 B6 s6 => ?_⟩
    have eL6 := s6 _ _ nlb eL5
    walk_at "rd"
    refine ⟨b, lp, c1, c2, l, r, _, rfl, eL6, z1, z2, zl, zr, ll, lr, B6, by omega, fun H7 B7 s7 => ?_⟩
    have s17 := s15.trans (s6.trans s7)
    walk_at "rd"
    refine ⟨b, 12, _, rfl, B7, by omega, by omega, by omega, fun q H8 q0 q1 B8 s8 => ?_⟩
    obtain ⟨q, rfl⟩ : ∃ n : Nat, q = n := ⟨q.toNat, by omega⟩
    walk_at "rd"
    refine ⟨l, r, q, rfl, zl, zr, by omega, by omega, by omega, hlr, fun H9 s9 => ?_⟩
    exact k _ ((B8.same s9).mono (by omega)) ((s17.trans s8).trans (SB.of s9))
theorem ok_law (F : Fun K "law" "law" s_law f fd) (z : Z mg) (q__law_right : CalG P w K mg base "_law_right" ["box"] 9 spRight)
    (c__law_box : Cal P w K mg base "_law_box" ["great"] 1 spBox) (c__law_cell : Cal P w K mg base "_law_cell" ["script", "k"] 1 (spCell K)) : FnG P w K mg base CX0 10 f fd ["script"] (spLaw K) := by
  refine Sw.Fun.okG0 F sc_law (fun vs H Q E h => ?_) (fun cdv A outer s H vs Q E hr quiet h => ?_)
  · obtain ⟨a, ns, rfl, _⟩ := h; rfl
  · obtain ⟨a, ns, rfl, L, k⟩ := h
    refine ⟨_, (pss_cons (ps_for PassesOwn.never rfl (pi_range1 (by rfl) z.range (pa_cons (pe_callB (call_max2N rfl) (by rfl) z.max_ (by decide +kernel) (pa_cons pe_int (pa_cons (pe_callB (call_min2N rfl) (by rfl) z.min_ (by decide +kernel) (pa_cons pe_int (pa_cons (pe_callB call_lenQ (by rfl) z.len PySem.boot_len (pa_cons (pv 0) pa_nil)) pa_nil))) pa_nil))) pa_nil)) (pg_name (i := 1) sc_law.nd rfl (.inl rfl))
        (pss_one (ps_if (pt_not (pt_val (pe_calG q__law_right hr quiet (pa_cons (pe_cal c__law_box hr (pa_cons (pe_cal c__law_cell hr (pa_cons (pv 0) (pa_cons (pv 1) pa_nil))) pa_nil)) pa_nil))))
          (pss_one (ps_ret pe_bl))
          pss_nil)))
      (pss_one (ps_ret pe_bl))), ?_⟩
    walk_at "rd"
    refine i_lenK L ?_
    walk_at "rd"
    rw [List.length_map]
    refine i_rng (by omega) (by omega) ?_
    refine go_for walk_rangeZ (fun i σ H2 => ∃ u1, σ = [some (.ref a), u1] ∧ Same H H2) ⟨none, rfl, Same.refl _⟩ (fun _ _ _ _ _ => trivial) (fun i v σ H2 H3 hi p y => ?_) (fun σ H2 p => ?_)
    · obtain ⟨u1, rfl, s2⟩ := p
      obtain ⟨rfl, rfl⟩ := y
      walk_at "rd"
      refine ⟨a, ns, i, rfl, Same.sqL s2 L, by omega, by omega, fun v H4 s4 => ?_⟩
      walk_at "rd"
      refine ⟨v, rfl, fun b H5 nb s5 B5 => ?_⟩
      walk_at "rd"
      refine ⟨b, 0, rfl, B5, by omega, fun H6 B6 s6 => ?_⟩
      have keep : Same H H6 := fun x o e => by
        have e4 := s4 _ _ (s2 _ _ e)
        have nxb : x ≠ b := ne_of_none e4 nb
        exact s6 _ _ nxb (s5 _ _ e4)
      walk_at "rd"
      exact keep
    · obtain ⟨u1, rfl, s2⟩ := p
      walk_at "rd"
      exact k _ s2
end
end Sw
namespace Sw
open PySem PySem.Spec PyProof.Rows L2
theorem def_mk {K : PySem.W.Frag} {h : Heap} {mg : Str → Option Value} {x : Str} {st : Stmt} {f : Addr} {od an : Option Addr} {sl : Array (Option Value)} {oc kV dc pm cd ct : Value} (X : K.In h) (G : h.Ns mainGlobals mg)
    (a : PySem.W.nsIn K mainGlobals x = some (some (.ref f))) (l : K.lookup f = some ⟨oc, od, .func (PySem.W.fnOf x x (defArgs st) (defBody st) (defScope st) .none kV dc pm an cd ct), sl⟩) (c : PySem.W.codeIn K cd x = true) (k : PySem.W.keepIn K (.ref f) = true) : Def K mg x st :=
  ⟨f, _, fun_mk l c k, PySem.W.mg_of X G a⟩
theorem oex_mk {K : PySem.W.Frag} {C B N : Addr} {nm q : Str} {bs : List Value} {sn : List Str} {sub : List Value} {ab : Bool} {col : Option Bool} {dd : Option Addr} {k0 k1 k2 k3 k5 : Option Value}
    (h : K.lookup C = some (excClassObj nm q C N bs [.ref B, .type "Exception", .type "BaseException", .type "object"] true sn sub ab col dd k0 k1 k2 k3 k5 "Exception.__new__")) (sa : PySem.W.findIn K (.ref C) "__setattr__" = some (some (.builtin "object.__setattr__"))) (exC : PySem.W.subIn K (.ref C) (.type "BaseException") = some true)
    (tyC : PySem.W.typeIn K (.ref C) = some (.type "type")) (kC : PySem.W.keepIn K (.ref C) = true) : OexE K C := ⟨⟨nm, q, N, bs, [B], sn, sub, ab, col, dd, k0, k1, k2, k3, k5, h⟩, sa, exC, tyC, kC⟩
theorem exm_mk {K : PySem.W.Frag} {c : Value} (h1 : PySem.W.subIn K c (.type "BaseException") = some true) (h2 : PySem.W.kitCls K c c = some true) : PySem.W.exmOne K c c = some true := by
  unfold PySem.W.exmOne
  rw [h1]
  exact h2
/-- the class, its own __init__ apart -/
structure XC (K : PySem.W.Frag) (mg : Str → Option Value) (C B : Addr) : Prop where
  T : OexE K C
  xf : XfC K C
  no : PySem.W.findIn K (.ref C) "given" = some none
  hm : mg "InvalidText" = some (.ref C)
  me : PySem.W.exmOne K (.ref C) (.ref C) = some true
  ov : Over K mg B
  ini : ∃ (fI : Addr) (fd : FuncData), PySem.W.findIn K (.ref C) "__init__" = some (some (.ref fI)) ∧ PySem.W.typeIn K (.ref fI) = some (.type "function") ∧ Fun K "__init__" "InvalidText.__init__" s_init fI fd
theorem ini_mk {K : PySem.W.Frag} {C fI : Addr} {od an : Option Addr} {sl : Array (Option Value)} {oc kV dc pm cd ct : Value} (i : PySem.W.findIn K (.ref C) "__init__" = some (some (.ref fI))) (t : PySem.W.typeIn K (.ref fI) = some (.type "function"))
    (l : K.lookup fI = some ⟨oc, od, .func (PySem.W.fnOf "__init__" "InvalidText.__init__" (defArgs s_init) (defBody s_init) (defScope s_init) .none kV dc pm an cd ct), sl⟩) (c : PySem.W.codeIn K cd "InvalidText.__init__" = true) (k : PySem.W.keepIn K (.ref fI) = true) :
    ∃ (fI : Addr) (fd : FuncData), PySem.W.findIn K (.ref C) "__init__" = some (some (.ref fI)) ∧ PySem.W.typeIn K (.ref fI) = some (.type "function") ∧ Fun K "__init__" "InvalidText.__init__" s_init fI fd := ⟨fI, _, i, t, fun_mk l c k⟩
theorem exn_mk {K : PySem.W.Frag} {d c : Value} (h1 : PySem.W.subIn K c (.type "BaseException") = some true) (h2 : PySem.W.kitCls K d c = some false) : PySem.W.exmOne K d c = some false := by
  unfold PySem.W.exmOne
  rw [h1]
  exact h2
/-- the class InvalidCount, its own __init__ apart -/
structure XD (K : PySem.W.Frag) (mg : Str → Option Value) (D : Addr) : Prop where
  T : OexE K D
  xf : XfC K D
  no : PySem.W.findIn K (.ref D) "given" = some none
  hm : mg "InvalidCount" = some (.ref D)
  me : PySem.W.exmOne K (.ref D) (.ref D) = some true
  ini : ∃ (fI : Addr) (fd : FuncData), PySem.W.findIn K (.ref D) "__init__" = some (some (.ref fI)) ∧ PySem.W.typeIn K (.ref fI) = some (.type "function") ∧ Fun K "__init__" "InvalidCount.__init__" s_init2 fI fd
theorem ini2_mk {K : PySem.W.Frag} {C fI : Addr} {od an : Option Addr} {sl : Array (Option Value)} {oc kV dc pm cd ct : Value} (i : PySem.W.findIn K (.ref C) "__init__" = some (some (.ref fI))) (t : PySem.W.typeIn K (.ref fI) = some (.type "function"))
    (l : K.lookup fI = some ⟨oc, od, .func (PySem.W.fnOf "__init__" "InvalidCount.__init__" (defArgs s_init2) (defBody s_init2) (defScope s_init2) .none kV dc pm an cd ct), sl⟩) (c : PySem.W.codeIn K cd "InvalidCount.__init__" = true) (k : PySem.W.keepIn K (.ref fI) = true) :
    ∃ (fI : Addr) (fd : FuncData), PySem.W.findIn K (.ref C) "__init__" = some (some (.ref fI)) ∧ PySem.W.typeIn K (.ref fI) = some (.type "function") ∧ Fun K "__init__" "InvalidCount.__init__" s_init2 fI fd := ⟨fI, _, i, t, fun_mk l c k⟩
theorem all_mk {l : PySem.W.OpenLaw} {w : World} {K : PySem.W.Frag} {mg : Str → Option Value} {fa : Addr} (hfa : mg "law" = some (.ref fa)) (z : Z mg) {t_LETTERS : Tok} (g_LETTERS : mg "LETTERS" = some (.str (("abcdefghijklmnopqrstuvwxyz" : Str)) t_LETTERS)) {C B : Addr} (xc : XC K mg C B) {D : Addr} (xd : XD K mg D) (hDC : PySem.W.exmOne K (.ref D) (.ref C) = some false)
    (d_is_integer : Def K mg "is_integer" s_is_integer) (d_is_count : Def K mg "is_count" s_is_count) (d_is_text : Def K mg "is_text" s_is_text) (d_is_lag : Def K mg "is_lag" s_is_lag) (d_check_count : Def K mg "check_count" s_check_count) (d_check_text : Def K mg "check_text" s_check_text) (d_check_lag : Def K mg "check_lag" s_check_lag) (d_round_length : Def K mg "round_length" s_round_length) (d_turn_number : Def K mg "turn_number" s_turn_number) (d_lag_after : Def K mg "lag_after" s_lag_after) (d_lag_behind : Def K mg "lag_behind" s_lag_behind) (d_lag_numbered : Def K mg "lag_numbered" s_lag_numbered) (d_staying : Def K mg "staying" s_staying) (d__law_cell : Def K mg "_law_cell" s__law_cell) (d__law_box : Def K mg "_law_box" s__law_box) (d__law_take : Def K mg "_law_take" s__law_take) (d__law_letters : Def K mg "_law_letters" s__law_letters) (d__law_word : Def K mg "_law_word" s__law_word) (d__law_pair : Def K mg "_law_pair" s__law_pair) (d__law_root_length : Def K mg "_law_root_length" s__law_root_length) (d__law_numbered : Def K mg "_law_numbered" s__law_numbered) (d__law_stays : Def K mg "_law_stays" s__law_stays) (d__law_due : Def K mg "_law_due" s__law_due) (d__law_number : Def K mg "_law_number" s__law_number) (d__law_highest : Def K mg "_law_highest" s__law_highest) (d__law_list_right : Def K mg "_law_list_right" s__law_list_right) (d__law_pair_right : Def K mg "_law_pair_right" s__law_pair_right) (d__law_wide_right : Def K mg "_law_wide_right" s__law_wide_right) (d__law_bad_text : Def K mg "_law_bad_text" s__law_bad_text) (d__law_told : Def K mg "_law_told" s__law_told) (d__law_refuses : Def K mg "_law_refuses" s__law_refuses) (d__law_copy : Def K mg "_law_copy" s__law_copy) (d__law_refusals_right : Def K mg "_law_refusals_right" s__law_refusals_right) (d__law_right : Def K mg "_law_right" s__law_right) (d_law : Def K mg "law" s_law) :
    ∃ fd : FuncData, (∀ (s : Shared) (v : Value), BindsTo s fd ⟨[v], []⟩ [("script", v)]) ∧ ∀ base : Heap, K.In base → base.Ns mainGlobals mg → FnG l.prog w K mg base CX0 10 fa fd ["script"] (spLaw K) := by
  obtain ⟨f, fd, F, e⟩ := d_law
  cases hfa.symm.trans e
  have F0 := F
  obtain ⟨oc, od, kV, doc, pm, an, cdv, ct, osl, rfl, lk, hcd⟩ := F.ex
  refine ⟨PySem.W.fnOf "law" "law" (defArgs s_law) (defBody s_law) (defScope s_law) .none kV doc pm an cdv ct, fun s v => .of_eq rfl, fun base _ _ => ?_⟩
  have xt : XT l.prog w K mg base C := by
    obtain ⟨fI, fdI, i1, i2, FI⟩ := xc.ini
    exact ⟨xc.T, xc.xf, xc.no, xc.hm, xc.me, fI, fdI, i1, i2, ok_init FI xc.ov, FI.binds fun _ _ _ _ _ _ us hl => match us, hl with | [_, _], _ => rfl⟩
  have xn : XN l.prog w K mg base D := by
    obtain ⟨fI, fdI, i1, i2, FI⟩ := xd.ini
    exact ⟨xd.T, xd.xf, xd.no, xd.hm, xd.me, fI, fdI, i1, i2, ok_init2 FI xc.ov, FI.binds fun _ _ _ _ _ _ us hl => match us, hl with | [_, _], _ => rfl⟩
  have c_int := Sw.Def.cal (P := l.prog) (w := w) (base := base) d_is_integer (ps := ["value"]) (k := 1) (sp := (spInt K)) (fun _ _ _ _ _ _ us hl => match us, hl with | [_], _ => rfl) fun f fd F => ok_integer F z
  have c_cnt := Sw.Def.cal (P := l.prog) (w := w) (base := base) d_is_count (ps := ["value"]) (k := 2) (sp := (spIsC K)) (fun _ _ _ _ _ _ us hl => match us, hl with | [_], _ => rfl) fun f fd F => ok_count F c_int
  have c_it := Sw.Def.cal (P := l.prog) (w := w) (base := base) d_is_text (ps := ["value"]) (k := 1) (sp := (spIsText K)) (fun _ _ _ _ _ _ us hl => match us, hl with | [_], _ => rfl) fun f fd F => ok_is_text F z g_LETTERS
  have c_is_text := Sw.Def.cal (P := l.prog) (w := w) (base := base) d_is_text (ps := ["value"]) (k := 1) (sp := (spIsT K)) (fun _ _ _ _ _ _ us hl => match us, hl with | [_], _ => rfl) fun f fd F => ok_is_t (ok_is_text F z g_LETTERS)
  have c_ct := Sw.Def.cal (P := l.prog) (w := w) (base := base) d_check_text (ps := ["text"]) (k := 2) (sp := spCheckText) (fun _ _ _ _ _ _ us hl => match us, hl with | [_], _ => rfl) fun f fd F => ok_check_text F c_it
  have c_cc := Sw.Def.cal (P := l.prog) (w := w) (base := base) d_check_count (ps := ["count"]) (k := 3) (sp := spCount) (fun _ _ _ _ _ _ us hl => match us, hl with | [_], _ => rfl) fun f fd F => ok_cnt F c_cnt
  have x_cc := Sw.Def.calX (P := l.prog) (w := w) (base := base) d_check_count (ps := ["count"]) (k := 3) (sp := (spCountX K D)) (fun _ _ _ _ _ _ us hl => match us, hl with | [_], _ => rfl) fun f fd F => ok_countX F xn c_cnt
  have x_ct := Sw.Def.calX (P := l.prog) (w := w) (base := base) d_check_text (ps := ["text"]) (k := 3) (sp := (spCheckX K C)) (fun _ _ _ _ _ _ us hl => match us, hl with | [_], _ => rfl) fun f fd F => ok_checkX F xt c_is_text
  have c_il := Sw.Def.cal (P := l.prog) (w := w) (base := base) d_is_lag (ps := ["value"]) (k := 2) (sp := (spIsLag K)) (fun _ _ _ _ _ _ us hl => match us, hl with | [_], _ => rfl) fun f fd F => ok_is_lag F z c_it
  have c_cl := Sw.Def.cal (P := l.prog) (w := w) (base := base) d_check_lag (ps := ["lag"]) (k := 3) (sp := spCheckLag) (fun _ _ _ _ _ _ us hl => match us, hl with | [_], _ => rfl) fun f fd F => ok_check_lag F c_il
  have c_la := Sw.Def.cal (P := l.prog) (w := w) (base := base) d_lag_after (ps := ["left", "right"]) (k := 1) (sp := spAfter) (fun _ _ _ _ _ _ us hl => match us, hl with | [_, _], _ => rfl) fun f fd F => ok_after F z
  have c_lb := Sw.Def.cal (P := l.prog) (w := w) (base := base) d_lag_behind (ps := ["lag", "one", "other"]) (k := 4) (sp := spBehind) (fun _ _ _ _ _ _ us hl => match us, hl with | [_, _, _], _ => rfl) fun f fd F => ok_behind F c_cl c_ct c_la
  have c_rl := Sw.Def.cal (P := l.prog) (w := w) (base := base) d_round_length (ps := ["text"]) (k := 1) (sp := spRL) (fun _ _ _ _ _ _ us hl => match us, hl with | [_], _ => rfl) fun f fd F => ok_rl F
  have c_tn := Sw.Def.cal (P := l.prog) (w := w) (base := base) d_turn_number (ps := ["one", "other"]) (k := 1) (sp := spTN) (fun _ _ _ _ _ _ us hl => match us, hl with | [_, _], _ => rfl) fun f fd F => ok_tn F z
  have c_ln := Sw.Def.cal (P := l.prog) (w := w) (base := base) d_lag_numbered (ps := ["one", "other", "number"]) (k := 1) (sp := spNum) (fun _ _ _ _ _ _ us hl => match us, hl with | [_, _, _], _ => rfl) fun f fd F => ok_num F z
  have c_lln := Sw.Def.cal (P := l.prog) (w := w) (base := base) d__law_numbered (ps := ["left", "right", "number"]) (k := 1) (sp := spNum) (fun _ _ _ _ _ _ us hl => match us, hl with | [_, _, _], _ => rfl) fun f fd F => ok_lnum F z
  have c_stay := Sw.Def.cal (P := l.prog) (w := w) (base := base) d_staying (ps := ["one", "other", "most"]) (k := 4) (sp := spStay) (fun _ _ _ _ _ _ us hl => match us, hl with | [_, _, _], _ => rfl) fun f fd F => ok_stay F z c_ct c_cc c_tn c_rl c_ln
  have k_stay := Sw.Def.calK (P := l.prog) (w := w) (base := base) d_staying (ps := ["one", "other", "most"]) (ks := stayKs) (k := 4) (sp := spStay) (g := back3) (gV := back3)
    (fun kV doc pm an cdv ct us ws hl => by obtain ⟨rfl, c, b, a, rfl⟩ := back3_inv hl; rfl) back3_rel fun f fd F => ok_stay F z c_ct c_cc c_tn c_rl c_ln
  have x_stay := Sw.Def.calX (P := l.prog) (w := w) (base := base) d_staying (ps := ["one", "other", "most"]) (k := 5) (sp := (spStayX K C D)) (fun _ _ _ _ _ _ us hl => match us, hl with | [_, _, _], _ => rfl) fun f fd F => ok_stayX F z xt x_ct x_cc c_tn c_rl c_ln
  have kx_stay := Sw.Def.calKX (P := l.prog) (w := w) (base := base) d_staying (ps := ["one", "other", "most"]) (ks := ["most", "one", "other"]) (k := 5) (sp := (spStayX K C D)) (g := rotS) (gV := rotS)
    (fun kV doc pm an cdv ct us ws hl => by obtain ⟨rfl, c, b, a, rfl⟩ := rotS_inv hl; rfl) rotS_rel fun f fd F => ok_stayX F z xt x_ct x_cc c_tn c_rl c_ln
  have c_cell := Sw.Def.cal (P := l.prog) (w := w) (base := base) d__law_cell (ps := ["script", "k"]) (k := 1) (sp := (spCell K)) (fun _ _ _ _ _ _ us hl => match us, hl with | [_, _], _ => rfl) fun f fd F => ok__law_cell F z
  have c_box := Sw.Def.cal (P := l.prog) (w := w) (base := base) d__law_box (ps := ["great"]) (k := 1) (sp := spBox) (fun _ _ _ _ _ _ us hl => match us, hl with | [_], _ => rfl) fun f fd F => ok__law_box F z
  have c_take := Sw.Def.cal (P := l.prog) (w := w) (base := base) d__law_take (ps := ["box", "many"]) (k := 1) (sp := spTake) (fun _ _ _ _ _ _ us hl => match us, hl with | [_, _], _ => rfl) fun f fd F => ok__law_take F z
  have c_letters := Sw.Def.cal (P := l.prog) (w := w) (base := base) d__law_letters (ps := ["box"]) (k := 2) (sp := spLetters) (fun _ _ _ _ _ _ us hl => match us, hl with | [_], _ => rfl) fun f fd F => ok_letters F z c_take
  have c_word := Sw.Def.cal (P := l.prog) (w := w) (base := base) d__law_word (ps := ["box", "letters", "size"]) (k := 2) (sp := spWord) (fun _ _ _ _ _ _ us hl => match us, hl with | [_, _, _], _ => rfl) fun f fd F => ok_word F z c_take
  have c_pair := Sw.Def.cal (P := l.prog) (w := w) (base := base) d__law_pair (ps := ["box", "letters"]) (k := 3) (sp := spPair) (fun _ _ _ _ _ _ us hl => match us, hl with | [_, _], _ => rfl) fun f fd F => ok_pair F z c_take c_word
  have c_root := Sw.Def.cal (P := l.prog) (w := w) (base := base) d__law_root_length (ps := ["word"]) (k := 1) (sp := spRootLen) (fun _ _ _ _ _ _ us hl => match us, hl with | [_], _ => rfl) fun f fd F => ok_rootlen F z
  have c_stays := Sw.Def.cal (P := l.prog) (w := w) (base := base) d__law_stays (ps := ["pair", "left", "right"]) (k := 1) (sp := spStays) (fun _ _ _ _ _ _ us hl => match us, hl with | [_, _, _], _ => rfl) fun f fd F => ok_stays F z
  have c_number := Sw.Def.cal (P := l.prog) (w := w) (base := base) d__law_number (ps := ["pair"]) (k := 1) (sp := spNumber) (fun _ _ _ _ _ _ us hl => match us, hl with | [_], _ => rfl) fun f fd F => ok_number F z
  have c_due := Sw.Def.cal (P := l.prog) (w := w) (base := base) d__law_due (ps := ["left", "right", "highest"]) (k := 2) (sp := spDue) (fun _ _ _ _ _ _ us hl => match us, hl with | [_, _, _], _ => rfl) fun f fd F => ok_due F z c_lln c_stays
  have q_high := Sw.Def.calG (P := l.prog) (w := w) (base := base) d__law_highest (ps := ["box", "left", "right"]) (k := 3) (sp := spHigh) (fun _ _ _ _ _ _ us hl => match us, hl with | [_, _, _], _ => rfl) fun f fd F => ok_high F z c_take c_due c_number
  have q_lr := Sw.Def.calG (P := l.prog) (w := w) (base := base) d__law_list_right (ps := ["left", "right", "highest"]) (k := 5) (sp := spLR) (fun _ _ _ _ _ _ us hl => match us, hl with | [_, _, _], _ => rfl) fun f fd F => ok_lr F z c_due c_stay k_stay
  have q_pr := Sw.Def.calG (P := l.prog) (w := w) (base := base) d__law_pair_right (ps := ["box", "left", "right"]) (k := 6) (sp := spPR) (fun _ _ _ _ _ _ us hl => match us, hl with | [_, _, _], _ => rfl) fun f fd F => ok_pr F z c_take q_high q_lr c_due c_lb c_stay c_number c_root
  have q_wr := Sw.Def.calG (P := l.prog) (w := w) (base := base) d__law_wide_right (ps := ["box", "letter"]) (k := 6) (sp := spWR) (fun _ _ _ _ _ _ us hl => match us, hl with | [_, _], _ => rfl) fun f fd F => ok_wr F z c_take q_lr c_stay
  have c_bad := Sw.Def.cal (P := l.prog) (w := w) (base := base) d__law_bad_text (ps := ["box", "letters"]) (k := 3) (sp := spBad) (fun _ _ _ _ _ _ us hl => match us, hl with | [_, _], _ => rfl) fun f fd F => ok_bad F c_take c_word
  have c_copy := Sw.Def.cal (P := l.prog) (w := w) (base := base) d__law_copy (ps := ["value"]) (k := 1) (sp := spCopy) (fun _ _ _ _ _ _ us hl => match us, hl with | [_], _ => rfl) fun f fd F => ok_copy F z
  have c_told := Sw.Def.cal (P := l.prog) (w := w) (base := base) d__law_told (ps := ["turn", "parts"]) (k := 6) (sp := (spTold K)) (fun _ _ _ _ _ _ us hl => match us, hl with | [_, _], _ => rfl) fun f fd F => ok_told F xt xn hDC x_stay kx_stay
  have q_ref := Sw.Def.calG (P := l.prog) (w := w) (base := base) d__law_refuses (ps := ["turn", "parts", "kind", "place"]) (k := 7) (sp := (spRef K)) (fun _ _ _ _ _ _ us hl => match us, hl with | [_, _, _, _], _ => rfl) fun f fd F => ok_ref F z c_told
  have q_rfs := Sw.Def.calG (P := l.prog) (w := w) (base := base) d__law_refusals_right (ps := ["box", "letters", "left", "right"]) (k := 8) (sp := spRfs) (fun _ _ _ _ _ _ us hl => match us, hl with | [_, _, _, _], _ => rfl) fun f fd F => ok_rfs F z c_take c_bad c_copy c_told q_ref
  have q_right := Sw.Def.calG (P := l.prog) (w := w) (base := base) d__law_right (ps := ["box"]) (k := 9) (sp := spRight) (fun _ _ _ _ _ _ us hl => match us, hl with | [_], _ => rfl) fun f fd F => ok_right F z c_take c_letters c_pair q_pr q_wr q_rfs q_lr
  exact ok_law F0 z q_right c_box c_cell
end Sw
open PySem PySem.W PyProof.Rows
set_option maxHeartbeats 0 in
theorem PySem.Challenge.cw_spoiltways_k12_lags_that_stay_holds : PySem.Challenge.rw_spoiltways_k12_lags_that_stay.Holds := by
  w_on; o_law; k_head; (case hw => w_witness2)
  k_fill
  refine Sw.walk_G (l := PySem.Challenge.rw_spoiltways_k12_lags_that_stay) (n := 63) (k := 10) (x := "script") (sp := Sw.spLaw) rfl (by decide) rfl ⟨rfl, by decide, by decide⟩ (fun w h Y => PySem.W.kIn_of Y) ?F (fun _ _ a ns hl _ hS => ⟨a, ns, rfl, hS, fun _ _ => rfl⟩)
  case F =>
    intro w mg fa h KX G hmg
    have z : Sw.Z mg := by
      refine' ⟨PySem.W.mg_none_of KX G ?z0, PySem.W.mg_none_of KX G ?z1, PySem.W.mg_none_of KX G ?z2, PySem.W.mg_none_of KX G ?z3, PySem.W.mg_none_of KX G ?z4, PySem.W.mg_none_of KX G ?z5, PySem.W.mg_none_of KX G ?z6, PySem.W.mg_none_of KX G ?z7, PySem.W.mg_none_of KX G ?z8, PySem.W.mg_none_of KX G ?z9, PySem.W.mg_none_of KX G ?z10, PySem.W.mg_none_of KX G ?z11, PySem.W.mg_none_of KX G ?z12, PySem.W.mg_none_of KX G ?z13, PySem.W.mg_none_of KX G ?z14⟩
      (case z0 => k_is)
      (case z1 => k_is)
      (case z2 => k_is)
      (case z3 => k_is)
      (case z4 => k_is)
      (case z5 => k_is)
      (case z6 => k_is)
      (case z7 => k_is)
      (case z8 => k_is)
      (case z9 => k_is)
      (case z10 => k_is)
      (case z11 => k_is)
      (case z12 => k_is)
      (case z13 => k_is)
      (case z14 => k_is)
    obtain ⟨v_LETTERS, gv_LETTERS, t_LETTERS, rfl⟩ : ∃ v, mg "LETTERS" = some v ∧ ∃ t, v = .str (("abcdefghijklmnopqrstuvwxyz" : Str)) t := by
      refine' ⟨_, PySem.W.mg_of KX G ?a, ?b⟩
      (case a => k_is)
      (case b => first | exact ⟨_, rfl⟩ | exact ⟨_, congrArg (fun y => PySem.Value.str y _) (by decide +kernel)⟩)
    refine' Sw.all_mk hmg z gv_LETTERS ?xc ?xd ?ne ?d_is_integer ?d_is_count ?d_is_text ?d_is_lag ?d_check_count ?d_check_text ?d_check_lag ?d_round_length ?d_turn_number ?d_lag_after ?d_lag_behind ?d_lag_numbered ?d_staying ?d__law_cell ?d__law_box ?d__law_take ?d__law_letters ?d__law_word ?d__law_pair ?d__law_root_length ?d__law_numbered ?d__law_stays ?d__law_due ?d__law_number ?d__law_highest ?d__law_list_right ?d__law_pair_right ?d__law_wide_right ?d__law_bad_text ?d__law_told ?d__law_refuses ?d__law_copy ?d__law_refusals_right ?d__law_right ?d_law
    case xc =>
      refine' ⟨Sw.oex_mk ?h1 ?h2 ?h3 ?h4 ?h5, ⟨?f1, ?f2, ?f3, ?f4⟩, ?no, PySem.W.mg_of KX G ?hm, Sw.exm_mk ?me1 ?me2, ⟨PySem.W.mg_of KX G ?b1, ?b2, ?b3, ?b4, ?b5⟩, Sw.ini_mk ?i1 ?i2 ?i3 ?i4 ?i5⟩
      (case hm => k_is)
      (case b1 => k_is)
      (case h1 => k_is)
      (case h2 => k_is)
      (case h3 => k_is)
      (case h4 => k_is)
      (case h5 => k_is)
      (case f1 => k_is)
      (case f2 => k_is)
      (case f3 => k_is)
      (case f4 => k_is)
      (case no => k_is)
      (case me1 => k_is)
      (case me2 => first | k_is | rfl | decide +kernel)
      (case b2 => k_is)
      (case b3 => k_is)
      (case b4 => k_is)
      (case b5 => k_is)
      (case i1 => k_is)
      (case i2 => k_is)
      (case i3 => k_is)
      (case i4 => k_is)
      (case i5 => k_is)
    case xd =>
      refine' ⟨Sw.oex_mk ?h1 ?h2 ?h3 ?h4 ?h5, ⟨?f1, ?f2, ?f3, ?f4⟩, ?no, PySem.W.mg_of KX G ?hm, Sw.exm_mk ?me1 ?me2, Sw.ini2_mk ?i1 ?i2 ?i3 ?i4 ?i5⟩
      (case hm => k_is)
      (case h1 => k_is)
      (case h2 => k_is)
      (case h3 => k_is)
      (case h4 => k_is)
      (case h5 => k_is)
      (case f1 => k_is)
      (case f2 => k_is)
      (case f3 => k_is)
      (case f4 => k_is)
      (case no => k_is)
      (case me1 => k_is)
      (case me2 => first | k_is | rfl | decide +kernel)
      (case i1 => k_is)
      (case i2 => k_is)
      (case i3 => k_is)
      (case i4 => k_is)
      (case i5 => k_is)
    case ne =>
      refine' Sw.exn_mk ?n1 ?n2
      (case n1 => k_is)
      (case n2 => first | k_is | rfl | decide +kernel)
    case d_is_integer =>
      refine' Sw.def_mk KX G ?a ?l ?c ?k
      (case a => k_is)
      (case l => k_is)
      (case c => k_is)
      (case k => k_is)
    case d_is_count =>
      refine' Sw.def_mk KX G ?a ?l ?c ?k
      (case a => k_is)
      (case l => k_is)
      (case c => k_is)
      (case k => k_is)
    case d_is_text =>
      refine' Sw.def_mk KX G ?a ?l ?c ?k
      (case a => k_is)
      (case l => k_is)
      (case c => k_is)
      (case k => k_is)
    case d_is_lag =>
      refine' Sw.def_mk KX G ?a ?l ?c ?k
      (case a => k_is)
      (case l => k_is)
      (case c => k_is)
      (case k => k_is)
    case d_check_count =>
      refine' Sw.def_mk KX G ?a ?l ?c ?k
      (case a => k_is)
      (case l => k_is)
      (case c => k_is)
      (case k => k_is)
    case d_check_text =>
      refine' Sw.def_mk KX G ?a ?l ?c ?k
      (case a => k_is)
      (case l => k_is)
      (case c => k_is)
      (case k => k_is)
    case d_check_lag =>
      refine' Sw.def_mk KX G ?a ?l ?c ?k
      (case a => k_is)
      (case l => k_is)
      (case c => k_is)
      (case k => k_is)
    case d_round_length =>
      refine' Sw.def_mk KX G ?a ?l ?c ?k
      (case a => k_is)
      (case l => k_is)
      (case c => k_is)
      (case k => k_is)
    case d_turn_number =>
      refine' Sw.def_mk KX G ?a ?l ?c ?k
      (case a => k_is)
      (case l => k_is)
      (case c => k_is)
      (case k => k_is)
    case d_lag_after =>
      refine' Sw.def_mk KX G ?a ?l ?c ?k
      (case a => k_is)
      (case l => k_is)
      (case c => k_is)
      (case k => k_is)
    case d_lag_behind =>
      refine' Sw.def_mk KX G ?a ?l ?c ?k
      (case a => k_is)
      (case l => k_is)
      (case c => k_is)
      (case k => k_is)
    case d_lag_numbered =>
      refine' Sw.def_mk KX G ?a ?l ?c ?k
      (case a => k_is)
      (case l => k_is)
      (case c => k_is)
      (case k => k_is)
    case d_staying =>
      refine' Sw.def_mk KX G ?a ?l ?c ?k
      (case a => k_is)
      (case l => k_is)
      (case c => k_is)
      (case k => k_is)
    case d__law_cell =>
      refine' Sw.def_mk KX G ?a ?l ?c ?k
      (case a => k_is)
      (case l => k_is)
      (case c => k_is)
      (case k => k_is)
    case d__law_box =>
      refine' Sw.def_mk KX G ?a ?l ?c ?k
      (case a => k_is)
      (case l => k_is)
      (case c => k_is)
      (case k => k_is)
    case d__law_take =>
      refine' Sw.def_mk KX G ?a ?l ?c ?k
      (case a => k_is)
      (case l => k_is)
      (case c => k_is)
      (case k => k_is)
    case d__law_letters =>
      refine' Sw.def_mk KX G ?a ?l ?c ?k
      (case a => k_is)
      (case l => k_is)
      (case c => k_is)
      (case k => k_is)
    case d__law_word =>
      refine' Sw.def_mk KX G ?a ?l ?c ?k
      (case a => k_is)
      (case l => k_is)
      (case c => k_is)
      (case k => k_is)
    case d__law_pair =>
      refine' Sw.def_mk KX G ?a ?l ?c ?k
      (case a => k_is)
      (case l => k_is)
      (case c => k_is)
      (case k => k_is)
    case d__law_root_length =>
      refine' Sw.def_mk KX G ?a ?l ?c ?k
      (case a => k_is)
      (case l => k_is)
      (case c => k_is)
      (case k => k_is)
    case d__law_numbered =>
      refine' Sw.def_mk KX G ?a ?l ?c ?k
      (case a => k_is)
      (case l => k_is)
      (case c => k_is)
      (case k => k_is)
    case d__law_stays =>
      refine' Sw.def_mk KX G ?a ?l ?c ?k
      (case a => k_is)
      (case l => k_is)
      (case c => k_is)
      (case k => k_is)
    case d__law_due =>
      refine' Sw.def_mk KX G ?a ?l ?c ?k
      (case a => k_is)
      (case l => k_is)
      (case c => k_is)
      (case k => k_is)
    case d__law_number =>
      refine' Sw.def_mk KX G ?a ?l ?c ?k
      (case a => k_is)
      (case l => k_is)
      (case c => k_is)
      (case k => k_is)
    case d__law_highest =>
      refine' Sw.def_mk KX G ?a ?l ?c ?k
      (case a => k_is)
      (case l => k_is)
      (case c => k_is)
      (case k => k_is)
    case d__law_list_right =>
      refine' Sw.def_mk KX G ?a ?l ?c ?k
      (case a => k_is)
      (case l => k_is)
      (case c => k_is)
      (case k => k_is)
    case d__law_pair_right =>
      refine' Sw.def_mk KX G ?a ?l ?c ?k
      (case a => k_is)
      (case l => k_is)
      (case c => k_is)
      (case k => k_is)
    case d__law_wide_right =>
      refine' Sw.def_mk KX G ?a ?l ?c ?k
      (case a => k_is)
      (case l => k_is)
      (case c => k_is)
      (case k => k_is)
    case d__law_bad_text =>
      refine' Sw.def_mk KX G ?a ?l ?c ?k
      (case a => k_is)
      (case l => k_is)
      (case c => k_is)
      (case k => k_is)
    case d__law_told =>
      refine' Sw.def_mk KX G ?a ?l ?c ?k
      (case a => k_is)
      (case l => k_is)
      (case c => k_is)
      (case k => k_is)
    case d__law_refuses =>
      refine' Sw.def_mk KX G ?a ?l ?c ?k
      (case a => k_is)
      (case l => k_is)
      (case c => k_is)
      (case k => k_is)
    case d__law_copy =>
      refine' Sw.def_mk KX G ?a ?l ?c ?k
      (case a => k_is)
      (case l => k_is)
      (case c => k_is)
      (case k => k_is)
    case d__law_refusals_right =>
      refine' Sw.def_mk KX G ?a ?l ?c ?k
      (case a => k_is)
      (case l => k_is)
      (case c => k_is)
      (case k => k_is)
    case d__law_right =>
      refine' Sw.def_mk KX G ?a ?l ?c ?k
      (case a => k_is)
      (case l => k_is)
      (case c => k_is)
      (case k => k_is)
    case d_law =>
      refine' Sw.def_mk KX G ?a ?l ?c ?k
      (case a => k_is)
      (case l => k_is)
      (case c => k_is)
      (case k => k_is)
