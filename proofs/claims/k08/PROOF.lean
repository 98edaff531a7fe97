import PyProof.Rows.All
import Wide.All
import OpenK.AllK
import Wide.FinOn
import HandS.ForMost
import HandS.Wide
import HandS.Style
import HandS.IsInst
import HandS.Conv
import HandS.Walk
import HandS.Codes
import HandS.TupAny
import HandS.RaiseMore
import HandS.Flt
import HandS.Flow
import KE.GoesMore
import HandS.Ends
import HandS.ExcInit
import HandS.ExcField
import HandS.ExcOwn
import HandS.TryMany
import HandS.ExcIs
import KE.KExcIs
import HandS.Deep
import KE.KEqDict
import HandS.ListEq
import PyProof.NeKinds
import HandS.TryOnly
import HandS.TupMul
import PySem.Challenge.RW_spoiltways_k08_alignments
set_option Elab.async false
set_option linter.all false
set_option maxRecDepth 100000
set_option maxHeartbeats 4000000
namespace Lev
/-- the fewest changes between two lists of signs -/
def lev : List Nat → List Nat → Nat
  | [], ys => ys.length
  | _ :: xs, [] => xs.length + 1
  | x :: xs, y :: ys => min (lev xs ys + if x = y then 0 else 1) (min (lev xs (y :: ys) + 1) (lev (x :: xs) ys + 1))
termination_by xs ys => xs.length + ys.length

/-- some changes, told by their number -/
inductive Ed : List Nat → List Nat → Nat → Prop
  | nil : Ed [] [] 0
  | keep {a xs ys n} : Ed xs ys n → Ed (a :: xs) (a :: ys) n
  | swap {a b xs ys n} : Ed xs ys n → Ed (a :: xs) (b :: ys) (n + 1)
  | drop {a xs ys n} : Ed xs ys n → Ed (a :: xs) ys (n + 1)
  | add {b xs ys n} : Ed xs ys n → Ed xs (b :: ys) (n + 1)

theorem Ed.adds : ∀ ys : List Nat, Ed [] ys ys.length
  | [] => .nil
  | _ :: ys => .add (Ed.adds ys)
theorem Ed.drops : ∀ xs : List Nat, Ed xs [] xs.length
  | [] => .nil
  | _ :: xs => .drop (Ed.drops xs)
theorem Ed.refl : ∀ xs : List Nat, Ed xs xs 0
  | [] => .nil
  | _ :: xs => .keep (Ed.refl xs)
theorem Ed.symm {xs ys n} (h : Ed xs ys n) : Ed ys xs n := by
  induction h with
  | nil => exact .nil
  | keep _ ih => exact .keep ih
  | swap _ ih => exact .swap ih
  | drop _ ih => exact .add ih
  | add _ ih => exact .drop ih
theorem Ed.app {xs ys n} (h : Ed xs ys n) {us vs m} (k : Ed us vs m) : Ed (xs ++ us) (ys ++ vs) (n + m) := by
  induction h with
  | nil => simpa using k
  | keep _ ih => exact .keep ih
  | swap _ ih => have := Ed.swap (a := ‹_›) (b := ‹_›) ih; simp only [List.cons_append]; rw [Nat.add_right_comm]; exact .swap ih
  | drop _ ih => simp only [List.cons_append]; rw [Nat.add_right_comm]; exact .drop ih
  | add _ ih => simp only [List.cons_append]; rw [Nat.add_right_comm]; exact .add ih
theorem Ed.rev {xs ys n} (h : Ed xs ys n) : Ed xs.reverse ys.reverse n := by
  induction h with
  | nil => exact .nil
  | keep _ ih => simpa using ih.app (.keep .nil)
  | swap _ ih => simpa using ih.app (.swap .nil)
  | drop _ ih => simpa using ih.app (.drop .nil)
  | add _ ih => simpa using ih.app (.add .nil)
theorem Ed.lens {xs ys n} (h : Ed xs ys n) : xs.length ≤ ys.length + n ∧ ys.length ≤ xs.length + n := by
  induction h with
  | nil => simp
  | keep _ ih => simp only [List.length_cons]; omega
  | swap _ ih => simp only [List.length_cons]; omega
  | drop _ ih => simp only [List.length_cons]; omega
  | add _ ih => simp only [List.length_cons]; omega

theorem lev_ed : ∀ xs ys : List Nat, Ed xs ys (lev xs ys) := by
  intro xs ys
  fun_induction lev xs ys with
  | case1 ys => exact Ed.adds ys
  | case2 x xs => exact Ed.drops (x :: xs)
  | case3 x xs y ys i1 i2 i3 =>
    rcases Nat.le_total (lev xs ys + if x = y then 0 else 1) (min (lev xs (y :: ys) + 1) (lev (x :: xs) ys + 1)) with h | h
    · rw [Nat.min_eq_left h]
      by_cases e : x = y
      · subst e; simpa using Ed.keep i1
      · rw [if_neg e]; exact .swap i1
    · rw [Nat.min_eq_right h]
      rcases Nat.le_total (lev xs (y :: ys) + 1) (lev (x :: xs) ys + 1) with h | h
      · rw [Nat.min_eq_left h]; exact .drop i2
      · rw [Nat.min_eq_right h]; exact .add i3
theorem lev_nil (ys : List Nat) : lev [] ys = ys.length := by rw [lev]
theorem lev_nil' : ∀ xs : List Nat, lev xs [] = xs.length
  | [] => by rw [lev_nil]
  | x :: xs => by rw [lev]; rfl
theorem lev_cons (x y : Nat) (xs ys : List Nat) : lev (x :: xs) (y :: ys) = min (lev xs ys + if x = y then 0 else 1) (min (lev xs (y :: ys) + 1) (lev (x :: xs) ys + 1)) := by rw [lev]
theorem lev_drop (x : Nat) (xs ys : List Nat) : lev (x :: xs) ys ≤ lev xs ys + 1 := by
  cases ys with
  | nil => rw [lev_nil', lev_nil']; simp
  | cons y ys => rw [lev_cons]; omega
theorem lev_add (y : Nat) (xs ys : List Nat) : lev xs (y :: ys) ≤ lev xs ys + 1 := by
  cases xs with
  | nil => rw [lev_nil, lev_nil]; simp
  | cons x xs => rw [lev_cons]; omega
theorem lev_swap (x y : Nat) (xs ys : List Nat) : lev (x :: xs) (y :: ys) ≤ lev xs ys + 1 := by
  rw [lev_cons]; split <;> omega
/-- dropping a letter on one side changes the distance by at most one -/
theorem lev_undrop (x : Nat) (xs ys : List Nat) : lev xs ys ≤ lev (x :: xs) ys + 1 := by
  induction ys generalizing xs x with
  | nil => rw [lev_nil', lev_nil']; simp; omega
  | cons y ys ih =>
    have a := lev_cons x y xs ys
    have b := lev_add y xs ys
    have c := ih x xs
    rw [a]
    split <;> omega
theorem lev_unadd (y : Nat) (xs ys : List Nat) : lev xs ys ≤ lev xs (y :: ys) + 1 := by
  induction xs generalizing ys y with
  | nil => rw [lev_nil, lev_nil]; simp; omega
  | cons x xs ih =>
    have a := lev_cons x y xs ys
    have b := lev_drop x xs ys
    have c := ih y ys
    rw [a]
    split <;> omega
theorem lev_keep (a : Nat) (xs ys : List Nat) : lev (a :: xs) (a :: ys) = lev xs ys := by
  rw [lev_cons]
  have h1 := lev_unadd a xs ys
  have h2 := lev_undrop a xs ys
  simp
  omega
theorem lev_least {xs ys n} (h : Ed xs ys n) : lev xs ys ≤ n := by
  induction h with
  | nil => rw [lev_nil]; simp
  | keep _ ih => rw [lev_keep]; exact ih
  | swap _ ih => exact Nat.le_trans (lev_swap _ _ _ _) (by omega)
  | drop _ ih => exact Nat.le_trans (lev_drop _ _ _) (by omega)
  | add _ ih => exact Nat.le_trans (lev_add _ _ _) (by omega)
theorem lev_symm (xs ys : List Nat) : lev xs ys = lev ys xs :=
  Nat.le_antisymm (lev_least (lev_ed ys xs).symm) (lev_least (lev_ed xs ys).symm)
theorem lev_rev (xs ys : List Nat) : lev xs.reverse ys.reverse = lev xs ys :=
  Nat.le_antisymm (lev_least (lev_ed xs ys).rev) (by
    have h := lev_least (lev_ed xs.reverse ys.reverse).rev
    simpa using h)
theorem lev_self (xs : List Nat) : lev xs xs = 0 := Nat.le_zero.mp (lev_least (Ed.refl xs))
theorem lev_app (xs ys us vs : List Nat) : lev (xs ++ us) (ys ++ vs) ≤ lev xs ys + lev us vs := lev_least ((lev_ed xs ys).app (lev_ed us vs))
theorem lev_lens (xs ys : List Nat) : xs.length ≤ ys.length + lev xs ys ∧ ys.length ≤ xs.length + lev xs ys := (lev_ed xs ys).lens
theorem lev_le_max (xs ys : List Nat) : lev xs ys ≤ max xs.length ys.length := by
  induction xs generalizing ys with
  | nil => rw [lev_nil]; simp
  | cons x xs ih =>
    cases ys with
    | nil => rw [lev_nil']; simp
    | cons y ys =>
      have h := lev_swap x y xs ys
      have k := ih ys
      simp only [List.length_cons]
      omega
theorem lev_pre (a xs ys : List Nat) : lev (a ++ xs) (a ++ ys) = lev xs ys := by
  induction a with
  | nil => rfl
  | cons x a ih => rw [List.cons_append, List.cons_append, lev_keep, ih]
theorem lev_suf (a xs ys : List Nat) : lev (xs ++ a) (ys ++ a) = lev xs ys := by
  rw [← lev_rev, List.reverse_append, List.reverse_append, lev_pre, lev_rev]
/-- from behind -/
theorem lev_snoc (x y : Nat) (xs ys : List Nat) : lev (xs ++ [x]) (ys ++ [y]) = min (lev xs ys + if x = y then 0 else 1) (min (lev xs (ys ++ [y]) + 1) (lev (xs ++ [x]) ys + 1)) := by
  rw [← lev_rev (xs ++ [x]), ← lev_rev xs ys, ← lev_rev xs (ys ++ [y]), ← lev_rev (xs ++ [x]) ys]
  simp only [List.reverse_append, List.reverse_cons, List.reverse_nil, List.nil_append, List.singleton_append]
  rw [lev_cons]
/-- the triangle -/
theorem Ed.trans {xs ys n} (h : Ed xs ys n) : ∀ {zs m}, Ed ys zs m → ∃ k, k ≤ n + m ∧ Ed xs zs k := by
  induction h with
  | nil => exact fun {zs m} q => ⟨m, by omega, q⟩
  | @drop a xs ys n _ ih =>
    intro zs m q
    obtain ⟨k, h1, h2⟩ := ih q
    exact ⟨k + 1, by omega, .drop h2⟩
  | @keep a xs ys n p ih =>
    intro zs m q
    generalize e : a :: ys = ws at q
    induction q with
    | nil => cases e
    | keep q _ =>
      cases e
      obtain ⟨k, h1, h2⟩ := ih q
      exact ⟨k, h1, .keep h2⟩
    | swap q _ =>
      cases e
      obtain ⟨k, h1, h2⟩ := ih q
      exact ⟨k + 1, by omega, .swap h2⟩
    | drop q _ =>
      cases e
      obtain ⟨k, h1, h2⟩ := ih q
      exact ⟨k + 1, by omega, .drop h2⟩
    | add q jh =>
      obtain ⟨k, h1, h2⟩ := jh e
      exact ⟨k + 1, by omega, .add h2⟩
  | @swap a b xs ys n p ih =>
    intro zs m q
    generalize e : b :: ys = ws at q
    induction q with
    | nil => cases e
    | keep q _ =>
      cases e
      obtain ⟨k, h1, h2⟩ := ih q
      exact ⟨k + 1, by omega, .swap h2⟩
    | swap q _ =>
      cases e
      obtain ⟨k, h1, h2⟩ := ih q
      exact ⟨k + 1, by omega, .swap h2⟩
    | drop q _ =>
      cases e
      obtain ⟨k, h1, h2⟩ := ih q
      exact ⟨k + 1, by omega, .drop h2⟩
    | add q jh =>
      obtain ⟨k, h1, h2⟩ := jh e
      exact ⟨k + 1, by omega, .add h2⟩
  | @add b xs ys n p ih =>
    intro zs m q
    generalize e : b :: ys = ws at q
    induction q with
    | nil => cases e
    | keep q _ =>
      cases e
      obtain ⟨k, h1, h2⟩ := ih q
      exact ⟨k + 1, by omega, .add h2⟩
    | swap q _ =>
      cases e
      obtain ⟨k, h1, h2⟩ := ih q
      exact ⟨k + 1, by omega, .add h2⟩
    | drop q _ =>
      cases e
      obtain ⟨k, h1, h2⟩ := ih q
      exact ⟨k, by omega, h2⟩
    | add q jh =>
      obtain ⟨k, h1, h2⟩ := jh e
      exact ⟨k + 1, by omega, .add h2⟩
theorem lev_tri (xs ys zs : List Nat) : lev xs zs ≤ lev xs ys + lev ys zs := by
  obtain ⟨k, h1, h2⟩ := (lev_ed xs ys).trans (lev_ed ys zs)
  exact Nat.le_trans (lev_least h2) h1
end Lev
namespace Sw
open PySem PySem.Spec PyProof.Rows L2

/-! ### texts as lists of signs -/
def S (l : List Nat) : Str := ⟨l.toArray⟩
theorem S_len (l : List Nat) : (S l).length = l.length := by simp [S, Str.length]
theorem S_size (l : List Nat) : (S l).cps.size = l.length := by simp [S]
theorem S_list (l : List Nat) : (S l).cps.toList = l := by simp [S]
theorem S_app (a b : List Nat) : S a ++ S b = S (a ++ b) := by
  show Str.append _ _ = _
  simp [S, Str.append]
theorem S_get (l : List Nat) (i : Nat) : (S l).cps[i]? = l[i]? := by simp [S]
theorem S_inj {a b : List Nat} : S a = S b ↔ a = b := by
  constructor
  · intro h
    have e : (S a).cps.toList = (S b).cps.toList := by rw [h]
    rwa [S_list, S_list] at e
  · rintro rfl; rfl
theorem S_dec (a b : List Nat) : decide (V.str (S a) = V.str (S b)) = decide (a = b) := by
  by_cases h : a = b
  · subst h; simp
  · rw [decide_eq_false h, decide_eq_false]
    intro e
    exact h (S_inj.mp (V.str.inj e))

/-! ### calls of own defs -/
section
variable (P : Program) (w : World) (K : PySem.W.Frag) (mg : Str → Option Value) (base : Heap)
/-- the def x of the text st stands -/
def Def (x : Str) (st : Stmt) : Prop := ∃ (f : Addr) (fd : FuncData), Fun K x x st f fd ∧ mg x = some (.ref f)
/-- the def x keeps its promise -/
def Cal (x : Str) (ps : List Str) (k : Nat) (sp : Sp) : Prop := ∃ (f : Addr) (fd : FuncData), FnOk P w K mg base CX0 k f fd ps sp ∧ mg x = some (.ref f) ∧ PySem.W.keepIn K (.ref f) = true ∧ Binds K fd ps []
end
section
variable {P : Program} {w : World} {K : PySem.W.Frag} {mg : Str → Option Value} {base : Heap}
theorem Def.cal {x : Str} {st : Stmt} {ps : List Str} {k : Nat} {sp : Sp} (d : Def K mg x st)
    (b : ∀ (kV doc pm : Value) (an : Option Addr) (cdv ct : Value) (us : List Value), us.length = ps.length → bindArgs (PySem.W.fnOf x x (defArgs st) (defBody st) (defScope st) .none kV doc pm an cdv ct) ⟨us, []⟩ = pure (ps.zip us))
    (ok : ∀ (f : Addr) (fd : FuncData), Fun K x x st f fd → FnOk P w K mg base CX0 k f fd ps sp) : Cal P w K mg base x ps k sp := by
  obtain ⟨f, fd, F, m⟩ := d
  exact ⟨f, fd, ok f fd F, m, F.kp, F.binds b⟩
end
section
variable {X : Cx} {x : Str} {ps : List Str} {k n : Nat} {sp : Sp} {e : Expr} {es : List Expr} {t : TA} {p pos : Pos}
theorem pe_cal (c : Cal X.prog X.w X.K X.mg X.base x ps k sp) (hr : Room n X.A) (ha : PA X (e :: es) t) (hg : Gl X x := by rfl) (hk : k ≤ n := by decide)
    (hdb : (x == ("__debug__" : Str)) = false := by decide) (he : starEach (e :: es) X.env = (false, eval e X.env) :: starEach es X.env := by rfl) (hpl : (backTo pos (starEach es X.env)).any (·.1) = false := by rfl) :
    PE X (.Call (.Name x p) (e :: es) [] pos) (tCall sp [] E0 t) := by
  obtain ⟨f, fd, F, m, kp, b⟩ := c
  exact pe_call F (hr.mono hk) hg m kp b .nil pass0 ha hdb he hpl
end

/-! ### answers to readings -/
section
variable {σ : L2.St} {H : Hp} {Q : VK} {D : Ends}
theorem i_seq {t u : TS} (h : t { D with nx := u D } σ H) : tSeq t u D σ H := h
theorem i_asg {te : TE} {g : TG} (h : te σ H fun x H1 => g x σ H1 D.nx) : tAsg te g D σ H := h
theorem i_name {i : Nat} {v : V} {R : L2.St → Hp → Prop} (h : R (σ.set i (some v)) H) : gName i v σ H R := h
theorem i_ret {te : TE} (h : te σ H D.rt) : tRet te D σ H := h
theorem i_var {i : Nat} {v : V} (e : σ[i]? = some (some v)) (h : Q v H) : tVar i σ H Q := ⟨v, e, h⟩
theorem i_c {v : V} (h : Q v H) : tC v σ H Q := h
theorem i_op {r : R2} {ta tb : TE} (h : ta σ H fun x H1 => tb σ H1 fun y H2 => r x y H2 Q) : tOp r ta tb σ H Q := h
theorem i_un {r : V → Hp → VK → Prop} {ta : TE} (h : ta σ H fun x H1 => r x H1 Q) : tUn r ta σ H Q := h
theorem i_rI {C : Int → Int → Prop} {g : Int → Int → V} {a b : Int} (c : C a b) (h : Q (g a b) H) : rI C g (.int a) (.int b) H Q := ⟨a, b, rfl, rfl, c, h⟩
theorem i_rI0 {g : Int → Int → V} {a b : Int} (h : Q (g a b) H) : rI0 g (.int a) (.int b) H Q := ⟨a, b, rfl, rfl, h⟩
theorem i_cb {r : List V → Hp → VK → Prop} {t : TA} (h : t σ H fun vs H1 => r vs H1 Q) : tCB r t σ H Q := h
theorem i_cons {ta : TE} {tr : TA} {R : List V → Hp → Prop} (h : ta σ H fun x H1 => tr σ H1 fun xs H2 => R (x :: xs) H2) : tCons ta tr σ H R := h
theorem i_nil {R : List V → Hp → Prop} (h : R [] H) : tNil σ H R := h
theorem i_call {sp : Sp} {dvs : List V} {E : XK} {t : TA} (h : t σ H fun vs H1 => sp (vs ++ dvs) H1 Q E) : tCall sp dvs E t σ H Q := h
theorem i_if {c : TT} {t u : TS} (h : c σ H fun b H1 => if b = true then t D σ H1 else u D σ H1) : tIfS c t u D σ H := h
theorem i_ifE {c : TT} {t u : TE} (h : c σ H fun b H1 => if b = true then t σ H1 Q else u σ H1 Q) : tIf c t u σ H Q := h
theorem i_test {t : TE} {R : Bool → Hp → Prop} (h : t σ H fun x H1 => ∃ k, x = .bl k ∧ R k H1) : tTest t σ H R := h
theorem i_bl {k : Bool} {R : Bool → Prop} (h : R k) : ∃ k', V.bl k = .bl k' ∧ R k' := ⟨k, rfl, h⟩
theorem i_and {t u : TT} {R : Bool → Hp → Prop} (h : t σ H fun c H1 => if c = true then u σ H1 R else R false H1) : tAnd t u σ H R := h
theorem i_or {t u : TT} {R : Bool → Hp → Prop} (h : t σ H fun c H1 => if c = true then R true H1 else u σ H1 R) : tOr t u σ H R := h
theorem i_not {t : TT} {R : Bool → Hp → Prop} (h : t σ H fun c H1 => R (!c) H1) : tNot t σ H R := h
theorem i_lst {t : TA} (h : t σ H fun xs H1 => xs.length ≤ sizeLine ∧ ∀ p, H1 p = none → Q (.ref p) (upd H1 p (.lst xs))) : tLst t σ H Q := h
theorem i_tup {t : TA} (h : t σ H fun xs H1 => xs.length ≤ sizeLine ∧ ∀ p, H1 p = none → Q (.ref p) (upd H1 p (.tup xs))) : tTup t σ H Q := h
theorem iteB {p : Prop} [Decidable p] {A B : Prop} (h1 : p → A) (h2 : ¬ p → B) : if decide p = true then A else B := by
  by_cases h : p
  · rw [decide_eq_true h]; exact iteT (h1 h)
  · rw [decide_eq_false h]; exact iteF (h2 h)
theorem iteC {c : Bool} {A B : Prop} (h1 : c = true → A) (h2 : c = false → B) : if c = true then A else B := by
  cases c with
  | true => exact iteT (h1 rfl)
  | false => exact iteF (h2 rfl)
/-- xs[i], xs a list of which the item is known -/
theorem i_ixL {K : PySem.W.Frag} {p : Addr} {xs : List V} {i : Int} {v : V} (h1 : SqL K H p xs) (h2 : atI xs i = some v) (h : Q v H) : rIxL K (.ref p) (.int i) H Q := ⟨p, xs, i, v, rfl, rfl, h1, h2, h⟩
theorem i_ixT {K : PySem.W.Frag} {p : Addr} {xs : List V} {i : Int} {v : V} (h1 : SqT K H p xs) (h2 : atI xs i = some v) (h : Q v H) : rIxT K (.ref p) (.int i) H Q := ⟨p, xs, i, v, rfl, rfl, h1, h2, h⟩
end

/-! ### the box of draws -/
/-- the box at b: the rest n of a great cell, whether it is one, the seed c, the draws d so far -/
structure BoxAt (H : Hp) (b : Addr) (d : Int) : Prop where
  ex : ∃ (n : Int) (g : Bool) (c e : Int), H b = some (.lst [.int n, .bl g, .int c, .int e]) ∧ 0 ≤ n ∧ 0 ≤ c ∧ c < 2147483629 ∧ 0 ≤ e ∧ e ≤ d
/-- all but the object at b is as it was -/
def SB (b : Addr) (H H' : Hp) : Prop := ∀ a o, a ≠ b → H a = some o → H' a = some o
theorem SB.refl {b : Addr} (H : Hp) : SB b H H := fun _ _ _ h => h
theorem SB.trans {b : Addr} {H H1 H2 : Hp} (x : SB b H H1) (y : SB b H1 H2) : SB b H H2 := fun a o n h => y a o n (x a o n h)
theorem SB.of {b : Addr} {H H' : Hp} (s : Same H H') : SB b H H' := fun a o _ h => s a o h
theorem SB.upd {b : Addr} {H : Hp} {o : HO} : SB b H (upd H b o) := fun a u n h => by rw [upd_ne n]; exact h
theorem BoxAt.mono {H : Hp} {b : Addr} {d d' : Int} (x : BoxAt H b d) (h : d ≤ d') : BoxAt H b d' := by
  obtain ⟨n, g, c, e, h1, h2, h3, h4, h5, h6⟩ := x.ex
  exact ⟨n, g, c, e, h1, h2, h3, h4, h5, by omega⟩
theorem BoxAt.same {H H' : Hp} {b : Addr} {d : Int} (x : BoxAt H b d) (s : Same H H') : BoxAt H' b d := by
  obtain ⟨n, g, c, e, h1, h⟩ := x.ex
  exact ⟨n, g, c, e, s _ _ h1, h⟩
theorem same_upd {H : Hp} {p : Addr} {o : HO} (h : H p = none) : Same H (upd H p o) := fun b x e => by
  rw [upd_ne (ne_of_none e h)]
  exact e
/-- _law_take(box, many): a number below many; the box is one draw further at most -/
def spTake : Sp := fun vs H Q _ => ∃ (b : Addr) (m d : Int), vs = [.ref b, .int m] ∧ BoxAt H b d ∧ d ≤ 1000000 ∧ 0 < m ∧ m < 2 ^ 64 ∧
  ∀ (r : Int) (H' : Hp), 0 ≤ r → r < m → BoxAt H' b (d + 1) → SB b H H' → Q (.int r) H'
/-- _law_box(great) -/
def spBox : Sp := fun vs H Q _ => ∃ n : Int, vs = [.int n] ∧ ∀ (b : Addr) (H' : Hp), H b = none → Same H H' → BoxAt H' b 0 → Q (.ref b) H'
/-- _law_cell(script, k) -/
def spCell (K : PySem.W.Frag) : Sp := fun vs H Q _ => ∃ (a : Addr) (ns : List Int) (k : Int), vs = [.ref a, .int k] ∧ SqL K H a (ns.map V.int) ∧ 0 ≤ k ∧ k < 1000 ∧
  ∀ (n : Int) (H' : Hp), Same H H' → Q (.int n) H'
/-! ### more answers -/
section
variable {σ : L2.St} {H : Hp} {Q : VK} {D : Ends} {K : PySem.W.Frag}
theorem i_next (h : D.nx σ H) : tNext D σ H := h
theorem i_drop {te : TE} (h : te σ H fun _ H1 => D.nx σ H1) : tDrop te D σ H := h
theorem i_sub {to ti : TE} {t : TSet} {v : V} {R : L2.St → Hp → Prop} (h : to σ H fun o H1 => ti σ H1 fun i H2 => t o i v H2 fun H3 => R σ H3) : gSub to ti t v σ H R := h
theorem i_setL {p : Addr} {xs : List V} {k : Int} {j : Nat} {v : V} {R : Hp → Prop} (h1 : H p = some (.lst xs)) (h2 : ixN xs.length k = some j) (h : R (upd H p (.lst (xs.set j v)))) : rSetL (.ref p) (.int k) v H R := ⟨p, xs, k, j, rfl, rfl, h1, h2, h⟩
theorem i_int {i : Int} (h : Q (.int i) H) : (∃ j, [V.int i] = [.int j] ∧ Q (.int j) H) ∨ ∃ k, [V.int i] = [.bl k] ∧ Q (.int (if k = true then 1 else 0)) H := .inl ⟨i, rfl, h⟩
theorem i_intB {b : Bool} (h : Q (.int (if b = true then 1 else 0)) H) : (∃ j, [V.bl b] = [.int j] ∧ Q (.int j) H) ∨ ∃ k, [V.bl b] = [.bl k] ∧ Q (.int (if k = true then 1 else 0)) H := .inr ⟨b, rfl, h⟩
theorem i_ix1 {α : Type} {P : α → Prop} {x : α} {R : α → Prop} (h : R x) : ∃ y, x = y ∧ R y := ⟨x, rfl, h⟩
theorem i_abs {i : Int} (h : Q (.int (if i < 0 then -i else i)) H) : ∃ j, [V.int i] = [.int j] ∧ Q (.int (if j < 0 then -j else j)) H := ⟨i, rfl, h⟩
theorem i_two {R : Int → Int → Prop} {i j : Int} (h : R i j) : ∃ a b, [V.int i, V.int j] = [.int a, .int b] ∧ R a b := ⟨i, j, rfl, h⟩
theorem i_one {R : Int → Prop} {i : Int} (h : R i) : ∃ a, [V.int i] = [.int a] ∧ R a := ⟨i, rfl, h⟩
theorem i_cmod {i m : Int} (h : 0 < m) : (fun (_ j : Int) => 0 < j) i m := h
theorem i_bm {T : String} {r : V → List V → Hp → VK → Prop} {to : TE} {t : TA} (h : to σ H fun x H1 => tyV K T x H1 ∧ t σ H1 fun xs H2 => r x xs H2 Q) : tBM K T r to t σ H Q := h
theorem i_tyL {p : Addr} {xs : List V} {R : Prop} (h1 : H p = some (.lst xs)) (h : R) : tyV K "list" (.ref p) H ∧ R := ⟨.inl ⟨rfl, xs, .inl (.inl h1)⟩, h⟩
theorem i_tyS {z : Str} {R : Prop} (h : R) : tyV K "str" (.str z) H ∧ R := ⟨rfl, h⟩
theorem i_append {p : Addr} {xs : List V} {y : V} (h1 : H p = some (.lst xs)) (h2 : xs.length < sizeLine) (h : Q .non (upd H p (.lst (xs ++ [y])))) : rAppend (.ref p) [y] H Q := ⟨p, xs, y, rfl, rfl, h1, h2, h⟩
theorem i_sl {r : V → Option Int → Option Int → Hp → VK → Prop} {te : TE} {tl th : TO} (h : te σ H fun x H1 => tl σ H1 fun l H2 => th σ H2 fun u H3 => r x l u H3 Q) : L2.tSl r te tl th σ H Q := h
theorem i_part {t : TE} {R : Option Int → Hp → Prop} (h : t σ H fun x H1 => ∃ i, x = .int i ∧ R (some i) H1) : tPart t σ H R := h
theorem i_nopart {R : Option Int → Hp → Prop} (h : R none H) : tNoPart σ H R := h
theorem i_exI {R : Int → Prop} {i : Int} (h : R i) : ∃ j, V.int i = .int j ∧ R j := ⟨i, rfl, h⟩
theorem i_chain {r r' : R2} {ta tb tc : TE} (h : ta σ H fun x H1 => tb σ H1 fun y H2 => r x y H2 fun z H3 => ∃ k, z = .bl k ∧ (if k = true then tc σ H3 fun w' H4 => r' y w' H4 Q else Q (.bl false) H3)) : tChain r r' ta tb tc σ H Q := h
theorem i_aug {i : Nat} {te : TE} {ti : TIp} {x : V} (e : σ[i]? = some (some x)) (h : te σ H fun y H1 => ti x y H1 fun z H2 => D.nx (σ.set i (some z)) H2) : tAug i te ti D σ H := ⟨x, e, h⟩
theorem i_ip {g : Int → Int → Int} {a b : Int} (h : Q (.int (g a b)) H) : ipI g (.int a) (.int b) H Q := ⟨a, b, rfl, rfl, h⟩
theorem i_par {i j : Nat} {ta : TA} (h : ta σ H fun vs H1 => ∃ v w, vs = [v, w] ∧ D.nx ((σ.set i (some v)).set j (some w)) H1) : tPar i j ta D σ H := h
theorem i_pair {R : V → V → Prop} {a b : V} (h : R a b) : ∃ v w, [a, b] = [v, w] ∧ R v w := ⟨a, b, rfl, h⟩
theorem i_andV {ta tb : TE} (h : ta σ H fun x H1 => ∃ c, x = .bl c ∧ if c = true then tb σ H1 Q else Q (.bl false) H1) : tAndV ta tb σ H Q := h
theorem i_orV {ta tb : TE} (h : ta σ H fun x H1 => ∃ c, x = .bl c ∧ if c = true then Q (.bl true) H1 else tb σ H1 Q) : tOrV ta tb σ H Q := h
theorem i_notV {ta : TE} (h : ta σ H fun x H1 => ∃ c, x = .bl c ∧ Q (.bl (!c)) H1) : tNotV ta σ H Q := h
theorem i_m1 {r : V → List V → Hp → VK → Prop} {to te : TE} (h : to σ H fun x H1 => (∃ a, x = .str a) ∧ te σ H1 fun y H2 => r x [y] H2 Q) : tM1 r to te σ H Q := h
theorem i_str {z : Str} {R : Prop} (h : R) : (∃ a, V.str z = .str a) ∧ R := ⟨⟨z, rfl⟩, h⟩
theorem i_len {p : Addr} {ys : List V} (h1 : SqL K H p ys ∨ SqT K H p ys) (h : Q (.int ys.length) H) : ∃ q zs, [V.ref p] = [.ref q] ∧ (SqL K H q zs ∨ SqT K H q zs) ∧ Q (.int zs.length) H := ⟨p, ys, rfl, h1, h⟩
theorem i_lenS {l : List Nat} (h1 : l.length ≤ sizeLine) (h : Q (.int (l.length : Int)) H) : ∃ z, [V.str (S l)] = [.str z] ∧ z.length ≤ sizeLine ∧ Q (.int z.length) H := ⟨S l, rfl, by rw [S_len]; exact h1, by rw [S_len]; exact h⟩
end
theorem sqL_of {K : PySem.W.Frag} {H : Hp} {a : Addr} {xs : List V} (h : H a = some (.lst xs)) : SqL K H a xs := .inl (.inl h)
theorem sqT_of {K : PySem.W.Frag} {H : Hp} {a : Addr} {xs : List V} (h : H a = some (.tup xs)) : SqT K H a xs := .inl (.inl h)
/-- the part of a text between two places -/
def cut (l : List Nat) (lo hi : Option Int) : List Nat := (l.drop (HT.sIx l.length 0 lo)).take (HT.sIx l.length l.length hi - HT.sIx l.length 0 lo)
theorem cutS_S (l : List Nat) (lo hi : Option Int) : cutS (S l) lo hi = S (cut l lo hi) := by
  unfold cutS cut
  rw [S_list, S_len]; rfl
theorem cut_from (l : List Nat) (k : Nat) : cut l (some (k : Int)) none = l.drop k := by
  unfold cut
  rw [HT.sIx_nat, HT.sIx_none]
  rcases Nat.le_total k l.length with h | h
  · rw [Nat.min_eq_left h, List.take_of_length_le (by rw [List.length_drop]; omega)]
  · rw [Nat.min_eq_right h, List.drop_length, List.drop_of_length_le h, List.take_nil]
theorem cut_to (l : List Nat) (k : Nat) : cut l none (some (k : Int)) = l.take k := by
  unfold cut
  rw [HT.sIx_nat, HT.sIx_none, List.drop_zero, Nat.sub_zero]
  rcases Nat.le_total k l.length with h | h
  · rw [Nat.min_eq_left h]
  · rw [Nat.min_eq_right h, List.take_length, List.take_of_length_le h]
theorem i_slS {l : List Nat} {lo hi : Option Int} {H : Hp} {Q : VK} (h1 : l.length ≤ sizeLine) (h : Q (.str (S (cut l lo hi))) H) : rSlS (.str (S l)) lo hi H Q := ⟨S l, rfl, by rw [S_len]; exact h1, by rw [cutS_S]; exact h⟩
theorem i_tB {t : TE} {R : Bool → Hp → Prop} {σ : L2.St} {H : Hp} (h : t σ H fun x H1 => ∃ c, x = .bl c ∧ R c H1) : tB t σ H R := h
theorem i_retN {σ : L2.St} {H : Hp} {D : Ends} (h : D.rt .non H) : tRetN D σ H := h
theorem i_par3 {i j l : Nat} {ta : TA} {σ : L2.St} {H : Hp} {D : Ends} (h : ta σ H fun vs H1 => ∃ u v w, vs = [u, v, w] ∧ D.nx (((σ.set i (some u)).set j (some v)).set l (some w)) H1) : tPar3 i j l ta D σ H := h
theorem i_trip {R : V → V → V → Prop} {a b c : V} (h : R a b c) : ∃ u v w, [a, b, c] = [u, v, w] ∧ R u v w := ⟨a, b, c, rfl, h⟩
theorem i_gTup {K : PySem.W.Frag} {n : Nat} {t : TGs} {a : Addr} {xs : List V} {σ : L2.St} {H : Hp} {R : L2.St → Hp → Prop} (h1 : SqT K H a xs) (h2 : xs.length = n) (h : t xs σ H R) : gTup K n t (.ref a) σ H R := ⟨a, xs, rfl, h1, h2, h⟩
theorem i_gCons {t : TG} {u : TGs} {v : V} {r : List V} {σ : L2.St} {H : Hp} {R : L2.St → Hp → Prop} (h : t v σ H fun σ' H' => u r σ' H' R) : gCons t u (v :: r) σ H R := ⟨v, r, rfl, h⟩
theorem i_gNil {σ : L2.St} {H : Hp} {R : L2.St → Hp → Prop} (h : R σ H) : gNil [] σ H R := ⟨rfl, h⟩
theorem i_lstRg {te : L2.St → Hp → (Int → Int → Hp → Prop) → Prop} {σ : L2.St} {H : Hp} {Q : VK} (h : te σ H fun a b H1 => RgOk a b ∧ ∀ q, H1 q = none → Q (.ref q) (upd H1 q (.lst (rgV a b)))) : tLstRg te σ H Q := h
theorem i_rg1 {ta : TE} {σ : L2.St} {H : Hp} {R : Int → Int → Hp → Prop} (h : ta σ H fun x H1 => ∃ n, x = .int n ∧ R 0 n H1) : tRg1 ta σ H R := h
theorem i_pow {g : Int → Int → V} {a b : Int} {H : Hp} {Q : VK} (h1 : 0 ≤ b) (h2 : b ≤ 1000000) (h3 : a.natAbs < 2 ^ 64) (h : Q (g a b) H) : rI CPow g (.int a) (.int b) H Q := ⟨a, b, rfl, rfl, ⟨h1, h2, h3⟩, h⟩
theorem S_le {l : List Nat} (h : l.length ≤ 100000) : (S l).length ≤ sizeLine := Nat.le_trans h (by decide)
theorem ints_get {ns : List Int} {j : Nat} {v : V} (h : (ns.map V.int)[j]? = some v) : ∃ i, ns[j]? = some i ∧ v = .int i := by
  rw [List.getElem?_map] at h
  cases e : ns[j]? with
  | none => rw [e] at h; cases h
  | some i => rw [e] at h; exact ⟨i, rfl, (Option.some.inj h).symm⟩
theorem ints_at {ns : List Int} {j : Nat} (h : j < ns.length) : (ns.map V.int)[j]? = some (.int ns[j]) := by
  rw [List.getElem?_map, List.getElem?_eq_getElem h]; rfl
theorem atI_ints {ns : List Int} {i : Int} (h0 : 0 ≤ i) (h1 : i < ns.length) : atI (ns.map V.int) i = some (.int (ns[i.toNat]'(by omega))) := by
  have h := atI_nat (xs := ns.map V.int) (ints_at (ns := ns) (show i.toNat < ns.length by omega))
  rwa [show ((i.toNat : Nat) : Int) = i by omega] at h
end Sw
namespace Sw
open PySem PySem.Spec PyProof.Rows L2
/-! ### x[::-1] of a text -/
def tRevS (te : TE) : TE := fun σ H Q => te σ H fun x H1 => ∃ l, x = .str (S l) ∧ l.length ≤ sizeLine ∧ Q (.str (S l.reverse)) H1
theorem fmap_map {α β : Type} {f : α → Option β} {g : α → β} : ∀ {l : List α}, (∀ a ∈ l, f a = some (g a)) → l.filterMap f = l.map g
  | [], _ => rfl
  | a :: l, h => by
    rw [List.filterMap_cons, h a List.mem_cons_self, List.map_cons, fmap_map fun b hb => h b (List.mem_cons_of_mem _ hb)]
theorem rev_list (l : List Nat) : ((Builtin.Str.strSliceIndices none none (-1) l.length).filterMap (l.toArray[·]?)) = l.reverse := by
  rw [PyProof.Rows.picked_rev, List.filterMap_map]
  apply List.ext_getElem?
  intro k
  have hf : List.filterMap ((fun x => l.toArray[x]?) ∘ fun k => l.length - 1 - k) (List.range l.length) = (List.range l.length).map fun k => l.getD (l.length - 1 - k) 0 := by
    refine fmap_map fun a ha => ?_
    have ha' : a < l.length := List.mem_range.mp ha
    have hb : l.length - 1 - a < l.length := by omega
    show l.toArray[l.length - 1 - a]? = some (l.getD (l.length - 1 - a) 0)
    rw [List.getElem?_toArray, List.getD_eq_getElem?_getD, List.getElem?_eq_getElem hb]
    rfl
  rw [hf, List.getElem?_map]
  by_cases hk : k < l.length
  · have hb : l.length - 1 - k < l.length := by omega
    rw [List.getElem?_range hk, List.getElem?_reverse hk]
    show some (l.getD (l.length - 1 - k) 0) = _
    rw [List.getD_eq_getElem?_getD, List.getElem?_eq_getElem hb]
    rfl
  · rw [List.getElem?_eq_none (by rw [List.length_range]; omega), List.getElem?_eq_none (by rw [List.length_reverse]; omega)]
    rfl
theorem pe_revS {X : Cx} {e : Expr} {te : TE} {k : Nat} {p1 p2 p3 pos : Pos} (he : PE X e te) :
    PE X (.Subscript e (.Slice none none (some (.UnaryOp .USub (.Constant (.int 1) k p1) p2)) p3) pos) (tRevS te) := by
  constructor
  intro pins s σ H Q I h
  refine Subscript_ (thn (he.run pins s σ H _ I h) fun v s1 ⟨x, H1, I1, r1, l, ex, hl, q⟩ => ?_)
  subst ex
  obtain ⟨tk, rfl⟩ := r1
  have st : PO X (some (.UnaryOp .USub (.Constant (.int 1) k p1) p2)) (tPart (tUn (rU fun i => .int (-i)) (tC (.int 1)))) := po_some (pe_un un_neg pe_int)
  refine wpAny_Slice (thn (po_none.run pins s1 σ H1 (fun o G => o = none ∧ G = H1) I1 ⟨rfl, rfl⟩) fun w1 s2 ⟨o1, G1, J1, z1, a1, b1⟩ => ?_)
  subst a1 b1
  refine thn (po_none.run pins s2 σ G1 (fun o G => o = none ∧ G = G1) J1 ⟨rfl, rfl⟩) fun w2 s3 ⟨o2, G2, J2, z2, a2, b2⟩ => ?_
  subst a2 b2
  refine thn (st.run pins s3 σ G2 (fun o G => o = some (-1) ∧ G = G2) J2 ⟨1, rfl, -1, rfl, rfl, rfl⟩) fun w3 s4 ⟨o3, G3, J3, z3, a3, b3⟩ => ?_
  subst a3 b3
  have J4 : Inv X pins σ G3 { s4 with heap := s4.heap.push { cls := .type "slice", data := .fields #[w1, w2, w3] } } := J3.kept (t' := s4.toks) fun b ob q => Heap.get?_push_of_some _ q
  obtain ⟨y1, rfl, f1⟩ := IsPart.raw z1
  obtain ⟨y2, rfl, f2⟩ := IsPart.raw z2
  obtain ⟨y3, rfl, f3⟩ := IsPart.raw z3
  cases y1 with
  | some y => cases f1
  | none =>
  cases y2 with
  | some y => cases f2
  | none =>
  cases y3 with
  | none => cases f3
  | some y =>
  obtain ⟨m, u⟩ := y
  have em : m = -1 := Option.some.inj f3
  subst em
  refine tail_any (T := "str") (id := _) (ops := [.str (S l) tk, .ref s4.heap.objs.size]) (typeIs_str _ _ _) F.slot_str_getitem.lookup ?_ (by with_unfolding_all rfl)
  refine wpAny_getItem_str_slice (l := none) (u := none) (st := some (-1, u)) ⟨_, Heap.get?_push_size _ rfl, rfl, rfl⟩ rfl ?_
  show Made.post (if ((-1 : Int) == 1 && (Builtin.Str.strSliceIndices none none (-1) (S l).length).length == (S l).length) = true then Made.val (.str (S l) tk)
    else Made.str ⟨((Builtin.Str.strSliceIndices none none (-1) (S l).length).filterMap ((S l).cps[·]?)).toArray⟩) (EP X pins σ Q) _
  rw [if_neg (by rw [show ((-1 : Int) == 1) = false from rfl, Bool.false_and]; exact Bool.false_ne_true)]
  have e : ((Builtin.Str.strSliceIndices none none (-1) (S l).length).filterMap ((S l).cps[·]?)) = l.reverse := by
    rw [S_len]
    exact rev_list l
  rw [e]
  refine ⟨by show (S l.reverse).length ≤ sizeLine; rw [S_len, List.length_reverse]; exact hl, .str (S l.reverse), G3, J4.tok _, ⟨_, rfl⟩, q⟩
/-! ### enumerate(text) -/
/-- a text's signs, each in a new pair with its number -/
def ItE (x : Str) : It := ⟨fun i _ => i < x.cps.size, fun i H v H' => ∃ T c, v = .ref T ∧ H T = none ∧ x.cps[i]? = some c ∧ H' = upd H T (.tup [.int (i : Nat), .str ⟨#[c]⟩]), fun i _ => i = x.cps.size⟩
theorem turn_enumS {P : Program} {w : World} {K : PySem.W.Frag} {elts : List Expr} {kk : Nat} {tpos : Pos} (x : Str) (t : Tok) (e it : Addr) (hne : e ≠ it) :
    Turn P w K (.Tuple elts kk tpos) (ItE x) [e, it] e (fun i h => (∃ old, IsEnum h e it ((i : Nat) : Int) old) ∧ h.IsStrIter it (strIterType x) x t i) := by
  refine ⟨by simp, fun i h st b hb => ?_, fun i h h' st k => ?_, ?_, ?_, fun A i s Q E st h => ?_⟩
  · obtain ⟨⟨old, he⟩, o, ho, hc, hd⟩ := st
    have e' : b = e ∨ b = it := by simpa using hb
    rcases e' with rfl | rfl
    · exact ⟨_, he, fun v q => nomatch q⟩
    · exact ⟨o, ho, fun v q => by rw [hd] at q; cases q⟩
  · obtain ⟨⟨old, he⟩, o, ho, z⟩ := st
    exact ⟨⟨old, k e (by simp) _ he⟩, o, k it (by simp) o ho, z⟩
  · rintro X rfl rfl rfl hc i pins s σ H E I hf ⟨⟨old, he⟩, hit⟩ hg
    have hh : X.A.in1.handled = none := I.ok.hd hc
    have DD := Draws.text (prog := X.prog) (w := X.w) (A := X.A.in1) hh it x t
    have l1 : e < s.heap.objs.size := Heap.lt_size he
    have l2 : it < s.heap.objs.size := by obtain ⟨_, q, _⟩ := hit; exact Heap.lt_size q
    refine wpAny_pyNext_enum_itemD DD he hit hg hne (by simpa using hne) fun v h1 tk hv ho hit' hT hsz hk => ?_
    obtain ⟨c, u, hc', rfl⟩ := hv
    refine ⟨_, rfl, wpAny_letOwnedTupleGo_enum (s := { s with heap := h1, toks := tk + 1 }) ho fun h2 he' sb => ?_⟩
    have nT := Nat.ne_of_gt l1
    have gT : h2.get? s.heap.objs.size = some { cls := .type "tuple", data := .seq #[.int i tk, .str ⟨#[c]⟩ u] } := (sb.2 _ nT).trans hT
    have fresh : H s.heap.objs.size = none := I.hok.fresh (Nat.le_refl _)
    have new : ObjOk X.prog X.w (upd H s.heap.objs.size (.tup [.int (i : Nat), .str ⟨#[c]⟩])) h2 s.heap.objs.size (.tup [.int (i : Nat), .str ⟨#[c]⟩]) :=
      ⟨Nat.le_of_ble_eq_true rfl, [.int i tk, .str ⟨#[c]⟩ u], .cons ⟨_, rfl⟩ (.cons ⟨_, rfl⟩ .nil), _, gT, rfl, _, rfl⟩
    have J : Inv X pins σ (upd H s.heap.objs.size (.tup [.int (i : Nat), .str ⟨#[c]⟩])) { s with heap := h2, toks := tk + 1 } := by
      refine I.turnedNew (ch := [e, it]) (fun b ob hb q => ?_) hf (Nat.le_refl _) new
      have n1 : b ≠ e := fun z => hb (by simp [z])
      have n2 : b ≠ it := fun z => hb (by simp [z])
      exact (sb.2 b n1).trans (hk b ob n1 n2 q)
    refine ⟨.ref s.heap.objs.size, _, J, rfl, ⟨_, c, rfl, fresh, hc', rfl⟩, ⟨⟨.str ⟨#[c]⟩ u, ?_⟩, ?_⟩, fun b hb => ?_⟩
    · rw [show ((i + 1 : Nat) : Int) = (i : Int) + 1 by omega]
      exact he'
    · obtain ⟨o, g1, g2⟩ := hit'
      exact ⟨o, (sb.2 it (Ne.symm hne)).trans g1, g2⟩
    · have lb : b < s.heap.objs.size := by
        have e' : b = e ∨ b = it := by simpa using hb
        rcases e' with rfl | rfl <;> assumption
      rw [upd_ne (Nat.ne_of_lt lb)]
      exact (hf b hb).1
  · rintro X rfl rfl rfl hc i pins s σ H E I hf ⟨⟨old, he⟩, hit⟩ hg
    have hh : X.A.in1.handled = none := I.ok.hd hc
    have DD := Draws.text (prog := X.prog) (w := X.w) (A := X.A.in1) hh it x t
    have hi : i = x.cps.size := hg
    subst hi
    obtain ⟨f0, f1, f2, f3, f4, f5⟩ := hf it (by simp)
    exact wpAny_pyNext_enum_endD DD he hit fun h1 eb => ⟨rfl, I.turned (t' := s.toks) (fun b o hb q => eb b o hb q) f0 f1 f3 f4 f5⟩
  · obtain ⟨⟨old, he⟩, _⟩ := st
    exact wpAny_pyIter_enum he h
def iEnS (ta : TA) : TI := fun σ H R => ta σ H fun vs H1 => ∃ x, vs = [.str x] ∧ R (ItE x) H1
theorem pi_enumS {X : Cx} {e : Expr} {ta : TA} {p pos tpos : Pos} {elts : List Expr} {kk : Nat} (hg : Gl X "enumerate") (hm : X.mg "enumerate" = none) (ha : PA X [e] ta) (hs : starEach [e] X.env = [(false, eval e X.env)] := by rfl) :
    PI X (.Tuple elts kk tpos) (.Call (.Name "enumerate" p) [e] [] pos) (iEnS ta) := by
  constructor
  intro pins s σ H R I h
  refine Call_ (ld_blt I hg hm boot_enumerate (PyProof.Rows.callWith_type1 (thn (ha.run pos pins s σ H _ I h) fun us s1 q1 => ?_) hs rfl))
  obtain ⟨vs, H1, I1, r1, x, rfl, q⟩ := q1
  cases r1 with
  | cons r rr =>
    cases rr
    obtain ⟨t, rfl⟩ := r
    refine call_enumerate_str fun h1 he hit hsz hk => wpAny_pyIter_enum he ?_
    have J : Inv X pins σ H1 { s1 with heap := h1 } := I1.kept (t' := s1.toks) hk
    refine ⟨s1.heap.objs.size + 1, [s1.heap.objs.size + 1, s1.heap.objs.size], _, ItE x, H1, rfl, J, turn_enumS x t _ _ (Nat.succ_ne_self _), ⟨⟨.none, he⟩, hit⟩, fun b hb => ?_, q⟩
    have lb : s1.heap.objs.size ≤ b := by
      have e' : b = s1.heap.objs.size + 1 ∨ b = s1.heap.objs.size := by simpa using hb
      rcases e' with rfl | rfl
      · exact Nat.le_succ _
      · exact Nat.le_refl _
    exact I1.fpOk lb (I1.hok.fresh lb)
theorem walk_enumS {x : Str} : Walk (ItE x) x.cps.size (fun _ => True) (fun i H v H' => ∃ T c, v = .ref T ∧ H T = none ∧ x.cps[i]? = some c ∧ H' = upd H T (.tup [.int (i : Nat), .str ⟨#[c]⟩])) :=
  ⟨fun _ _ hi _ => hi, fun _ _ => rfl, fun _ _ _ _ _ _ y => y⟩
end Sw
namespace Sw
open PySem PySem.Spec PyProof.Rows L2
/-! ### comprehensions that leave all as it was -/
theorem lc_map {J : It} {n : Nat} {G : Hp → Prop} {Y : Nat → Hp → V → Hp → Prop} {g : TG} {te : TE} {vs : List Nat} {σ : L2.St} {H1 : Hp} {D : Addr} {Qd : Hp → Prop} (w : Walk J n G Y) (f : Nat → V)
    (hn : n ≤ 1000000) (nD : H1 D = none) (hG : ∀ H, Same H1 H → G H)
    (hs : ∀ i x H H', i < n → Same H1 H → Y i H x H' → ∀ R : V → Hp → Prop, (∀ H4, Same H H4 → R (f i) H4) → g x (wipe σ vs) H' fun σ2 H2 => wipe σ2 vs = wipe σ vs ∧ te σ2 H2 R)
    (hd : ∀ H, Same H1 H → H D = some (.lst ((List.range n).map f)) → Qd H)
    (hmono : ∀ x σ H (R R' : L2.St → Hp → Prop), (∀ σ' H', R σ' H' → R' σ' H') → g x σ H R → g x σ H R') :
    ∃ W : Nat → Nat → Hp → Prop, (∃ m, W 0 m (upd H1 D (.lst []))) ∧ ∀ i m H, W i m H →
      (J.stop i H ∧ Qd H) ∨ (J.go i H ∧ ∃ Nx : Hp → Prop, (∀ H', Nx H' → ∃ m', m' < m ∧ W (i + 1) m' H') ∧ ∀ x H', J.yld i H x H' → g x (wipe σ vs) H' fun σ2 H2 => wipe σ2 vs = wipe σ vs ∧ tYes σ2 H2 fun b H3 =>
        if b = true then te σ2 H3 fun y H4 => ∃ acc, H4 D = some (.lst acc) ∧ acc.length < sizeLine ∧ Nx (upd H4 D (.lst (acc ++ [y]))) else Nx H3) := by
  refine lc_it w (fun i H => Same H1 H ∧ H D = some (.lst ((List.range i).map f))) ⟨same_upd nD, upd_same⟩ (fun i H _ p => hG H p.1) (fun i x H H' hi p y => ?_) (fun H p => hd H p.1 p.2)
  refine hmono _ _ _ _ _ (fun σ2 H2 q => ?_) (hs i x H H' hi p.1 y (fun y H4 => ∃ acc, H4 D = some (.lst acc) ∧ acc.length < sizeLine ∧ (Same H1 (upd H4 D (.lst (acc ++ [y]))) ∧ (upd H4 D (.lst (acc ++ [y]))) D = some (.lst ((List.range (i + 1)).map f)))) (fun H4 s4 => ?_))
  · refine ⟨q.1, ?_⟩
    unfold tYes
    dsimp only
    rw [if_pos rfl]
    exact q.2
  · refine ⟨_, s4 _ _ p.2, ?_, fun b o e => ?_, ?_⟩
    · rw [List.length_map, List.length_range]
      exact Nat.lt_of_lt_of_le hi (Nat.le_trans hn (by decide))
    · rw [upd_ne (ne_of_none e nD)]
      exact s4 _ _ (p.1 _ _ e)
    · rw [upd_same, List.range_succ, List.map_append]
      rfl
theorem mono_name {i : Nat} (x : V) (σ : L2.St) (H : Hp) (R R' : L2.St → Hp → Prop) (h : ∀ σ' H', R σ' H' → R' σ' H') (q : gName i x σ H R) : gName i x σ H R' := h _ _ q
theorem range_map_get {α β : Type} (l : List α) (F : Nat → β) (g : α → β) (h : ∀ i x, l[i]? = some x → F i = g x) : (List.range l.length).map F = l.map g := by
  apply List.ext_getElem?
  intro i
  rw [List.getElem?_map, List.getElem?_map]
  by_cases hi : i < l.length
  · rw [List.getElem?_range hi, List.getElem?_eq_getElem hi]
    show some (F i) = some (g l[i])
    rw [h i _ (List.getElem?_eq_getElem hi)]
  · rw [List.getElem?_eq_none (by rw [List.length_range]; omega), List.getElem?_eq_none (by omega)]; rfl
/-! ### isinstance -/
theorem i_isi {K : PySem.W.Frag} {H : Hp} {Q : VK} {x : V} {t : Value} {n : String} (b : Bool) (h1 : TyX K H x t) (h2 : PySem.W.kitOne K t (.type n) = some b) (h : Q (.bl b) H) : rIsi K [x, .ty n] H Q := ⟨x, .ty n, t, .type n, b, rfl, .ty n, h1, h2, h⟩
/-! ### texts of letters -/
def azB (l : List Nat) : Bool := l.all fun c => decide (97 ≤ c ∧ c ≤ 122)
theorem azB_app (a b : List Nat) : azB (a ++ b) = (azB a && azB b) := by simp [azB, List.all_append]
theorem azB_take {l : List Nat} (h : azB l = true) (n : Nat) : azB (l.take n) = true := by
  unfold azB at *
  rw [List.all_eq_true] at *
  exact fun x hx => h x (List.mem_of_mem_take hx)
theorem azB_drop {l : List Nat} (h : azB l = true) (n : Nat) : azB (l.drop n) = true := by
  unfold azB at *
  rw [List.all_eq_true] at *
  exact fun x hx => h x (List.mem_of_mem_drop hx)
theorem az_letters : (("abcdefghijklmnopqrstuvwxyz" : Str)).cps.toList = List.range' 97 26 := by decide +kernel
theorem az_in (c : Nat) : decide (c ∈ (("abcdefghijklmnopqrstuvwxyz" : Str)).cps.toList) = decide (97 ≤ c ∧ c ≤ 122) := by
  rw [az_letters]
  by_cases h : 97 ≤ c ∧ c ≤ 122
  · rw [decide_eq_true h, decide_eq_true]
    exact List.mem_range'_1.mpr ⟨h.1, by omega⟩
  · rw [decide_eq_false h, decide_eq_false]
    intro q
    have := List.mem_range'_1.mp q
    omega
theorem e_empty : (("" : Str)) = S [] := by decide +kernel
theorem starts_S (a b : List Nat) : Txt.startswith (S a) (S b) = decide (a.take b.length = b) := by
  unfold Txt.startswith Builtin.Str.subAt
  rw [S_len, S_len]
  show (decide (0 + b.length ≤ a.length) && ((a.toArray.extract 0 (0 + b.length)) == b.toArray)) = _
  rw [Nat.zero_add]
  have e : (a.toArray.extract 0 b.length) = (a.take b.length).toArray := by
    rw [List.extract_toArray, List.extract_eq_take_drop]
    simp
  rw [e]
  by_cases h : a.take b.length = b
  · rw [h, decide_eq_true rfl, beq_self_eq_true, Bool.and_true, decide_eq_true]
    have := congrArg List.length h
    rw [List.length_take] at this
    omega
  · rw [decide_eq_false h]
    have : ((a.take b.length).toArray == b.toArray) = false := by
      rw [beq_eq_false_iff_ne]
      intro q
      exact h (by simpa using q)
    rw [this, Bool.and_false]
/-! ### what is known of a heap stays -/
theorem Same.at {H H' : Hp} {a : Addr} {o : HO} (s : Same H H') (h : H a = some o) : H' a = some o := s a o h
theorem Same.sqT {K : PySem.W.Frag} {H H' : Hp} {a : Addr} {xs : List V} (e : Same H H') (h : SqT K H a xs) : SqT K H' a xs := by
  rcases h with (h | ⟨o, h⟩) | h
  · exact .inl (.inl (e _ _ h))
  · exact .inl (.inr ⟨o, e _ _ h⟩)
  · exact .inr h
theorem Same.sqL {K : PySem.W.Frag} {H H' : Hp} {a : Addr} {xs : List V} (e : Same H H') (h : SqL K H a xs) : SqL K H' a xs := e.seq h
theorem Same.upd_new {H H1 : Hp} {p : Addr} {o : HO} (s : Same H H1) (n : H1 p = none) : Same H (upd H1 p o) := s.trans (same_upd n)
/-- an object that is new since H is written: what was tracked at H stays -/
theorem Same.set_new {H H1 : Hp} {p : Addr} {o : HO} (s : Same H H1) (n : H p = none) : Same H (upd H1 p o) := fun b x e => by
  rw [upd_ne (ne_of_none e n)]
  exact s _ _ e
/-! ### loops and comprehensions, their source apart -/
def LcGo (J : It) (g : TG) (tt : TT) (te : TE) (vs : List Nat) (σ : L2.St) (H : Hp) (Q : VK) : Prop := tLc (fun _ H R => R J H) g tt te vs σ H Q
def ForGo (J : It) (g : TG) (tb : TS) (D : Ends) (σ : L2.St) (H : Hp) : Prop := tFor (fun _ H R => R J H) g tb D σ H
theorem i_lc {wi : TI} {g : TG} {tt : TT} {te : TE} {vs : List Nat} {σ : L2.St} {H : Hp} {Q : VK} (h : wi σ H fun J H1 => LcGo J g tt te vs σ H1 Q) : tLc wi g tt te vs σ H Q := h
theorem i_for {wi : TI} {g : TG} {tb : TS} {D : Ends} {σ : L2.St} {H : Hp} (h : wi σ H fun J H1 => ForGo J g tb D σ H1) : tFor wi g tb D σ H := h
theorem i_iList {K : PySem.W.Frag} {tl : TE} {R : It → Hp → Prop} {σ : L2.St} {H : Hp} (h : tl σ H fun x H1 => ∃ a, x = .ref a ∧ (∃ xs, SqL K H1 a xs) ∧ R (Itl K a) H1) : iList K tl σ H R := h
theorem i_iTup {K : PySem.W.Frag} {tl : TE} {R : It → Hp → Prop} {σ : L2.St} {H : Hp} (h : tl σ H fun x H1 => ∃ a, x = .ref a ∧ (∃ xs, SqT K H1 a xs) ∧ R (Itt K a) H1) : iTup K tl σ H R := h
theorem i_iStr {te : TE} {R : It → Hp → Prop} {σ : L2.St} {H : Hp} (h : te σ H fun v H1 => ∃ x, v = .str x ∧ R (Its x) H1) : iStr te σ H R := h
theorem i_iRng1 {ta : TA} {R : It → Hp → Prop} {σ : L2.St} {H : Hp} (h : ta σ H fun vs H1 => ∃ j : Int, vs = [.int j] ∧ -(2 ^ 62) ≤ j ∧ j < 2 ^ 62 ∧ R (Itr 0 j.toNat) H1) : iRng1 ta σ H R := h
theorem i_iEnS {ta : TA} {R : It → Hp → Prop} {σ : L2.St} {H : Hp} (h : ta σ H fun vs H1 => ∃ x, vs = [.str x] ∧ R (ItE x) H1) : iEnS ta σ H R := h
theorem i_rng {j : Int} {A : Prop} (h0 : 0 ≤ j) (h1 : j ≤ 1000000) (h : A) : -(2 ^ 62) ≤ j ∧ j < 2 ^ 62 ∧ A := ⟨by omega, by omega, h⟩
theorem i_sqL {K : PySem.W.Frag} {H : Hp} {a : Addr} {xs : List V} {A : Prop} (h1 : SqL K H a xs) (h : A) : (∃ xs, SqL K H a xs) ∧ A := ⟨⟨xs, h1⟩, h⟩
section
variable {J : It} {n : Nat} {G : Hp → Prop} {Y : Nat → Hp → V → Hp → Prop} {g : TG} {tt : TT} {te : TE} {tb : TS} {vs : List Nat} {σ : L2.St} {H1 : Hp} {D : Ends} {Q : VK}
theorem go_map (w : Walk J n G Y) (f : Nat → V) (hn : n ≤ 1000000) (hG : ∀ H, Same H1 H → G H)
    (hs : ∀ i x H H', i < n → Same H1 H → Y i H x H' → ∀ R : V → Hp → Prop, (∀ H4, Same H H4 → R (f i) H4) → g x (wipe σ vs) H' fun σ2 H2 => wipe σ2 vs = wipe σ vs ∧ te σ2 H2 R)
    (hmono : ∀ x σ H (R R' : L2.St → Hp → Prop), (∀ σ' H', R σ' H' → R' σ' H') → g x σ H R → g x σ H R')
    (hd : ∀ p H, H1 p = none → Same H1 H → H p = some (.lst ((List.range n).map f)) → Q (.ref p) H) : LcGo J g tYes te vs σ H1 Q :=
  fun p np => lc_map w f hn np hG hs (fun H s e => hd p H np s e) hmono
theorem go_lc (w : Walk J n G Y) (Pv : Addr → Nat → Hp → Prop) (h0 : ∀ p, H1 p = none → Pv p 0 (upd H1 p (.lst []))) (hG : ∀ p i H, i ≤ n → Pv p i H → G H)
    (hs : ∀ p, H1 p = none → ∀ i x H H', i < n → Pv p i H → Y i H x H' → g x (wipe σ vs) H' fun σ2 H2 => wipe σ2 vs = wipe σ vs ∧ tt σ2 H2 fun b H3 =>
      if b = true then te σ2 H3 fun y H4 => ∃ acc, H4 p = some (.lst acc) ∧ acc.length < sizeLine ∧ Pv p (i + 1) (upd H4 p (.lst (acc ++ [y]))) else Pv p (i + 1) H3)
    (hd : ∀ p H, H1 p = none → Pv p n H → Q (.ref p) H) : LcGo J g tt te vs σ H1 Q :=
  fun p np => lc_it w (Pv p) (h0 p np) (hG p) (hs p np) fun H q => hd p H np q
theorem go_for (w : Walk J n G Y) (Pv : Nat → L2.St → Hp → Prop) (h0 : Pv 0 σ H1) (hG : ∀ i σ H, i ≤ n → Pv i σ H → G H)
    (hs : ∀ i x σ H H', i < n → Pv i σ H → Y i H x H' → g x σ H' fun σ2 H2 => tb { D with nx := Pv (i + 1), ct := Pv (i + 1), bk := D.nx } σ2 H2) (hd : ∀ σ H, Pv n σ H → D.nx σ H) : ForGo J g tb D σ H1 :=
  for_it w Pv h0 hG hs hd
end
theorem i_all {K : PySem.W.Frag} {p : Addr} {bs : List Bool} {H : Hp} {Q : VK} (h1 : H p = some (.lst (bs.map V.bl))) (h : Q (.bl (bs.all id)) H) : rAll K [.ref p] H Q := ⟨p, bs, rfl, sqL_of h1, h⟩
theorem i_inSeq {K : PySem.W.Frag} {p : Addr} {xs : List V} {x : V} {H : Hp} {Q : VK} (h1 : SqL K H p xs ∨ SqT K H p xs) (h2 : flatV x = true) (h3 : xs.all flatV = true) (h : Q (.bl (inV x xs)) H) : rIn K false x (.ref p) H Q := ⟨p, xs, rfl, h1, h2, h3, h⟩
theorem i_ixLH {K : PySem.W.Frag} {p : Addr} {xs : List V} {i : Int} {v : V} {H : Hp} {Q : VK} (h1 : H p = some (.lst xs)) (h2 : atI xs i = some v) (h : Q v H) : rIxL K (.ref p) (.int i) H Q := i_ixL (sqL_of h1) h2 h
theorem i_ixTH {K : PySem.W.Frag} {p : Addr} {xs : List V} {i : Int} {v : V} {H : Hp} {Q : VK} (h1 : H p = some (.tup xs)) (h2 : atI xs i = some v) (h : Q v H) : rIxT K (.ref p) (.int i) H Q := i_ixT (sqT_of h1) h2 h
theorem upd_old {H : Hp} {p a : Addr} {o u : HO} (n : H p = none) (h : H a = some u) : upd H p o a = some u := by rw [upd_ne (ne_of_none h n)]; exact h
theorem upd_skip {H : Hp} {p a : Addr} {o u : HO} (n : a ≠ p) (h : H a = some u) : upd H p o a = some u := by rw [upd_ne n]; exact h
theorem iteNT {A B : Prop} (h : B) : if (!true) = true then A else B := iteF h
theorem iteNF {A B : Prop} (h : A) : if (!false) = true then A else B := iteT h
theorem iteNB {p : Prop} [Decidable p] {A B : Prop} (h1 : ¬ p → A) (h2 : p → B) : if (!decide p) = true then A else B := by
  by_cases h : p
  · rw [decide_eq_true h]; exact iteF (h2 h)
  · rw [decide_eq_false h]; exact iteT (h1 h)
theorem iteNC {c : Bool} {A B : Prop} (h1 : c = false → A) (h2 : c = true → B) : if (!c) = true then A else B := by
  cases c with
  | true => exact iteF (h2 rfl)
  | false => exact iteT (h1 rfl)
/-! ### rules whose readings have names, over texts S l -/
section
variable {X : Cx} {H : Hp} {Q : VK} {K : PySem.W.Frag}
theorem pe_strS {x : Str} {j pos} {l : List Nat} (e : x = S l) : PE X (.Constant (.str x) j pos) (tC (.str (S l))) := by rw [e]; exact pe_str
def rAddS : R2 := fun x y H Q => ∃ a b, x = .str (S a) ∧ y = .str (S b) ∧ a.length + b.length ≤ 1000000 ∧ Q (.str (S (a ++ b))) H
theorem op_addS : OpR X (binaryOp .Add) rAddS := fun pins s σ H x y v u Q I rx ry h => by
  obtain ⟨a, b, e1, e2, hz, q⟩ := h
  exact op_add_str pins s σ H x y v u Q I rx ry ⟨S a, S b, e1, e2, by rw [S_len, S_len]; exact Nat.le_trans hz (by decide), by rw [S_app]; exact q⟩
theorem i_addS {a b : List Nat} (h1 : a.length + b.length ≤ 1000000) (h : Q (.str (S (a ++ b))) H) : rAddS (.str (S a)) (.str (S b)) H Q := ⟨a, b, rfl, rfl, h1, h⟩
def rIxSS : V → V → Hp → VK → Prop := fun x y H Q => ∃ l i c, x = .str (S l) ∧ y = .int i ∧ l.length ≤ 1000000 ∧ atI l i = some c ∧ Q (.str (S [c])) H
theorem ix_S : IxR X rIxSS := fun pins s σ H x y v u b Q I rx ry hb h => by
  obtain ⟨l, i, c, e1, e2, hz, hc, q⟩ := h
  exact ix_str pins s σ H x y v u b Q I rx ry hb ⟨S l, i, c, e1, e2, by rw [S_len]; exact Nat.le_trans hz (by decide), by rw [S_list]; exact hc, q⟩
theorem i_ixSS {l : List Nat} {i : Int} {c : Nat} (h1 : l.length ≤ 1000000) (h2 : atI l i = some c) (h : Q (.str (S [c])) H) : rIxSS (.str (S l)) (.int i) H Q := ⟨l, i, c, rfl, rfl, h1, h2, h⟩
def rSlSS : V → Option Int → Option Int → Hp → VK → Prop := fun x lo hi H Q => ∃ l, x = .str (S l) ∧ l.length ≤ 1000000 ∧ Q (.str (S (cut l lo hi))) H
theorem sl_S : SlR X rSlSS := fun pins s σ H x v vl vu lo hi sl Q I rx hs pl pu h => by
  obtain ⟨l, e1, hz, q⟩ := h
  exact sl_str pins s σ H x v vl vu lo hi sl Q I rx hs pl pu ⟨S l, e1, by rw [S_len]; exact Nat.le_trans hz (by decide), by rw [cutS_S]; exact q⟩
theorem i_slFrom {l : List Nat} {k : Int} (h0 : 0 ≤ k) (h1 : l.length ≤ 1000000) (h : Q (.str (S (l.drop k.toNat))) H) : rSlSS (.str (S l)) (some k) none H Q :=
  ⟨l, rfl, h1, by rw [show k = ((k.toNat : Nat) : Int) by omega, cut_from]; exact h⟩
theorem i_slTo {l : List Nat} {k : Int} (h0 : 0 ≤ k) (h1 : l.length ≤ 1000000) (h : Q (.str (S (l.take k.toNat))) H) : rSlSS (.str (S l)) none (some k) H Q :=
  ⟨l, rfl, h1, by rw [show k = ((k.toNat : Nat) : Int) by omega, cut_to]; exact h⟩
def rLenSS : List V → Hp → VK → Prop := fun xs H Q => ∃ l, xs = [.str (S l)] ∧ l.length ≤ 1000000 ∧ Q (.int (l.length : Int)) H
theorem call_lenS : CallR X (.builtin "len") rLenSS := fun pins s σ H xs us Q I r h => by
  obtain ⟨l, e1, hz, q⟩ := h
  exact call_len_str pins s σ H xs us Q I r ⟨S l, e1, by rw [S_len]; exact Nat.le_trans hz (by decide), by rw [S_len]; exact q⟩
theorem i_lenSS {l : List Nat} (h1 : l.length ≤ 1000000) (h : Q (.int (l.length : Int)) H) : rLenSS [.str (S l)] H Q := ⟨l, rfl, h1, h⟩
def rStartS : V → List V → Hp → VK → Prop := fun x xs H Q => ∃ a b, x = .str (S a) ∧ xs = [.str (S b)] ∧ Q (.bl (decide (a.take b.length = b))) H
theorem mt_startsS : MtR X "str.startswith" rStartS := fun pins s σ H x xs v us Q I rx rv h => by
  obtain ⟨a, b, e1, e2, q⟩ := h
  exact mt_startswith pins s σ H x xs v us Q I rx rv ⟨S a, S b, e1, e2, by rw [starts_S]; exact q⟩
theorem i_startS {a b : List Nat} (h : Q (.bl (decide (a.take b.length = b))) H) : rStartS (.str (S a)) [.str (S b)] H Q := ⟨a, b, rfl, rfl, h⟩
def rInSg : R2 := fun x y H Q => ∃ (c : Nat) (z : Str), x = .str (S [c]) ∧ y = .str z ∧ Q (.bl (decide (c ∈ z.cps.toList))) H
theorem op_inSg : OpR X (compareOp .In) rInSg := op_in_sign
theorem i_inSg {c : Nat} {z : Str} (h : Q (.bl (decide (c ∈ z.cps.toList))) H) : rInSg (.str (S [c])) (.str z) H Q := ⟨c, z, rfl, rfl, h⟩
def rAbs : List V → Hp → VK → Prop := fun xs H Q => ∃ i, xs = [.int i] ∧ Q (.int (if i < 0 then -i else i)) H
theorem call_absN : CallR X (.builtin "abs") rAbs := call_abs
theorem i_absN {i : Int} (h : Q (.int (if i < 0 then -i else i)) H) : rAbs [.int i] H Q := ⟨i, rfl, h⟩
def rMin2 : List V → Hp → VK → Prop := fun xs H Q => ∃ i j, xs = [.int i, .int j] ∧ Q (.int (if j < i then j else i)) H
theorem call_min2N (hc : X.calm = true) : CallR X (.builtin "min") rMin2 := call_min2 hc
theorem i_min2 {i j : Int} (h : Q (.int (min i j)) H) : rMin2 [.int i, .int j] H Q := ⟨i, j, rfl, by
  by_cases c : j < i
  · rw [if_pos c]; rw [show min i j = j by omega] at h; exact h
  · rw [if_neg c]; rw [show min i j = i by omega] at h; exact h⟩
def rMax2 : List V → Hp → VK → Prop := fun xs H Q => ∃ i j, xs = [.int i, .int j] ∧ Q (.int (if j > i then j else i)) H
theorem call_max2N (hc : X.calm = true) : CallR X (.builtin "max") rMax2 := call_max2 hc
theorem i_max2 {i j : Int} (h : Q (.int (max i j)) H) : rMax2 [.int i, .int j] H Q := ⟨i, j, rfl, by
  by_cases c : j > i
  · rw [if_pos c]; rw [show max i j = j by omega] at h; exact h
  · rw [if_neg c]; rw [show max i j = i by omega] at h; exact h⟩
def rMin3 : List V → Hp → VK → Prop := fun xs H Q => ∃ i j k, xs = [.int i, .int j, .int k] ∧ Q (.int (min (min i j) k)) H
theorem nuMin2_int (i j : Int) : nuMin2 (.int i) (.int j) = some (.int (min i j)) := by
  show some (if decide (j < i) = true then V.int j else V.int i) = some (.int (min i j))
  by_cases c : j < i
  · rw [decide_eq_true c, if_pos rfl, show min i j = j by omega]
  · rw [decide_eq_false c, if_neg Bool.false_ne_true, show min i j = i by omega]
theorem call_min3N (hc : X.calm = true) : CallR X (.builtin "min") rMin3 := fun pins s σ H xs us Q I r h => by
  obtain ⟨i, j, k, e1, q⟩ := h
  exact call_min3Nu hc pins s σ H xs us Q I r ⟨_, _, _, _, e1, by unfold nuMin3; rw [nuMin2_int]; show nuMin2 (.int (min i j)) (.int k) = _; rw [nuMin2_int], q⟩
theorem i_min3 {i j k : Int} (h : Q (.int (min (min i j) k)) H) : rMin3 [.int i, .int j, .int k] H Q := ⟨i, j, k, rfl, h⟩
def rInt : List V → Hp → VK → Prop := fun xs H Q => (∃ i, xs = [.int i] ∧ Q (.int i) H) ∨ ∃ k, xs = [.bl k] ∧ Q (.int (if k then 1 else 0)) H
theorem call_intN : CallR X (.type "int") rInt := call_int1
theorem i_intN {i : Int} (h : Q (.int i) H) : rInt [.int i] H Q := .inl ⟨i, rfl, h⟩
theorem i_intNB {k : Bool} (h : Q (.int (if k then 1 else 0)) H) : rInt [.bl k] H Q := .inr ⟨k, rfl, h⟩
def rLenQ (K : PySem.W.Frag) : List V → Hp → VK → Prop := fun xs H Q => ∃ p ys, xs = [.ref p] ∧ (SqL K H p ys ∨ SqT K H p ys) ∧ Q (.int ys.length) H
theorem call_lenQ : CallR X (.builtin "len") (rLenQ X.K) := call_len_seq
theorem i_lenL {p : Addr} {ys : List V} (h1 : H p = some (.lst ys)) (h : Q (.int ys.length) H) : rLenQ K [.ref p] H Q := ⟨p, ys, rfl, .inl (sqL_of h1), h⟩
theorem i_lenT {p : Addr} {ys : List V} (h1 : H p = some (.tup ys)) (h : Q (.int ys.length) H) : rLenQ K [.ref p] H Q := ⟨p, ys, rfl, .inr (sqT_of h1), h⟩
theorem i_lenK {p : Addr} {ys : List V} (h1 : SqL K H p ys) (h : Q (.int ys.length) H) : rLenQ K [.ref p] H Q := ⟨p, ys, rfl, .inl h1, h⟩
theorem dec_inj {α β : Type} [DecidableEq α] [DecidableEq β] {f : α → β} (hf : ∀ a b, f a = f b → a = b) (a b : α) : decide (f a = f b) = decide (a = b) := by
  by_cases h : a = b
  · subst h; simp
  · rw [decide_eq_false h, decide_eq_false (fun e => h (hf a b e))]
theorem dec_I (a b : Int) : decide (V.int a = V.int b) = decide (a = b) := dec_inj (fun _ _ e => V.int.inj e) a b
theorem i_eqI {a b : Int} (h : Q (.bl (decide (a = b))) H) : rEq (.int a) (.int b) H Q := ⟨rfl, by rw [dec_I]; exact h⟩
theorem i_neI {a b : Int} (h : Q (.bl (!decide (a = b))) H) : rNe (.int a) (.int b) H Q := ⟨rfl, by rw [dec_I]; exact h⟩
theorem i_eqS {a b : List Nat} (h : Q (.bl (decide (a = b))) H) : rEq (.str (S a)) (.str (S b)) H Q := ⟨rfl, by rw [S_dec]; exact h⟩
theorem i_neS {a b : List Nat} (h : Q (.bl (!decide (a = b))) H) : rNe (.str (S a)) (.str (S b)) H Q := ⟨rfl, by rw [S_dec]; exact h⟩
def rIsNo : R2 := fun x y H Q => y = .non ∧ Q (.bl (decide (x = .non))) H
theorem op_isNo : OpR X (compareOp .Is) rIsNo := op_isN
theorem i_isNoI {i : Int} (h : Q (.bl false) H) : rIsNo (.int i) .non H Q := ⟨rfl, h⟩
theorem i_isNoN (h : Q (.bl true) H) : rIsNo .non .non H Q := ⟨rfl, h⟩
theorem i_isNoR {a : Addr} (h : Q (.bl false) H) : rIsNo (.ref a) .non H Q := ⟨rfl, h⟩
def rRepI : List V → Hp → VK → Prop := fun xs H Q => ∃ i, xs = [.int i] ∧ i.natAbs.log2 < 1920 ∧ Q (.str (toString i)) H
theorem call_repI : CallR X (.builtin "repr") rRepI := SkE.call_repr_int
end
theorem walk_S {l : List Nat} : Walk (Its (S l)) l.length (fun _ => True) (fun i H v H' => H' = H ∧ ∃ c, l[i]? = some c ∧ v = .str (S [c])) := by
  have w := walk_str (z := S l)
  rw [S_size] at w
  exact w.mono (fun _ _ => trivial) fun i H x H' _ _ y => by
    obtain ⟨e, c, hc, ev⟩ := y
    rw [S_get] at hc
    exact ⟨e, c, hc, ev⟩
theorem walk_eS {l : List Nat} : Walk (ItE (S l)) l.length (fun _ => True) (fun i H v H' => ∃ T c, v = .ref T ∧ H T = none ∧ l[i]? = some c ∧ H' = upd H T (.tup [.int (i : Nat), .str (S [c])])) := by
  have w := walk_enumS (x := S l)
  rw [S_size] at w
  exact w.mono (fun _ _ => trivial) fun i H x H' _ _ y => by
    obtain ⟨T, c, e, n, hc, eh⟩ := y
    rw [S_get] at hc
    exact ⟨T, c, e, n, hc, eh⟩
theorem go_while {c : TT} {tb : TS} {D : Ends} {σ : L2.St} {H : Hp} (Pv : Nat → L2.St → Hp → Prop) (m0 : Nat) (h0 : Pv m0 σ H)
    (hs : ∀ m σ H, Pv m σ H → c σ H fun b H1 => if b = true then ∃ N : L2.St → Hp → Prop, (∀ σ' H', N σ' H' → ∃ m', m' < m ∧ Pv m' σ' H') ∧ tb { D with nx := N, ct := N, bk := D.nx } σ H1 else D.nx σ H1) : tWhile c tb D σ H :=
  ⟨Pv, ⟨m0, h0⟩, hs⟩
theorem next_turn {m : Nat} {Pv : Nat → L2.St → Hp → Prop} {A : (L2.St → Hp → Prop) → Prop} (h : A fun σ' H' => ∃ m', m' < m ∧ Pv m' σ' H') : ∃ N : L2.St → Hp → Prop, (∀ σ' H', N σ' H' → ∃ m', m' < m ∧ Pv m' σ' H') ∧ A N := ⟨_, fun _ _ q => q, h⟩
def rRevS : V → Hp → VK → Prop := fun x H Q => ∃ l, x = .str (S l) ∧ l.length ≤ sizeLine ∧ Q (.str (S l.reverse)) H
theorem i_revS {te : TE} {σ : L2.St} {H : Hp} {Q : VK} (h : te σ H fun x H1 => rRevS x H1 Q) : tRevS te σ H Q := h
theorem i_revSS {l : List Nat} {H : Hp} {Q : VK} (h1 : l.length ≤ 1000000) (h : Q (.str (S l.reverse)) H) : rRevS (.str (S l)) H Q := ⟨l, rfl, Nat.le_trans h1 (by decide), h⟩
theorem i_cut {t u : TS} {D : Ends} {σ : L2.St} {H : Hp} (Mid : L2.St → Hp → Prop) (h1 : t { D with nx := Mid } σ H) (h2 : ∀ σ' H', Mid σ' H' → u D σ' H') : C8.tCut t u D σ H := ⟨Mid, h1, h2⟩
theorem i_minL {K : PySem.W.Frag} {p : Addr} {ns : List Int} {H : Hp} {Q : VK} (h1 : H p = some (.lst (ns.map V.int))) (h2 : 0 < ns.length) (h : ∀ m, m ∈ ns → (∀ y, y ∈ ns → m ≤ y) → Q (.int m) H) : rMin K [.ref p] H Q := ⟨p, ns, rfl, sqL_of h1, h2, h⟩
/-- one half of an if: what is appended, or nothing -/
theorem i_chainLL {g : Int → Int → Bool} {g' : Int → Int → Bool} {σ : L2.St} {H : Hp} {R : Bool → Hp → Prop} {i j k : Int}
    (h : R (g i j && g' j k) H) : rI0 (fun a b => .bl (g a b)) (.int i) (.int j) H fun z H3 => ∃ c, z = .bl c ∧ (if c = true then rI0 (fun a b => .bl (g' a b)) (.int j) (.int k) H3 fun x H4 => ∃ d, x = .bl d ∧ R d H4 else ∃ d, V.bl false = .bl d ∧ R d H3) := by
  refine ⟨i, j, rfl, rfl, g i j, rfl, ?_⟩
  cases e : g i j with
  | true => rw [e] at h; exact iteT ⟨j, k, rfl, rfl, g' j k, rfl, h⟩
  | false => rw [e] at h; exact iteF ⟨false, rfl, h⟩
theorem walk_rangeZ {n : Nat} : Walk (Itr 0 n) n (fun _ => True) (YFn fun i => .int (i : Int)) :=
  (walk_range (lo := 0) (n := n)).mono (fun _ h => h) fun i H x H' _ _ y => ⟨y.1, by rw [y.2]; show V.int (0 + (i : Int)) = V.int (i : Int); rw [Int.zero_add]⟩
theorem i_ixLI {K : PySem.W.Frag} {p : Addr} {ns : List Int} {i v : Int} {H : Hp} {Q : VK} (h1 : H p = some (.lst (ns.map V.int))) (h0 : 0 ≤ i) (h2 : ns[i.toNat]? = some v) (h : Q (.int v) H) : rIxL K (.ref p) (.int i) H Q := by
  refine i_ixLH h1 ?_ h
  have e := atI_nat (xs := ns.map V.int) (j := i.toNat) (v := .int v) (by rw [List.getElem?_map, h2]; rfl)
  rwa [show ((i.toNat : Nat) : Int) = i by omega] at e
theorem i_ixSI {l : List Nat} {i : Int} {c : Nat} {H : Hp} {Q : VK} (h0 : 0 ≤ i) (h2 : l[i.toNat]? = some c) (h1 : l.length ≤ 1000000) (h : Q (.str (S [c])) H) : rIxSS (.str (S l)) (.int i) H Q := by
  refine i_ixSS h1 ?_ h
  have e := atI_nat (xs := l) (j := i.toNat) (v := c) h2
  rwa [show ((i.toNat : Nat) : Int) = i by omega] at e
theorem i_appI {p : Addr} {ns : List Int} {v : Int} {H : Hp} {Q : VK} (h1 : H p = some (.lst (ns.map V.int))) (h2 : ns.length ≤ 1000000) (h : Q .non (upd H p (.lst ((ns ++ [v]).map V.int)))) : rAppend (.ref p) [.int v] H Q := by
  refine i_append h1 (by rw [List.length_map]; exact Nat.lt_of_le_of_lt h2 (by decide)) ?_
  rw [List.map_append] at h
  exact h
theorem i_gTupH {K : PySem.W.Frag} {n : Nat} {t : TGs} {a : Addr} {xs : List V} {σ : L2.St} {H : Hp} {R : L2.St → Hp → Prop} (h1 : H a = some (.tup xs)) (h2 : xs.length = n) (h : t xs σ H R) : gTup K n t (.ref a) σ H R := ⟨a, xs, rfl, sqT_of h1, h2, h⟩
theorem join_S (ws : List (List Nat)) : Txt.join (S []) (ws.map S) = S ws.flatten := by
  unfold Txt.join
  rw [StrLaws.glued_eq_join]
  induction ws with
  | nil => rfl
  | cons w ws ih =>
    cases ws with
    | nil => simp [Str.join]
    | cons v ws =>
      show S w ++ S [] ++ Str.join (S []) ((v :: ws).map S) = _
      rw [ih, S_app, S_app, List.append_nil]
      rfl
theorem sum_lens (ws : List (List Nat)) : ((ws.map S).map (·.length)).sum = ws.flatten.length := by
  induction ws with
  | nil => rfl
  | cons w ws ih =>
    rw [List.map_cons, List.map_cons, List.sum_cons, ih, List.flatten_cons, List.length_append, S_len]
def rJoinS (K : PySem.W.Frag) : V → List V → Hp → VK → Prop := fun x xs H Q => ∃ p, ∃ ws : List (List Nat), x = .str (S []) ∧ xs = [.ref p] ∧ (SqL K H p (ws.map fun l => .str (S l)) ∨ SqT K H p (ws.map fun l => .str (S l))) ∧ ws.flatten.length ≤ 1000000 ∧ Q (.str (S ws.flatten)) H
theorem mt_joinS {X : Cx} : MtR X "str.join" (rJoinS X.K) := fun pins s σ H x xs v us Q I rx rv h => by
  obtain ⟨p, ws, e1, e2, hp, hl, q⟩ := h
  have e3 : (ws.map fun l => V.str (S l)) = (ws.map S).map V.str := by rw [List.map_map]; rfl
  rw [e3] at hp
  refine mt_join pins s σ H x xs v us Q I rx rv ⟨S [], p, ws.map S, e1, e2, hp, ?_, by rw [join_S]; exact q⟩
  rw [sum_lens, show (S []).length = 0 from rfl, Nat.mul_zero, Nat.add_zero]
  omega
theorem i_joinS {K : PySem.W.Frag} {p : Addr} {ws : List (List Nat)} {H : Hp} {Q : VK} (h1 : H p = some (.lst (ws.map fun l => .str (S l)))) (h2 : ws.flatten.length ≤ 1000000) (h : Q (.str (S ws.flatten)) H) : rJoinS K (.str (S [])) [.ref p] H Q :=
  ⟨p, ws, rfl, rfl, .inl (sqL_of h1), h2, h⟩
theorem atI_neg1 {α : Type} {xs : List α} {v : α} {n : Nat} (h : xs.length = n + 1) (h2 : xs[n]? = some v) : atI xs (-1) = some v := by
  have e : xs = xs.dropLast ++ [v] := by
    have hne : xs ≠ [] := by intro z; rw [z] at h; cases h
    have := List.dropLast_concat_getLast hne
    have e2 : xs.getLast hne = v := by
      rw [List.getLast_eq_getElem]
      have := List.getElem?_eq_some_iff.mp h2
      obtain ⟨_, q⟩ := this
      simpa [h] using q
    rw [e2] at this
    exact this.symm
  rw [e]
  exact atI_last _ _
theorem i_ixLv {K : PySem.W.Frag} {p : Addr} {xs : List V} {i : Int} {v : V} {H : Hp} {Q : VK} (h1 : H p = some (.lst xs)) (h0 : 0 ≤ i) (h2 : xs[i.toNat]? = some v) (h : Q v H) : rIxL K (.ref p) (.int i) H Q := by
  refine i_ixLH h1 ?_ h
  have e := atI_nat (xs := xs) (j := i.toNat) (v := v) h2
  rwa [show ((i.toNat : Nat) : Int) = i by omega] at e
theorem i_rU {g : Int → V} {i : Int} {H : Hp} {Q : VK} (h : Q (g i) H) : rU g (.int i) H Q := ⟨i, rfl, h⟩
end Sw
namespace Sw
open PySem PySem.Spec PyProof.Rows L2
/-! ### t[::-1] of a tuple -/
theorem back_adjust (n : Nat) : Builtin.Slice.sliceAdjust none none (-1) (n : Int) = ((n : Int) - 1, -1) := by
  unfold Builtin.Slice.sliceAdjust
  simp
theorem back_places (n : Nat) : Builtin.Slice.slicePlaces ((n : Int) - 1) (-1) (-1) = n := by
  unfold Builtin.Slice.slicePlaces
  simp only [show ¬ ((-1 : Int) > 0) by decide, if_false]
  split <;> simp <;> omega
theorem fm_congr {α β : Type} {f g : α → Option β} : ∀ {l : List α}, (∀ a ∈ l, f a = g a) → l.filterMap f = l.filterMap g
  | [], _ => rfl
  | a :: l, h => by
    rw [List.filterMap_cons, List.filterMap_cons, h a List.mem_cons_self, fm_congr fun b hb => h b (List.mem_cons_of_mem _ hb)]
theorem back_pick {α : Type} (l : List α) : ((List.range l.length).filterMap fun (k : Nat) => l.toArray[(((l.length : Int) - 1) + (k : Int) * (-1)).toNat]?) = l.reverse := by
  have e : ∀ k ∈ List.range l.length, l.toArray[(((l.length : Int) - 1) + (k : Int) * (-1)).toNat]? = l.reverse[k]? := by
    intro k hk
    have hk := List.mem_range.mp hk
    rw [List.getElem?_reverse hk, List.getElem?_toArray]
    congr 1
    omega
  rw [fm_congr e]
  have h2 : ∀ m : List α, (List.range m.length).filterMap (fun k => m[k]?) = m := by
    intro m
    induction m with
    | nil => rfl
    | cons a m ih =>
      rw [List.length_cons, List.range_succ_eq_map, List.filterMap_cons, List.filterMap_map]
      show a :: List.filterMap ((fun k => (a :: m)[k]?) ∘ Nat.succ) (List.range m.length) = a :: m
      congr 1
  have := h2 l.reverse
  rwa [List.length_reverse] at this
theorem getItem_tuple_back {prog : Program} {w : World} {A : Around} {E : Value → Shared → Prop} {s : Shared} {t sl : Addr} {ys : List Value} {u : Tok} {Q : Value → Shared → Prop} (ht : IsTup s.heap t ys.toArray)
    (hs : ∃ os, s.heap.get? sl = some os ∧ os.cls = .type "slice" ∧ os.data = .fields #[.none, .none, .int (-1) u])
    (h : Q (.ref s.heap.objs.size) { s with heap := s.heap.push { cls := .type "tuple", data := .seq ys.reverse.toArray } }) (hz : ys.length ≤ sizeLine) : wpAny (model prog w) A (getItem (.ref t) (.ref sl)) Q E s := by
  have hno' : sizeOk (.seq ys.reverse.toArray) := by
    show ys.reverse.toArray.size ≤ sizeLine
    rw [List.size_toArray, List.length_reverse]
    exact hz
  obtain ⟨os, hos, hcs, hds⟩ := hs
  have hTs : s.TypeIs (.ref sl) "slice" := ⟨os, hos, hcs⟩
  unfold getItem
  try with_reducible refine wpAny_holding ?_
  first | refine wpAny_bind (wpAny_pure ?_) | skip
  refine wpAny_bind (wpAny_sequenceKey ht.typeIs (by decide) ?_)
  refine wpAny_bind (wpAny_callSpecial?_slot (name := Str.ofString "__getitem__") ht.typeIs PyProof.Rows.slot_tuple_getitem (wpAny_call_entry PyProof.Rows.slot_tuple_getitem ht.typeIs entry_tuple_getitem ?_ (args_tuple_getitem _ _)))
  show wpAny _ _ (Builtin.Tuple.tupleItemsOf (.ref t) >>= _) _ _ s
  refine wpAny_bind (tupleItemsOf_ ht ?_)
  refine wpAny_bind (wpAny_typeOf hTs ?_)
  rw [if_pos (by decide)]
  have ap : ∀ {R : Int × Int × Nat → Shared → Prop}, R (((ys.toArray.size : Nat) : Int) - 1, -1, ys.toArray.size) s → wpAny (model prog w) A.in1 (Builtin.Slice.sliceApplied (.ref sl) (pure ((ys.toArray.size : Nat) : Int))) R E s := by
    intro R hR
    unfold Builtin.Slice.sliceApplied Builtin.Slice.sliceFields
    refine wpAny_bind (wpAny_bind (wpAny_field hos hds (x := .none) rfl (wpAny_bind (wpAny_field hos hds (x := .none) rfl (wpAny_bind (wpAny_field hos hds (x := .int (-1) u) rfl (wpAny_pure ?_)))))))
    refine wpAny_bind (slicePart_int ?_)
    show wpAny _ _ (if ((-1 : Int) == 0) = true then _ else _) _ _ s
    rw [if_neg (by decide)]
    refine wpAny_bind (slicePart_none (wpAny_bind (slicePart_none (wpAny_bind (wpAny_pure ?_)))))
    show wpAny _ _ (match Builtin.Slice.sliceAdjust none none (-1) ((ys.toArray.size : Nat) : Int) with | (lo, hi) => pure (lo, (-1 : Int), Builtin.Slice.slicePlaces lo hi (-1))) _ _ s
    rw [back_adjust]
    show wpAny _ _ (pure (((ys.toArray.size : Nat) : Int) - 1, (-1 : Int), Builtin.Slice.slicePlaces (((ys.toArray.size : Nat) : Int) - 1) (-1) (-1))) _ _ s
    rw [back_places]
    exact wpAny_pure hR
  refine wpAny_bind (ap ?_)
  show wpAny _ _ (if (((ys.toArray.size : Nat) : Int) - 1 == 0 && (-1 : Int) == 1 && ys.toArray.size == ys.toArray.size) = true then _ else _) _ _ s
  rw [if_neg (by simp)]
  have e := back_pick ys
  rw [show ys.length = ys.toArray.size from List.size_toArray.symm] at e
  rw [e]
  first
    | exact wpAny_bind (m := Builtin.Tuple.tupleExact _) (wpAny_newObj_type (wpAny_pure ⟨_, rfl, wpAny_pure h⟩) hno')
    | exact wpAny_bind (m := Builtin.Tuple.tupleExact _) (wpAny_newObj_type (wpAny_bind (wpAny_pure (wpAny_pure ⟨_, rfl, wpAny_pure h⟩))) hno')
    | exact wpAny_bind (wpAny_bind (m := Builtin.Tuple.tupleExact _) (wpAny_newObj_type (wpAny_pure (wpAny_pure ⟨_, rfl, wpAny_pure h⟩)) hno'))
def tRevT (K : PySem.W.Frag) (te : TE) : TE := fun σ H Q => te σ H fun x H1 => ∃ a xs, x = .ref a ∧ SqT K H1 a xs ∧ ∀ p, H1 p = none → Q (.ref p) (upd H1 p (.tup xs.reverse))
theorem Vals.back {xs : List V} {us : List Value} (r : Vals xs us) : Vals xs.reverse us.reverse := by
  induction r with
  | nil => exact .nil
  | cons r1 _ ih =>
    rw [List.reverse_cons, List.reverse_cons]
    exact ih.append (.cons r1 .nil)
theorem pe_revT {X : Cx} {e : Expr} {te : TE} {k : Nat} {p1 p2 p3 pos : Pos} (he : PE X e te) :
    PE X (.Subscript e (.Slice none none (some (.UnaryOp .USub (.Constant (.int 1) k p1) p2)) p3) pos) (tRevT X.K te) := by
  constructor
  intro pins s σ H Q I h
  refine Subscript_ (thn (he.run pins s σ H _ I h) fun v s1 ⟨x, H1, I1, r1, a, xs, ex, hx, q⟩ => ?_)
  subst ex
  cases r1
  have st : PO X (some (.UnaryOp .USub (.Constant (.int 1) k p1) p2)) (tPart (tUn (rU fun i => .int (-i)) (tC (.int 1)))) := po_some (pe_un un_neg pe_int)
  refine wpAny_Slice (thn (po_none.run pins s1 σ H1 (fun o G => o = none ∧ G = H1) I1 ⟨rfl, rfl⟩) fun w1 s2 ⟨o1, G1, J1, z1, a1, b1⟩ => ?_)
  subst a1 b1
  refine thn (po_none.run pins s2 σ G1 (fun o G => o = none ∧ G = G1) J1 ⟨rfl, rfl⟩) fun w2 s3 ⟨o2, G2, J2, z2, a2, b2⟩ => ?_
  subst a2 b2
  refine thn (st.run pins s3 σ G2 (fun o G => o = some (-1) ∧ G = G2) J2 ⟨1, rfl, -1, rfl, rfl, rfl⟩) fun w3 s4 ⟨o3, G3, J3, z3, a3, b3⟩ => ?_
  subst a3 b3
  have J4 : Inv X pins σ G3 { s4 with heap := s4.heap.push { cls := .type "slice", data := .fields #[w1, w2, w3] } } := J3.kept (t' := s4.toks) fun b ob q => Heap.get?_push_of_some _ q
  obtain ⟨y1, rfl, f1⟩ := IsPart.raw z1
  obtain ⟨y2, rfl, f2⟩ := IsPart.raw z2
  obtain ⟨y3, rfl, f3⟩ := IsPart.raw z3
  cases y1 with
  | some y => cases f1
  | none =>
  cases y2 with
  | some y => cases f2
  | none =>
  cases y3 with
  | none => cases f3
  | some y =>
  obtain ⟨m, u⟩ := y
  have em : m = -1 := Option.some.inj f3
  subst em
  obtain ⟨its, r, ht, hz⟩ := J4.tuple hx
  refine tail_any (T := "tuple") (id := _) (ops := [.ref a, .ref s4.heap.objs.size]) ht.typeIs PyProof.Rows.slot_tuple_getitem.lookup ?_ (by with_unfolding_all rfl)
  have hz' : its.length ≤ sizeLine := by rw [← r.length]; exact hz
  refine getItem_tuple_back (u := u) ht ⟨_, Heap.get?_push_size _ rfl, rfl, rfl⟩ ?_ hz'
  refine ⟨.ref _, _, J4.laid (t' := s4.toks) (o := .tup xs.reverse) (fun b ob q => Heap.get?_push_of_some _ q) (Nat.le_refl _) ?_, rfl, q _ (J4.hok.fresh (Nat.le_refl _))⟩
  exact ⟨by rw [List.length_reverse]; exact hz, _, Vals.back r, IsTup.new _ _⟩
theorem i_revT {K : PySem.W.Frag} {te : TE} {σ : L2.St} {H : Hp} {Q : VK} (h : te σ H fun x H1 => ∃ a xs, x = .ref a ∧ SqT K H1 a xs ∧ ∀ p, H1 p = none → Q (.ref p) (upd H1 p (.tup xs.reverse))) : tRevT K te σ H Q := h
/-! ### text * int -/
def rMulS : R2 := fun x y H Q => ∃ (l : List Nat) (n : Nat), x = .str (S l) ∧ y = .int (n : Int) ∧ l.length ≤ 1000 ∧ n ≤ 1000 ∧ Q (.str (S (List.replicate n l).flatten)) H
theorem mul_S (l : List Nat) (n : Nat) : Txt.mul (S l) (n : Int) = S (List.replicate n l).flatten := by
  unfold Txt.mul
  by_cases h0 : n = 0
  · subst h0; simp [S, Str.empty]
  · rw [if_neg (by omega)]
    by_cases h1 : (((n : Int) == 1 || (S l).length == 0) = true)
    · rw [if_pos h1]
      rcases Bool.or_eq_true_iff.mp h1 with h1 | h1
      · have : n = 1 := by have := eq_of_beq h1; omega
        subst this; simp
      · have e : l = [] := by have := eq_of_beq h1; rw [S_len] at this; exact List.length_eq_zero_iff.mp this
        subst e
        simp
    · rw [if_neg h1]
      show (⟨(List.replicate n l.toArray).foldl (· ++ ·) #[]⟩ : Str) = ⟨(List.replicate n l).flatten.toArray⟩
      congr 1
      have : ∀ (m : Nat) (b : Array Nat), (List.replicate m l.toArray).foldl (· ++ ·) b = b ++ (List.replicate m l).flatten.toArray := by
        intro m
        induction m with
        | zero => intro b; simp
        | succ m ih =>
          intro b
          rw [List.replicate_succ, List.foldl_cons, ih, List.replicate_succ, List.flatten_cons]
          simp
      rw [this]
      simp
theorem op_mulS {X : Cx} : OpR X (binaryOp .Mult) rMulS := fun pins s σ H x y v u Q I rx ry h => by
  obtain ⟨l, n, rfl, rfl, h1, h2, q⟩ := h
  obtain ⟨t, rfl⟩ := rx
  obtain ⟨t', rfl⟩ := ry
  refine SB.mul ⟨?_, ?_, ?_⟩ fun t' tk => ⟨.str (S (List.replicate n l).flatten), H, I.tok _, ⟨_, by rw [mul_S]⟩, q⟩
  · rw [Bool.or_eq_false_iff]; exact ⟨decide_eq_false (by omega), decide_eq_false (by omega)⟩
  · intro hn _
    rw [S_len]
    have : (n : Int) * (l.length : Int) ≤ 2 ^ 63 - 1 := by
      have := Nat.mul_le_mul h2 h1
      have e : (n : Int) * (l.length : Int) = ((n * l.length : Nat) : Int) := by simp
      rw [e]; omega
    have := (Int.le_ediv_iff_mul_le (a := (l.length : Int)) (b := 2 ^ 63 - 1) (c := (n : Int)) (by omega)).mpr (by rw [Int.mul_comm]; exact this)
    omega
  · intro _ _
    rw [S_len, Int.toNat_natCast]
    have := Nat.mul_le_mul h1 h2
    unfold Builtin.Str.tooLong
    exact decide_eq_false (by rw [show sizeLine = 16777216 from rfl]; omega)
theorem i_mulS {l : List Nat} {n : Nat} {H : Hp} {Q : VK} (h1 : l.length ≤ 1000) (h2 : n ≤ 1000) (h : Q (.str (S (List.replicate n l).flatten)) H) : rMulS (.str (S l)) (.int (n : Int)) H Q := ⟨l, n, rfl, rfl, h1, h2, h⟩
/-! ### a def called by names alone -/
def tKw (sp : Sp) (gV : List V → List V → List V) (tk : TA) : TE := fun σ H Q => tk σ H fun zs H1 => sp (gV [] zs) H1 Q E0
section
variable (P : Program) (w : World) (K : PySem.W.Frag) (mg : Str → Option Value) (base : Heap)
def CalK (x : Str) (ps : List Str) (k : Nat) (sp : Sp) (ks : List Str) (g : List Value → List Value → List Value) (gV : List V → List V → List V) : Prop := ∃ (f : Addr) (fd : FuncData), FnOk P w K mg base CX0 k f fd ps sp ∧ mg x = some (.ref f) ∧ PySem.W.keepIn K (.ref f) = true ∧ KBinds K fd ps ks g gV
end
theorem Def.calK {P : Program} {w : World} {K : PySem.W.Frag} {mg : Str → Option Value} {base : Heap} {x : Str} {st : Stmt} {ps ks : List Str} {k : Nat} {sp : Sp} {g : List Value → List Value → List Value} {gV : List V → List V → List V} (d : Def K mg x st)
    (b : ∀ (kV doc pm : Value) (an : Option Addr) (cdv ct : Value) (us ws : List Value), (g us ws).length = ps.length → bindArgs (PySem.W.fnOf x x (defArgs st) (defBody st) (defScope st) .none kV doc pm an cdv ct) ⟨us, ks.zip ws⟩ = pure (ps.zip (g us ws)))
    (rel : ∀ {vs : List V} {us : List Value} {zs : List V} {ws : List Value}, Vals vs us → Vals zs ws → Vals (gV vs zs) (g us ws))
    (ok : ∀ (f : Addr) (fd : FuncData), Fun K x x st f fd → FnOk P w K mg base CX0 k f fd ps sp) : CalK P w K mg base x ps k sp ks g gV := by
  obtain ⟨f, fd, F, m⟩ := d
  have O := ok f fd F
  have kp := F.kp
  obtain ⟨oc, od, kV, doc, pm, an, cdv, ct, osl, rfl, lk, hcd⟩ := F.ex
  exact ⟨f, _, O, m, kp, fun s us ws _ hl => .of_eq (b kV doc pm an cdv ct us ws hl), rel⟩
section
variable {X : Cx} {x : Str} {ps ks : List Str} {k n : Nat} {sp : Sp} {g : List Value → List Value → List Value} {gV : List V → List V → List V} {kws : List Keyword} {tk : TA} {p pos : Pos}
theorem pe_calK (c : CalK X.prog X.w X.K X.mg X.base x ps k sp ks g gV) (hr : Room n X.A) (hkw : PK X kws tk) (hg : Gl X x := by rfl) (hk : k ≤ n := by decide)
    (hall : (backToKw pos (keywordEach kws X.env)).all (·.1.isSome) = true := by rfl) (hks : (backToKw pos (keywordEach kws X.env)).filterMap (·.1) = ks := by rfl) (hdb : (x == ("__debug__" : Str)) = false := by decide)
    (hpl : ((backTo pos (starEach [] X.env)).any (·.1) || (backToKw pos (keywordEach kws X.env)).any (·.1.isNone)) = false := by rfl) :
    PE X (.Call (.Name x p) [] kws pos) (tKw sp gV tk) := by
  obtain ⟨f, fd, F, m, kp, b⟩ := c
  refine ⟨fun pins s σ H Q I h => ?_⟩
  refine wpAny_Call_Name_kw (ld_glob I hg m ?_ hdb)
  refine PySem.W.callWith_KW0 (h₀ := X.base) I.ok.mod.kin kp hall (thn (hkw.run pos pins s σ H _ I h) fun ws s2 ⟨zs, H2, I2, rz, q2⟩ => ⟨I2.kIn, ?_⟩) hpl
  rw [hks]
  exact run_fnk F (hr.mono hk) b pass0 I2 .nil rz q2
theorem i_kw {σ : L2.St} {H : Hp} {Q : VK} (h : tk σ H fun zs H1 => sp (gV [] zs) H1 Q E0) : tKw sp gV tk σ H Q := h
end
end Sw
namespace Sw
open PySem PySem.Spec PyProof.Rows L2
/-! ### promises of defs that are called where nothing is being shown (repr) -/
structure FnG (P : Program) (w : World) (K : PySem.W.Frag) (mg : Str → Option Value) (base : Heap) (CX : CXT) (k : Nat) (f : Addr) (fd : FuncData) (ps : List Str) (sp : Sp) : Prop where
  len : ∀ xs M R X, sp xs M R X → xs.length = ps.length
  go : ∀ (A : Around) (out : List Env) (t : Shared) (M : Hp) (args : Args) (us : List Value) (xs : List V) (R : VK) (X : XK), Room k A → A.guards = some [] → Env0 P w K mg base A out t M → BindsTo t fd args (ps.zip us) → Vals xs us → sp xs M R X →
    codeAny (model P w) A (.call (.ref f) args) (CR CX out P w M t R X) t
section
variable {P : Program} {w : World} {K : PySem.W.Frag} {mg : Str → Option Value} {base : Heap} {CX : CXT} {k : Nat} {f : Addr} {fd : FuncData} {ps : List Str} {sp : Sp}
theorem FnG.of (F : FnOk P w K mg base CX k f fd ps sp) : FnG P w K mg base CX k f fd ps sp := ⟨F.len, fun A out t M args us xs R X room _ => F.run A out t M args us xs R X room⟩
theorem FnG.low {j : Nat} (F : FnG P w K mg base CX j f fd ps sp) (h : j ≤ k) : FnG P w K mg base CX k f fd ps sp := ⟨F.len, fun A out t M args us xs R X room => F.go A out t M args us xs R X (room.mono h)⟩
theorem Fun.okG {x qual : Str} {st : Stmt} {N : List Str} (F : Fun K x qual st f fd) (S : FnScope N ps (defScope st)) (len : ∀ xs M R X, sp xs M R X → xs.length = ps.length)
    (body : ∀ (cdv : Value) (A : Around) (out : List Env) (t : Shared) (M : Hp) (xs : List V) (R : VK) (X : XK), Room k (A.deeper (envOfC qual (defScope st) t.heap.objs.size f cdv)) → A.guards = some [] → sp xs M R X →
      ∃ r, PSs (cxOf CX P w K mg base N qual (defScope st) f cdv A out t M X) (defBody st) r ∧ r { nx := fun _ M' => R .non M', rt := R } (start N xs) M) : FnG P w K mg base CX (k + 1) f fd ps sp := by
  obtain ⟨oc, od, kV, doc, pm, an, cdv, ct, osl, rfl, found, coded⟩ := F.ex
  constructor
  · exact len
  intro A out t M args us xs R X room quiet env bind rel prom
  have count := len xs M R X prom
  have inHeap := env.mod.kin.keeps fun b o e => (env.bs b o e).1
  have quota := env.mod.nolimit.keeps fun b o e => (env.bs b o e).1
  have kinds : ∀ z ∈ ps.zip us, (defScope st).names.lookup z.1 = some .local ∨ ((defScope st).names.lookup z.1 = some .cell ∧ ((cellsFrom (t.heap.objs.size + 1) (defScope st).names []).lookup z.1).isSome = true) := by
    rintro ⟨n, v⟩ hz
    have hn := (List.of_mem_zip hz).1
    rcases S.par n hn with l | c
    · left; exact l
    · right; exact ⟨c, PySem.W.cellsFrom_some _ _ _ (.inl c)⟩
  apply codeAny_call_function room.depth (inHeap _ _ found) rfl S.co S.gen rfl (PySem.W.codeRec_of inHeap coded) (bind _ _ _ _ ?_)
  apply wpAny_newFunctionEnv_cells S.kind kinds
  intro env2 e2 t1 entry
  subst e2
  refine ⟨quota.keeps entry.toInCall.keep, codeAny_func ?_⟩
  obtain ⟨r, hr, runs⟩ := body cdv A out t M xs R X (room.deeper _) quiet prom
  have I := inv_start (CX := CX) (E := X) S room.hd env count rel entry
  apply wpAny_mono (hr.run [] t1 (start N xs) M _ I runs)
  · intro fl t' leaves
    cases fl with
    | ret u =>
      obtain ⟨v, σ', M', J, rv, q⟩ := leaves
      exact ⟨v, M', J.os, J.bare, J.base, J.hok, rv, q⟩
    | next =>
      obtain ⟨σ', M', J, q⟩ := leaves
      exact ⟨V.non, M', J.os, J.bare, J.base, J.hok, rfl, q⟩
    | brk => obtain ⟨_, _, _, q⟩ := leaves; exact q.elim
    | cont => obtain ⟨_, _, _, q⟩ := leaves; exact q.elim
  · exact fun _ _ z => z
end
section
variable {X : Cx} {ps : List Str} {k : Nat} {f : Addr} {fd : FuncData} {sp : Sp} {ds : List Value} {dvs : List V} {CX : CXT} {E : XK}
theorem run_G {pins : List (Addr × Obj)} {σ : L2.St} {M : Hp} {t : Shared} {R : VK} {us : List Value} {xs : List V} (F : FnG X.prog X.w X.K X.mg X.base CX k f fd ps sp) (room : Room k X.A) (quiet : X.A.guards = some []) (b : Binds X.K fd ps ds) (hd : Vals dvs ds) (px : Passes CX X E)
    (I : Inv X pins σ M t) (r : Vals xs us) (h : sp (xs ++ dvs) M R E) : wpAny (model X.prog X.w) X.A (call (.ref f) us) (EP X pins σ R) X.xe t := by
  have both := r.append hd
  have count : (us ++ ds).length = ps.length := both.length.symm.trans (F.len _ _ _ _ h)
  apply wpAny_call
  apply codeAny_mono (F.go X.A X.stack t M ⟨us, []⟩ (us ++ ds) (xs ++ dvs) R E room quiet I.env0 (b t us I.kIn count) both h)
  intro o t' q
  rcases o with e | fl
  · exact px pins σ M t e t' I q
  · cases fl with
    | ret u => exact I.after q
    | next => exact q.elim
    | brk => exact q.elim
    | cont => exact q.elim
end
section
variable (P : Program) (w : World) (K : PySem.W.Frag) (mg : Str → Option Value) (base : Heap)
def CalG (x : Str) (ps : List Str) (k : Nat) (sp : Sp) : Prop := ∃ (f : Addr) (fd : FuncData), FnG P w K mg base CX0 k f fd ps sp ∧ mg x = some (.ref f) ∧ PySem.W.keepIn K (.ref f) = true ∧ Binds K fd ps []
end
theorem Def.calG {P : Program} {w : World} {K : PySem.W.Frag} {mg : Str → Option Value} {base : Heap} {x : Str} {st : Stmt} {ps : List Str} {k : Nat} {sp : Sp} (d : Def K mg x st)
    (b : ∀ (kV doc pm : Value) (an : Option Addr) (cdv ct : Value) (us : List Value), us.length = ps.length → bindArgs (PySem.W.fnOf x x (defArgs st) (defBody st) (defScope st) .none kV doc pm an cdv ct) ⟨us, []⟩ = pure (ps.zip us))
    (ok : ∀ (f : Addr) (fd : FuncData), Fun K x x st f fd → FnG P w K mg base CX0 k f fd ps sp) : CalG P w K mg base x ps k sp := by
  obtain ⟨f, fd, F, m⟩ := d
  exact ⟨f, fd, ok f fd F, m, F.kp, F.binds b⟩
theorem pe_calG {X : Cx} {x : Str} {ps : List Str} {k n : Nat} {sp : Sp} {e : Expr} {es : List Expr} {t : TA} {p pos : Pos} (c : CalG X.prog X.w X.K X.mg X.base x ps k sp) (hr : Room n X.A) (quiet : X.A.guards = some []) (ha : PA X (e :: es) t) (hg : Gl X x := by rfl) (hk : k ≤ n := by decide)
    (hdb : (x == ("__debug__" : Str)) = false := by decide) (he : starEach (e :: es) X.env = (false, eval e X.env) :: starEach es X.env := by rfl) (hpl : (backTo pos (starEach es X.env)).any (·.1) = false := by rfl) :
    PE X (.Call (.Name x p) (e :: es) [] pos) (tCall sp [] E0 t) := by
  obtain ⟨f, fd, F, m, kp, b⟩ := c
  constructor
  intro pins s σ M R I h
  apply wpAny_Call_Name_kw (ld_glob I hg m ?_ hdb)
  exact PySem.W.callWith_K (h₀ := X.base) I.ok.mod.kin kp (thn (ha.run pos pins s σ M _ I h) fun us s1 ⟨xs, M1, I1, r, q⟩ => ⟨I1.kIn, run_G F (hr.mono hk) quiet b .nil pass0 I1 r q⟩) he hpl
/-! ### repr of data -/
def rRepD (K : PySem.W.Frag) : List V → Hp → VK → Prop := fun xs M R => ∃ x d, xs = [x] ∧ Dp K M x d ∧ d.showable = true ∧ d.hasDict = false ∧ d.depth ≤ 60 ∧ d.shown.length ≤ sizeLine ∧ R (.str d.shown) M
theorem call_repD {X : Cx} (quiet : X.A.guards = some []) (hu : X.A.units + 64 < cLine) : CallR X (.builtin "repr") (rRepD X.K) := by
  intro pins s σ M xs us R I r h
  obtain ⟨x, d, rfl, hd, sh, nd, dp, sz, q⟩ := h
  obtain ⟨u, rfl, ru⟩ := vals1 r
  obtain ⟨as, rd⟩ := Dp.reads I d x u hd ru
  cases hd with
  | non =>
    cases ru
    exact PySem.P.repr_of_none ⟨.str (PyData.shown .none), M, I.tok _, ⟨_, by simp only [PyData.shown]; rfl⟩, q⟩
  | bl b =>
    cases ru
    exact PySem.P.repr_of_bool ⟨.str (PyData.shown (.bool b)), M, I.tok _, ⟨_, by simp only [PyData.shown]; rfl⟩, q⟩
  | int i =>
    obtain ⟨t, rfl⟩ := ru
    exact PySem.P.repr_of_int (of_decide_eq_true (by simpa only [PyData.showable] using sh)) ⟨.str (PyData.shown (.int i)), M, I.tok _, ⟨_, by simp only [PyData.shown]; rfl⟩, q⟩
  | str z =>
    obtain ⟨t, rfl⟩ := ru
    exact PySem.P.repr_of_str ⟨.str (PyData.shown (.str z)), M, I.tok _, ⟨_, by simp only [PyData.shown]; rfl⟩, q⟩ (by simpa only [PyData.shown] using sz)
  | lst h1 h2 =>
    cases ru
    exact repr_of_reads' rd sh (PyData.noDict_hsm nd) quiet (by omega) (fun _ _ e => e) (fun h' t tk keep => ⟨.str _, M, I.kept (t' := tk) keep, ⟨t, rfl⟩, q⟩) sz
  | tup h1 h2 =>
    cases ru
    exact repr_of_reads' rd sh (PyData.noDict_hsm nd) quiet (by omega) (fun _ _ e => e) (fun h' t tk keep => ⟨.str _, M, I.kept (t' := tk) keep, ⟨t, rfl⟩, q⟩) sz
end Sw
namespace Sw
open PySem PySem.Spec PyProof.Rows L2
/-! ### the end of a law whose def is called where nothing is being shown -/
theorem law_G {P : Program} {w : World} {K : PySem.W.Frag} {mg mb : Str → Option Value} {k : Nat} {fa a : Addr} {fd : FuncData} {x : Str} {sp : Sp} {t : Shared} {vs : List Value} {ns : List Int}
    (inK : K.In t.heap) (gl : t.heap.Ns mainGlobals mg) (bl : t.heap.Ns builtinsNs mb) (bb : ∀ y : Str, y ≠ "__name__" → mb y = bootBuiltins y) (lim : t.heap.NoLimit) (quietGens : t.gens = #[])
    (script : t.heap.get? a = some { cls := .type "list", data := .seq vs.toArray }) (nums : IntsAre vs ns) (short : ns.length ≤ sizeLine) (room : Room k callerA)
    (F : ∀ base : Heap, K.In base → base.Ns mainGlobals mg → FnG P w K mg base CX0 k fa fd [x] sp) (bind : ∀ (s : Shared) (u : Value), BindsTo s fd ⟨[u], []⟩ [(x, u)])
    (prom : ∀ M : Hp, Only M → SqL K M a (ns.map V.int) → sp [.ref a] M (fun v _ => v = .bl true) E0) :
    codeAny (model P w) callerA (.call (.ref fa) ⟨[.ref a], []⟩) (fun r s' => r = .ok (.ret (.bool true)) ∧ OldK t.heap s'.heap ∧ s'.os = t.os ∧ AllBare s'.gens) t := by
  have vals := vals_ints nums
  have sameLen := nums.length
  -- tracked: the script alone, and only if the module does not hold it already
  let M : Hp := fun b => if b = a ∧ K.lookup a = none then some (.frz { cls := .type "list", data := .seq vs.toArray } (.lst (ns.map V.int))) else none
  have at_a : ∀ {b : Addr} {o : HO}, M b = some o → b = a ∧ K.lookup a = none ∧ o = .frz { cls := .type "list", data := .seq vs.toArray } (.lst (ns.map V.int)) := by
    intro b o q
    by_cases c : b = a ∧ K.lookup a = none
    · have q' := (if_pos c).symm.trans q
      exact ⟨c.1, c.2, (Option.some.inj q').symm⟩
    · have q' := (if_neg c).symm.trans q
      cases q'
  have only : Only M := by
    intro b
    by_cases c : b = a ∧ K.lookup a = none
    · right; exact ⟨_, _, if_pos c⟩
    · left; exact if_neg c
  have ok : HOk P w M t.heap := by
    intro b o q
    obtain ⟨rfl, _, rfl⟩ := at_a q
    exact ⟨script, by rw [List.length_map]; exact short, vs, _, vals, script⟩
  have known : SqL K M a (ns.map V.int) := by
    cases hk : K.lookup a with
    | none => exact .inl (.inr ⟨_, if_pos ⟨rfl, hk⟩⟩)
    | some o =>
      have e := inK a o hk
      rw [script] at e
      cases e
      exact .inr ⟨_, vs.toArray, _, hk, rfl, rfl, rfl, by rw [List.size_toArray, sameLen]; exact short, by simpa using vals⟩
  have under : ∀ {b : Addr} {o : Obj}, t.heap.get? b = some o → M b = none → (hidT t.heap M).get? b = some o := fun e n => hidT_get e n
  have dictFree : ∀ {b : Addr} {o : Obj} {es : Array DictEntry} {n : Nat}, t.heap.get? b = some o → o.data = .dict es n → M b = none := by
    intro b o es n e hd
    rcases q : M b with _ | u
    · rfl
    · obtain ⟨rfl, _, _⟩ := at_a q
      rw [script] at e
      cases e
      cases hd
  have names : ∀ {b : Addr} {m : Str → Option Value}, t.heap.Ns b m → (hidT t.heap M).Ns b m := by
    rintro b m ⟨o, es, n, e, hd, r⟩
    exact ⟨o, es, n, under e (dictFree e hd), hd, r⟩
  have baseIn : K.In (hidT t.heap M) := by
    intro b o e
    apply under (inK b o e)
    rcases q : M b with _ | u
    · rfl
    · obtain ⟨rfl, no, _⟩ := at_a q
      rw [no] at e
      cases e
  obtain ⟨mc, lim1, lim2⟩ := lim
  have env : Env0 P w K mg (hidT t.heap M) callerA [] t M :=
    ⟨rfl, ⟨baseIn, names gl, ⟨mb, names bl, bb⟩, ⟨mc, names lim1, lim2⟩⟩, fun b o e => of_hidT e, Nat.le_of_eq (hidT_size _ _), trivial, (fun b z => by have y : b ∈ ([] : List Addr) := z; simp at y), ok, .of_eq quietGens⟩
  apply codeAny_mono ((F _ baseIn (names gl)).go callerA [] t M ⟨[.ref a], []⟩ [.ref a] [.ref a] _ _ room rfl env (bind t (.ref a)) (.cons rfl .nil) (prom M only known))
  intro r s' q
  rcases r with e | fl
  · exact q.elim
  · cases fl with
    | next => exact q.elim
    | brk => exact q.elim
    | cont => exact q.elim
    | ret u =>
      obtain ⟨v, M', os, bare, un, ok', rel, said⟩ := q
      have said' : v = .bl true := said
      subst said'
      have isTrue : u = Value.bool true := rel
      subst isTrue
      refine ⟨rfl, OldK.of_keep ?_, os, bare⟩
      intro b o e
      rcases q : M b with _ | u
      · exact un.keep b o e q (fun z => by have y : b ∈ ([] : List Addr) := z; simp at y) (by simp)
      · obtain ⟨rfl, _, rfl⟩ := at_a q
        obtain ⟨e1, _⟩ := ok _ _ q
        obtain ⟨e2, _⟩ := ok' _ _ (un.frzs _ _ _ q)
        rw [e] at e1
        cases e1
        exact e2
theorem walk_G {l : PySem.W.OpenLaw} {n k : Nat} {q : Program} {loose : List Str} {XP : (Str → Option Value) → Heap → Prop} {YP : World → Heap → Prop} {d : DefRec} {K : Params → PySem.W.Frag} {sp : PySem.W.Frag → Sp} {x : Str}
    (many : l.most = some n) (few : n ≤ sizeLine) (plain : d.params.defaults = []) (room : Room k callerA) (inK : ∀ (w : World) (h : Heap), YP w h → (K w.params).In h)
    (F : ∀ (w : World) (mg : Str → Option Value) (fa : Addr) (h : Heap), (K w.params).In h → h.Ns mainGlobals mg → mg d.name = some (.ref fa) →
      ∃ fd : FuncData, (∀ (s : Shared) (u : Value), BindsTo s fd ⟨[u], []⟩ [(x, u)]) ∧ ∀ base : Heap, (K w.params).In base → base.Ns mainGlobals mg → FnG l.prog w (K w.params) mg base CX0 k fa fd [x] (sp (K w.params)))
    (prom : ∀ (K : PySem.W.Frag) (M : Hp) (a : Addr) (ns : List Int), ns.length ≤ n → Only M → SqL K M a (ns.map V.int) → sp K [.ref a] M (fun v _ => v = .bl true) E0) :
    PySem.W.WalkO q loose XP YP l.row.toRowW d [] (fun f vs => PySem.call f vs) := by
  apply Att.attach_call many plain
  intro w s₀ t mg mb fa o pm cd doc a vs ns G Y _ _ _ named script nums short gens
  have kin := inK w _ Y
  obtain ⟨fd, bind, hF⟩ := F w mg fa _ kin G.T.g named
  exact law_G kin G.T.g G.T.b G.T.builtins G.T.nolimit gens script nums (Nat.le_trans short few) room hF bind fun M o s => prom _ M a ns short o s
end Sw
/-! own exceptions over Exception, by own classes between, with own fields -/
namespace PySem
namespace SwE
open PySem.W PySem.Calls PyProof.Rows PySem.HandSPX
abbrev exT : List Value := [.type "Exception", .type "BaseException", .type "object"]
def over (rs : List Addr) : List Value := rs.map Value.ref ++ exT
theorem over_pass (self : Value) : ∀ rs : List Addr, refuseLoop self "__setattr__" (over rs) = pure ()
  | [] => F.store_Exception.passes self
  | r :: rs => by
    show refuseLoop self "__setattr__" (.ref r :: over rs) = pure ()
    rw [refuseLoop_ref]
    exact over_pass self rs
theorem over_has (T : String) : ∀ rs : List Addr, (over rs).contains (.type T) = exT.contains (.type T)
  | [] => rfl
  | r :: rs => by
    show (Value.ref r :: over rs).contains (.type T) = exT.contains (.type T)
    rw [List.contains_cons, over_has T rs]
    rfl
theorem over_cons (r : Addr) (rs : List Addr) : Value.ref r :: over rs = over (r :: rs) := rfl
section
open Builtin Builtin.ObjectAttr
variable {prog : Program} {w : World} {A : Around} {E : Value → Shared → Prop} {R : Result → Shared → Prop} {hp : Heap} {g : Array GenState} {d : Drawn} {t : Nat} {os : OsState}
/-- the first field of such an exception -/
theorem first_field {K : W.Frag} {name : Str} {tk : Tok} {v : Value} {x C : Addr} {fv : Array Value} {cd : ClassData} {rs : List Addr}
    (inK : K.In hp) (here : hp.get? x = some { cls := .ref C, data := .fields fv }) (cls : W.clsIn K C = some cd) (mro : cd.mro = over rs) (dict : cd.hasDict = true) (none' : W.findIn K (.ref C) name = some none)
    (hq : ∀ h' tk' dx, (∀ b o, b ≠ x → hp.get? b = some o → h'.get? b = some o) → hp.objs.size ≤ dx → dx ≠ x → h'.get? x = some { cls := .ref C, dict := some dx, data := .fields fv } →
      h'.Ns1 dx (fun y => if y = name then some v else none) → R (.ok (.ret .none)) ⟨h', g, d, tk', os⟩) :
    codeAny (model prog w) A (.call (.builtin "object.__setattr__") ⟨[.ref x, .str name tk, v], []⟩) R ⟨hp, g, d, t, os⟩ := by
  have inst : W.InstAt hp x { cls := .ref C, data := .fields fv } C none := ⟨here, rfl, rfl, trivial⟩
  have facts := F.store_object
  have isObj : cd.mro.contains (.type "object") = true := by rw [mro, over_has]; decide +kernel
  have notEmpty : cd.mro.isEmpty = false := by rw [mro]; cases rs <;> rfl
  have apart : x ≠ hp.objs.size := Nat.ne_of_lt (Heap.lt_size here)
  have sub : W.Looks (model prog w) hp (isInstance (.ref x) (.type "object")) true := inst.type.andThen (W.looks_mroIn inK (by unfold W.mroIn; rw [cls, Option.bind_some, if_neg (by rw [notEmpty]; decide), isObj]))
  apply codeAny_call_builtin facts.slot.plain facts.entry (@W.check_slot (model prog w) _ _ ⟨hp, g, d, t, os⟩ "object.__setattr__" "object" "__setattr__" (.ref x) [.str name tk, v] [] _ facts.kind facts.split sub (facts.args (.ref x) (.str name tk) v) ?_)
  have looksMro : W.Looks (model prog w) hp (mroOf (.ref C)) cd.mro := (W.looks_clsIn inK cls).andThen .now
  have noTaker : W.Looks (model prog w) hp (storeTaker? none) none := .now
  have looksCls : W.Looks (model prog w) hp (classData C) cd := W.looks_clsIn inK cls
  rw [W.osa_eq, refuse_eq]
  refine wpAny_bind (wpAny_bind (inst.type.at (wpAny_bind (looksMro.at ?_))))
  rw [mro, over_pass]
  refine wpAny_pure (wpAny_bind (inst.type.at (wpAny_bind ((W.looks_findIn inK none').at (wpAny_bind (noTaker.at ?_))))))
  show wpAny _ _ (storeInOwnDict (.ref x) (.ref C) (.str name tk) name v false) _ _ _
  obtain ⟨nm, bs, mr, ns, qn, hd, sn, sb, ab, col, del⟩ := cd
  dsimp only at dict
  subst dict
  unfold storeInOwnDict ownDictForStores
  repeat (first | with_reducible refine store_in_new ?_ ?_ | with_reducible refine wpAny_loadPart_at here ?_ | with_reducible refine looksCls.at ?_ | wp_step)
  · exact ⟨_, #[], _, (Heap.get?_update_ne _ _ _ _ apart.symm).trans (Heap.get?_push_at rfl rfl), rfl, fun e he => absurd he (by simp), fun _ => rfl⟩
  · intro h' tk' named same
    have still : (hp.push { cls := .type "dict", data := .dict #[] }).get? x = some { cls := .ref C, data := .fields fv } := Heap.get?_push_of_some _ here
    apply hq h' tk' hp.objs.size ?_ (Nat.le_refl _) apart.symm ?_ named
    · intro b o hb ho
      exact (same.2 b (Nat.ne_of_lt (Heap.lt_size ho))).trans ((Heap.get?_update_ne _ _ _ _ hb).trans (Heap.get?_push_of_some _ ho))
    · exact (same.2 x apart).trans (Heap.get?_update_self _ still rfl)
end
end SwE
end PySem
namespace Sw
open PySem PySem.Spec PyProof.Rows L2 PySem.SwE
/-- what the written part says of an own exception class over Exception -/
structure OexE (K : PySem.W.Frag) (C : Addr) : Prop where
  cls : ∃ nm q N bs rs sn sub ab col dd k0 k1 k2 k3 k5, K.lookup C = some (excClassObj nm q C N bs (over rs) true sn sub ab col dd k0 k1 k2 k3 k5 "Exception.__new__")
  sa : PySem.W.findIn K (.ref C) "__setattr__" = some (some (.builtin "object.__setattr__"))
  exC : PySem.W.subIn K (.ref C) (.type "BaseException") = some true
  tyC : PySem.W.typeIn K (.ref C) = some (.type "type")
  kC : PySem.W.keepIn K (.ref C) = true
section
variable {X : Cx} {pins : List (Addr × Obj)} {σ : L2.St} {H : Hp} {s : Shared} {a C dx : Addr} {f : Str} {y : V} {u : Value} {fs : List (Str × V)} {Q : Unit → Shared → Prop} {E : Value → Shared → Prop} {A : Around}
theorem field_new (T : OexE X.K C) (I : Inv X pins σ H s) (e : H a = some (exo a C none)) (no : PySem.W.findIn X.K (.ref C) f = some none) (ry : RelV y u)
    (h : ∀ dx s', H dx = none → dx ≠ a → Inv X pins σ (upd (upd H dx (exd dx [(f, y)])) a (exo a C (some dx))) s' → Q () s') : wpAny (model X.prog X.w) A (setAttr (.ref a) f u) Q E s := by
  obtain ⟨nm, q, N, bs, rs, sn, sub, ab, col, dd, k0, k1, k2, k3, k5, hC⟩ := T.cls
  have data : PySem.W.clsIn X.K C = some { name := nm, bases := bs, mro := .ref C :: over rs, ns := N, qualname := q, hasDict := true, slotNames := sn, subclasses := sub, abstract := ab, collection := col, hasDel := false } := by
    unfold PySem.W.clsIn
    rw [hC] <;> rfl
  obtain ⟨t1, there⟩ := exo_at I.hok e
  obtain ⟨hp, g, d, t, os⟩ := s
  apply PySem.W.set_plain I.kIn (ox := { cls := .ref C, dict := none, data := .fields #[.ref t1, .none, .none, .none, .bool false, .none] }) (od := none) ⟨there, rfl, rfl, trivial⟩ T.sa
  apply first_field I.kIn there data (over_cons C rs) rfl no
  intro h' tk' dx keep new apart now named
  have free : H dx = none := I.hok.fresh new
  have notNew : ∀ {b : Addr} {o : Obj}, hp.get? b = some o → b ≠ dx := fun z => Nat.ne_of_lt (Nat.lt_of_lt_of_le (Heap.lt_size z) new)
  have notIt : ∀ {b : Addr}, H b = none → b ≠ a := by
    rintro b n rfl
    rw [e] at n
    cases n
  have un : Un X.fs [] H (upd (upd H dx (exd dx [(f, y)])) a (exo a C (some dx))) hp h' := by
    constructor
    · exact fun b o z n _ _ => keep b o (notIt n) z
    · exact fun b o z n _ _ => ⟨o.slots, keep b o (notIt n) z⟩
    · intro b o z n _
      rw [upd_ne (notIt n), upd_ne (notNew z)]
      exact n
    · intro b o z _
      by_cases c : b = a
      · exact ⟨_, by rw [c]; exact now⟩
      · exact ⟨o, keep b o c z⟩
    · intro b xs z
      rw [upd_ne (at_ne e z exo_tup), upd_ne (ne_of_none z free)]
      exact z
    · intro b o v z
      rw [upd_ne (at_ne e z exo_frz), upd_ne (ne_of_none z free)]
      exact z
    · exact fun b ps z => ⟨#[], by rw [upd_ne (at_ne e z exo_tbl), upd_ne (ne_of_none z free), z]; simp⟩
  apply h dx _ free apart
  apply I.un (t' := tk') un
  intro b o z
  by_cases c : b = a
  · subst c
    rw [upd_same] at z
    cases z
    exact exo_ok now
  · rw [upd_ne c] at z
    by_cases c2 : b = dx
    · subst c2
      rw [upd_same] at z
      cases z
      exact exd_ok named (relO_put (fs := []) ry fun g => True.intro)
    · rw [upd_ne c2] at z
      apply (I.hok b o z).stay
      · intro cc v hc zz
        apply keep cc v _ zz
        rcases hc with hc | hc
        · rw [hc]; exact c
        · exact at_ne e hc exo_own
      · intro cc hc
        rw [upd_ne (at_ne e hc exo_own), upd_ne (ne_of_none hc free)]
        exact hc
      · intro cc xs hc
        rw [upd_ne (at_ne e hc exo_tup), upd_ne (ne_of_none hc free)]
        exact hc
/-- Exception.__init__(self, ..): nothing of it is told -/
theorem init_plain {us : List Value} {R : Value → Shared → Prop} (T : OexE X.K C) (I : Inv X pins σ H s) (e : H a = some (exo a C none)) (few : us.length ≤ sizeLine) (h : ∀ s', Inv X pins σ H s' → R .none s') :
    wpAny (model X.prog X.w) A (call (.builtin "Exception.__init__") (.ref a :: us)) R E s := by
  obtain ⟨nm, q, N, bs, rs, sn, sub, ab, col, dd, k0, k1, k2, k3, k5, hC⟩ := T.cls
  obtain ⟨t1, there⟩ := exo_at I.hok e
  obtain ⟨hp, g, d, t, os⟩ := s
  apply wpAny_call (PySem.HandSPX.init_base F.excBase_Exception (fun Y => over_has Y rs) (I.kIn _ _ hC) there few ?_)
  intro h' t2 keep now
  have J := I.write (t' := t) (x := a) (e := a) (o := exo a C none) (by rw [e]; exact True.intro) (.inl rfl) keep ⟨_, now⟩ (exo_ok now)
  have same : upd H a (exo a C none) = H := by
    funext b
    by_cases c : b = a
    · rw [c, upd_same, e]
    · rw [upd_ne c]
  rw [same] at J
  exact h _ J
end
/-- B.__init__(self, ..), B's own one being Exception's -/
def tInit (K : PySem.W.Frag) (ta : TA) : TE := fun σ H Q => ta σ H fun vs H1 => ∃ (a C : Addr) (ws : List V), vs = .ref a :: ws ∧ ws.length ≤ 1000 ∧ OexE K C ∧ H1 a = some (exo a C none) ∧ Q .non H1
/-- self.f = e, the first field -/
def tFst (K : PySem.W.Frag) (f : Str) (to te : TE) : TS := fun D σ H => te σ H fun y H1 => to σ H1 fun x H2 => ∃ a C : Addr, x = .ref a ∧ OexE K C ∧ PySem.W.findIn K (.ref C) f = some none ∧
  H2 a = some (exo a C none) ∧ ∀ dx, H2 dx = none → dx ≠ a → D.nx σ (upd (upd H2 dx (exd dx [(f, y)])) a (exo a C (some dx)))
section
variable {X : Cx} {o e : Expr} {es : List Expr} {to te : TE} {ta : TA} {f : Str} {p p' p1 p2 pos : Pos}
theorem ps_fst (ho : PE X o to) (he : PE X e te) (hs : swapsWith e (some (.Attribute o f p')) pos.line X.env = pure false := by rfl) : PS X (.Assign [.Attribute o f p'] e pos) (tFst X.K f to te) := by
  constructor
  intro pins s σ H D I h
  apply plainObj_wpAny_Assign_Attribute (thn (he.run pins s σ H _ I h) fun v s1 ⟨y, H1, I1, r1, q1⟩ => thn (ho.run pins s1 σ H1 _ I1 q1) fun u s2 ⟨x, H2, I2, r2, a, C, ex, T, no, ea, q⟩ => ?_) hs
  subst ex
  obtain rfl : u = Value.ref a := r2
  exact field_new T I2 ea no r1 fun dx s' n ne J => ⟨σ, _, J, q dx n ne⟩
theorem ps_init {x : Str} {B : Addr} {pl : Sem Bool} (hg : Gl X x) (hm : X.mg x = some (.ref B)) (ga : PySem.W.specialIn X.K (.ref B) "__getattribute__" = some (some (.builtin "type.__getattribute__"))) (tyB : PySem.W.typeIn X.K (.ref B) = some (.type "type"))
    (rd : PySem.W.readsIn X.K B (.type "type") = true) (fi : PySem.W.findCls X.K (.ref B) (.type "type") "__init__" = some (.val (.builtin "Exception.__init__"))) (ha : PA X (e :: es) ta)
    (hc : eval (.Call (.Attribute (.Name x p1) "__init__" p2) (e :: es) [] pos) X.env = (do
      let ov ← eval (.Name x p1) X.env
      standAt p2.atName
      let (f, first) ← holding [ov] (getMethod ov "__init__" pl)
      callWith pos f first (backTo pos (starEach (e :: es) X.env)) (backToKw pos (keywordEach [] X.env))) := by rfl)
    (hdb : (x == ("__debug__" : Str)) = false := by decide)
    (he : starEach (e :: es) X.env = (false, eval e X.env) :: starEach es X.env := by rfl) (hpl : (backTo pos (starEach es X.env)).any (·.1) = false := by rfl) :
    PE X (.Call (.Attribute (.Name x p1) "__init__" p2) (e :: es) [] pos) (tInit X.K ta) := by
  constructor
  intro pins s σ H Q I h
  apply PySem.W.methodCall_KW (ld_glob I hg hm ?_ hdb) hc
  apply PySem.W.method_cls I.kIn ga
  apply PySem.W.cls_value I.kIn rd fi (by decide +kernel)
  show wpAny _ _ (callWith pos (Value.builtin "Exception.__init__") [] (backTo pos (starEach (e :: es) X.env)) []) _ _ _
  apply PyProof.Rows.callWith_method1 (thn (ha.run pos pins _ σ H _ (I.tok _) h) fun us s1 ⟨vs, H1, I1, r1, a, C, ws, ev, hl, T, ea, q⟩ => ?_) he hpl
  subst ev
  cases r1 with
  | @cons _ u0 _ ur ra rest =>
    obtain rfl : u0 = Value.ref a := ra
    have few : ur.length ≤ sizeLine := by
      rw [← Paired.length rest, sizeLine_eq]
      omega
    exact init_plain T I1 ea few fun s' J => ⟨.non, H1, J, rfl, q⟩
end
end Sw
namespace Sw
open PySem PySem.Spec PyProof.Rows L2 PySem.SwE
section
variable {X : Cx} {e : Expr} {es : List Expr} {ta : TA} {p pos : Pos} {CX : CXT} {x : Str} {C fI : Addr} {k : Nat} {fd : FuncData} {ps : List Str} {sp : Sp}
/-- C(e, ..), C an own exception class over Exception whose __init__ keeps sp -/
theorem pmk_E (T : OexE X.K C) (iC : PySem.W.findIn X.K (.ref C) "__init__" = some (some (.ref fI))) (tI : PySem.W.typeIn X.K (.ref fI) = some (.type "function")) (F1 : FnOk X.prog X.w X.K X.mg X.base CX k fI fd ps sp) (room : Room (k + 1) X.A) (bd : Binds X.K fd ps [])
    (px : Passes CX X E0) (hm : X.mg x = some (.ref C)) (ha : PA X (e :: es) ta) (hg : Gl X x := by rfl)
    (hdb : (x == ("__debug__" : Str)) = false := by decide) (he : starEach (e :: es) X.env = (false, eval e X.env) :: starEach es X.env := by rfl) (hpl : (backTo pos (starEach es X.env)).any (·.1) = false := by rfl) :
    PMk X (.Call (.Name x p) (e :: es) [] pos) (tMkO C sp [] ta) := by
  intro pins s σ H Q I h
  obtain ⟨nm, q, N, bs, rs, sn, sub, ab, col, dd, k0, k1, k2, k3, k5, hC⟩ := T.cls
  refine wpAny_Call_Name_kw (ld_glob I hg hm ?_ hdb)
  refine PySem.W.callWith_K (h₀ := X.base) I.ok.mod.kin T.kC (thn (ha.run pos pins s σ H _ I h) fun us s1 ⟨vs, H1, I1, r1, few, q1⟩ => ⟨I1.kIn, ?_⟩) he hpl
  show wpAny _ _ (call (.ref C) us) _ _ _
  obtain ⟨hp, g, dr, tk, os⟩ := s1
  have le : hp.objs.size ≤ hp.objs.size + 1 := Nat.le_succ _
  have free : H1 (hp.objs.size + 1) = none := I1.hok.fresh le
  have said := q1 (hp.objs.size + 1) free
  have keep : ∀ b o, hp.get? b = some o → ((hp.push (PySem.W.kdv_tup us)).push (PySem.HandSPX.excO C hp.objs.size)).get? b = some o := fun b o z => Heap.get?_push_of_some _ (Heap.get?_push_of_some _ z)
  have made : ((hp.push (PySem.W.kdv_tup us)).push (PySem.HandSPX.excO C hp.objs.size)).get? (hp.objs.size + 1) = some (PySem.HandSPX.excO C hp.objs.size) := by heap_get
  have I2 : Inv X pins σ (upd H1 (hp.objs.size + 1) (exo (hp.objs.size + 1) C none)) ⟨(hp.push (PySem.W.kdv_tup us)).push (PySem.HandSPX.excO C hp.objs.size), g, dr, tk, os⟩ :=
    I1.laid (t' := tk) (a := hp.objs.size + 1) (o := exo (hp.objs.size + 1) C none) (h' := (hp.push (PySem.W.kdv_tup us)).push (PySem.HandSPX.excO C hp.objs.size)) keep le (exo_ok made)
  have both : Vals (V.ref (hp.objs.size + 1) :: (vs ++ [])) (Value.ref (hp.objs.size + 1) :: (us ++ [])) := .cons rfl (r1.append .nil)
  have count : (Value.ref (hp.objs.size + 1) :: us ++ []).length = ps.length := by
    have z := both.length
    rw [F1.len _ _ _ _ said] at z
    exact z.symm
  have bound := bd _ (Value.ref (hp.objs.size + 1) :: us) I2.kIn count
  rw [List.cons_append] at bound
  have few' : us.length ≤ sizeLine := by
    rw [← Paired.length r1, sizeLine_eq]
    omega
  refine wpAny_call (PySem.HandSPX.call_own F.excBase_Exception (fun Y => over_has Y rs) (I1.kIn _ _ hC) (PySem.W.looks_findIn I1.kIn iC) (fun self => PySem.W.bind_fn I1.kIn self tI) few' (codeAny_mono (F1.run _ X.stack _ _ ⟨Value.ref (hp.objs.size + 1) :: us, []⟩ (Value.ref (hp.objs.size + 1) :: (us ++ [])) _ _ E0
    (room.make C us []) (I2.env0.make C us []) bound both said) fun r s' z => ?_))
  rcases r with er | fl
  · exact px pins σ _ _ er s' I2 z
  · cases fl with
    | next => exact z.elim
    | brk => exact z.elim
    | cont => exact z.elim
    | ret u =>
      obtain ⟨v, H2, os2, bare, un, ok, rv, ev, d, fs, ea, ed, hd1, q2⟩ := z
      subst ev
      obtain ⟨h2, g2, d2, t2, os'⟩ := s'
      exact ⟨rv, mk_end (raises_own T.exC T.tyC) I1 le keep un ok os2 bare ea ed hd1 q2⟩
end
end Sw
namespace Sw
open PySem PySem.Spec PyProof.Rows L2 PySem.SwE
/-! ### defs that may let out an exception -/
theorem Fun.okX {P : Program} {w : World} {K : PySem.W.Frag} {mg : Str → Option Value} {base : Heap} {k : Nat} {f : Addr} {fd : FuncData} {ps : List Str} {sp : Sp} {x qual : Str} {st : Stmt} {N : List Str} (F : Fun K x qual st f fd) (S : FnScope N ps (defScope st)) (len : ∀ xs M R X, sp xs M R X → xs.length = ps.length)
    (body : ∀ (cdv : Value) (A : Around) (out : List Env) (t : Shared) (M : Hp) (xs : List V) (R : VK) (E : XK), Room k (A.deeper (envOfC qual (defScope st) t.heap.objs.size f cdv)) → sp xs M R E →
      Takes (cxOf (L2.CX P w) P w K mg base N qual (defScope st) f cdv A out t M E) (fun cls d _ M' => E cls d M') →
      ∃ r, PSs (cxOf (L2.CX P w) P w K mg base N qual (defScope st) f cdv A out t M E) (defBody st) r ∧ r { nx := fun _ M' => R .non M', rt := R } (start N xs) M) : FnOk P w K mg base (L2.CX P w) (k + 1) f fd ps sp := by
  obtain ⟨oc, od, kV, doc, pm, an, cdv, ct, osl, rfl, found, coded⟩ := F.ex
  exact fn_of found coded S len fun A out t M xs R E room prom => body cdv A out t M xs R E room prom (takes_of rfl rfl rfl rfl)
section
variable (P : Program) (w : World) (K : PySem.W.Frag) (mg : Str → Option Value) (base : Heap)
def CalX (x : Str) (ps : List Str) (k : Nat) (sp : Sp) : Prop := ∃ (f : Addr) (fd : FuncData), FnOk P w K mg base (L2.CX P w) k f fd ps sp ∧ mg x = some (.ref f) ∧ PySem.W.keepIn K (.ref f) = true ∧ Binds K fd ps []
def CalKX (x : Str) (ps : List Str) (k : Nat) (sp : Sp) (ks : List Str) (g : List Value → List Value → List Value) (gV : List V → List V → List V) : Prop := ∃ (f : Addr) (fd : FuncData), FnOk P w K mg base (L2.CX P w) k f fd ps sp ∧ mg x = some (.ref f) ∧ PySem.W.keepIn K (.ref f) = true ∧ KBinds K fd ps ks g gV
end
section
variable {P : Program} {w : World} {K : PySem.W.Frag} {mg : Str → Option Value} {base : Heap} {x : Str} {st : Stmt} {ps ks : List Str} {k : Nat} {sp : Sp}
theorem Def.calX (d : Def K mg x st)
    (b : ∀ (kV doc pm : Value) (an : Option Addr) (cdv ct : Value) (us : List Value), us.length = ps.length → bindArgs (PySem.W.fnOf x x (defArgs st) (defBody st) (defScope st) .none kV doc pm an cdv ct) ⟨us, []⟩ = pure (ps.zip us))
    (ok : ∀ (f : Addr) (fd : FuncData), Fun K x x st f fd → FnOk P w K mg base (L2.CX P w) k f fd ps sp) : CalX P w K mg base x ps k sp := by
  obtain ⟨f, fd, F, m⟩ := d
  exact ⟨f, fd, ok f fd F, m, F.kp, F.binds b⟩
theorem Def.calKX {g : List Value → List Value → List Value} {gV : List V → List V → List V} (d : Def K mg x st)
    (b : ∀ (kV doc pm : Value) (an : Option Addr) (cdv ct : Value) (us ws : List Value), (g us ws).length = ps.length → bindArgs (PySem.W.fnOf x x (defArgs st) (defBody st) (defScope st) .none kV doc pm an cdv ct) ⟨us, ks.zip ws⟩ = pure (ps.zip (g us ws)))
    (rel : ∀ {vs : List V} {us : List Value} {zs : List V} {ws : List Value}, Vals vs us → Vals zs ws → Vals (gV vs zs) (g us ws))
    (ok : ∀ (f : Addr) (fd : FuncData), Fun K x x st f fd → FnOk P w K mg base (L2.CX P w) k f fd ps sp) : CalKX P w K mg base x ps k sp ks g gV := by
  obtain ⟨f, fd, F, m⟩ := d
  have O := ok f fd F
  have kp := F.kp
  obtain ⟨oc, od, kV, doc, pm, an, cdv, ct, osl, rfl, lk, hcd⟩ := F.ex
  exact ⟨f, _, O, m, kp, fun s us ws _ hl => .of_eq (b kV doc pm an cdv ct us ws hl), rel⟩
end
def tKwS (sp : Sp) (gV : List V → List V → List V) (E : L2.St → XK) (tk : TA) : TE := fun σ H Q => tk σ H fun zs H1 => sp (gV [] zs) H1 Q (E σ)
section
variable {X : Cx} {x : Str} {ps ks : List Str} {k n : Nat} {sp : Sp} {e : Expr} {es : List Expr} {t : TA} {p pos : Pos} {W : WX} {g : List Value → List Value → List Value} {gV : List V → List V → List V} {kws : List Keyword}
theorem pe_calX (c : CalX X.prog X.w X.K X.mg X.base x ps k sp) (hr : Room n X.A) (tk : Takes X W) (ha : PA X (e :: es) t) (hg : Gl X x := by rfl) (hk : k ≤ n := by decide)
    (hdb : (x == ("__debug__" : Str)) = false := by decide) (he : starEach (e :: es) X.env = (false, eval e X.env) :: starEach es X.env := by rfl) (hpl : (backTo pos (starEach es X.env)).any (·.1) = false := by rfl) :
    PE X (.Call (.Name x p) (e :: es) [] pos) (tCallS sp (WE W) t) := by
  obtain ⟨f, fd, F, m, kp, b⟩ := c
  exact pe_callS F (hr.mono hk) hg m kp b (passAt tk) ha hdb he hpl
theorem i_callS {σ : L2.St} {H : Hp} {Q : VK} {E : L2.St → XK} (h : t σ H fun vs H1 => sp vs H1 Q (E σ)) : tCallS sp E t σ H Q := h
theorem pe_calKX (c : CalKX X.prog X.w X.K X.mg X.base x ps k sp ks g gV) (hr : Room n X.A) (tk : Takes X W) (hkw : PK X kws t) (hg : Gl X x := by rfl) (hk : k ≤ n := by decide)
    (hall : (backToKw pos (keywordEach kws X.env)).all (·.1.isSome) = true := by rfl) (hks : (backToKw pos (keywordEach kws X.env)).filterMap (·.1) = ks := by rfl) (hdb : (x == ("__debug__" : Str)) = false := by decide)
    (hpl : ((backTo pos (starEach [] X.env)).any (·.1) || (backToKw pos (keywordEach kws X.env)).any (·.1.isNone)) = false := by rfl) :
    PE X (.Call (.Name x p) [] kws pos) (tKwS sp gV (WE W) t) := by
  obtain ⟨f, fd, F, m, kp, b⟩ := c
  constructor
  intro pins s σ H Q I h
  apply wpAny_Call_Name_kw (ld_glob I hg m ?_ hdb)
  refine PySem.W.callWith_KW0 (h₀ := X.base) I.ok.mod.kin kp hall (thn (hkw.run pos pins s σ H _ I h) fun ws s2 ⟨zs, H2, I2, rz, q⟩ => ⟨I2.kIn, ?_⟩) hpl
  rw [hks]
  have rel := b.rel (vs := []) (us := []) .nil rz
  have count : (g [] ws).length = ps.length := by rw [← rel.length]; exact F.len _ _ _ _ q
  apply wpAny_call
  apply codeAny_mono (F.run X.A X.stack s2 H2 ⟨[], ks.zip ws⟩ (g [] ws) (gV [] zs) Q (WE W σ) (hr.mono hk) I2.env0 (b.to s2 [] ws I2.kIn count) rel q)
  intro o s' z
  rcases o with er | fl
  · exact passAt tk σ pins H2 s2 er s' I2 z
  · cases fl with
    | ret u => exact I2.after z
    | next => exact z.elim
    | brk => exact z.elim
    | cont => exact z.elim
theorem i_kwS {σ : L2.St} {H : Hp} {Q : VK} {E : L2.St → XK} (h : t σ H fun zs H1 => sp (gV [] zs) H1 Q (E σ)) : tKwS sp gV E t σ H Q := h
end
theorem takes_none {X : Cx} : Takes X (fun _ _ _ _ => False) := fun u s' z => by
  obtain ⟨a, B, sI, pins, σ, H, cls, d, e, I, nb, up, sky, na, os, ag, w⟩ := z
  exact w.elim
end Sw
namespace Sw
open PySem PySem.Spec PyProof.Rows L2 PySem.SwE
/-- InvalidText.__init__(self, given) -/
def spInit (K : PySem.W.Frag) : Sp := fun vs H Q _ => ∃ (a C : Addr) (v : V), vs = [.ref a, v] ∧ H a = some (exo a C none) ∧ OexE K C ∧ PySem.W.findIn K (.ref C) "given" = some none ∧
  ∀ dx, H dx = none → dx ≠ a → Q .non (upd (upd H dx (exd dx [("given", v)])) a (exo a C (some dx)))
/-- what the written part says of the class that is called over -/
structure Over (K : PySem.W.Frag) (mg : Str → Option Value) (B : Addr) : Prop where
  hm : mg "CodecError" = some (.ref B)
  ga : PySem.W.specialIn K (.ref B) "__getattribute__" = some (some (.builtin "type.__getattribute__"))
  ty : PySem.W.typeIn K (.ref B) = some (.type "type")
  rd : PySem.W.readsIn K B (.type "type") = true
  fi : PySem.W.findCls K (.ref B) (.type "type") "__init__" = some (.val (.builtin "Exception.__init__"))
theorem i_init {K : PySem.W.Frag} {ta : TA} {σ : L2.St} {H : Hp} {Q : VK} (h : ta σ H fun vs H1 => ∃ (a C : Addr) (ws : List V), vs = .ref a :: ws ∧ ws.length ≤ 1000 ∧ OexE K C ∧ H1 a = some (exo a C none) ∧ Q .non H1) : tInit K ta σ H Q := h
theorem i_fst {K : PySem.W.Frag} {f : Str} {to te : TE} {D : Ends} {σ : L2.St} {H : Hp} (h : te σ H fun y H1 => to σ H1 fun x H2 => ∃ a C : Addr, x = .ref a ∧ OexE K C ∧ PySem.W.findIn K (.ref C) f = some none ∧
  H2 a = some (exo a C none) ∧ ∀ dx, H2 dx = none → dx ≠ a → D.nx σ (upd (upd H2 dx (exd dx [(f, y)])) a (exo a C (some dx)))) : tFst K f to te D σ H := h
/-- the class InvalidText, as it stands behind the top -/
structure XT (P : Program) (w : World) (K : PySem.W.Frag) (mg : Str → Option Value) (base : Heap) (C : Addr) : Prop where
  T : OexE K C
  xf : XfC K C
  no : PySem.W.findIn K (.ref C) "given" = some none
  hm : mg "InvalidText" = some (.ref C)
  me : PySem.W.exmOne K (.ref C) (.ref C) = some true
  ini : ∃ (fI : Addr) (fd : FuncData), PySem.W.findIn K (.ref C) "__init__" = some (some (.ref fI)) ∧ PySem.W.typeIn K (.ref fI) = some (.type "function") ∧ FnOk P w K mg base CX0 1 fI fd ["self", "given"] (spInit K) ∧ Binds K fd ["self", "given"] []
theorem pmk_T {X : Cx} {C : Addr} {n : Nat} {e : Expr} {te : TE} {p pos : Pos} (xt : XT X.prog X.w X.K X.mg X.base C) (hr : Room n X.A) (he : PE X e te) (hn : 2 ≤ n := by decide) (hg : Gl X "InvalidText" := by rfl)
    (he2 : starEach [e] X.env = (false, eval e X.env) :: starEach [] X.env := by rfl) : PMk X (.Call (.Name "InvalidText" p) [e] [] pos) (tMkO C (spInit X.K) [] (tCons te tNil)) := by
  obtain ⟨fI, fd, h1, h2, h3, h4⟩ := xt.ini
  exact pmk_E xt.T h1 h2 h3 (hr.mono hn) h4 pass0 xt.hm (pa_cons he pa_nil he2) hg (by decide) he2 (by rfl)
def Thrown (K : PySem.W.Frag) (C : Addr) (vs : List V) (H1 : Hp) (Q : XK) : Prop := vs.length ≤ 1000 ∧ ∀ a, H1 a = none → spInit K (.ref a :: (vs ++ [])) (upd H1 a (exo a C none))
  (fun v H2 => v = .non ∧ ∃ (d : Addr) (fs : List (Str × V)), H2 a = some (exo a C (some d)) ∧ H2 d = some (exd d fs) ∧ H1 d = none ∧ Q (.ref C) (some d) (upd (del H2 a) d (.xd fs))) (fun _ _ _ => False)
theorem i_mk {K : PySem.W.Frag} {C : Addr} {ta : TA} {σ : L2.St} {H : Hp} {Q : XK} (h : ta σ H fun vs H1 => Thrown K C vs H1 Q) : tMkO C (spInit K) [] ta σ H Q := h
def tRs (t : L2.St → Hp → XK → Prop) (W : WX) : TS := fun _ σ H => t σ H fun cls d H' => W cls d σ H'
theorem ps_rs {X : Cx} {W : WX} {e : Expr} {t : L2.St → Hp → XK → Prop} {pos : Pos} (hc : X.calm = true) (tk : Takes X W) (he : PMk X e t) : PS X (.Raise (some e) none pos) (tRs t W) := L2.ps_raise hc tk he
theorem i_raise {t : L2.St → Hp → XK → Prop} {W : WX} {D : Ends} {σ : L2.St} {H : Hp} (h : t σ H fun cls d H' => W cls d σ H') : tRs t W D σ H := h
theorem i_thrown {K : PySem.W.Frag} {C : Addr} {v : V} {H1 : Hp} {Q : XK} (T : OexE K C) (no : PySem.W.findIn K (.ref C) "given" = some none) (h : ∀ dx, H1 dx = none → Q (.ref C) (some dx) (upd H1 dx (.xd [("given", v)]))) : Thrown K C [v] H1 Q := by
  refine ⟨by simp, fun a na => ⟨a, C, v, rfl, upd_same, T, no, fun dx nx ne => ⟨rfl, dx, [("given", v)], upd_same, ?_, ?_, ?_⟩⟩⟩
  · rw [upd_ne ne, upd_same]
  · rw [upd_ne ne] at nx; exact nx
  · rw [upd_ne ne] at nx
    have e : upd (del (upd (upd (upd H1 a (exo a C none)) dx (exd dx [("given", v)])) a (exo a C (some dx))) a) dx (.xd [("given", v)]) = upd H1 dx (.xd [("given", v)]) := by
      funext b
      by_cases c : b = dx
      · rw [c, upd_same, upd_same]
      · rw [upd_ne c, upd_ne c]
        by_cases c2 : b = a
        · rw [c2, del_same, na]
        · rw [del_ne c2, upd_ne c2, upd_ne c, upd_ne c2]
    rw [e]
    exact h dx nx
theorem i_dnew {σ : L2.St} {H : Hp} {Q : VK} (h : ∀ p, H p = none → Q (.ref p) (upd H p (.dK []))) : tDNewK σ H Q := h
end Sw
namespace Sw
open PySem PySem.Spec PyProof.Rows L2
/-! ### try with several clauses that name the error -/
inductive AsOk (X : Cx) (Wo : WX) : List ExceptHandler → (Ends → WX) → Prop
  | nil : AsOk X Wo [] fun _ => Wo
  | cons {x n : Str} {c : Value} {i : Nat} {ts : Addr → Value → Option Addr → TS} {st : Stmt} {more : List Stmt} {p1 p2 : Pos} {hds : List ExceptHandler} {W : Ends → WX}
      (hi : X.N[i]? = some n) (hl : X.env.kindOf n = some .local) (hc : Names X x c)
      (su : ∀ (a : Addr) (o : Obj) (cls : Value) (d : Option Addr) (pn : List (Addr × Obj)), Zc cls d o → (∃ vs, o.data = .fields vs) → PSs (X.suite a ((a, o) :: pn)) (st :: more) (ts a cls d))
      (rest : AsOk X Wo hds W) : AsOk X Wo (.ExceptHandler (some (.Name x p1)) (some n) (st :: more) p2 :: hds) fun D => wAs X.K c i ts (W D) D
theorem ps_tries {X : Cx} {Wo : WX} {W : Ends → WX} {body : List Stmt} {h₀ : ExceptHandler} {hds : List ExceptHandler} {pos : Pos} {tb : WX → TS} (hs : X.stack = X.env :: X.outer) (hf : X.env.frame = some X.env.locals) (nd : X.N.Nodup) (tk : Takes X Wo)
    (hb : ∀ (V : WX) (pn : List (Addr × Obj)) (xe : Value → Shared → Prop), Takes (X.tr pn xe) V → PassesOwn (model X.prog X.w) X.A X.env xe → PSs (X.tr pn xe) body (tb V))
    (hh : AsOk X Wo (h₀ :: hds) W) : PS X (.Try body (h₀ :: hds) [] [] pos) fun D σ H => tb (W D) D σ H := by
  constructor
  intro pins s σ H D I h
  have ok := I.ok
  have fr : X.A.frames = some (X.env :: X.outer) := by rw [← hs]; exact ok.frames
  let after : Value → Shared → Prop := fun e s₁ => wpAny (model X.prog X.w) X.A (noteFrame e X.env) (fun _ s₂ => wpAny (model X.prog X.w) X.A (setFlight e none) (fun _ s₃ => wpAny (model X.prog X.w) X.A (handleBy e X.env (h₀ :: hds)) (SP X pins D) X.xe s₃) X.xe s₂) X.xe s₁
  have run := (hb (W D) (X.pn ++ pins) after (fun u s' air => ?_) PassesOwn.looking).run [] s σ H D (I.toTry _) h
  · refine wpAny_Try_except (wpAny_mono run (fun f s1 z => ?_) fun _ _ z => z)
    cases f <;> obtain ⟨_, _, z⟩ := z
    · exact wpAny_execs_nil ⟨_, _, z.1.ofTry ok, z.2⟩
    · exact ⟨_, _, z.1.ofTry ok, z.2⟩
    · exact ⟨_, _, z.1.ofTry ok, z.2⟩
    · obtain ⟨H', J, r, q⟩ := z
      exact ⟨_, _, _, J.ofTry ok, r, q⟩
  · obtain ⟨a, B, sI, pins', σ', H', cls, d, rfl, J0, nb, up, sky, na, os, ag, w⟩ := air
    have J := J0.ofTry ok
    show wpAny (model X.prog X.w) X.A (noteFrame (.ref a) X.env) _ _ _
    refine Sky.land Zc.steady fr hf (by rw [← hs]; exact sky) fun h3 fl3 up3 => ?_
    have J3 : Inv X pins σ' H' { s' with heap := h3 } := J.landed nb fl3.1 (up.trans up3) os ag
    obtain ⟨o3, vs3, ho3, z3, d3⟩ := fl3.there
    have out : a ∉ frs (X.env :: X.outer) := fun hm => by
      obtain ⟨_, o', e', hn⟩ := fl3.2.2.1.mem hm
      cases ho3.symm.trans e'
      exact hn _ d3
    have nL : a ≠ X.env.locals := fun z => out (List.mem_filterMap.mpr ⟨_, List.mem_cons_self, by rw [hf, z]⟩)
    have nF : a ∉ X.fs := fun hm => by
      obtain ⟨e, he, q⟩ := List.mem_filterMap.mp hm
      exact out (List.mem_filterMap.mpr ⟨e, List.mem_cons_of_mem _ he, q⟩)
    have S3 := J3.suite ho3 d3 na nL nF
    clear h
    revert w
    generalize h₀ :: hds = all at hh
    intro w
    induction hh with
    | nil =>
      refine wpAny_handleBy_nil ?_
      obtain ⟨_, _, _, o, vs, T, _, _, g1, _, g2, g3, _⟩ := id fl3
      unfold PySem.passOn
      refine wpAny_bind (wpAny_field g1 g2 g3 ?_)
      rw [if_neg (by simp : ¬ (Value.ref T == Value.none) = true)]
      have away : wpAny (model X.prog X.w) X.A (setFlight (.ref a) X.env.frame) (fun _ s4 => wpAny (model X.prog X.w) X.A (throw (.ref a) : Sem Flow) (SP X pins D) X.xe s4) X.xe { s' with heap := h3 } := by
        rw [hf]
        exact HandSPX.setFlight_upZ fl3 fun h4 hh4 up4 => wpAny_throw (tk _ _ ⟨a, B, sI, pins, σ', H', cls, d, rfl, J, nb, (up.trans up3).trans up4, .inr (.inr (by rw [hs]; exact hh4)), na, os, ag, w⟩)
      first | exact wpAny_bind (wpAny_pure (wpAny_bind away)) | exact wpAny_bind away
    | @cons x n c i ts st more p1 p2 hds W hi hl hc su rest ih =>
      obtain ⟨b, hb1, yes, no⟩ := w
      refine wpAny_handleBy_cons (codeAny_handlers_test ?_) (by intro q; cases q)
      have ty : PySem.W.Looks (model X.prog X.w) h3 (typeOf (.ref a)) cls := fun _ _ _ s k q => wpAny_typeOf_ref (k _ _ ho3) (by rw [z3.1]; exact q)
      have hit := PySem.W.exm_one (M := model X.prog X.w) J3.kIn ty hb1
      have name : ∀ {Q E : Value → Shared → Prop}, Q c { s' with heap := h3 } → wpAny (model X.prog X.w) (X.A.mark (some (.ref a))) (eval (.Name x p1) X.env) Q E { s' with heap := h3 } := fun q => by
        obtain ⟨hg, hd, ⟨hm⟩ | ⟨hm, hv, hn⟩⟩ := hc
        · exact ld_glob (X := X.suite a ((a, o3) :: (X.pn ++ pins))) S3 hg (by assumption) q hd
        · exact ld_blt (X := X.suite a ((a, o3) :: (X.pn ++ pins))) S3 hg hm hv q hn hd
      refine name (hit.here ?_)
      cases b with
      | false => exact ih (no rfl)
      | true =>
        refine codeAny_handlers_suite_as (HandSPX.lands_againZ fl3 fun h4 fl4 up4 => ?_)
        obtain ⟨o4, vs4, ho4, z4, d4⟩ := fl4.there
        have J4 : Inv X pins σ' H' { s' with heap := h4 } := J.landed nb fl4.1 ((up.trans up3).trans up4) os ag
        refine store_ok (X := X.suite a ((a, o4) :: (X.pn ++ pins))) (v := .ref a) (J4.suite ho4 d4 na nL nF) nd hi (.inl hl) rfl (fun s5 S5 => ?_) (.inr hl)
        refine wpAny_mono ((su a o4 cls d (X.pn ++ pins) z4 ⟨_, d4⟩).run [] s5 _ H' _ S5 (yes rfl a na)) (fun f s6 z => ?_) fun _ _ z => z.elim
        have bye : ∀ {σ6 : L2.St} {H6 : Hp} {Q : Shared → Prop}, Inv (X.suite a ((a, o4) :: (X.pn ++ pins))) [] σ6 H6 s6 → (∀ s7, Inv X pins (σ6.set i none) H6 s7 → Q s7) →
            wpAny (model X.prog X.w) X.A (do bindName X.env n .none; unbindBehindTheSuite X.env n p2) (fun _ s7 => Q s7) X.xe s6 := fun S6 hq => gone_ok (S6.unsuite ok) nd hi hl hq
        cases f <;> obtain ⟨_, _, z⟩ := z
        · exact bye z.1 fun s7 J7 => ⟨_, _, J7, z.2⟩
        · exact bye z.1 fun s7 J7 => ⟨_, _, J7, z.2⟩
        · exact bye z.1 fun s7 J7 => ⟨_, _, J7, z.2⟩
        · obtain ⟨H6, S6, r6, q6⟩ := z
          exact bye S6 fun s7 J7 => ⟨_, _, _, J7, r6, q6⟩
end Sw
namespace Sw
open PySem PySem.Spec PyProof.Rows L2
/-- isinstance(e, c), e the caught error, its fields at d -/
def rIsEd (K : PySem.W.Frag) (a : Addr) (cls : Value) (d : Option Addr) : List V → Hp → VK → Prop := fun xs H Q => ∃ (D c dd : Addr) (fs : List (Str × V)) (b : Bool), xs = [.ref a, .ref c] ∧ cls = .ref D ∧ ExcC K D ∧ d = some dd ∧ H dd = some (.xd fs) ∧ PySem.W.kitOne K (.ref D) (.ref c) = some b ∧ Q (.bl b) H
theorem call_isEd {X : Cx} {a : Addr} {oe : Obj} {cls : Value} {d : Option Addr} {pn : List (Addr × Obj)} (hz : Zc cls d oe) (hf : ∃ vs, oe.data = .fields vs) : CallR (X.suite a ((a, oe) :: pn)) (.builtin "isinstance") (rIsEd X.K a cls d) := by
  intro pins s σ H xs us Q I r h
  obtain ⟨D, c, dd, fs, b, rfl, rfl, C, rfl, ea, e, q⟩ := h
  cases r with
  | cons rx rr =>
    cases rr with
    | cons rt rr =>
      cases rr
      cases rx
      cases rt
      obtain ⟨hget, _⟩ := I.pin (a, oe) (List.mem_append.mpr (.inl List.mem_cons_self))
      obtain ⟨vs, hv⟩ := hf
      have hx : ObjOk X.prog X.w H s.heap dd (.xd fs) := I.hok dd _ ea
      obtain ⟨mA, hns, hr⟩ := hx
      obtain ⟨od, ho, hl⟩ := lookIn_ns hns
      have J : PySem.W.InstAt s.heap a oe D (some od) := ⟨hget, hz.1, by unfold PySem.W.notCls; rw [hv] <;> rfl, by rw [hz.2]; exact ho⟩
      exact PySem.W.kia_one (PySem.W.kitx_exc (by obtain ⟨cd, hc, _⟩ := PySem.W.any_some C.hd; rw [hc]; rfl) C.hg C.hk C.hs C.ha C.hn C.ht C.hm) I.kIn J e (fun z => nomatch z) fun tk => ⟨.bl b, H, I.kept (t' := tk) fun _ _ z => z, rfl, q⟩
end Sw
namespace Sw
open PySem PySem.Spec PyProof.Rows L2
/-! ### data with dicts in it -/
def keyD : Key → PyData
  | .inl i => .int i
  | .inr x => .str x
mutual
inductive De (K : PySem.W.Frag) (H : Hp) : V → PyData → Prop
  | non : De K H .non .none
  | bl (b : Bool) : De K H (.bl b) (.bool b)
  | int (i : Int) : De K H (.int i) (.int i)
  | str (x : Str) : De K H (.str x) (.str x)
  | lst {a : Addr} {xs : List V} {ds : List PyData} : H a = some (.lst xs) → sysModules < a → DeAll K H xs ds → De K H (.ref a) (.list ds)
  | tup {a : Addr} {xs : List V} {ds : List PyData} : SqT K H a xs → DeAll K H xs ds → De K H (.ref a) (.tuple ds)
  | dict {a : Addr} {kvs : List (Key × V)} {ds : List (PyData × PyData)} : H a = some (.dK kvs) → DeKv K H kvs ds → De K H (.ref a) (.dict ds)
inductive DeAll (K : PySem.W.Frag) (H : Hp) : List V → List PyData → Prop
  | nil : DeAll K H [] []
  | cons {v : V} {vs : List V} {d : PyData} {ds : List PyData} : De K H v d → DeAll K H vs ds → DeAll K H (v :: vs) (d :: ds)
inductive DeKv (K : PySem.W.Frag) (H : Hp) : List (Key × V) → List (PyData × PyData) → Prop
  | nil : DeKv K H [] []
  | cons {k : Key} {v : V} {vs : List (Key × V)} {d : PyData} {ds : List (PyData × PyData)} : De K H v d → DeKv K H vs ds → DeKv K H ((k, v) :: vs) ((keyD k, d) :: ds)
end
theorem key_reads {h : Heap} {k : Key} {u : Value} (e : keyIs k u = true) : Reads h u (keyD k) [] := by
  rcases keyIs_shape e with ⟨i, t, rfl, rfl⟩ | ⟨x, t, rfl, rfl⟩
  · exact .int i t
  · exact .str x t
section
variable {X : Cx} {pins : List (Addr × Obj)} {σ : L2.St} {H : Hp} {s : Shared}
mutual
theorem De.reads (I : Inv X pins σ H s) : ∀ (d : PyData) (v : V) (u : Value), De X.K H v d → RelV v u → ∃ as, Reads s.heap u d as ∧ sysModules ∉ as
  | .none, _, _, h, r => by
    cases h
    cases r
    exact ⟨_, Reads.none, by simp⟩
  | .bool b, _, _, h, r => by
    cases h
    cases r
    exact ⟨_, Reads.bool b, by simp⟩
  | .int i, _, _, h, r => by
    cases h
    obtain ⟨t, rfl⟩ := r
    exact ⟨_, Reads.int i t, by simp⟩
  | .str x, _, _, h, r => by
    cases h
    obtain ⟨t, rfl⟩ := r
    exact ⟨_, Reads.str x t, by simp⟩
  | .list ds, _, _, h, r => by
    cases h with
    | lst hs hlt ha =>
      cases r
      obtain ⟨its, rv, ⟨o, n, ho, hc, _, hd⟩, _⟩ := I.list (.inl (.inl hs))
      obtain ⟨as, hr, hn⟩ := De.readsAll I ds _ its ha rv
      exact ⟨_, Reads.list ho hc hd hr, by
        intro z
        rcases List.mem_cons.mp z with z | z
        · exact Nat.lt_irrefl _ (z ▸ hlt)
        · exact hn z⟩
  | .tuple ds, _, _, h, r => by
    cases h with
    | tup hs ha =>
      cases r
      obtain ⟨its, rv, ⟨o, ho, hc, n, hd⟩, _⟩ := I.tuple hs
      obtain ⟨as, hr, hn⟩ := De.readsAll I ds _ its ha rv
      exact ⟨_, Reads.tuple ho hc hd hr, hn⟩
  | .dict ds, _, _, h, r => by
    cases h with
    | dict hs ha =>
      cases r
      obtain ⟨_, notSys, vs, kv, o, es, ep, ho, ex, hd, _, pr, _⟩ : ObjOk X.prog X.w H s.heap _ (.dK _) := I.hok _ _ hs
      obtain ⟨as, bs, hr1, hr2, hn1, hn2⟩ := De.readsKv I ds _ vs es.toList ha kv pr
      exact ⟨_, Reads.dict ho ex.1 hd hr1 hr2, by
        intro z
        rcases List.mem_append.mp z with z | z
        · rcases List.mem_cons.mp z with z | z
          · rw [← z] at notSys
            exact absurd notSys (by decide)
          · exact hn1 z
        · exact hn2 z⟩
theorem De.readsAll (I : Inv X pins σ H s) : ∀ (ds : List PyData) (vs : List V) (us : List Value), DeAll X.K H vs ds → Vals vs us → ∃ as, ReadsAll s.heap us ds as ∧ sysModules ∉ as
  | [], _, _, h, r => by
    cases h
    cases r
    exact ⟨_, ReadsAll.nil, by simp⟩
  | d :: ds, _, _, h, r => by
    cases h with
    | cons h1 h2 =>
      cases r with
      | cons r1 r2 =>
        obtain ⟨as, q1, n1⟩ := De.reads I d _ _ h1 r1
        obtain ⟨bs, q2, n2⟩ := De.readsAll I ds _ _ h2 r2
        exact ⟨_, ReadsAll.cons q1 q2, fun z => (List.mem_append.mp z).elim n1 n2⟩
theorem De.readsKv (I : Inv X pins σ H s) : ∀ (ds : List (PyData × PyData)) (kvs : List (Key × V)) (vs : List (Key × Value)) (es : List DictEntry), DeKv X.K H kvs ds → KV kvs vs → Pairs (mixKind X.prog X.w) es vs →
    ∃ as bs, ReadsAll s.heap (es.map (·.key)) (ds.map (·.1)) as ∧ ReadsAll s.heap (es.map (·.val)) (ds.map (·.2)) bs ∧ sysModules ∉ as ∧ sysModules ∉ bs
  | [], _, _, _, h, r, p => by
    cases h
    cases r
    cases p
    exact ⟨_, _, ReadsAll.nil, ReadsAll.nil, by simp, by simp⟩
  | d :: ds, _, _, _, h, r, p => by
    cases h with
    | cons h1 h2 =>
      cases r with
      | cons r1 r2 =>
        cases p with
        | cons p1 p2 p3 =>
          obtain ⟨as, q1, n1⟩ := De.reads I _ _ _ h1 r1.2
          obtain ⟨bs, cs, q2, q3, n2, n3⟩ := De.readsKv I _ _ _ _ h2 r2 p3
          refine ⟨[] ++ bs, as ++ cs, ?_, ?_, by simpa using n2, fun z => (List.mem_append.mp z).elim n1 n3⟩
          · rw [List.map_cons, List.map_cons]
            refine .cons (key_reads ?_) q2
            have e := r1.1
            dsimp only at e
            rw [e]
            exact p1
          · rw [List.map_cons, List.map_cons]
            refine .cons ?_ q3
            rw [p2]
            exact q1
end
/-! ### small data -/
mutual
def sok : PyData → Bool
  | .str z => PyData.strOk z
  | .list xs => sokAll xs
  | .tuple xs => sokAll xs
  | _ => true
def sokAll : List PyData → Bool
  | [] => true
  | x :: xs => sok x && sokAll xs
end
mutual
theorem sok_lay : ∀ {d : PyData}, sok d = true → d.hasDict = false → d.canLay0 = true
  | .none, _, _ => by simp only [PyData.canLay0]
  | .bool _, _, _ => by simp only [PyData.canLay0]
  | .int _, _, _ => by simp only [PyData.canLay0]
  | .str z, h, _ => by simp only [PyData.canLay0]; simpa only [sok] using h
  | .list xs, h, z => by
    simp only [PyData.canLay0]
    exact sokAll_lay (by simpa only [sok] using h) (by simpa only [PyData.hasDict] using z)
  | .tuple xs, h, z => by
    simp only [PyData.canLay0]
    exact sokAll_lay (by simpa only [sok] using h) (by simpa only [PyData.hasDict] using z)
  | .dict _, _, z => by simp only [PyData.hasDict] at z; cases z
theorem sokAll_lay : ∀ {ds : List PyData}, sokAll ds = true → PyData.hasDictAll ds = false → PyData.canLayAll0 ds = true
  | [], _, _ => by simp only [PyData.canLayAll0]
  | d :: ds, h, z => by
    simp only [sokAll, Bool.and_eq_true] at h
    simp only [PyData.hasDictAll, Bool.or_eq_false_iff] at z
    simp only [PyData.canLayAll0, sok_lay h.1 z.1, sokAll_lay h.2 z.2, Bool.and_self]
end
structure Sd (n w : Nat) (d : PyData) : Prop where
  dep : d.depth ≤ n
  wei : d.weight ≤ w
  sh : d.showable = true
  ls : d.leavesShort 60 = true
  ok : sok d = true
structure SdAll (n w : Nat) (ds : List PyData) : Prop where
  dep : PyData.depthAll ds ≤ n
  wei : PyData.weightAll ds ≤ w
  sh : PyData.showableAll ds = true
  ls : PyData.leavesShortAll 60 ds = true
  ok : sokAll ds = true
theorem Sd.mono {n w n' w' : Nat} {d : PyData} (s : Sd n w d) (h1 : n ≤ n') (h2 : w ≤ w') : Sd n' w' d := ⟨Nat.le_trans s.dep h1, Nat.le_trans s.wei h2, s.sh, s.ls, s.ok⟩
theorem SdAll.mono {n w n' w' : Nat} {d : List PyData} (s : SdAll n w d) (h1 : n ≤ n') (h2 : w ≤ w') : SdAll n' w' d := ⟨Nat.le_trans s.dep h1, Nat.le_trans s.wei h2, s.sh, s.ls, s.ok⟩
theorem SdAll.nil {n : Nat} : SdAll n 0 [] := ⟨by simp only [PyData.depthAll]; omega, by simp only [PyData.weightAll]; omega, by simp only [PyData.showableAll], by simp only [PyData.leavesShortAll], by simp only [sokAll]⟩
theorem SdAll.cons {n w v : Nat} {d : PyData} {ds : List PyData} (h : Sd n w d) (k : SdAll n v ds) : SdAll n (w + 1 + v) (d :: ds) := by
  obtain ⟨a1, a2, a3, a4, a5⟩ := h
  obtain ⟨b1, b2, b3, b4, b5⟩ := k
  exact ⟨by simp only [PyData.depthAll]; omega, by simp only [PyData.weightAll]; omega, by simp only [PyData.showableAll, a3, b3, Bool.and_self], by simp only [PyData.leavesShortAll, a4, b4, Bool.and_self], by simp only [sokAll, a5, b5, Bool.and_self]⟩
theorem SdAll.inv {n w : Nat} {d : PyData} {ds : List PyData} (h : SdAll n w (d :: ds)) : ∃ u v, u + 1 + v ≤ w ∧ Sd n u d ∧ SdAll n v ds := by
  obtain ⟨a1, a2, a3, a4, a5⟩ := h
  simp only [PyData.depthAll] at a1
  simp only [PyData.weightAll] at a2
  simp only [PyData.showableAll, Bool.and_eq_true] at a3
  simp only [PyData.leavesShortAll, Bool.and_eq_true] at a4
  simp only [sokAll, Bool.and_eq_true] at a5
  exact ⟨d.weight, PyData.weightAll ds, by omega, ⟨by omega, Nat.le_refl _, a3.1, a4.1, a5.1⟩, ⟨by omega, Nat.le_refl _, a3.2, a4.2, a5.2⟩⟩
theorem SdAll.app {n : Nat} : ∀ {w v : Nat} {ds es : List PyData}, SdAll n w ds → SdAll n v es → SdAll n (w + v) (ds ++ es)
  | _, _, [], _, _, k => k.mono (Nat.le_refl _) (by omega)
  | _, _, d :: ds, es, h, k => by
    obtain ⟨a, b, hab, h1, h2⟩ := h.inv
    exact (SdAll.cons h1 (h2.app k)).mono (Nat.le_refl _) (by omega)
theorem SdAll.take {n : Nat} : ∀ {w : Nat} {ds : List PyData} (k : Nat), SdAll n w ds → SdAll n w (ds.take k)
  | _, ds, 0, _ => by rw [List.take_zero]; exact SdAll.nil.mono (Nat.le_refl _) (by omega)
  | _, [], k + 1, h => by rw [List.take_nil]; exact h
  | _, d :: ds, k + 1, h => by
    obtain ⟨a, b, hab, h1, h2⟩ := h.inv
    rw [List.take_succ_cons]
    exact (SdAll.cons h1 (h2.take k)).mono (Nat.le_refl _) (by omega)
theorem SdAll.drop {n : Nat} : ∀ {w : Nat} {ds : List PyData} (k : Nat), SdAll n w ds → SdAll n w (ds.drop k)
  | _, ds, 0, h => h
  | _, [], k + 1, h => by rw [List.drop_nil]; exact h
  | _, d :: ds, k + 1, h => by
    obtain ⟨a, b, hab, h1, h2⟩ := h.inv
    rw [List.drop_succ_cons]
    exact (h2.drop k).mono (Nat.le_refl _) (by omega)
theorem SdAll.get {n : Nat} : ∀ {w : Nat} {ds : List PyData} {d : PyData}, SdAll n w ds → d ∈ ds → Sd n w d
  | _, d :: ds, e, h, hm => by
    obtain ⟨a, b, hab, h1, h2⟩ := h.inv
    rcases List.mem_cons.mp hm with rfl | hm
    · exact h1.mono (Nat.le_refl _) (by omega)
    · exact (h2.get hm).mono (Nat.le_refl _) (by omega)
theorem sd_all {n w : Nat} : ∀ {ds : List PyData}, (∀ d ∈ ds, Sd n w d) → SdAll n (ds.length * (w + 1)) ds
  | [], _ => SdAll.nil.mono (Nat.le_refl _) (by omega)
  | d :: ds, h => (SdAll.cons (h d List.mem_cons_self) (sd_all (ds := ds) fun x hx => h x (List.mem_cons_of_mem _ hx))).mono (Nat.le_refl _) (by rw [List.length_cons, Nat.succ_mul]; omega)
theorem sd_lst' {n w : Nat} {ds : List PyData} (h : SdAll n w ds) : Sd (n + 1) w (.list ds) := by
  obtain ⟨b1, b2, b3, b4, b5⟩ := h
  exact ⟨by simp only [PyData.depth]; omega, by simp only [PyData.weight]; exact b2, by simp only [PyData.showable, b3], by simp only [PyData.leavesShort, b4], by simp only [sok, b5]⟩
theorem sd_tup' {n w : Nat} {ds : List PyData} (h : SdAll n w ds) : Sd (n + 1) w (.tuple ds) := by
  obtain ⟨b1, b2, b3, b4, b5⟩ := h
  exact ⟨by simp only [PyData.depth]; omega, by simp only [PyData.weight]; exact b2, by simp only [PyData.showable, b3], by simp only [PyData.leavesShort, b4], by simp only [sok, b5]⟩
theorem sd_lst {n w : Nat} {ds : List PyData} (h : ∀ d ∈ ds, Sd n w d) : Sd (n + 1) (ds.length * (w + 1)) (.list ds) := sd_lst' (sd_all h)
theorem sd_tup {n w : Nat} {ds : List PyData} (h : ∀ d ∈ ds, Sd n w d) : Sd (n + 1) (ds.length * (w + 1)) (.tuple ds) := sd_tup' (sd_all h)
theorem Sd.tupI {n w : Nat} {ds : List PyData} (s : Sd (n + 1) w (.tuple ds)) : SdAll n w ds := by
  obtain ⟨b1, b2, b3, b4, b5⟩ := s
  simp only [PyData.depth] at b1
  exact ⟨by omega, by simpa only [PyData.weight] using b2, by simpa only [PyData.showable] using b3, by simpa only [PyData.leavesShort] using b4, by simpa only [sok] using b5⟩
theorem Sd.lstI {n w : Nat} {ds : List PyData} (s : Sd (n + 1) w (.list ds)) : SdAll n w ds := by
  obtain ⟨b1, b2, b3, b4, b5⟩ := s
  simp only [PyData.depth] at b1
  exact ⟨by omega, by simpa only [PyData.weight] using b2, by simpa only [PyData.showable] using b3, by simpa only [PyData.leavesShort] using b4, by simpa only [sok] using b5⟩
theorem sd_non : Sd 0 0 .none := ⟨by simp only [PyData.depth]; omega, by simp only [PyData.weight]; omega, by simp only [PyData.showable], by simp only [PyData.leavesShort], by simp only [sok]⟩
theorem sd_bl (b : Bool) : Sd 0 0 (.bool b) := ⟨by simp only [PyData.depth]; omega, by simp only [PyData.weight]; omega, by simp only [PyData.showable], by simp only [PyData.leavesShort], by simp only [sok]⟩
theorem sd_emp : Sd 1 0 (.dict []) := ⟨by simp only [PyData.depth, PyData.depthKv]; omega, by simp only [PyData.weight, PyData.weightKv]; omega, by simp only [PyData.showable, PyData.showableKv], by simp only [PyData.leavesShort, PyData.leavesShortKv], by simp only [sok]⟩
theorem strOk_lt' {l : List Nat} (h : ∀ c ∈ l, c ≤ 1000) : PyData.strOk (S l) = true := by
  unfold PyData.strOk
  rw [Array.all_eq_true]
  intro i hi
  have q := h (l[i]'(by simpa [S] using hi)) (List.getElem_mem _)
  have e : (S l).cps[i] = l[i]'(by simpa [S] using hi) := by simp [S]
  rw [e]
  exact decide_eq_true (by omega)
theorem sd_str {l : List Nat} (h : ∀ c ∈ l, c ≤ 1000) : Sd 0 l.length (.str (S l)) := by
  refine ⟨by simp only [PyData.depth]; omega, by simp only [PyData.weight, S_size]; omega, by simp only [PyData.showable], ?_, by simp only [sok]; exact strOk_lt' h⟩
  simp only [PyData.leavesShort]
  rw [List.all_eq_true]
  intro c hc
  have : c ∈ l := by simpa [S] using hc
  exact decide_eq_true (by have := h c this; omega)
theorem sd_intW {i : Int} {n k : Nat} (h : i.natAbs < 10 ^ 40) (h2 : i.natAbs < 2 ^ k) : Sd 0 k (.int i) := by
  refine ⟨by simp only [PyData.depth]; omega, ?_, ?_, ?_, by simp only [sok]⟩
  · simp only [PyData.weight]
    split
    · omega
    · rename_i z
      have z' : i.natAbs ≠ 0 := by
        intro e
        have : i = 0 := by omega
        rw [this] at z
        exact z rfl
      have := (Nat.log2_lt z' (k := k)).mpr h2
      omega
  · simp only [PyData.showable]
    refine decide_eq_true ?_
    by_cases z : i.natAbs = 0
    · rw [z]; decide
    · have := (Nat.log2_lt z (k := 139)).mpr (Nat.lt_of_lt_of_le h (by decide))
      omega
  · simp only [PyData.leavesShort]
    have e := int_text_length_le10 (k := 40) (by decide) h
    refine decide_eq_true ?_
    show (Str.ofString (toString i)).length ≤ 60
    rw [PySem.ofString_length]
    omega
theorem sd_int {i : Int} (h : i.natAbs < 10 ^ 40) : Sd 0 140 (.int i) := sd_intW (n := 0) h (Nat.lt_of_lt_of_le h (by decide))
/-- an int of a few digits -/
theorem sd_int9 {i : Int} (h : i.natAbs < 512) : Sd 0 9 (.int i) := sd_intW (n := 0) (Nat.lt_of_lt_of_le h (by decide)) (by omega)
theorem Sd.len {n w : Nat} {d : PyData} (s : Sd n w d) (hw : w ≤ 270000) : d.shown.length ≤ sizeLine := by
  have := PyData.shown_le 60 (by omega) d s.ls
  have h2 := s.wei
  have : d.shown.length ≤ 62 * 270000 + 60 := Nat.le_trans this (by omega)
  exact Nat.le_trans this (by decide)
end
def rRepE (K : PySem.W.Frag) : List V → Hp → VK → Prop := fun xs M R => ∃ x d n w, xs = [x] ∧ (De K M x d ∨ (Dp K M x d ∧ d.hasDict = false)) ∧ Sd n w d ∧ n ≤ 60 ∧ w ≤ 270000 ∧ R (.str d.shown) M
theorem call_repE {X : Cx} (quiet : X.A.guards = some []) (hu : X.A.units + 64 < cLine) : CallR X (.builtin "repr") (rRepE X.K) := by
  intro pins s σ M xs us R I r h
  obtain ⟨x, d, n, w, rfl, hd, sd, hn, hw, q⟩ := h
  obtain ⟨u, rfl, ru⟩ := vals1 r
  have sz := sd.len hw
  have dp := sd.dep
  rcases hd with hd | ⟨hd, nd⟩
  rotate_left
  · obtain ⟨as, rd⟩ := Dp.reads I d x u hd ru
    cases hd with
    | non =>
      cases ru
      exact PySem.P.repr_of_none ⟨.str (PyData.shown .none), M, I.tok _, ⟨_, by simp only [PyData.shown]; rfl⟩, q⟩
    | bl b =>
      cases ru
      exact PySem.P.repr_of_bool ⟨.str (PyData.shown (.bool b)), M, I.tok _, ⟨_, by simp only [PyData.shown]; rfl⟩, q⟩
    | int i =>
      obtain ⟨t, rfl⟩ := ru
      exact PySem.P.repr_of_int (of_decide_eq_true (by simpa only [PyData.showable] using sd.sh)) ⟨.str (PyData.shown (.int i)), M, I.tok _, ⟨_, by simp only [PyData.shown]; rfl⟩, q⟩
    | str z =>
      obtain ⟨t, rfl⟩ := ru
      exact PySem.P.repr_of_str ⟨.str (PyData.shown (.str z)), M, I.tok _, ⟨_, by simp only [PyData.shown]; rfl⟩, q⟩ (by simpa only [PyData.shown] using sz)
    | lst h1 h2 =>
      cases ru
      exact repr_of_reads' rd sd.sh (PyData.noDict_hsm nd) quiet (by omega) (fun _ _ e => e) (fun h' t tk keep => ⟨.str _, M, I.kept (t' := tk) keep, ⟨t, rfl⟩, q⟩) sz
    | tup h1 h2 =>
      cases ru
      exact repr_of_reads' rd sd.sh (PyData.noDict_hsm nd) quiet (by omega) (fun _ _ e => e) (fun h' t tk keep => ⟨.str _, M, I.kept (t' := tk) keep, ⟨t, rfl⟩, q⟩) sz
  obtain ⟨as, rd, nn⟩ := De.reads I d x u hd ru
  cases hd with
  | non =>
    cases ru
    exact PySem.P.repr_of_none ⟨.str (PyData.shown .none), M, I.tok _, ⟨_, by simp only [PyData.shown]; rfl⟩, q⟩
  | bl b =>
    cases ru
    exact PySem.P.repr_of_bool ⟨.str (PyData.shown (.bool b)), M, I.tok _, ⟨_, by simp only [PyData.shown]; rfl⟩, q⟩
  | int i =>
    obtain ⟨t, rfl⟩ := ru
    exact PySem.P.repr_of_int (of_decide_eq_true (by simpa only [PyData.showable] using sd.sh)) ⟨.str (PyData.shown (.int i)), M, I.tok _, ⟨_, by simp only [PyData.shown]; rfl⟩, q⟩
  | str z =>
    obtain ⟨t, rfl⟩ := ru
    exact PySem.P.repr_of_str ⟨.str (PyData.shown (.str z)), M, I.tok _, ⟨_, by simp only [PyData.shown]; rfl⟩, q⟩ (by simpa only [PyData.shown] using sz)
  | lst h1 h0 h2 =>
    cases ru
    exact repr_of_reads' rd sd.sh (fun _ => nn) quiet (by omega) (fun _ _ e => e) (fun h' t tk keep => ⟨.str _, M, I.kept (t' := tk) keep, ⟨t, rfl⟩, q⟩) sz
  | tup h1 h2 =>
    cases ru
    exact repr_of_reads' rd sd.sh (fun _ => nn) quiet (by omega) (fun _ _ e => e) (fun h' t tk keep => ⟨.str _, M, I.kept (t' := tk) keep, ⟨t, rfl⟩, q⟩) sz
  | dict h1 h2 =>
    cases ru
    exact repr_of_reads' rd sd.sh (fun _ => nn) quiet (by omega) (fun _ _ e => e) (fun h' t tk keep => ⟨.str _, M, I.kept (t' := tk) keep, ⟨t, rfl⟩, q⟩) sz
theorem i_repE {K : PySem.W.Frag} {M : Hp} {x : V} {d : PyData} {n w : Nat} {R : VK} (h : De K M x d) (s : Sd n w d) (hn : n ≤ 60 := by omega) (hw : w ≤ 270000 := by omega) (k : R (.str d.shown) M) : rRepE K [x] M R := ⟨x, d, n, w, rfl, .inl h, s, hn, hw, k⟩
theorem i_repP {K : PySem.W.Frag} {M : Hp} {x : V} {d : PyData} {n w : Nat} {R : VK} (h : Dp K M x d) (z : d.hasDict = false) (s : Sd n w d) (hn : n ≤ 60 := by omega) (hw : w ≤ 270000 := by omega) (k : R (.str d.shown) M) : rRepE K [x] M R := ⟨x, d, n, w, rfl, .inr ⟨h, z⟩, s, hn, hw, k⟩
/-! ### what is kept -/
mutual
theorem De.same {K : PySem.W.Frag} {H H' : Hp} (s : Same H H') : ∀ {v : V} {d : PyData}, De K H v d → De K H' v d
  | _, _, .non => .non
  | _, _, .bl b => .bl b
  | _, _, .int i => .int i
  | _, _, .str x => .str x
  | _, _, .lst h1 h0 h2 => .lst (s _ _ h1) h0 (DeAll.same s h2)
  | _, _, .tup h1 h2 => .tup (Same.sqT s h1) (DeAll.same s h2)
  | _, _, .dict h1 h2 => .dict (s _ _ h1) (DeKv.same s h2)
theorem DeAll.same {K : PySem.W.Frag} {H H' : Hp} (s : Same H H') : ∀ {vs : List V} {ds : List PyData}, DeAll K H vs ds → DeAll K H' vs ds
  | _, _, .nil => .nil
  | _, _, .cons h1 h2 => .cons (De.same s h1) (DeAll.same s h2)
theorem DeKv.same {K : PySem.W.Frag} {H H' : Hp} (s : Same H H') : ∀ {vs : List (Key × V)} {ds : List (PyData × PyData)}, DeKv K H vs ds → DeKv K H' vs ds
  | _, _, .nil => .nil
  | _, _, .cons h1 h2 => .cons (De.same s h1) (DeKv.same s h2)
end
theorem DeAll.len {K : PySem.W.Frag} {H : Hp} : ∀ {vs : List V} {ds : List PyData}, DeAll K H vs ds → vs.length = ds.length
  | _, _, .nil => rfl
  | _, _, .cons _ h2 => by rw [List.length_cons, List.length_cons, h2.len]
theorem DeAll.get {K : PySem.W.Frag} {H : Hp} : ∀ {vs : List V} {ds : List PyData} {i : Nat} {v : V}, DeAll K H vs ds → vs[i]? = some v → ∃ d, ds[i]? = some d ∧ De K H v d
  | _, _, _, _, .nil, e => by simp at e
  | _, _, 0, _, .cons h1 _, e => by simp at e; subst e; exact ⟨_, rfl, h1⟩
  | _, _, i + 1, v, .cons _ h2, e => by
    obtain ⟨d, h1, h3⟩ := h2.get (i := i) (v := v) (by simpa using e)
    exact ⟨d, by simpa using h1, h3⟩
theorem DeAll.app {K : PySem.W.Frag} {H : Hp} : ∀ {vs ws : List V} {ds es : List PyData}, DeAll K H vs ds → DeAll K H ws es → DeAll K H (vs ++ ws) (ds ++ es)
  | _, _, _, _, .nil, h => h
  | _, _, _, _, .cons h1 h2, h => .cons h1 (h2.app h)
theorem DeAll.take {K : PySem.W.Frag} {H : Hp} : ∀ {vs : List V} {ds : List PyData} (n : Nat), DeAll K H vs ds → DeAll K H (vs.take n) (ds.take n)
  | _, _, 0, _ => by rw [List.take_zero, List.take_zero]; exact .nil
  | _, _, n + 1, .nil => by rw [List.take_nil, List.take_nil]; exact .nil
  | _, _, n + 1, .cons h1 h2 => .cons h1 (h2.take n)
theorem DeAll.drop {K : PySem.W.Frag} {H : Hp} : ∀ {vs : List V} {ds : List PyData} (n : Nat), DeAll K H vs ds → DeAll K H (vs.drop n) (ds.drop n)
  | _, _, 0, h => h
  | _, _, n + 1, .nil => by rw [List.drop_nil, List.drop_nil]; exact .nil
  | _, _, n + 1, .cons _ h2 => h2.drop n
mutual
theorem De.dp {K : PySem.W.Frag} {H : Hp} : ∀ {v : V} {d : PyData}, De K H v d → d.hasDict = false → Dp K H v d
  | _, _, .non, _ => .non
  | _, _, .bl b, _ => .bl b
  | _, _, .int i, _ => .int i
  | _, _, .str x, _ => .str x
  | _, _, .lst h1 _ h2, z => .lst (.inl (.inl h1)) (h2.dp (by simpa only [PyData.hasDict] using z))
  | _, _, .tup h1 h2, z => .tup h1 (h2.dp (by simpa only [PyData.hasDict] using z))
  | _, _, .dict _ _, z => by simp only [PyData.hasDict] at z; cases z
theorem DeAll.dp {K : PySem.W.Frag} {H : Hp} : ∀ {vs : List V} {ds : List PyData}, DeAll K H vs ds → PyData.hasDictAll ds = false → DpAll K H vs ds
  | _, _, .nil, _ => .nil
  | _, _, .cons h1 h2, z => by
    simp only [PyData.hasDictAll, Bool.or_eq_false_iff] at z
    exact .cons (h1.dp z.1) (h2.dp z.2)
end
theorem Sd.shaped {n w : Nat} {d : PyData} (s : Sd n w d) (h : n ≤ 60) (z : d.hasDict = false) : SeqAt.shaped d = true := by
  show (PyData.canLay0 d && decide (PyData.depth d ≤ 64)) = true
  rw [sok_lay s.ok z, Bool.true_and]
  exact decide_eq_true (Nat.le_trans s.dep (by omega))
theorem i_eqE {K : PySem.W.Frag} {H : Hp} {x y : V} {d e : PyData} {Q : VK} {n w m u : Nat} (h1 : De K H x d) (h2 : De K H y e) (s1 : Sd n w d) (s2 : Sd m u e) (z1 : d.hasDict = false) (z2 : e.hasDict = false) (k : Q (.bl (PyData.eqv d e)) H) (hn : n ≤ 60 := by omega) (hm : m ≤ 60 := by omega) : rEqD K x y H Q :=
  ⟨d, e, h1.dp z1, h2.dp z2, s1.shaped hn z1, s2.shaped hm z2, k⟩
theorem i_neE {K : PySem.W.Frag} {H : Hp} {x y : V} {d e : PyData} {Q : VK} {n w m u : Nat} (h1 : De K H x d) (h2 : De K H y e) (s1 : Sd n w d) (s2 : Sd m u e) (z1 : d.hasDict = false) (z2 : e.hasDict = false) (k : Q (.bl (!PyData.eqv d e)) H) (hn : n ≤ 60 := by omega) (hm : m ≤ 60 := by omega) : rNeD K x y H Q :=
  ⟨d, e, h1.dp z1, h2.dp z2, s1.shaped hn z1, s2.shaped hm z2, k⟩
/-! ### isinstance of data -/
def tyB : String → PyData → Bool
  | "int", .int _ => true
  | "int", .bool _ => true
  | "bool", .bool _ => true
  | "str", .str _ => true
  | "list", .list _ => true
  | "tuple", .tuple _ => true
  | _, _ => false
theorem tyx_tup {K : PySem.W.Frag} {H : Hp} {a : Addr} {xs : List V} (h : SqT K H a xs) : TyX K H (.ref a) (.type "tuple") := by
  rcases h with (h | ⟨o, h⟩) | ⟨o, its, n, h, c, _⟩
  · exact .base (.tup h)
  · exact .fTuple h
  · exact .kTuple h c
theorem De.isi {K : PySem.W.Frag} {H : Hp} {v : V} {d : PyData} {Q : VK} {n : String} (h : De K H v d) (hn : n = "int" ∨ n = "bool" ∨ n = "str" ∨ n = "list" ∨ n = "tuple") (k : Q (.bl (tyB n d)) H) : rIsi K [v, .ty n] H Q := by
  cases h with
  | non => rcases hn with rfl | rfl | rfl | rfl | rfl <;> exact i_isi _ (.base .non) (kit_ty (by first | (show _ = some true; decide +kernel) | (show _ = some false; decide +kernel))) k
  | bl b => rcases hn with rfl | rfl | rfl | rfl | rfl <;> exact i_isi _ (.base (.bl _)) (kit_ty (by first | (show _ = some true; decide +kernel) | (show _ = some false; decide +kernel))) k
  | int i => rcases hn with rfl | rfl | rfl | rfl | rfl <;> exact i_isi _ (.base (.int _)) (kit_ty (by first | (show _ = some true; decide +kernel) | (show _ = some false; decide +kernel))) k
  | str x => rcases hn with rfl | rfl | rfl | rfl | rfl <;> exact i_isi _ (.base (.str _)) (kit_ty (by first | (show _ = some true; decide +kernel) | (show _ = some false; decide +kernel))) k
  | lst h1 _ h2 => rcases hn with rfl | rfl | rfl | rfl | rfl <;> exact i_isi _ (.base (.lst h1)) (kit_ty (by first | (show _ = some true; decide +kernel) | (show _ = some false; decide +kernel))) k
  | tup h1 h2 => rcases hn with rfl | rfl | rfl | rfl | rfl <;> exact i_isi _ (tyx_tup h1) (kit_ty (by first | (show _ = some true; decide +kernel) | (show _ = some false; decide +kernel))) k
  | dict h1 h2 => rcases hn with rfl | rfl | rfl | rfl | rfl <;> exact i_isi _ (.base (.dK h1)) (kit_ty (by first | (show _ = some true; decide +kernel) | (show _ = some false; decide +kernel))) k
theorem De.tupI {K : PySem.W.Frag} {H : Hp} {v : V} {ds : List PyData} (h : De K H v (.tuple ds)) : ∃ a xs, v = .ref a ∧ SqT K H a xs ∧ DeAll K H xs ds := by
  cases h with | tup h1 h2 => exact ⟨_, _, rfl, h1, h2⟩
theorem De.lstI {K : PySem.W.Frag} {H : Hp} {v : V} {ds : List PyData} (h : De K H v (.list ds)) : ∃ a xs, v = .ref a ∧ H a = some (.lst xs) ∧ sysModules < a ∧ DeAll K H xs ds := by
  cases h with | lst h1 h0 h2 => exact ⟨_, _, rfl, h1, h0, h2⟩
theorem De.intI {K : PySem.W.Frag} {H : Hp} {v : V} {i : Int} (h : De K H v (.int i)) : v = .int i := by cases h; rfl
section
variable {X : Cx} {es : List Expr} {t : TA} {pos : Pos}
def tLstL (t : TA) : TE := fun σ H Q => t σ H fun xs H1 => xs.length ≤ sizeLine ∧ ∀ p, H1 p = none → sysModules < p → Q (.ref p) (upd H1 p (.lst xs))
theorem pe_lstL (h : PA X es t) : PE X (.List es pos) (tLstL t) := by
  refine ⟨fun pins s σ H Q I hq => ?_⟩
  refine wpAny_List_spliced (thn (h.run pos pins s σ H _ I hq) fun us s1 ⟨xs, H1, I1, r, z, q⟩ => ⟨by rw [← r.length]; exact z, ?_⟩)
  have hf : H1 s1.heap.objs.size = none := I1.hok.fresh (Nat.le_refl _)
  refine ⟨.ref s1.heap.objs.size, upd H1 s1.heap.objs.size (.lst xs), I1.laid (t' := s1.toks) (fun b u e => Heap.get?_push_of_some _ e) (Nat.le_refl _) ?_, rfl, q _ hf I1.big⟩
  exact ⟨z, us, 0, r, Heap.get?_push_size _ rfl⟩
theorem i_lstL {σ : L2.St} {H : Hp} {Q : VK} (h : t σ H fun xs H1 => xs.length ≤ sizeLine ∧ ∀ p, H1 p = none → sysModules < p → Q (.ref p) (upd H1 p (.lst xs))) : tLstL t σ H Q := h
def rListL (K : PySem.W.Frag) : List V → Hp → VK → Prop := fun xs H Q => ∃ p ys, xs = [.ref p] ∧ (SqL K H p ys ∨ SqT K H p ys) ∧ ∀ l, H l = none → sysModules < l → Q (.ref l) (upd H l (.lst ys))
theorem call_listL : CallR X (.type "list") (rListL X.K) := by
  intro pins s σ H xs us Q I r h
  obtain ⟨p, ys, rfl, hq, q⟩ := h
  obtain ⟨u, rfl, rx⟩ := vals1 r
  cases rx
  have fin : ∀ (its : List Value), Vals ys its → ys.length ≤ sizeLine → ∀ (h' : Heap) (c' : Nat), (∀ b o', s.heap.get? b = some o' → h'.get? b = some o') →
      h'.get? s.heap.objs.size = some { cls := .type "list", dict := none, data := .seq its.toArray c', slots := #[] } → EP X pins σ Q (.ref s.heap.objs.size) { s with heap := h' } := fun its r' hz h' c' kp e =>
    ⟨.ref s.heap.objs.size, _, I.laid (t' := s.toks) kp (Nat.le_refl _) (show ObjOk X.prog X.w _ h' _ (.lst ys) from ⟨hz, its, c', r', e⟩), rfl, q _ (I.hok.fresh (Nat.le_refl _)) I.big⟩
  rcases hq with hq | hq
  · obtain ⟨its, r', pl, hz⟩ := I.list hq
    have hlen := r'.length
    obtain ⟨o, ho, hc, n, hd⟩ := pl.isList
    exact call_list_seq p (.inl rfl) ho hc hd (fun h' c' kp e => fin its r' hz h' c' kp e) (by simp only [List.size_toArray] <;> omega)
  · obtain ⟨its, r', pl, hz⟩ := I.tuple hq
    have hlen := r'.length
    obtain ⟨o, ho, hc, n, hd⟩ := pl
    exact call_list_seq p (.inr rfl) ho hc hd (fun h' c' kp e => fin its r' hz h' c' kp e) (by simp only [List.size_toArray] <;> omega)
theorem i_listL {K : PySem.W.Frag} {p : Addr} {ys : List V} {H : Hp} {Q : VK} (h : SqL K H p ys ∨ SqT K H p ys) (k : ∀ l, H l = none → sysModules < l → Q (.ref l) (upd H l (.lst ys))) : rListL K [.ref p] H Q := ⟨p, ys, rfl, h, k⟩
end
end Sw
namespace PySem.SeqAt
open MeetsSeq PySem
theorem dict_eq_declines_str (l : Addr) (es : Array DictEntry) (n : Nat) (dd : Option Addr) (sl : Array (Option Value)) (b : Str) (u : Tok) :
    Meets (Builtin.«dict.__eq__» ⟨[.ref l, .str b u], []⟩) (fun _ R s => s.heap.get? l = some { cls := .type "dict", dict := dd, data := .dict es n, slots := sl } ∧ R (.ok (.ret .notImplemented)) s) :=
  .of_wp fun prog w A R s h => by obtain ⟨hp, g, d, tk, os⟩ := s; obtain ⟨hl, h⟩ := h; have f1 := F.sub_str_dict; wp_walk using wpAny_loadPart' hl, wpAny_load hl; exact ⟨_, rfl, h⟩
theorem str_eq_declines_dict (b : Str) (u : Tok) (l : Addr) (c : Value) (es : Array DictEntry) (n : Nat) (dd : Option Addr) (sl : Array (Option Value)) :
    Meets (Builtin.«str.__eq__» ⟨[.str b u, .ref l], []⟩) (fun _ R s => s.heap.get? l = some { cls := c, dict := dd, data := .dict es n, slots := sl } ∧ R (.ok (.ret .notImplemented)) s) :=
  .of_wp fun prog w A R s h => by obtain ⟨hp, g, d, tk, os⟩ := s; obtain ⟨hl, h⟩ := h; wp_walk using wpAny_loadPart' hl, wpAny_load hl; exact ⟨_, rfl, h⟩
theorem dict_ne_declines_str (l : Addr) (es : Array DictEntry) (n : Nat) (dd : Option Addr) (sl : Array (Option Value)) (b : Str) (u : Tok) :
    Meets (Builtin.«dict.__ne__» ⟨[.ref l, .str b u], []⟩) (fun _ R s => s.heap.get? l = some { cls := .type "dict", dict := dd, data := .dict es n, slots := sl } ∧ R (.ok (.ret .notImplemented)) s) :=
  .of_wp fun prog w A R s h => by obtain ⟨hp, g, d, tk, os⟩ := s; obtain ⟨hl, h⟩ := h; have f1 := F.sub_str_dict; wp_walk using wpAny_loadPart' hl, wpAny_load hl; exact ⟨_, rfl, h⟩
theorem str_ne_declines_dict (b : Str) (u : Tok) (l : Addr) (c : Value) (es : Array DictEntry) (n : Nat) (dd : Option Addr) (sl : Array (Option Value)) :
    Meets (Builtin.«str.__ne__» ⟨[.str b u, .ref l], []⟩) (fun _ R s => s.heap.get? l = some { cls := c, dict := dd, data := .dict es n, slots := sl } ∧ R (.ok (.ret .notImplemented)) s) :=
  .of_wp fun prog w A R s h => by obtain ⟨hp, g, d, tk, os⟩ := s; obtain ⟨hl, h⟩ := h; wp_walk using wpAny_loadPart' hl, wpAny_load hl; exact ⟨_, rfl, h⟩
section
variable {A : Around} {s : Shared}
theorem RcAt.dict_str {l : Addr} {es : Array DictEntry} {n : Nat} {o : Obj} (b : Str) (u : Tok) (ho : s.heap.get? l = some o) (hc : o.cls = .type "dict") (hd : o.data = .dict es n) (hu : A.units < cLine) : RcAt A s (.ref l) (.str b u) false := fun prog w E Q h => by
  obtain ⟨cls, dd, data, sl⟩ := o
  simp only at hc hd
  subst hc hd
  exact rc_eq_decline_or (k := false) ⟨_, ho, rfl⟩ (typeIs_str s b u) (by decide) F.sub_str_dict F.slot_dict_eq F.slot_str_eq_refl
    (fun _ hq => call_meets F.slot_dict_eq ⟨_, ho, rfl⟩ F.entry_dict_eq (F.args_dict_eq_2 _ _) (dict_eq_declines_str l es n dd sl b u) ⟨ho, hq⟩)
    (fun _ hq => call_meets F.slot_str_eq_refl (typeIs_str s b u) F.entry_str_eq (F.args_str_eq_2 _ _) (str_eq_declines_dict b u l (.type "dict") es n dd sl) ⟨ho, hq⟩)
    (fun _ hq => wpAny_of_eq (rfl : isSame (.ref l) (.str b u) = pure false) hq) (.inr hu) h
theorem RcNeAt.dict_str {l : Addr} {es : Array DictEntry} {n : Nat} {o : Obj} (b : Str) (u : Tok) (ho : s.heap.get? l = some o) (hc : o.cls = .type "dict") (hd : o.data = .dict es n) (hu : A.units < cLine) : RcNeAt A s (.ref l) (.str b u) true := fun prog w E Q h => by
  obtain ⟨cls, dd, data, sl⟩ := o
  simp only at hc hd
  subst hc hd
  exact rc_ne_decline_or (k := false) ⟨_, ho, rfl⟩ (typeIs_str s b u) (by decide) F.sub_str_dict F.slot_dict_ne F.slot_str_ne_refl
    (fun _ hq => call_meets F.slot_dict_ne ⟨_, ho, rfl⟩ F.entry_dict_ne (F.args_dict_ne_2 _ _) (dict_ne_declines_str l es n dd sl b u) ⟨ho, hq⟩)
    (fun _ hq => call_meets F.slot_str_ne_refl (typeIs_str s b u) F.entry_str_ne (F.args_str_ne_2 _ _) (str_ne_declines_dict b u l (.type "dict") es n dd sl) ⟨ho, hq⟩)
    (fun _ hq => wpAny_of_eq (rfl : isSame (.ref l) (.str b u) = pure false) hq) (.inr hu) h
end
end PySem.SeqAt
namespace Sw
open PySem PySem.Spec PyProof.Rows L2
section
variable {X : Cx}
/-- x == y, x data, y data; a dict and a text are unlike -/
def rEqX (K : PySem.W.Frag) : R2 := fun x y H Q => rEqD K x y H Q ∨ ∃ a kvs z, x = .ref a ∧ H a = some (.dK kvs) ∧ y = .str z ∧ Q (.bl false) H
def rNeX (K : PySem.W.Frag) : R2 := fun x y H Q => rNeD K x y H Q ∨ ∃ a kvs z, x = .ref a ∧ H a = some (.dK kvs) ∧ y = .str z ∧ Q (.bl true) H
theorem op_eqX (hu : X.A.units + 64 < cLine) : OpR X (compareOp .Eq) (rEqX X.K) := by
  intro pins s σ H x y v u Q I rx ry h
  rcases h with h | ⟨a, kvs, z, rfl, ha, rfl, q⟩
  · exact op_eqD hu pins s σ H x y v u Q I rx ry h
  · cases rx
    obtain ⟨t, rfl⟩ := ry
    obtain ⟨_, notSys, vs, kv, o, es, ep, ho, ex, hd, _, pr, _⟩ : ObjOk X.prog X.w H s.heap _ (.dK _) := I.hok _ _ ha
    exact SeqAt.RcAt.dict_str z t ho ex.1 hd (by omega) _ _ _ _ ⟨.bl _, H, I, rfl, q⟩
theorem op_neX (hu : X.A.units + 64 < cLine) : OpR X (compareOp .NotEq) (rNeX X.K) := by
  intro pins s σ H x y v u Q I rx ry h
  rcases h with h | ⟨a, kvs, z, rfl, ha, rfl, q⟩
  · exact op_neD hu pins s σ H x y v u Q I rx ry h
  · cases rx
    obtain ⟨t, rfl⟩ := ry
    obtain ⟨_, notSys, vs, kv, o, es, ep, ho, ex, hd, _, pr, _⟩ : ObjOk X.prog X.w H s.heap _ (.dK _) := I.hok _ _ ha
    exact SeqAt.RcNeAt.dict_str z t ho ex.1 hd (by omega) _ _ _ _ ⟨.bl _, H, I, rfl, q⟩
/-- x in y, y a tuple of data -/
def rInT (K : PySem.W.Frag) : R2 := fun x y H Q => ∃ d ds, Dp K H x d ∧ Dp K H y (.tuple ds) ∧ SeqAt.shaped d = true ∧ SeqAt.shaped (.tuple ds) = true ∧ PyData.depthAll ds ≤ 10 ∧ Q (.bl (ds.any fun z => PyData.eqv z d)) H
theorem op_inT (hu : X.A.units + 64 < cLine) : OpR X (compareOp .In) (rInT X.K) := by
  intro pins s σ H x y v u Q I rx ry h
  obtain ⟨d, ds, hd, he, sd, se, dp, q⟩ := h
  obtain ⟨as, r1⟩ := Dp.reads I d x v hd rx
  obtain ⟨bs, r2⟩ := Dp.reads I (.tuple ds) y u he ry
  exact SeqAt.in_tuple_reads r2 r1 (SeqAt.canLay_of_shaped se) (SeqAt.canLay_of_shaped sd) (by have := Nat.min_le_left (PyData.depthAll ds) d.depth; omega) ⟨.bl _, H, I, rfl, q⟩
end
/-- whether data is the text l -/
def isS (l : List Nat) : PyData → Bool
  | .str z => decide (z = S l)
  | _ => false
theorem eqv_str_r (d : PyData) (l : List Nat) : PyData.eqv d (.str (S l)) = isS l d := by
  cases d <;> simp [PyData.eqv, isS] <;> rfl
theorem eqv_str_l (d : PyData) (l : List Nat) : PyData.eqv (.str (S l)) d = isS l d := by
  cases d with
  | str z =>
    simp only [PyData.eqv, isS]
    by_cases h : z = S l
    · rw [h, decide_eq_true rfl]; exact beq_self_eq_true _
    · rw [decide_eq_false h]; exact beq_eq_false_iff_ne.mpr (Ne.symm h)
  | _ => simp [PyData.eqv, isS]
theorem dp_strs' {K : PySem.W.Frag} {H : Hp} : ∀ ws : List (List Nat), DpAll K H (ws.map fun l => V.str (S l)) (ws.map fun l => PyData.str (S l))
  | [] => .nil
  | l :: ws => .cons (.str _) (dp_strs' ws)
/-- data without a dict inside, or an empty dict -/
def Ok1 (d : PyData) : Prop := d = .dict [] ∨ d.hasDict = false
theorem i_eqS1 {K : PySem.W.Frag} {H : Hp} {x : V} {d : PyData} {l : List Nat} {Q : VK} {n w : Nat} (h : De K H x d) (s : Sd n w d) (o : Ok1 d) (hl : ∀ c ∈ l, c ≤ 1000) (k : Q (.bl (isS l d)) H) (hn : n ≤ 60 := by omega) : rEqX K x (.str (S l)) H Q := by
  rcases o with rfl | z
  · cases h with | dict h1 h2 => exact .inr ⟨_, _, _, rfl, h1, rfl, k⟩
  · refine .inl (i_eqE h (.str _) s (sd_str hl) z (by simp only [PyData.hasDict]) ?_ hn)
    rw [eqv_str_r]
    exact k
theorem i_neS1 {K : PySem.W.Frag} {H : Hp} {x : V} {d : PyData} {l : List Nat} {Q : VK} {n w : Nat} (h : De K H x d) (s : Sd n w d) (o : Ok1 d) (hl : ∀ c ∈ l, c ≤ 1000) (k : Q (.bl (!isS l d)) H) (hn : n ≤ 60 := by omega) : rNeX K x (.str (S l)) H Q := by
  rcases o with rfl | z
  · cases h with | dict h1 h2 => exact .inr ⟨_, _, _, rfl, h1, rfl, k⟩
  · refine .inl (i_neE h (.str _) s (sd_str hl) z (by simp only [PyData.hasDict]) ?_ hn)
    rw [eqv_str_r]
    exact k
theorem i_inT {K : PySem.W.Frag} {H : Hp} {x : V} {d : PyData} {Q : VK} {n w : Nat} {a : Addr} (ls : List (List Nat)) (h : De K H x d) (s : Sd n w d) (z : d.hasDict = false) (hl : ∀ l ∈ ls, ∀ c ∈ l, c ≤ 1000) (ha : H a = some (.tup (ls.map fun l => .str (S l)))) (k : Q (.bl (ls.any fun l => isS l d)) H) (hn : n ≤ 60 := by omega) : rInT K x (.ref a) H Q := by
  refine ⟨d, ls.map fun l => .str (S l), h.dp z, .tup (sqT_of ha) (dp_strs' ls), s.shaped hn z, ?_, ?_, ?_⟩
  · have s2 : Sd 1 _ (.tuple (ls.map fun l => .str (S l))) := sd_tup (n := 0) (w := (ls.map List.length).foldr max 0) fun d hd => by
      obtain ⟨l, hl2, rfl⟩ := List.mem_map.mp hd
      refine (sd_str (hl l hl2)).mono (by omega) ?_
      clear hd hl k ha
      induction ls with
      | nil => cases hl2
      | cons y ys ih =>
        rw [List.map_cons, List.foldr_cons]
        rcases List.mem_cons.mp hl2 with rfl | hl2
        · exact Nat.le_max_left _ _
        · exact Nat.le_trans (ih hl2) (Nat.le_max_right _ _)
    refine s2.shaped (by omega) ?_
    simp only [PyData.hasDict]
    clear s2 hl k ha
    induction ls with
    | nil => rfl
    | cons y ys ih => simp only [List.map_cons, PyData.hasDictAll, PyData.hasDict, ih, Bool.or_self]
  · have : ∀ ks : List (List Nat), PyData.depthAll (ks.map fun l => PyData.str (S l)) = 0 := by
      intro ks
      induction ks with
      | nil => simp only [List.map_nil, PyData.depthAll]
      | cons y ys ih => simp only [List.map_cons, PyData.depthAll, PyData.depth, ih]; omega
    rw [this]; omega
  · rw [List.any_map]
    simp only [Function.comp_def, eqv_str_l]
    exact k
end Sw
namespace Sw
open PySem PySem.Spec PyProof.Rows L2
/-! ### kinds and passings as data -/
abbrev tLost : List Nat := [108, 111, 115, 116]
abbrev tPut : List Nat := [112, 117, 116]
abbrev tTurned : List Nat := [116, 117, 114, 110, 101, 100]
abbrev tSame : List Nat := [115, 97, 109, 101]
def isI : PyData → Bool
  | .int _ => true
  | _ => false
def isX (m : Int) : PyData → Bool
  | .int i => decide (0 ≤ i) && decide (i < m)
  | _ => false
def isG : PyData → Bool
  | .int i => decide (1 ≤ i) && decide (i ≤ 5)
  | _ => false
def kindB (m : Int) : PyData → Bool
  | .tuple [a, b] => isX m b && (isS tLost a || isS tPut a)
  | .tuple [a, b, c] => isX m b && isX m c && (isS tTurned a && !PyData.eqv b c)
  | _ => false
def sameB (m : Int) : PyData → Bool
  | .tuple [a, b] => isS tSame a && isX m b
  | _ => false
def passB (m : Int) : PyData → Bool
  | .tuple ds => ds.all fun s => sameB m s || kindB m s
  | _ => false
/-- the number of signs, if the data is one -/
def sgn (e : PyData) : Option Int := match e with
  | .int m => if 1 ≤ m ∧ m ≤ 5 then some m else none
  | _ => none
def onG (e : PyData) (b : Int → Bool) : Bool := match sgn e with
  | some m => b m
  | none => false
theorem sgn_some {e : PyData} {m : Int} (h : sgn e = some m) : e = .int m ∧ 1 ≤ m ∧ m ≤ 5 := by
  unfold sgn at h
  split at h
  · split at h
    · cases h; exact ⟨rfl, by assumption⟩
    · cases h
  · cases h
theorem isG_sgn (e : PyData) : isG e = (sgn e).isSome := by
  cases e <;> simp only [isG, sgn, Option.isSome]
  rename_i i
  by_cases h : 1 ≤ i ∧ i ≤ 5
  · rw [if_pos h, decide_eq_true h.1, decide_eq_true h.2]; rfl
  · rw [if_neg h, Bool.and_eq_false_iff]
    by_cases h1 : 1 ≤ i
    · exact .inr (decide_eq_false fun q => h ⟨h1, q⟩)
    · exact .inl (decide_eq_false h1)
/-- a step or what is told in its place: each part is without a dict, or is an empty one; a word ahead of one number has no dict -/
structure StOk (d : PyData) : Prop where
  parts : ∀ ds, d = .tuple ds → ∀ y ∈ ds, Ok1 y
  two : ∀ a b, d = .tuple [a, b] → isI b = true → a.hasDict = false
structure PsOk (d : PyData) : Prop where
  st : StOk d
  all : ∀ ds, d = .tuple ds → ∀ y ∈ ds, StOk y
theorem StOk.flat {d : PyData} (h : d.hasDict = false) : StOk d := by
  have p : ∀ ds, d = .tuple ds → ∀ y ∈ ds, y.hasDict = false := by
    rintro ds rfl y hy
    simp only [PyData.hasDict] at h
    induction ds with
    | nil => cases hy
    | cons z zs ih =>
      simp only [PyData.hasDictAll, Bool.or_eq_false_iff] at h
      rcases List.mem_cons.mp hy with rfl | hy
      · exact h.1
      · exact ih h.2 hy
  exact ⟨fun ds e y hy => .inr (p ds e y hy), fun a b e _ => p _ e _ List.mem_cons_self⟩
theorem hasDict_tup {ds : List PyData} : (PyData.tuple ds).hasDict = false ↔ ∀ y ∈ ds, y.hasDict = false := by
  simp only [PyData.hasDict]
  induction ds with
  | nil => simp [PyData.hasDictAll]
  | cons z zs ih => simp only [PyData.hasDictAll, Bool.or_eq_false_iff, ih, List.mem_cons, forall_eq_or_imp]
theorem PsOk.flat {d : PyData} (h : d.hasDict = false) : PsOk d := by
  refine ⟨.flat h, ?_⟩
  rintro ds rfl y hy
  exact .flat (hasDict_tup.mp h y hy)
theorem StOk.emp : StOk (.dict []) := ⟨fun ds e => by (cases e), fun a b e => by (cases e)⟩
theorem PsOk.emp : PsOk (.dict []) := ⟨.emp, fun ds e => by (cases e)⟩
end Sw
namespace Sw
open PySem PySem.Spec PyProof.Rows L2
theorem Sd.tupI' {n w : Nat} {ds : List PyData} (s : Sd n w (.tuple ds)) : SdAll n w ds := (Sd.tupI (n := n) (s.mono (by omega) (Nat.le_refl _)))
theorem Sd.lstI' {n w : Nat} {ds : List PyData} (s : Sd n w (.list ds)) : SdAll n w ds := (Sd.lstI (n := n) (s.mono (by omega) (Nat.le_refl _)))
theorem i_yes {σ : L2.St} {H : Hp} {R : Bool → Hp → Prop} (h : R true H) : tYes σ H R := h
/-! ### parts of tuples -/
theorem i_slTF {K : PySem.W.Frag} {a : Addr} {xs : List V} {k : Nat} {H : Hp} {Q : VK} (h : SqT K H a xs) (q : ∀ b H', Same H H' → SqT K H' b (xs.drop k) → Q (.ref b) H') : rSlA K (.ref a) (some (k : Int)) none H Q := by
  refine ⟨a, xs, rfl, h, fun e => ?_, fun e p np => ?_⟩
  · rw [HT.sIx_nat] at e
    refine q _ _ (Same.refl _) ?_
    by_cases hk : k = 0
    · rw [hk, List.drop_zero]; exact h
    · have : xs = [] := List.eq_nil_of_length_eq_zero (by omega)
      rw [this, List.drop_nil]; rw [this] at h; exact h
  · have : cutV xs (some (k : Int)) none = xs.drop k := by
      unfold cutV
      rw [HT.sIx_nat, HT.sIx_none]
      by_cases hk : k ≤ xs.length
      · rw [Nat.min_eq_left hk, List.take_of_length_le (by rw [List.length_drop]; omega)]
      · rw [Nat.min_eq_right (by omega), List.drop_of_length_le (by omega), List.drop_of_length_le (by omega), List.take_nil]
    rw [this]
    exact q _ _ (same_upd np) (sqT_of upd_same)
theorem i_slTT {K : PySem.W.Frag} {a : Addr} {xs : List V} {k : Nat} {H : Hp} {Q : VK} (h : SqT K H a xs) (q : ∀ b H', Same H H' → SqT K H' b (xs.take k) → Q (.ref b) H') : rSlA K (.ref a) none (some (k : Int)) H Q := by
  refine ⟨a, xs, rfl, h, fun e => ?_, fun e p np => ?_⟩
  · rw [HT.sIx_nat, HT.sIx_none] at e
    refine q _ _ (Same.refl _) ?_
    rw [List.take_of_length_le (by omega)]; exact h
  · have : cutV xs none (some (k : Int)) = xs.take k := by
      unfold cutV
      rw [HT.sIx_nat, HT.sIx_none, List.drop_zero, Nat.sub_zero]
      by_cases hk : k ≤ xs.length
      · rw [Nat.min_eq_left hk]
      · rw [Nat.min_eq_right (by omega), List.take_length, List.take_of_length_le (by omega)]
    rw [this]
    exact q _ _ (same_upd np) (sqT_of upd_same)
theorem i_catT {K : PySem.W.Frag} {a b : Addr} {xs ys : List V} {H : Hp} {Q : VK} (h : SqT K H a xs) (h2 : SqT K H b ys) (l : xs.length + ys.length ≤ sizeLine) (q : ∀ c H', Same H H' → SqT K H' c (xs ++ ys) → Q (.ref c) H') : rCatA K (.ref a) (.ref b) H Q := by
  refine ⟨a, b, xs, ys, rfl, rfl, h, h2, l, fun e => ?_, fun e1 e2 => ?_, fun e1 e2 p np => ?_⟩
  · rw [e] at q; exact q _ _ (Same.refl _) h2
  · rw [e2, List.append_nil] at q; exact q _ _ (Same.refl _) h
  · exact q _ _ (same_upd np) (sqT_of upd_same)
theorem inV_two (n i j : Int) : inV (.int n) [.int i, .int j] = (decide (n = i) || decide (n = j)) := by
  show (i == n || (j == n || false)) = _
  rw [Bool.or_false]
  congr 1
  · by_cases h : n = i
    · rw [h, decide_eq_true rfl]; exact beq_self_eq_true _
    · rw [decide_eq_false h]; exact beq_eq_false_iff_ne.mpr (Ne.symm h)
  · by_cases h : n = j
    · rw [h, decide_eq_true rfl]; exact beq_self_eq_true _
    · rw [decide_eq_false h]; exact beq_eq_false_iff_ne.mpr (Ne.symm h)
theorem i_ixTn {K : PySem.W.Frag} {p : Addr} {xs : List V} {k : Nat} {v : V} {H : Hp} {Q : VK} (h1 : SqT K H p xs) (h2 : xs[k]? = some v) (h : Q v H) : rIxT K (.ref p) (.int (k : Int)) H Q := by
  refine i_ixT h1 ?_ h
  have : k < xs.length := by
    rcases Nat.lt_or_ge k xs.length with q | q
    · exact q
    · rw [List.getElem?_eq_none q] at h2; cases h2
  unfold atI ixN
  rw [if_pos (by omega), if_pos (by omega), Int.toNat_natCast]
  exact h2
theorem i_lenSqT {K : PySem.W.Frag} {p : Addr} {xs : List V} {H : Hp} {Q : VK} (h1 : SqT K H p xs) (h : Q (.int xs.length) H) : rLenQ K [.ref p] H Q := ⟨p, xs, rfl, .inr h1, h⟩
theorem DeAll.getD {K : PySem.W.Frag} {H : Hp} {vs : List V} {ds : List PyData} {i : Nat} {v : V} (h : DeAll K H vs ds) (e : vs[i]? = some v) : De K H v (ds.getD i .none) := by
  obtain ⟨d, h1, h2⟩ := h.get e
  rw [List.getD_eq_getElem?_getD, h1]; exact h2
theorem map_getD {α : Type} (ds : List PyData) (g : PyData → α) : (List.range ds.length).map (fun i => g (ds.getD i .none)) = ds.map g := range_map_get ds _ g fun i x hx => by rw [List.getD_eq_getElem?_getD, hx]; rfl
end Sw
namespace Sw
open PySem PySem.Spec PyProof.Rows L2
/-! ### data without lists stays while a list changes -/
mutual
def noL : PyData → Bool
  | .list _ => false
  | .tuple xs => noLAll xs
  | .dict [] => true
  | .dict _ => false
  | _ => true
def noLAll : List PyData → Bool
  | [] => true
  | x :: xs => noL x && noLAll xs
end
/-- all is kept but the list at p -/
def KeepP (p : Addr) (H H' : Hp) : Prop := ∀ a o, (a ≠ p ∨ ∀ xs, o ≠ .lst xs) → H a = some o → H' a = some o
theorem keepP_upd {H : Hp} {p : Addr} {xs ys : List V} (h : H p = some (.lst xs)) : KeepP p H (upd H p (.lst ys)) := fun a o q e => by
  by_cases c : a = p
  · subst c
    rw [h] at e
    cases e
    exact (q.elim (fun q => q rfl) fun q => q _ rfl).elim
  · rw [L2.upd_ne c]; exact e
theorem Same.keepP {H H' : Hp} {p : Addr} (s : Same H H') : KeepP p H H' := fun a o _ e => s a o e
theorem KeepP.trans {H1 H2 H3 : Hp} {p : Addr} (s : KeepP p H1 H2) (t : KeepP p H2 H3) : KeepP p H1 H3 := fun a o q e => t a o q (s a o q e)
theorem KeepP.sqT {K : PySem.W.Frag} {H H' : Hp} {p a : Addr} {xs : List V} (k : KeepP p H H') (h : SqT K H a xs) : SqT K H' a xs := by
  rcases h with (h | ⟨o, h⟩) | h
  · exact .inl (.inl (k _ _ (.inr fun _ => HO.noConfusion) h))
  · exact .inl (.inr ⟨o, k _ _ (.inr fun _ => HO.noConfusion) h⟩)
  · exact .inr h
mutual
theorem De.keep {K : PySem.W.Frag} {H H' : Hp} {p : Addr} (s : KeepP p H H') : ∀ {v : V} {d : PyData}, De K H v d → noL d = true → De K H' v d
  | _, _, .non, _ => .non
  | _, _, .bl b, _ => .bl b
  | _, _, .int i, _ => .int i
  | _, _, .str x, _ => .str x
  | _, _, .lst h1 h0 h2, n => by simp [noL] at n
  | _, _, .tup h1 h2, n => .tup (s.sqT h1) (DeAll.keep s h2 (by simpa only [noL] using n))
  | _, _, .dict h1 (.nil), n => .dict (s _ _ (.inr fun _ => HO.noConfusion) h1) .nil
  | _, _, .dict h1 (.cons _ _), n => by simp [noL] at n
theorem DeAll.keep {K : PySem.W.Frag} {H H' : Hp} {p : Addr} (s : KeepP p H H') : ∀ {vs : List V} {ds : List PyData}, DeAll K H vs ds → noLAll ds = true → DeAll K H' vs ds
  | _, _, .nil, _ => .nil
  | _, _, .cons h1 h2, n => by
    simp only [noLAll, Bool.and_eq_true] at n
    exact .cons (De.keep s h1 n.1) (DeAll.keep s h2 n.2)
end
theorem noLAll_iff {ds : List PyData} : noLAll ds = true ↔ ∀ d ∈ ds, noL d = true := by
  induction ds with
  | nil => simp [noLAll]
  | cons d ds ih => simp only [noLAll, Bool.and_eq_true, ih, List.mem_cons, forall_eq_or_imp]
theorem push_de {K : PySem.W.Frag} {H : Hp} {t p : Addr} {vs : List V} {ds : List PyData} {o : HO} {d : PyData} (hp : H p = some (.lst vs)) (hd : DeAll K H vs ds) (nl : noLAll ds = true) (nt : H t = none) (new : De K (upd H t o) (.ref t) d) (nd : noL d = true) :
    DeAll K (upd (upd H t o) p (.lst (vs ++ [.ref t]))) (vs ++ [.ref t]) (ds ++ [d]) := by
  have hp2 := upd_old (o := o) nt hp
  have k := keepP_upd (ys := vs ++ [.ref t]) hp2
  exact ((hd.same (same_upd nt)).keep k nl).app (.cons (new.keep k nd) .nil)
theorem push_val {K : PySem.W.Frag} {H : Hp} {p : Addr} {vs : List V} {ds : List PyData} {v : V} {d : PyData} (hp : H p = some (.lst vs)) (hd : DeAll K H vs ds) (nl : noLAll ds = true) (new : De K H v d) (nd : noL d = true) :
    DeAll K (upd H p (.lst (vs ++ [v]))) (vs ++ [v]) (ds ++ [d]) := by
  have k := keepP_upd (ys := vs ++ [v]) hp
  exact (hd.keep k nl).app (.cons (new.keep k nd) .nil)
end Sw
namespace Sw
open PySem PySem.Spec PyProof.Rows L2
/-! ### heaps beside the box of draws -/
theorem del_sb {b : Addr} {H H' : Hp} (s : SB b H H') : Same (L2.del H b) (L2.del H' b) := fun a o e => by
  by_cases c : a = b
  · subst c; rw [L2.del_same] at e; cases e
  · rw [L2.del_ne c] at e ⊢; exact s a o c e
theorem del_sub {b : Addr} {H : Hp} : Same (L2.del H b) H := fun a o e => by
  by_cases c : a = b
  · subst c; rw [L2.del_same] at e; cases e
  · rw [L2.del_ne c] at e; exact e
theorem box_some {H : Hp} {b : Addr} {d : Int} (B : BoxAt H b d) : ∃ o, H b = some o := by obtain ⟨_, _, _, _, e, _⟩ := B.ex; exact ⟨_, e⟩
theorem box_ne {H : Hp} {b p : Addr} {d : Int} (B : BoxAt H b d) (n : H p = none) : p ≠ b := by
  rintro rfl
  obtain ⟨o, e⟩ := box_some B
  rw [n] at e; cases e
theorem del_new {H : Hp} {b p : Addr} {d : Int} {o : HO} (B : BoxAt H b d) (n : H p = none) : L2.del (upd H p o) b p = some o := by rw [L2.del_ne (box_ne B n)]; exact upd_same
theorem BoxAt.upd_ne' {H : Hp} {b p : Addr} {d : Int} {o : HO} (B : BoxAt H b d) (h : p ≠ b) : BoxAt (upd H p o) b d := by
  obtain ⟨n, g, c, e, hb, hr⟩ := B.ex
  exact ⟨n, g, c, e, by rw [L2.upd_ne (Ne.symm h)]; exact hb, hr⟩
/-- a new thing is made and told -/
def NewT (xs : List V) (H : Hp) (Q : VK) : Prop := xs.length ≤ sizeLine ∧ ∀ p, H p = none → Q (.ref p) (upd H p (.tup xs))
def NewL (xs : List V) (H : Hp) (Q : VK) : Prop := xs.length ≤ sizeLine ∧ ∀ p, H p = none → Q (.ref p) (upd H p (.lst xs))
def NewLL (xs : List V) (H : Hp) (Q : VK) : Prop := xs.length ≤ sizeLine ∧ ∀ p, H p = none → sysModules < p → Q (.ref p) (upd H p (.lst xs))
def NewD (H : Hp) (Q : VK) : Prop := ∀ p, H p = none → Q (.ref p) (upd H p (.dK []))
section
variable {σ : L2.St} {H : Hp} {Q : VK} {b : Addr} {d : Int} {t : TA} {xs : List V}
theorem i_tupM (h : t σ H fun xs H1 => NewT xs H1 Q) : tTup t σ H Q := h
theorem i_lstM (h : t σ H fun xs H1 => NewL xs H1 Q) : tLst t σ H Q := h
theorem i_lstLM (h : t σ H fun xs H1 => NewLL xs H1 Q) : tLstL t σ H Q := h
theorem i_dnewM (h : NewD H Q) : tDNewK σ H Q := h
theorem newT (B : BoxAt H b d) (l : xs.length ≤ sizeLine) (k : ∀ p H', BoxAt H' b d → Same (L2.del H b) (L2.del H' b) → L2.del H' b p = some (.tup xs) → Same H H' → Q (.ref p) H') : NewT xs H Q :=
  ⟨l, fun p n => k p _ (B.same (same_upd n)) (del_sb (SB.of (same_upd n))) (del_new B n) (same_upd n)⟩
theorem newL (B : BoxAt H b d) (l : xs.length ≤ sizeLine) (k : ∀ p H', BoxAt H' b d → Same (L2.del H b) (L2.del H' b) → L2.del H' b p = some (.lst xs) → Same H H' → Q (.ref p) H') : NewL xs H Q :=
  ⟨l, fun p n => k p _ (B.same (same_upd n)) (del_sb (SB.of (same_upd n))) (del_new B n) (same_upd n)⟩
theorem newLL (B : BoxAt H b d) (l : xs.length ≤ sizeLine) (k : ∀ p H', sysModules < p → H p = none → BoxAt H' b d → Same (L2.del H b) (L2.del H' b) → L2.del H' b p = some (.lst xs) → Same H H' → Q (.ref p) H') : NewLL xs H Q :=
  ⟨l, fun p n lt => k p _ lt n (B.same (same_upd n)) (del_sb (SB.of (same_upd n))) (del_new B n) (same_upd n)⟩
theorem newD (B : BoxAt H b d) (k : ∀ p H', BoxAt H' b d → Same (L2.del H b) (L2.del H' b) → L2.del H' b p = some (.dK []) → Same H H' → Q (.ref p) H') : NewD H Q :=
  fun p n => k p _ (B.same (same_upd n)) (del_sb (SB.of (same_upd n))) (del_new B n) (same_upd n)
/-- without a box -/
theorem newT0 (l : xs.length ≤ sizeLine) (k : ∀ p H', H p = none → Same H H' → H' p = some (.tup xs) → Q (.ref p) H') : NewT xs H Q := ⟨l, fun p n => k p _ n (same_upd n) upd_same⟩
theorem newL0 (l : xs.length ≤ sizeLine) (k : ∀ p H', H p = none → Same H H' → H' p = some (.lst xs) → Q (.ref p) H') : NewL xs H Q := ⟨l, fun p n => k p _ n (same_upd n) upd_same⟩
theorem newLL0 (l : xs.length ≤ sizeLine) (k : ∀ p H', H p = none → sysModules < p → Same H H' → H' p = some (.lst xs) → Q (.ref p) H') : NewLL xs H Q := ⟨l, fun p n lt => k p _ n lt (same_upd n) upd_same⟩
theorem newD0 (k : ∀ p H', H p = none → Same H H' → H' p = some (.dK []) → Q (.ref p) H') : NewD H Q := fun p n => k p _ n (same_upd n) upd_same
end
/-! ### odd values -/
/-- H' has all of G but the lists that lie in H0 -/
def Kept (H0 G H' : Hp) : Prop := ∀ a o, G a = some o → ((∀ xs, o ≠ .lst xs) ∨ H0 a = none) → H' a = some o
theorem Kept.refl (H0 G : Hp) : Kept H0 G G := fun _ _ e _ => e
theorem Kept.same {H0 G G' H' : Hp} (k : Kept H0 G' H') (s : Same G G') : Kept H0 G H' := fun a o e q => k a o (s a o e) q
theorem Kept.sqT {K : PySem.W.Frag} {H0 H H' : Hp} {a : Addr} {xs : List V} (k : Kept H0 H H') (h : SqT K H a xs) : SqT K H' a xs := by
  rcases h with (h | ⟨o, h⟩) | h
  · exact .inl (.inl (k _ _ h (.inl fun _ => HO.noConfusion)))
  · exact .inl (.inr ⟨o, k _ _ h (.inl fun _ => HO.noConfusion)⟩)
  · exact .inr h
mutual
theorem De.kept {K : PySem.W.Frag} {H0 H H' : Hp} (s : Kept H0 H H') : ∀ {v : V} {d : PyData}, De K H v d → noL d = true → De K H' v d
  | _, _, .non, _ => .non
  | _, _, .bl b, _ => .bl b
  | _, _, .int i, _ => .int i
  | _, _, .str x, _ => .str x
  | _, _, .lst h1 h0 h2, n => by simp [noL] at n
  | _, _, .tup h1 h2, n => .tup (s.sqT h1) (DeAll.kept s h2 (by simpa only [noL] using n))
  | _, _, .dict h1 (.nil), n => .dict (s _ _ h1 (.inl fun _ => HO.noConfusion)) .nil
  | _, _, .dict h1 (.cons _ _), n => by simp [noL] at n
theorem DeAll.kept {K : PySem.W.Frag} {H0 H H' : Hp} (s : Kept H0 H H') : ∀ {vs : List V} {ds : List PyData}, DeAll K H vs ds → noLAll ds = true → DeAll K H' vs ds
  | _, _, .nil, _ => .nil
  | _, _, .cons h1 h2, n => by
    simp only [noLAll, Bool.and_eq_true] at n
    exact .cons (De.kept s h1 n.1) (DeAll.kept s h2 n.2)
end
section
variable {K : PySem.W.Frag} {H0 G G' : Hp} {v x : V} {p : Addr} {xs : List V}
/-- what may lie in a told tuple: data of little size without a dict, its lists not in H0 -/
def AtomV (K : PySem.W.Frag) (H0 G : Hp) (v : V) : Prop := ∃ d, (∀ H', Kept H0 G H' → De K H' v d) ∧ d.hasDict = false ∧ Sd 3 170 d
/-- the same without lists -/
def AtomN (K : PySem.W.Frag) (H0 G : Hp) (v : V) : Prop := ∃ d, (∀ H', Kept H0 G H' → De K H' v d) ∧ d.hasDict = false ∧ Sd 3 170 d ∧ noL d = true
def AllA (K : PySem.W.Frag) (H0 G : Hp) : List V → Prop
  | [] => True
  | x :: xs => AtomV K H0 G x ∧ AllA K H0 G xs
def AllN (K : PySem.W.Frag) (H0 G : Hp) : List V → Prop
  | [] => True
  | x :: xs => AtomN K H0 G x ∧ AllN K H0 G xs
theorem AtomV.same (h : AtomV K H0 G v) (s : Same G G') : AtomV K H0 G' v := by
  obtain ⟨d, h1, h2, h3⟩ := h
  exact ⟨d, fun H' k => h1 H' (k.same s), h2, h3⟩
theorem AtomN.same (h : AtomN K H0 G v) (s : Same G G') : AtomN K H0 G' v := by
  obtain ⟨d, h1, h2, h3, h4⟩ := h
  exact ⟨d, fun H' k => h1 H' (k.same s), h2, h3, h4⟩
theorem AtomN.va (h : AtomN K H0 G v) : AtomV K H0 G v := by
  obtain ⟨d, h1, h2, h3, _⟩ := h
  exact ⟨d, h1, h2, h3⟩
theorem AllN.va : ∀ {vs : List V}, AllN K H0 G vs → AllA K H0 G vs
  | [], _ => trivial
  | _ :: _, h => ⟨h.1.va, AllN.va h.2⟩
theorem AllN.same (s : Same G G') : ∀ {vs : List V}, AllN K H0 G vs → AllN K H0 G' vs
  | [], _ => trivial
  | _ :: _, h => ⟨h.1.same s, AllN.same s h.2⟩
theorem AtomV.str {l : List Nat} (h : ∀ c ∈ l, c ≤ 1000) (n : l.length ≤ 20) : AtomV K H0 G (.str (S l)) := ⟨_, fun _ _ => .str _, by simp only [PyData.hasDict], (sd_str h).mono (by omega) (by omega)⟩
theorem AtomV.int {i : Int} (h : i.natAbs < 10 ^ 40) : AtomV K H0 G (.int i) := ⟨_, fun _ _ => .int _, by simp only [PyData.hasDict], (sd_int h).mono (by omega) (by omega)⟩
theorem AtomV.bl (c : Bool) : AtomV K H0 G (.bl c) := ⟨_, fun _ _ => .bl _, by simp only [PyData.hasDict], (sd_bl c).mono (by omega) (by omega)⟩
theorem AtomV.non : AtomV K H0 G .non := ⟨_, fun _ _ => .non, by simp only [PyData.hasDict], sd_non.mono (by omega) (by omega)⟩
theorem AtomN.str {l : List Nat} (h : ∀ c ∈ l, c ≤ 1000) (n : l.length ≤ 20) : AtomN K H0 G (.str (S l)) := ⟨_, fun _ _ => .str _, by simp only [PyData.hasDict], (sd_str h).mono (by omega) (by omega), rfl⟩
theorem AtomN.int {i : Int} (h : i.natAbs < 10 ^ 40) : AtomN K H0 G (.int i) := ⟨_, fun _ _ => .int _, by simp only [PyData.hasDict], (sd_int h).mono (by omega) (by omega), rfl⟩
theorem AtomN.deD {d : PyData} (h : De K G v d) (z : d.hasDict = false) (s : Sd 3 170 d) (n : noL d = true) : AtomN K H0 G v := ⟨d, fun _ k => h.kept k n, z, s, n⟩
theorem AtomN.tupD {ds : List PyData} (h : G p = some (.tup xs)) (a : DeAll K G xs ds) (z : (PyData.tuple ds).hasDict = false) (s : Sd 3 170 (.tuple ds)) (n : noLAll ds = true) : AtomN K H0 G (.ref p) := .deD (.tup (sqT_of h) a) z s (by simpa only [noL] using n)
theorem AtomV.lst {i : Int} (h : G p = some (.lst [.int i])) (lt : sysModules < p) (n : H0 p = none) (hi : i.natAbs < 10 ^ 20) : AtomV K H0 G (.ref p) := by
  have si : Sd 2 140 (.int i) := (sd_int (Nat.lt_of_lt_of_le hi (by decide))).mono (by omega) (by omega)
  exact ⟨.list [.int i], fun H' k => .lst (k _ _ h (.inr n)) lt (.cons (.int _) .nil), by simp only [PyData.hasDict, PyData.hasDictAll, Bool.or_self], (sd_lst' (.cons si .nil)).mono (by omega) (by omega)⟩
theorem AtomV.tup {i : Int} (h : G p = some (.tup [.int i])) (hi : i.natAbs < 10 ^ 20) : AtomV K H0 G (.ref p) := by
  have si : Sd 2 140 (.int i) := (sd_int (Nat.lt_of_lt_of_le hi (by decide))).mono (by omega) (by omega)
  exact (AtomN.tupD h (.cons (.int _) .nil) (by simp only [PyData.hasDict, PyData.hasDictAll, Bool.or_self]) ((sd_tup' (.cons si .nil)).mono (by omega) (by omega)) rfl).va
theorem AtomV.tupS {l : List Nat} (h : G p = some (.tup [.str (S l)])) (h1 : ∀ c ∈ l, c ≤ 1000) (h2 : l.length ≤ 20) : AtomV K H0 G (.ref p) :=
  (AtomN.tupD h (.cons (.str _) .nil) (by simp only [PyData.hasDict, PyData.hasDictAll, Bool.or_self]) ((sd_tup' (n := 2) (.cons ((sd_str h1).mono (by omega) (Nat.le_refl _)) .nil)).mono (by omega) (by omega)) rfl).va
theorem AllA.data : ∀ {vs : List V}, AllA K H0 G vs → ∃ ds, (∀ H', Kept H0 G H' → DeAll K H' vs ds) ∧ ds.length = vs.length ∧ (∀ d ∈ ds, d.hasDict = false ∧ Sd 3 170 d)
  | [], _ => ⟨[], fun _ _ => .nil, rfl, fun d h => by cases h⟩
  | v :: vs, h => by
    obtain ⟨d, h1, h2, h3⟩ := h.1
    obtain ⟨ds, k1, kl, k2⟩ := AllA.data h.2
    exact ⟨d :: ds, fun H' k => .cons (h1 H' k) (k1 H' k), by rw [List.length_cons, List.length_cons, kl], fun x hx => (List.mem_cons.mp hx).elim (fun e => e ▸ ⟨h2, h3⟩) (k2 x)⟩
theorem AllN.data : ∀ {vs : List V}, AllN K H0 G vs → ∃ ds, (∀ H', Kept H0 G H' → DeAll K H' vs ds) ∧ ds.length = vs.length ∧ (∀ d ∈ ds, d.hasDict = false ∧ Sd 3 170 d ∧ noL d = true)
  | [], _ => ⟨[], fun _ _ => .nil, rfl, fun d h => by cases h⟩
  | v :: vs, h => by
    obtain ⟨d, h1, h2, h3, h4⟩ := h.1
    obtain ⟨ds, k1, kl, k2⟩ := AllN.data h.2
    exact ⟨d :: ds, fun H' k => .cons (h1 H' k) (k1 H' k), by rw [List.length_cons, List.length_cons, kl], fun x hx => (List.mem_cons.mp hx).elim (fun e => e ▸ ⟨h2, h3, h4⟩) (k2 x)⟩
/-- what may lie in a told list -/
def LsOk (d : PyData) : Prop := ∀ ds, d = .list ds → noLAll ds = true
/-- a value that may be told for a step -/
def OddV (K : PySem.W.Frag) (H0 G : Hp) (v : V) : Prop := ∃ d, (∀ H', Kept H0 G H' → De K H' v d) ∧ Ok1 d ∧ Sd 4 1000 d ∧ LsOk d
theorem OddV.same (h : OddV K H0 G v) (s : Same G G') : OddV K H0 G' v := by
  obtain ⟨d, h1, h2, h3, h4⟩ := h
  exact ⟨d, fun H' k => h1 H' (k.same s), h2, h3, h4⟩
theorem OddV.atom (h : AtomN K H0 G v) : OddV K H0 G v := by
  obtain ⟨d, h1, h2, h3, h4⟩ := h
  exact ⟨d, h1, .inr h2, h3.mono (by omega) (by omega), fun ds e => by rw [e] at h4; simp [noL] at h4⟩
theorem OddV.non : OddV K H0 G .non := ⟨_, fun _ _ => .non, .inr (by simp only [PyData.hasDict]), sd_non.mono (by omega) (by omega), fun ds e => by cases e⟩
theorem OddV.bl (c : Bool) : OddV K H0 G (.bl c) := ⟨_, fun _ _ => .bl c, .inr (by simp only [PyData.hasDict]), (sd_bl c).mono (by omega) (by omega), fun ds e => by cases e⟩
theorem OddV.emp (h : G p = some (.dK [])) : OddV K H0 G (.ref p) := ⟨_, fun _ k => .dict (k _ _ h (.inl fun _ => HO.noConfusion)) .nil, .inl rfl, sd_emp.mono (by omega) (by omega), fun ds e => by cases e⟩
theorem OddV.tupS (h : SqT K G p xs) (l : xs.length ≤ 5) (a : AllA K H0 G xs) : OddV K H0 G (.ref p) := by
  obtain ⟨ds, h1, hl, h2⟩ := a.data
  refine ⟨_, fun H' k => .tup (k.sqT h) (h1 H' k), .inr (hasDict_tup.mpr fun y hy => (h2 y hy).1), (sd_tup fun d hd => (h2 d hd).2).mono (by omega) ?_, fun ds e => by cases e⟩
  rw [hl]
  exact Nat.le_trans (Nat.mul_le_mul_right _ l) (by decide)
theorem OddV.tup (h : G p = some (.tup xs)) (l : xs.length ≤ 5) (a : AllA K H0 G xs) : OddV K H0 G (.ref p) := .tupS (sqT_of h) l a
theorem OddV.lst (h : G p = some (.lst xs)) (lt : sysModules < p) (n : H0 p = none) (l : xs.length ≤ 5) (a : AllN K H0 G xs) : OddV K H0 G (.ref p) := by
  obtain ⟨ds, h1, hl, h2⟩ := a.data
  have z : ∀ y ∈ ds, y.hasDict = false := fun y hy => (h2 y hy).1
  refine ⟨_, fun H' k => .lst (k _ _ h (.inr n)) lt (h1 H' k), .inr ?_, (sd_lst fun d hd => (h2 d hd).2.1).mono (by omega) ?_, fun es e => ?_⟩
  · have := hasDict_tup.mpr z
    simpa only [PyData.hasDict] using this
  · rw [hl]
    exact Nat.le_trans (Nat.mul_le_mul_right _ l) (by decide)
  · cases e; exact noLAll_iff.mpr fun y hy => (h2 y hy).2.2
def Odds (K : PySem.W.Frag) (H0 G : Hp) (vs : List V) : Prop := ∀ v ∈ vs, OddV K H0 G v
theorem Odds.nil : Odds K H0 G [] := fun v h => by cases h
theorem Odds.same {vs : List V} (h : Odds K H0 G vs) (s : Same G G') : Odds K H0 G' vs := fun v hv => (h v hv).same s
theorem Odds.snoc {vs : List V} (h : Odds K H0 G vs) (o : OddV K H0 G v) : Odds K H0 G (vs ++ [v]) := fun x hx => (List.mem_append.mp hx).elim (h x) fun q => by rw [List.mem_singleton.mp q]; exact o
theorem Odds.app {vs ws : List V} (h : Odds K H0 G vs) (o : Odds K H0 G ws) : Odds K H0 G (vs ++ ws) := fun x hx => (List.mem_append.mp hx).elim (h x) (o x)
end
theorem fresh0 {b p : Addr} {d : Int} {H0 H : Hp} (s : SB b H0 H) (B : BoxAt H b d) (n : H p = none) : H0 p = none := by
  have npb := box_ne B n
  rcases e : H0 p with _ | o
  · rfl
  · rw [s _ _ npb e] at n; cases n
section
variable {K : PySem.W.Frag} {H : Hp} {Q : VK} {b : Addr} {d : Int}
theorem i_listB {p : Addr} {ys : List V} (B : BoxAt H b d) (h : SqL K H p ys ∨ SqT K H p ys) (k : ∀ l H', sysModules < l → H l = none → BoxAt H' b d → Same (L2.del H b) (L2.del H' b) → L2.del H' b l = some (.lst ys) → Same H H' → Q (.ref l) H') : rListL K [.ref p] H Q :=
  i_listL h fun l n lt => k l _ lt n (B.same (same_upd n)) (del_sb (SB.of (same_upd n))) (del_new B n) (same_upd n)
theorem i_catB {a c : Addr} {xs ys : List V} (B : BoxAt H b d) (h : SqT K (L2.del H b) a xs) (h2 : SqT K (L2.del H b) c ys) (l : xs.length + ys.length ≤ sizeLine) (k : ∀ t H', BoxAt H' b d → Same (L2.del H b) (L2.del H' b) → SqT K (L2.del H' b) t (xs ++ ys) → Same H H' → Q (.ref t) H') : rCatA K (.ref a) (.ref c) H Q := by
  refine ⟨a, c, xs, ys, rfl, rfl, Same.sqT del_sub h, Same.sqT del_sub h2, l, fun e => ?_, fun e1 e2 => ?_, fun e1 e2 p np => ?_⟩
  · rw [e] at k; exact k _ _ B (Same.refl _) h2 (Same.refl _)
  · rw [e2, List.append_nil] at k; exact k _ _ B (Same.refl _) h (Same.refl _)
  · exact k _ _ (B.same (same_upd np)) (del_sb (SB.of (same_upd np))) (sqT_of (del_new B np)) (same_upd np)
theorem i_sl1B {a : Addr} {xs : List V} (B : BoxAt H b d) (h : SqT K H a xs) (l : 2 ≤ xs.length) (k : ∀ t H', BoxAt H' b d → Same (L2.del H b) (L2.del H' b) → L2.del H' b t = some (.tup (xs.take 1)) → Same H H' → Q (.ref t) H') : rSlA K (.ref a) none (some 1) H Q := by
  refine ⟨a, xs, rfl, h, fun e => ?_, fun e p np => ?_⟩
  · rw [show (some (1 : Int)) = some ((1 : Nat) : Int) from rfl, HT.sIx_nat] at e
    omega
  · have : cutV xs none (some 1) = xs.take 1 := by
      unfold cutV
      rw [show (some (1 : Int)) = some ((1 : Nat) : Int) from rfl, HT.sIx_nat, HT.sIx_none, List.drop_zero, Nat.sub_zero, Nat.min_eq_left (by omega)]
    rw [this]
    exact k _ _ (B.same (same_upd np)) (del_sb (SB.of (same_upd np))) (del_new B np) (same_upd np)
theorem i_slTB {a : Addr} {xs : List V} {n : Nat} (B : BoxAt H b d) (h : SqT K (L2.del H b) a xs) (k : ∀ t H', BoxAt H' b d → Same (L2.del H b) (L2.del H' b) → SqT K (L2.del H' b) t (xs.take n) → Same H H' → Q (.ref t) H') : rSlA K (.ref a) none (some (n : Int)) H Q := by
  refine ⟨a, xs, rfl, Same.sqT del_sub h, fun e => ?_, fun e p np => ?_⟩
  · rw [HT.sIx_nat, HT.sIx_none] at e
    refine k _ _ B (Same.refl _) ?_ (Same.refl _)
    rw [List.take_of_length_le (by omega)]; exact h
  · have : cutV xs none (some (n : Int)) = xs.take n := by
      unfold cutV
      rw [HT.sIx_nat, HT.sIx_none, List.drop_zero, Nat.sub_zero]
      by_cases hk : n ≤ xs.length
      · rw [Nat.min_eq_left hk]
      · rw [Nat.min_eq_right (by omega), List.take_length, List.take_of_length_le (by omega)]
    rw [this]
    exact k _ _ (B.same (same_upd np)) (del_sb (SB.of (same_upd np))) (sqT_of (del_new B np)) (same_upd np)
theorem i_slFB {a : Addr} {xs : List V} {n : Nat} (B : BoxAt H b d) (h : SqT K (L2.del H b) a xs) (k : ∀ t H', BoxAt H' b d → Same (L2.del H b) (L2.del H' b) → SqT K (L2.del H' b) t (xs.drop n) → Same H H' → Q (.ref t) H') : rSlA K (.ref a) (some (n : Int)) none H Q := by
  refine ⟨a, xs, rfl, Same.sqT del_sub h, fun e => ?_, fun e p np => ?_⟩
  · rw [HT.sIx_nat] at e
    refine k _ _ B (Same.refl _) ?_ (Same.refl _)
    by_cases hk : n = 0
    · rw [hk, List.drop_zero]; exact h
    · have : xs = [] := List.eq_nil_of_length_eq_zero (by omega)
      rw [this, List.drop_nil]; rw [this] at h; exact h
  · have : cutV xs (some (n : Int)) none = xs.drop n := by
      unfold cutV
      rw [HT.sIx_nat, HT.sIx_none]
      by_cases hk : n ≤ xs.length
      · rw [Nat.min_eq_left hk, List.take_of_length_le (by rw [List.length_drop]; omega)]
      · rw [Nat.min_eq_right (by omega), List.drop_of_length_le (by omega), List.drop_of_length_le (by omega), List.take_nil]
    rw [this]
    exact k _ _ (B.same (same_upd np)) (del_sb (SB.of (same_upd np))) (sqT_of (del_new B np)) (same_upd np)
theorem i_catLB {a c : Addr} {xs ys : List V} (B : BoxAt H b d) (h : L2.del H b a = some (.lst xs)) (h2 : L2.del H b c = some (.lst ys)) (l : xs.length + ys.length ≤ sizeLine) (k : ∀ t H', BoxAt H' b d → Same (L2.del H b) (L2.del H' b) → L2.del H' b t = some (.lst (xs ++ ys)) → Same H H' → Q (.ref t) H') : rCat (.ref a) (.ref c) H Q :=
  ⟨a, c, xs, ys, rfl, rfl, del_sub _ _ h, del_sub _ _ h2, l, fun p np => k _ _ (B.same (same_upd np)) (del_sb (SB.of (same_upd np))) (del_new B np) (same_upd np)⟩
end
end Sw
namespace Sw
open PySem PySem.Spec PyProof.Rows L2
/-! ### calls by names -/
def rev2 {α : Type} : List α → List α → List α
  | [], [b, a] => [a, b]
  | _, _ => []
theorem rev2_inv {α : Type} {us ws : List α} (h : (rev2 us ws).length = 2) : us = [] ∧ ∃ b a, ws = [b, a] := by
  unfold rev2 at h
  split at h
  · exact ⟨rfl, _, _, rfl⟩
  · cases h
theorem rev2_rel {vs : List V} {us : List Value} {zs : List V} {ws : List Value} (r : Vals vs us) (r2 : Vals zs ws) : Vals (rev2 vs zs) (rev2 us ws) := by
  unfold rev2
  cases r with
  | cons _ _ => exact .nil
  | nil =>
    cases r2 with
    | nil => exact .nil
    | cons a r2 =>
      cases r2 with
      | nil => exact .nil
      | cons b r2 =>
        cases r2 with
        | nil => exact .cons b (.cons a .nil)
        | cons _ _ => exact .nil
def one1 {α : Type} : List α → List α → List α
  | [], [a] => [a]
  | _, _ => []
theorem one1_inv {α : Type} {us ws : List α} (h : (one1 us ws).length = 1) : us = [] ∧ ∃ a, ws = [a] := by
  unfold one1 at h
  split at h
  · exact ⟨rfl, _, rfl⟩
  · cases h
theorem one1_rel {vs : List V} {us : List Value} {zs : List V} {ws : List Value} (r : Vals vs us) (r2 : Vals zs ws) : Vals (one1 vs zs) (one1 us ws) := by
  unfold one1
  cases r with
  | cons _ _ => exact .nil
  | nil =>
    cases r2 with
    | nil => exact .nil
    | cons a r2 =>
      cases r2 with
      | nil => exact .cons a .nil
      | cons _ _ => exact .nil
end Sw
namespace Sw
open PySem PySem.Spec PyProof.Rows L2
theorem Fun.okG0 {P : Program} {w : World} {K : PySem.W.Frag} {mg : Str → Option Value} {base : Heap} {k : Nat} {f : Addr} {fd : FuncData} {ps : List Str} {sp : Sp} {x qual : Str} {st : Stmt} {N : List Str} (F : Fun K x qual st f fd) (S : FnScope N ps (defScope st)) (len : ∀ xs M R X, sp xs M R X → xs.length = ps.length)
    (body : ∀ (cdv : Value) (A : Around) (out : List Env) (t : Shared) (M : Hp) (xs : List V) (R : VK) (X : XK), Room k (A.deeper (envOfC qual (defScope st) t.heap.objs.size f cdv)) → A.guards = some [] → sp xs M R X →
      ∃ r, PSs (cxOf CX0 P w K mg base N qual (defScope st) f cdv A out t M X).nox (defBody st) r ∧ r { nx := fun _ M' => R .non M', rt := R } (start N xs) M) : FnG P w K mg base CX0 (k + 1) f fd ps sp :=
  Sw.Fun.okG F S len fun cdv A out t M xs R X room quiet prom => by
    obtain ⟨r, h, q⟩ := body cdv A out t M xs R X room quiet prom
    exact ⟨r, h.nox, q⟩
end Sw
namespace Sw
open PySem PySem.Spec PyProof.Rows L2 PySem.SwE
/-- an own exception class with the one attribute given, named x, as it stands behind the top -/
structure XQ (x : Str) (P : Program) (w : World) (K : PySem.W.Frag) (mg : Str → Option Value) (base : Heap) (C : Addr) : Prop where
  T : OexE K C
  xf : XfC K C
  no : PySem.W.findIn K (.ref C) "given" = some none
  hm : mg x = some (.ref C)
  me : PySem.W.exmOne K (.ref C) (.ref C) = some true
  ini : ∃ (fI : Addr) (fd : FuncData), PySem.W.findIn K (.ref C) "__init__" = some (some (.ref fI)) ∧ PySem.W.typeIn K (.ref fI) = some (.type "function") ∧ FnOk P w K mg base CX0 1 fI fd ["self", "given"] (spInit K) ∧ Binds K fd ["self", "given"] []
theorem pmk_Q {X : Cx} {x : Str} {C : Addr} {n : Nat} {e : Expr} {te : TE} {p pos : Pos} (xt : XQ x X.prog X.w X.K X.mg X.base C) (hr : Room n X.A) (he : PE X e te) (hn : 2 ≤ n := by decide) (hg : Gl X x := by rfl)
    (hdb : (x == ("__debug__" : Str)) = false := by decide) (he2 : starEach [e] X.env = (false, eval e X.env) :: starEach [] X.env := by rfl) : PMk X (.Call (.Name x p) [e] [] pos) (tMkO C (spInit X.K) [] (tCons te tNil)) := by
  obtain ⟨fI, fd, h1, h2, h3, h4⟩ := xt.ini
  exact pmk_E xt.T h1 h2 h3 (hr.mono hn) h4 pass0 xt.hm (pa_cons he pa_nil he2) hg hdb he2 (by rfl)
theorem names_Q {x : Str} {P : Program} {w : World} {K : PySem.W.Frag} {mg : Str → Option Value} {base : Heap} {X : Cx} {C : Addr} (xt : XQ x P w K mg base C) (hm : X.mg = mg := by rfl) (hg : Gl X x := by rfl) (hd : (x == ("__debug__" : Str)) = false := by decide) : Names X x (.ref C) := ⟨hg, hd, .inl (by rw [hm]; exact xt.hm)⟩
end Sw
theorem Lev.take_snoc {l : List Nat} {i c : Nat} (h : l[i]? = some c) : l.take (i + 1) = l.take i ++ [c] := by
  rw [List.take_add_one, h]; rfl
namespace Sw
open PySem PySem.Spec PyProof.Rows L2
open Lev (lev)
/-! ### steps of alignments -/
inductive St where
  | keep (c : Nat)
  | drop (c : Nat)
  | add (c : Nat)
  | swap (a b : Nat)
abbrev tKeep : List Nat := [107, 101, 101, 112]
abbrev tDrop : List Nat := [100, 114, 111, 112]
abbrev tAdd : List Nat := [97, 100, 100]
abbrev tSwap : List Nat := [115, 119, 97, 112]
def St.dat : St → PyData
  | .keep c => .tuple [.str (S tKeep), .str (S [c])]
  | .drop c => .tuple [.str (S tDrop), .str (S [c])]
  | .add c => .tuple [.str (S tAdd), .str (S [c])]
  | .swap a b => .tuple [.str (S tSwap), .str (S [a]), .str (S [b])]
def St.left : St → List Nat
  | .keep c => [c]
  | .drop c => [c]
  | .add _ => []
  | .swap a _ => [a]
def St.right : St → List Nat
  | .keep c => [c]
  | .drop _ => []
  | .add c => [c]
  | .swap _ b => [b]
def St.cost : St → Nat
  | .keep _ => 0
  | _ => 1
def azN (c : Nat) : Bool := decide (97 ≤ c) && decide (c ≤ 122)
def St.ok : St → Bool
  | .keep c => azN c
  | .drop c => azN c
  | .add c => azN c
  | .swap a b => azN a && azN b && !decide (a = b)
def lefts (ss : List St) : List Nat := (ss.map St.left).flatten
def rights (ss : List St) : List Nat := (ss.map St.right).flatten
def costs (ss : List St) : Nat := (ss.map St.cost).sum
/-- the first way back holds -/
def Way1 (a b : List Nat) (i j : Nat) : Prop := ∃ i' j' x y, i = i' + 1 ∧ j = j' + 1 ∧ a[i']? = some x ∧ b[j']? = some y ∧ lev (a.take i') (b.take j') + (if x = y then 0 else 1) = lev (a.take i) (b.take j)
def Way2 (a b : List Nat) (i j : Nat) : Prop := ∃ i', i = i' + 1 ∧ lev (a.take i') (b.take j) + 1 = lev (a.take i) (b.take j)
/-- one step of the way back through the table -/
inductive Tr (one other : List Nat) : Nat → Nat → St → Nat → Nat → Prop
  | keep {i j c : Nat} : one[i]? = some c → other[j]? = some c → lev (one.take i) (other.take j) = lev (one.take (i + 1)) (other.take (j + 1)) → Tr one other (i + 1) (j + 1) (.keep c) i j
  | swap {i j a b : Nat} : one[i]? = some a → other[j]? = some b → a ≠ b → lev (one.take i) (other.take j) + 1 = lev (one.take (i + 1)) (other.take (j + 1)) → Tr one other (i + 1) (j + 1) (.swap a b) i j
  | drop {i j c : Nat} : one[i]? = some c → lev (one.take i) (other.take j) + 1 = lev (one.take (i + 1)) (other.take j) → ¬ Way1 one other (i + 1) j → Tr one other (i + 1) j (.drop c) i j
  | add {i j c : Nat} : other[j]? = some c → lev (one.take i) (other.take j) + 1 = lev (one.take i) (other.take (j + 1)) → ¬ Way1 one other i (j + 1) → ¬ Way2 one other i (j + 1) → Tr one other i (j + 1) (.add c) i j
/-- what holds of the steps that were found behind i and j -/
structure Found (one other : List Nat) (i j : Nat) (ss : List St) : Prop where
  l : lefts ss = one.drop i
  r : rights ss = other.drop j
  c : costs ss + lev (one.take i) (other.take j) = lev one other
  ok : ∀ s ∈ ss, s.ok = true
  n : ss.length + i + j ≤ one.length + other.length
theorem drop_cons {l : List Nat} {i c : Nat} (h : l[i]? = some c) : l.drop i = c :: l.drop (i + 1) := by
  have hi : i < l.length := by
    rcases Nat.lt_or_ge i l.length with q | q
    · exact q
    · rw [List.getElem?_eq_none q] at h; cases h
  rw [List.drop_eq_getElem_cons hi]
  congr 1
  rw [List.getElem?_eq_getElem hi] at h
  exact Option.some.inj h
theorem Found.start (one other : List Nat) : Found one other one.length other.length [] :=
  ⟨by simp [lefts], by simp [rights], by simp [costs], (fun s h => by cases h), by simp⟩
theorem azB_get {l : List Nat} {i c : Nat} (z : azB l = true) (h : l[i]? = some c) : azN c = true := by
  unfold azB at z
  rw [List.all_eq_true] at z
  have := z c (List.mem_of_getElem? h)
  unfold azN
  simpa using this
theorem Found.step {one other : List Nat} {i j i' j' : Nat} {s : St} {ss : List St} (f : Found one other i j ss) (t : Tr one other i j s i' j') (z1 : azB one = true) (z2 : azB other = true) : Found one other i' j' (s :: ss) ∧ i' + j' < i + j := by
  obtain ⟨l, r, c, ok, n⟩ := f
  cases t with
  | keep h1 h2 h3 =>
    refine ⟨⟨?_, ?_, ?_, ?_, ?_⟩, by omega⟩
    · rw [drop_cons h1, ← l]; rfl
    · rw [drop_cons h2, ← r]; rfl
    · rw [h3]; simpa [costs, St.cost] using c
    · exact fun x hx => (List.mem_cons.mp hx).elim (fun e => by rw [e]; exact azB_get z1 h1) (ok x)
    · rw [List.length_cons]; omega
  | swap h1 h2 ne h3 =>
    refine ⟨⟨?_, ?_, ?_, ?_, ?_⟩, by omega⟩
    · rw [drop_cons h1, ← l]; rfl
    · rw [drop_cons h2, ← r]; rfl
    · simp only [costs, List.map_cons, List.sum_cons, St.cost] at c ⊢; omega
    · exact fun x hx => (List.mem_cons.mp hx).elim (fun e => by rw [e]; simp only [St.ok, azB_get z1 h1, azB_get z2 h2, decide_eq_false ne]; rfl) (ok x)
    · rw [List.length_cons]; omega
  | drop h1 h3 _ =>
    refine ⟨⟨?_, ?_, ?_, ?_, ?_⟩, by omega⟩
    · rw [drop_cons h1, ← l]; rfl
    · rw [← r]; rfl
    · simp only [costs, List.map_cons, List.sum_cons, St.cost] at c ⊢; omega
    · exact fun x hx => (List.mem_cons.mp hx).elim (fun e => by rw [e]; exact azB_get z1 h1) (ok x)
    · rw [List.length_cons]; omega
  | add h2 h3 _ _ =>
    refine ⟨⟨?_, ?_, ?_, ?_, ?_⟩, by omega⟩
    · rw [← l]; rfl
    · rw [drop_cons h2, ← r]; rfl
    · simp only [costs, List.map_cons, List.sum_cons, St.cost] at c ⊢; omega
    · exact fun x hx => (List.mem_cons.mp hx).elim (fun e => by rw [e]; exact azB_get z2 h2) (ok x)
    · rw [List.length_cons]; omega
theorem Tr.way1 {a b : List Nat} {i j x y : Nat} (h1 : a[i]? = some x) (h2 : b[j]? = some y) (h : lev (a.take i) (b.take j) + (if x = y then 0 else 1) = lev (a.take (i + 1)) (b.take (j + 1))) : Way1 a b (i + 1) (j + 1) := ⟨i, j, x, y, rfl, rfl, h1, h2, h⟩
theorem Tr.det {a b : List Nat} {i j i1 j1 i2 j2 : Nat} {s1 s2 : St} (h : Tr a b i j s1 i1 j1) (k : Tr a b i j s2 i2 j2) : s1 = s2 ∧ i1 = i2 ∧ j1 = j2 := by
  cases h with
  | keep h1 h2 h3 =>
    cases k with
    | keep k1 k2 k3 => rw [h1] at k1; cases k1; exact ⟨rfl, rfl, rfl⟩
    | swap k1 k2 k3 k4 => rw [h1] at k1; rw [h2] at k2; cases k1; cases k2; exact (k3 rfl).elim
    | drop k1 k2 k3 => exact (k3 (Tr.way1 h1 h2 (by rw [if_pos rfl]; exact h3))).elim
    | add k1 k2 k3 k4 => exact (k3 (Tr.way1 h1 h2 (by rw [if_pos rfl]; exact h3))).elim
  | swap h1 h2 hn h3 =>
    cases k with
    | keep k1 k2 k3 => rw [h1] at k1; rw [h2] at k2; cases k1; cases k2; exact (hn rfl).elim
    | swap k1 k2 k3 k4 => rw [h1] at k1; rw [h2] at k2; cases k1; cases k2; exact ⟨rfl, rfl, rfl⟩
    | drop k1 k2 k3 => exact (k3 (Tr.way1 h1 h2 (by rw [if_neg hn]; exact h3))).elim
    | add k1 k2 k3 k4 => exact (k3 (Tr.way1 h1 h2 (by rw [if_neg hn]; exact h3))).elim
  | drop h1 h2 h3 =>
    cases k with
    | keep k1 k2 k3 => exact (h3 (Tr.way1 k1 k2 (by rw [if_pos rfl]; exact k3))).elim
    | swap k1 k2 k3 k4 => exact (h3 (Tr.way1 k1 k2 (by rw [if_neg k3]; exact k4))).elim
    | drop k1 k2 k3 => rw [h1] at k1; cases k1; exact ⟨rfl, rfl, rfl⟩
    | add k1 k2 k3 k4 => exact (k4 ⟨_, rfl, h2⟩).elim
  | add h1 h2 h3 h4 =>
    cases k with
    | keep k1 k2 k3 => exact (h3 (Tr.way1 k1 k2 (by rw [if_pos rfl]; exact k3))).elim
    | swap k1 k2 k3 k4 => exact (h3 (Tr.way1 k1 k2 (by rw [if_neg k3]; exact k4))).elim
    | drop k1 k2 k3 => exact (h4 ⟨_, rfl, k2⟩).elim
    | add k1 k2 k3 k4 => rw [h1] at k1; cases k1; exact ⟨rfl, rfl, rfl⟩
/-- the way back from i and j on -/
inductive Run (a b : List Nat) : Nat → Nat → List St → List St → Prop
  | done {ss : List St} : Run a b 0 0 ss ss
  | step {i j i' j' : Nat} {s : St} {ss res : List St} : Tr a b i j s i' j' → Run a b i' j' (s :: ss) res → Run a b i j ss res
theorem Run.det {a b : List Nat} {i j : Nat} {ss r1 r2 : List St} (h : Run a b i j ss r1) : Run a b i j ss r2 → r1 = r2 := by
  induction h with
  | done =>
    intro k
    cases k with
    | done => rfl
    | step t _ => cases t
  | step t _ ih =>
    intro k
    cases k with
    | done => cases t
    | step t2 k2 =>
      obtain ⟨rfl, rfl, rfl⟩ := t.det t2
      exact ih k2
/-- an alignment of the two texts -/
structure Aln (one other : List Nat) (ss : List St) : Prop where
  l : lefts ss = one
  r : rights ss = other
  ok : ∀ s ∈ ss, s.ok = true
theorem Found.done {one other : List Nat} {ss : List St} (f : Found one other 0 0 ss) : Aln one other ss ∧ costs ss = lev one other ∧ ss.length ≤ one.length + other.length := by
  refine ⟨⟨by rw [f.l, List.drop_zero], by rw [f.r, List.drop_zero], f.ok⟩, ?_, by have := f.n; omega⟩
  have := f.c
  rw [List.take_zero, List.take_zero, Lev.lev_nil] at this
  simpa using this
/-- if neither of the first two ways leads back, the third does -/
theorem tr_add {one other : List Nat} {i j : Nat} (hi : i ≤ one.length) (hj : j ≤ other.length) (ne : ¬ (i = 0 ∧ j = 0))
    (h1 : ∀ i' j' a b, i = i' + 1 → j = j' + 1 → one[i']? = some a → other[j']? = some b → lev (one.take i') (other.take j') + (if a = b then 0 else 1) ≠ lev (one.take i) (other.take j))
    (h2 : ∀ i', i = i' + 1 → lev (one.take i') (other.take j) + 1 ≠ lev (one.take i) (other.take j)) : ∃ j' c, j = j' + 1 ∧ other[j']? = some c ∧ lev (one.take i) (other.take j') + 1 = lev (one.take i) (other.take j) := by
  rcases j with _ | j
  · exfalso
    rcases i with _ | i
    · exact ne ⟨rfl, rfl⟩
    · apply h2 i rfl
      rw [List.take_zero, Lev.lev_nil', Lev.lev_nil', List.length_take, List.length_take]
      omega
  · have e2 : other[j]? = some other[j] := List.getElem?_eq_getElem (by omega)
    refine ⟨j, _, rfl, e2, ?_⟩
    rcases i with _ | i
    · rw [List.take_zero, Lev.lev_nil, Lev.lev_nil, List.length_take, List.length_take]
      omega
    · have e1 : one[i]? = some one[i] := List.getElem?_eq_getElem (by omega)
      have k1 := h1 i j _ _ rfl rfl e1 e2
      have k2 := h2 i rfl
      have e := Lev.lev_snoc one[i] other[j] (one.take i) (other.take j)
      rw [← Lev.take_snoc e1, ← Lev.take_snoc e2] at e
      split at k1 <;> split at e <;> first | omega | contradiction
theorem lefts_app (a b : List St) : lefts (a ++ b) = lefts a ++ lefts b := by simp [lefts]
theorem rights_app (a b : List St) : rights (a ++ b) = rights a ++ rights b := by simp [rights]
/-! ### the judges, of data -/
def chars : PyData → List Nat
  | .str z => z.cps.toList
  | _ => []
theorem chars_S (l : List Nat) : chars (.str (S l)) = l := by simp [chars, S]
def isLet : PyData → Bool
  | .str z => match z.cps.toList with
    | [c] => azN c
    | _ => false
  | _ => false
theorem isLet_inv {d : PyData} (h : isLet d = true) : ∃ c, d = .str (S [c]) ∧ azN c = true := by
  cases d <;> first | cases h | skip
  rename_i z
  simp only [isLet] at h
  split at h
  · rename_i c e
    refine ⟨c, ?_, h⟩
    congr 1
    obtain ⟨cps⟩ := z
    unfold S
    congr 1
    exact Array.toList_inj.mp (by simpa using e)
  · cases h
theorem isLet_S (c : Nat) : isLet (.str (S [c])) = azN c := by simp [isLet, S]
def stepB : PyData → Bool
  | .tuple [a, b] => isLet b && (isS tKeep a || (isS tDrop a || isS tAdd a))
  | .tuple [a, b, c] => isLet b && isLet c && (isS tSwap a && !PyData.eqv b c)
  | _ => false
theorem isS_inv' {l : List Nat} {d : PyData} (h : isS l d = true) : d = .str (S l) := by
  cases d <;> first | cases h | skip
  simp only [isS] at h
  rw [of_decide_eq_true h]
theorem isS_S (l m : List Nat) : isS l (.str (S m)) = decide (m = l) := by
  simp only [isS]
  by_cases e : m = l
  · rw [e, decide_eq_true rfl, decide_eq_true rfl]
  · rw [decide_eq_false e, decide_eq_false fun q => e (S_inj.mp q)]
theorem eqv_S (l m : List Nat) : PyData.eqv (.str (S l)) (.str (S m)) = decide (l = m) := by
  rw [eqv_str_r, isS_S]
theorem stepB_inv {d : PyData} (h : stepB d = true) : ∃ s : St, d = s.dat ∧ s.ok = true := by
  cases d <;> first | cases h | skip
  rename_i ds
  rcases ds with _ | ⟨a, _ | ⟨b, _ | ⟨c, _ | ⟨e, ds⟩⟩⟩⟩ <;> first | cases h | skip
  · simp only [stepB, Bool.and_eq_true, Bool.or_eq_true] at h
    obtain ⟨c, rfl, hc⟩ := isLet_inv h.1
    rcases h.2 with h | h | h
    · exact ⟨.keep c, by rw [isS_inv' h]; rfl, hc⟩
    · exact ⟨.drop c, by rw [isS_inv' h]; rfl, hc⟩
    · exact ⟨.add c, by rw [isS_inv' h]; rfl, hc⟩
  · simp only [stepB, Bool.and_eq_true] at h
    obtain ⟨x, rfl, hx⟩ := isLet_inv h.1.1
    obtain ⟨y, rfl, hy⟩ := isLet_inv h.1.2
    refine ⟨.swap x y, by rw [isS_inv' h.2.1]; rfl, ?_⟩
    have := h.2.2
    rw [eqv_S] at this
    simp only [St.ok, hx, hy, Bool.and_self, Bool.true_and]
    by_cases q : x = y
    · rw [q, decide_eq_true rfl] at this; cases this
    · rw [decide_eq_false q]; rfl
theorem stepB_dat {s : St} (h : s.ok = true) : stepB s.dat = true := by
  cases s with
  | keep c => simp only [St.dat, stepB, isLet_S, isS_S]; simpa [St.ok] using h
  | drop c => simp only [St.dat, stepB, isLet_S, isS_S]; simpa [St.ok] using h
  | add c => simp only [St.dat, stepB, isLet_S, isS_S]; simpa [St.ok] using h
  | swap a b =>
    simp only [St.ok, Bool.and_eq_true] at h
    simp only [St.dat, stepB, isLet_S, isS_S, eqv_S, h.1.1, h.1.2]
    have : decide ([a] = [b]) = false := by
      refine decide_eq_false fun q => ?_
      have := (List.cons.inj q).1
      rw [decide_eq_true this] at h
      cases h.2
    rw [this]
    simp
def leftD : PyData → List Nat
  | .tuple (a :: b :: _) => if isS tAdd a then [] else chars b
  | _ => []
def rightD : PyData → List Nat
  | .tuple [a, b] => if isS tDrop a then [] else chars b
  | .tuple [_, _, c] => chars c
  | _ => []
def alnB (one other : List Nat) : PyData → Bool
  | .tuple ds => ds.all stepB && (decide ((ds.map leftD).flatten = one) && decide ((ds.map rightD).flatten = other))
  | _ => false
theorem leftD_dat (s : St) : leftD s.dat = s.left := by
  cases s <;> simp only [St.dat, leftD, isS_S, chars_S, St.left] <;> rfl
theorem rightD_dat (s : St) : rightD s.dat = s.right := by
  cases s <;> simp only [St.dat, rightD, isS_S, chars_S, St.right] <;> rfl
theorem steps_inv : ∀ {ds : List PyData}, ds.all stepB = true → ∃ ss : List St, ds = ss.map St.dat ∧ ∀ s ∈ ss, s.ok = true
  | [], _ => ⟨[], rfl, fun s h => by cases h⟩
  | d :: ds, h => by
    rw [List.all_cons, Bool.and_eq_true] at h
    obtain ⟨s, rfl, hs⟩ := stepB_inv h.1
    obtain ⟨ss, rfl, hss⟩ := steps_inv h.2
    exact ⟨s :: ss, rfl, fun x hx => (List.mem_cons.mp hx).elim (fun e => e ▸ hs) (hss x)⟩
theorem map_left (ss : List St) : ((ss.map St.dat).map leftD).flatten = lefts ss := by
  rw [List.map_map]; unfold lefts; congr 1; exact List.map_congr_left fun s _ => leftD_dat s
theorem map_right (ss : List St) : ((ss.map St.dat).map rightD).flatten = rights ss := by
  rw [List.map_map]; unfold rights; congr 1; exact List.map_congr_left fun s _ => rightD_dat s
theorem alnB_dat {one other : List Nat} {ss : List St} (h : ∀ s ∈ ss, s.ok = true) : alnB one other (.tuple (ss.map St.dat)) = (decide (lefts ss = one) && decide (rights ss = other)) := by
  simp only [alnB, map_left, map_right]
  have : (ss.map St.dat).all stepB = true := by
    rw [List.all_eq_true]
    intro d hd
    obtain ⟨s, hs, rfl⟩ := List.mem_map.mp hd
    exact stepB_dat (h s hs)
  rw [this, Bool.true_and]
theorem dat_flat (s : St) : s.dat.hasDict = false := by cases s <;> simp only [St.dat, PyData.hasDict, PyData.hasDictAll, Bool.or_self]
theorem dat_noL (s : St) : noL s.dat = true := by cases s <;> simp only [St.dat, noL, noLAll, Bool.and_self]
theorem azN_le {c : Nat} (h : azN c = true) : c ≤ 1000 := by
  simp only [azN, Bool.and_eq_true] at h
  have := of_decide_eq_true h.2
  omega
theorem dat_sd {s : St} (h : s.ok = true) : Sd 1 10 s.dat := by
  have w : ∀ l : List Nat, (∀ c ∈ l, c ≤ 1000) → l.length ≤ 4 → Sd 0 4 (.str (S l)) := fun l h1 h2 => (sd_str h1).mono (Nat.le_refl _) h2
  have one : ∀ c, azN c = true → Sd 0 1 (.str (S [c])) := fun c hc => (sd_str (by intro x hx; rw [List.mem_singleton.mp hx]; exact azN_le hc)).mono (Nat.le_refl _) (by simp)
  cases s with
  | keep c => exact (sd_tup' (.cons (w tKeep (by decide) (by decide)) (.cons (one c h) .nil))).mono (by omega) (by omega)
  | drop c => exact (sd_tup' (.cons (w tDrop (by decide) (by decide)) (.cons (one c h) .nil))).mono (by omega) (by omega)
  | add c => exact (sd_tup' (.cons (w tAdd (by decide) (by decide)) (.cons (one c h) .nil))).mono (by omega) (by omega)
  | swap a b =>
    simp only [St.ok, Bool.and_eq_true] at h
    exact (sd_tup' (.cons (w tSwap (by decide) (by decide)) (.cons (one a h.1.1) (.cons (one b h.1.2) .nil)))).mono (by omega) (by omega)
/-- all parts of all steps are without dicts -/
theorem dats_flat (ss : List St) : (PyData.tuple (ss.map St.dat)).hasDict = false := hasDict_tup.mpr fun y hy => by
  obtain ⟨s, _, rfl⟩ := List.mem_map.mp hy
  exact dat_flat s
theorem dats_sd {ss : List St} (h : ∀ s ∈ ss, s.ok = true) : Sd 2 (ss.length * 11) (.tuple (ss.map St.dat)) := by
  have := sd_tup (n := 1) (w := 10) (ds := ss.map St.dat) fun d hd => by
    obtain ⟨s, hs, rfl⟩ := List.mem_map.mp hd
    exact dat_sd (h s hs)
  rwa [List.length_map] at this
end Sw
namespace Sw
open PySem PySem.Spec PyProof.Rows L2
local macro_rules | `(tactic| walk_at "hp") => `(tactic| first
  | (with_reducible assumption) | (with_reducible exact upd_same)
  | ((with_reducible refine' upd_old ?q1 ?q2); (case q1 => (with_reducible assumption)); (case q2 => walk_at "hp"))
  | ((with_reducible refine' Same.at ?q1 ?q2); (case q1 => (with_reducible assumption)); (case q2 => walk_at "hp"))
  | ((with_reducible refine' upd_skip ?q1 ?q2); (case q1 => walk_at "ne"); (case q2 => walk_at "hp"))
  | fail)
local macro_rules | `(tactic| walk_at "ne") => `(tactic| first
  | (with_reducible assumption) | (with_reducible exact Ne.symm (by assumption))
  | ((with_reducible refine' ne_of_none ?q1 ?q2); (case q2 => (with_reducible assumption)); (case q1 => walk_at "hp"))
  | fail)
local macro_rules | `(tactic| walk_at "ci") => `(tactic| first | assumption | (show (0 : Int) < _; first | decide | (with_reducible omega)) | exact ⟨by decide, by decide⟩ | exact .inl ⟨by decide, by decide⟩ | exact .inr ⟨by decide, by decide⟩)
local macro_rules | `(tactic| walk_at "ln") => `(tactic| first | (with_reducible assumption) | (with_reducible omega) | (simp only [List.length_append, List.length_take, List.length_drop, List.length_reverse, List.length_cons, List.length_nil]; with_reducible omega))
local macro_rules | `(tactic| walk_at "rd1") => `(tactic| first
  | (with_reducible refine i_seq ?_) | (with_reducible refine i_asg ?_) | (with_reducible refine i_ret ?_) | (with_reducible refine i_name ?_) | ((with_reducible refine' i_var ?q1 ?_); (case q1 => exact rfl)) | (with_reducible refine i_c ?_) | (with_reducible refine i_op ?_) | (with_reducible refine i_un ?_)
  | (with_reducible refine i_rI0 ?_) | (with_reducible refine i_cb ?_) | (with_reducible refine i_cons ?_) | (with_reducible refine i_nil ?_) | (with_reducible refine i_call ?_) | (with_reducible refine i_if ?_) | (with_reducible refine i_ifE ?_) | (with_reducible refine i_test ?_) | (with_reducible refine i_bl ?_)
  | (with_reducible refine i_and ?_) | (with_reducible refine i_or ?_) | (with_reducible refine i_not ?_) | (with_reducible refine i_lst ?_) | (with_reducible refine i_tup ?_) | (with_reducible refine i_next ?_) | (with_reducible refine i_drop ?_) | (with_reducible refine i_sub ?_)
  | (with_reducible refine i_bm ?_) | (with_reducible refine i_sl ?_) | (with_reducible refine i_part ?_) | (with_reducible refine i_nopart ?_) | (with_reducible refine i_exI ?_) | (with_reducible refine i_chain ?_) | ((with_reducible refine' i_aug ?q1 ?_); (case q1 => exact rfl)) | (with_reducible refine i_ip ?_)
  | (with_reducible refine i_par ?_) | (with_reducible refine i_pair ?_) | (with_reducible refine i_andV ?_) | (with_reducible refine i_orV ?_) | (with_reducible refine i_notV ?_) | (with_reducible refine i_m1 ?_) | (with_reducible refine i_str ?_)
  | (with_reducible refine iteF ?_) | (with_reducible refine iteT ?_) | (with_reducible refine iteNT ?_) | (with_reducible refine iteNF ?_) | (with_reducible refine i_tyS ?_) | (with_reducible refine i_tB ?_) | (with_reducible refine i_retN ?_) | (with_reducible refine i_par3 ?_) | (with_reducible refine i_trip ?_) | (with_reducible refine i_gCons ?_) | (with_reducible refine i_gNil ?_) | (with_reducible refine i_lstRg ?_) | (with_reducible refine i_rg1 ?_)
  | (with_reducible refine i_lc ?_) | (with_reducible refine i_for ?_) | (with_reducible refine i_iList ?_) | (with_reducible refine i_iTup ?_) | (with_reducible refine i_iStr ?_) | (with_reducible refine i_iRng1 ?_) | (with_reducible refine i_iEnS ?_)
  | ((with_reducible refine' i_ixTH ?q1 ?q2 ?_); (case q1 => walk_at "hp"); (case q2 => exact rfl))
  | ((with_reducible refine' i_ixLH ?q1 ?q2 ?_); (case q1 => walk_at "hp"); (case q2 => exact rfl))
  | ((with_reducible refine i_addS ?q1 ?_); (case q1 => walk_at "ln")) | ((with_reducible refine i_lenSS ?q1 ?_); (case q1 => walk_at "ln")) | ((with_reducible refine i_slFrom ?q1 ?q2 ?_); (case q1 => walk_at "ln"); (case q2 => walk_at "ln")) | ((with_reducible refine i_slTo ?q1 ?q2 ?_); (case q1 => walk_at "ln"); (case q2 => walk_at "ln"))
  | ((with_reducible refine' i_tyL ?q1 ?_); (case q1 => walk_at "hp"))
  | ((with_reducible refine' i_gTupH ?q1 ?q2 ?_); (case q1 => walk_at "hp"); (case q2 => exact rfl))
  | (with_reducible refine i_dnew ?_) | (with_reducible refine i_init ?_) | (with_reducible refine i_fst ?_) | (with_reducible refine i_mk ?_) | (with_reducible refine i_raise ?_) | (with_reducible refine i_callS ?_) | (with_reducible refine i_kwS ?_)
  | (with_reducible refine i_revT ?_) | (with_reducible refine i_kw ?_) | ((with_reducible refine' ⟨_, _, rfl, sqT_of ?q1, ?_⟩); (case q1 => walk_at "hp"))
  | (with_reducible refine i_revS ?_) | ((with_reducible refine i_revSS ?q1 ?_); (case q1 => walk_at "ln"))
  | (with_reducible refine i_startS ?_) | (with_reducible refine i_inSg ?_) | (with_reducible refine i_absN ?_) | (with_reducible refine i_min2 ?_) | (with_reducible refine i_max2 ?_) | (with_reducible refine i_min3 ?_) | (with_reducible refine i_intN ?_) | (with_reducible refine i_intNB ?_)
  | ((with_reducible refine' i_lenL ?q1 ?_); (case q1 => walk_at "hp")) | ((with_reducible refine' i_lenT ?q1 ?_); (case q1 => walk_at "hp"))
  | (with_reducible refine i_eqI ?_) | (with_reducible refine i_neI ?_) | (with_reducible refine i_eqS ?_) | (with_reducible refine i_neS ?_) | (with_reducible refine i_isNoI ?_) | (with_reducible refine i_isNoN ?_) | (with_reducible refine i_isNoR ?_)
  | ((with_reducible refine i_pow ?q1 ?q2 ?q3 ?_); (case q1 => decide); (case q2 => decide); (case q3 => (with_reducible omega)))
  | ((with_reducible refine i_rI ?q1 ?_); (case q1 => walk_at "ci"))
  | (with_reducible refine Or.inl ⟨_, rfl, ?_⟩) | (with_reducible refine Or.inr ⟨_, rfl, ?_⟩) | (with_reducible refine ⟨_, rfl, ?_⟩) | (with_reducible refine ⟨_, _, rfl, ?_⟩) | (with_reducible refine ⟨_, _, rfl, rfl, ?_⟩)
  | ((with_reducible refine' ⟨_, _, rfl, Or.inl (sqL_of ?q1), ?_⟩); (case q1 => walk_at "hp")) | ((with_reducible refine' ⟨_, _, rfl, Or.inr (sqT_of ?q1), ?_⟩); (case q1 => walk_at "hp")) | fail)
local macro_rules | `(tactic| walk_at "rd") => `(tactic| repeat' walk_at "rd1")

def topS (i : Nat) : Stmt := PySem.Challenge.pw_spoiltways_k08_alignments.main.body.getD i (.Pass ⟨0, 0, 0, 0⟩)
abbrev s_is_text : Stmt := topS 5
abbrev n_is_text : List Str := ["value", "letter"]
theorem sc_is_text : FnScope n_is_text ["value"] (defScope s_is_text) := ⟨rfl, rfl, rfl, by decide +kernel, rfl, by decide +kernel, by decide +kernel⟩
abbrev s_check_text : Stmt := topS 6
abbrev n_check_text : List Str := ["text"]
theorem sc_check_text : FnScope n_check_text ["text"] (defScope s_check_text) := ⟨rfl, rfl, rfl, by decide +kernel, rfl, by decide +kernel, by decide +kernel⟩
abbrev s_next_row : Stmt := topS 8
abbrev n_next_row : List Str := ["row", "letter", "other", "found", "at", "goal"]
theorem sc_next_row : FnScope n_next_row ["row", "letter", "other"] (defScope s_next_row) := ⟨rfl, rfl, rfl, by decide +kernel, rfl, by decide +kernel, by decide +kernel⟩
abbrev s_table_of : Stmt := topS 9
abbrev n_table_of : List Str := ["one", "other", "rows", "letter"]
theorem sc_table_of : FnScope n_table_of ["one", "other"] (defScope s_table_of) := ⟨rfl, rfl, rfl, by decide +kernel, rfl, by decide +kernel, by decide +kernel⟩
abbrev s_last_step : Stmt := topS 10
abbrev n_last_step : List Str := ["rows", "one", "other", "ends", "i", "j", "same", "step"]
theorem sc_last_step : FnScope n_last_step ["rows", "one", "other", "ends"] (defScope s_last_step) := ⟨rfl, rfl, rfl, by decide +kernel, rfl, by decide +kernel, by decide +kernel⟩
abbrev s_alignment : Stmt := topS 11
abbrev n_alignment : List Str := ["one", "other", "rows", "ends", "found", "step"]
theorem sc_alignment : FnScope n_alignment ["one", "other"] (defScope s_alignment) := ⟨rfl, rfl, rfl, by decide +kernel, rfl, by decide +kernel, by decide +kernel⟩
abbrev s_is_letter : Stmt := topS 12
abbrev n_is_letter : List Str := ["value"]
theorem sc_is_letter : FnScope n_is_letter ["value"] (defScope s_is_letter) := ⟨rfl, rfl, rfl, by decide +kernel, rfl, by decide +kernel, by decide +kernel⟩
abbrev s_is_alignment_step : Stmt := topS 13
abbrev n_is_alignment_step : List Str := ["value", "part"]
theorem sc_is_alignment_step : FnScope n_is_alignment_step ["value"] (defScope s_is_alignment_step) := ⟨rfl, rfl, rfl, by decide +kernel, rfl, by decide +kernel, by decide +kernel⟩
abbrev s_is_alignment : Stmt := topS 14
abbrev n_is_alignment : List Str := ["one", "other", "value", "step", "left", "right"]
theorem sc_is_alignment : FnScope n_is_alignment ["one", "other", "value"] (defScope s_is_alignment) := ⟨rfl, rfl, rfl, by decide +kernel, rfl, by decide +kernel, by decide +kernel⟩
abbrev s__law_cell : Stmt := topS 16
abbrev n__law_cell : List Str := ["script", "k"]
theorem sc__law_cell : FnScope n__law_cell ["script", "k"] (defScope s__law_cell) := ⟨rfl, rfl, rfl, by decide +kernel, rfl, by decide +kernel, by decide +kernel⟩
abbrev s__law_box : Stmt := topS 17
abbrev n__law_box : List Str := ["great"]
theorem sc__law_box : FnScope n__law_box ["great"] (defScope s__law_box) := ⟨rfl, rfl, rfl, by decide +kernel, rfl, by decide +kernel, by decide +kernel⟩
abbrev s__law_take : Stmt := topS 18
abbrev n__law_take : List Str := ["box", "many", "digit", "mixed"]
theorem sc__law_take : FnScope n__law_take ["box", "many"] (defScope s__law_take) := ⟨rfl, rfl, rfl, by decide +kernel, rfl, by decide +kernel, by decide +kernel⟩
abbrev s__law_changed : Stmt := topS 19
abbrev n__law_changed : List Str := ["box", "letters", "text", "found", "turn", "at", "way", "letter"]
theorem sc__law_changed : FnScope n__law_changed ["box", "letters", "text"] (defScope s__law_changed) := ⟨rfl, rfl, rfl, by decide +kernel, rfl, by decide +kernel, by decide +kernel⟩
abbrev s__law_texts : Stmt := topS 20
abbrev n__law_texts : List Str := ["box", "way", "letters", "k", "text", "at"]
theorem sc__law_texts : FnScope n__law_texts ["box"] (defScope s__law_texts) := ⟨rfl, rfl, rfl, by decide +kernel, rfl, by decide +kernel, by decide +kernel⟩
abbrev s__law_table : Stmt := topS 21
abbrev n__law_table : List Str := ["first", "second", "row", "i", "ahead", "j", "here"]
theorem sc__law_table : FnScope n__law_table ["first", "second"] (defScope s__law_table) := ⟨rfl, rfl, rfl, by decide +kernel, rfl, by decide +kernel, by decide +kernel⟩
abbrev s__law_drawn : Stmt := topS 22
abbrev n__law_drawn : List Str := ["box", "first", "second", "i", "j", "found", "turn", "way", "step"]
theorem sc__law_drawn : FnScope n__law_drawn ["box", "first", "second"] (defScope s__law_drawn) := ⟨rfl, rfl, rfl, by decide +kernel, rfl, by decide +kernel, by decide +kernel⟩
abbrev s__law_is_letter : Stmt := topS 23
abbrev n__law_is_letter : List Str := ["value"]
theorem sc__law_is_letter : FnScope n__law_is_letter ["value"] (defScope s__law_is_letter) := ⟨rfl, rfl, rfl, by decide +kernel, rfl, by decide +kernel, by decide +kernel⟩
abbrev s__law_is_step : Stmt := topS 24
abbrev n__law_is_step : List Str := ["step", "part"]
theorem sc__law_is_step : FnScope n__law_is_step ["step"] (defScope s__law_is_step) := ⟨rfl, rfl, rfl, by decide +kernel, rfl, by decide +kernel, by decide +kernel⟩
abbrev s__law_is : Stmt := topS 25
abbrev n__law_is : List Str := ["first", "second", "value", "step", "left", "right"]
theorem sc__law_is : FnScope n__law_is ["first", "second", "value"] (defScope s__law_is) := ⟨rfl, rfl, rfl, by decide +kernel, rfl, by decide +kernel, by decide +kernel⟩
abbrev s__law_odd_step : Stmt := topS 26
abbrev n__law_odd_step : List Str := ["box", "odd"]
theorem sc__law_odd_step : FnScope n__law_odd_step ["box"] (defScope s__law_odd_step) := ⟨rfl, rfl, rfl, by decide +kernel, rfl, by decide +kernel, by decide +kernel⟩
abbrev s__law_bent : Stmt := topS 27
abbrev n__law_bent : List Str := ["box", "steps", "way", "rows", "at", "step", "letter", "fresh", "other_kind"]
theorem sc__law_bent : FnScope n__law_bent ["box", "steps"] (defScope s__law_bent) := ⟨rfl, rfl, rfl, by decide +kernel, rfl, by decide +kernel, by decide +kernel⟩
abbrev s__law_met : Stmt := topS 28
abbrev n__law_met : List Str := ["which", "first", "second", "value", "e"]
theorem sc__law_met : FnScope n__law_met ["which", "first", "second", "value"] (defScope s__law_met) := ⟨rfl, rfl, rfl, by decide +kernel, rfl, by decide +kernel, by decide +kernel⟩
abbrev s__law_right : Stmt := topS 29
abbrev n__law_right : List Str := ["box", "first", "second", "told", "step", "good", "values", "value", "which", "one_text", "other_text", "due"]
theorem sc__law_right : FnScope n__law_right ["box", "first", "second"] (defScope s__law_right) := ⟨rfl, rfl, rfl, by decide +kernel, rfl, by decide +kernel, by decide +kernel⟩
abbrev s__law_long_right : Stmt := topS 30
abbrev n__law_long_right : List Str := ["box", "n", "m", "x", "y", "first", "second", "told", "due", "step"]
theorem sc__law_long_right : FnScope n__law_long_right ["box"] (defScope s__law_long_right) := ⟨rfl, rfl, rfl, by decide +kernel, rfl, by decide +kernel, by decide +kernel⟩
abbrev s__law_odd : Stmt := topS 31
abbrev n__law_odd : List Str := ["box", "text", "way", "at"]
theorem sc__law_odd : FnScope n__law_odd ["box", "text"] (defScope s__law_odd) := ⟨rfl, rfl, rfl, by decide +kernel, rfl, by decide +kernel, by decide +kernel⟩
abbrev s__law_refused_right : Stmt := topS 32
abbrev n__law_refused_right : List Str := ["box", "first", "second", "one_odd", "other_odd", "which", "row", "pair", "value", "told", "odd"]
theorem sc__law_refused_right : FnScope n__law_refused_right ["box", "first", "second"] (defScope s__law_refused_right) := ⟨rfl, rfl, rfl, by decide +kernel, rfl, by decide +kernel, by decide +kernel⟩
abbrev s_law : Stmt := topS 33
abbrev n_law : List Str := ["script", "k", "box", "first", "second"]
theorem sc_law : FnScope n_law ["script"] (defScope s_law) := ⟨rfl, rfl, rfl, by decide +kernel, rfl, by decide +kernel, by decide +kernel⟩
/-- names that stay the built-in ones -/
structure Z (mg : Str → Option Value) : Prop where
  abs : mg "abs" = none
  all : mg "all" = none
  bool : mg "bool" = none
  enumerate : mg "enumerate" = none
  int : mg "int" = none
  isinstance : mg "isinstance" = none
  len : mg "len" = none
  list : mg "list" = none
  max_ : mg "max" = none
  min_ : mg "min" = none
  range : mg "range" = none
  repr : mg "repr" = none
  str : mg "str" = none
  sum : mg "sum" = none
  tuple : mg "tuple" = none
end Sw
namespace Sw
open PySem PySem.Spec PyProof.Rows L2
local macro_rules | `(tactic| walk_at "hp") => `(tactic| first
  | (with_reducible assumption) | (with_reducible exact upd_same)
  | ((with_reducible refine' upd_old ?q1 ?q2); (case q1 => (with_reducible assumption)); (case q2 => walk_at "hp"))
  | ((with_reducible refine' Same.at ?q1 ?q2); (case q1 => (with_reducible assumption)); (case q2 => walk_at "hp"))
  | ((with_reducible refine' upd_skip ?q1 ?q2); (case q1 => walk_at "ne"); (case q2 => walk_at "hp"))
  | fail)
local macro_rules | `(tactic| walk_at "ne") => `(tactic| first
  | (with_reducible assumption) | (with_reducible exact Ne.symm (by assumption))
  | ((with_reducible refine' ne_of_none ?q1 ?q2); (case q2 => (with_reducible assumption)); (case q1 => walk_at "hp"))
  | fail)
local macro_rules | `(tactic| walk_at "ci") => `(tactic| first | assumption | (show (0 : Int) < _; first | decide | (with_reducible omega)) | exact ⟨by decide, by decide⟩ | exact .inl ⟨by decide, by decide⟩ | exact .inr ⟨by decide, by decide⟩)
local macro_rules | `(tactic| walk_at "ln") => `(tactic| first | (with_reducible assumption) | (with_reducible omega) | (simp only [List.length_append, List.length_take, List.length_drop, List.length_reverse, List.length_cons, List.length_nil]; with_reducible omega))
local macro_rules | `(tactic| walk_at "rd1") => `(tactic| first
  | (with_reducible refine i_seq ?_) | (with_reducible refine i_asg ?_) | (with_reducible refine i_ret ?_) | (with_reducible refine i_name ?_) | ((with_reducible refine' i_var ?q1 ?_); (case q1 => exact rfl)) | (with_reducible refine i_c ?_) | (with_reducible refine i_op ?_) | (with_reducible refine i_un ?_)
  | (with_reducible refine i_rI0 ?_) | (with_reducible refine i_cb ?_) | (with_reducible refine i_cons ?_) | (with_reducible refine i_nil ?_) | (with_reducible refine i_call ?_) | (with_reducible refine i_if ?_) | (with_reducible refine i_ifE ?_) | (with_reducible refine i_test ?_) | (with_reducible refine i_bl ?_)
  | (with_reducible refine i_and ?_) | (with_reducible refine i_or ?_) | (with_reducible refine i_not ?_) | (with_reducible refine i_lst ?_) | (with_reducible refine i_tup ?_) | (with_reducible refine i_next ?_) | (with_reducible refine i_drop ?_) | (with_reducible refine i_sub ?_)
  | (with_reducible refine i_bm ?_) | (with_reducible refine i_sl ?_) | (with_reducible refine i_part ?_) | (with_reducible refine i_nopart ?_) | (with_reducible refine i_exI ?_) | (with_reducible refine i_chain ?_) | ((with_reducible refine' i_aug ?q1 ?_); (case q1 => exact rfl)) | (with_reducible refine i_ip ?_)
  | (with_reducible refine i_par ?_) | (with_reducible refine i_pair ?_) | (with_reducible refine i_andV ?_) | (with_reducible refine i_orV ?_) | (with_reducible refine i_notV ?_) | (with_reducible refine i_m1 ?_) | (with_reducible refine i_str ?_)
  | (with_reducible refine iteF ?_) | (with_reducible refine iteT ?_) | (with_reducible refine iteNT ?_) | (with_reducible refine iteNF ?_) | (with_reducible refine i_tyS ?_) | (with_reducible refine i_tB ?_) | (with_reducible refine i_retN ?_) | (with_reducible refine i_par3 ?_) | (with_reducible refine i_trip ?_) | (with_reducible refine i_gCons ?_) | (with_reducible refine i_gNil ?_) | (with_reducible refine i_lstRg ?_) | (with_reducible refine i_rg1 ?_)
  | (with_reducible refine i_lc ?_) | (with_reducible refine i_for ?_) | (with_reducible refine i_iList ?_) | (with_reducible refine i_iTup ?_) | (with_reducible refine i_iStr ?_) | (with_reducible refine i_iRng1 ?_) | (with_reducible refine i_iEnS ?_)
  | ((with_reducible refine' i_ixTH ?q1 ?q2 ?_); (case q1 => walk_at "hp"); (case q2 => exact rfl))
  | ((with_reducible refine' i_ixLH ?q1 ?q2 ?_); (case q1 => walk_at "hp"); (case q2 => exact rfl))
  | ((with_reducible refine i_addS ?q1 ?_); (case q1 => walk_at "ln")) | ((with_reducible refine i_lenSS ?q1 ?_); (case q1 => walk_at "ln")) | ((with_reducible refine i_slFrom ?q1 ?q2 ?_); (case q1 => walk_at "ln"); (case q2 => walk_at "ln")) | ((with_reducible refine i_slTo ?q1 ?q2 ?_); (case q1 => walk_at "ln"); (case q2 => walk_at "ln"))
  | ((with_reducible refine' i_tyL ?q1 ?_); (case q1 => walk_at "hp"))
  | ((with_reducible refine' i_gTupH ?q1 ?q2 ?_); (case q1 => walk_at "hp"); (case q2 => exact rfl))
  | (with_reducible refine i_dnew ?_) | (with_reducible refine i_init ?_) | (with_reducible refine i_fst ?_) | (with_reducible refine i_mk ?_) | (with_reducible refine i_raise ?_) | (with_reducible refine i_callS ?_) | (with_reducible refine i_kwS ?_)
  | (with_reducible refine i_revT ?_) | (with_reducible refine i_kw ?_) | ((with_reducible refine' ⟨_, _, rfl, sqT_of ?q1, ?_⟩); (case q1 => walk_at "hp"))
  | (with_reducible refine i_revS ?_) | ((with_reducible refine i_revSS ?q1 ?_); (case q1 => walk_at "ln"))
  | (with_reducible refine i_startS ?_) | (with_reducible refine i_inSg ?_) | (with_reducible refine i_absN ?_) | (with_reducible refine i_min2 ?_) | (with_reducible refine i_max2 ?_) | (with_reducible refine i_min3 ?_) | (with_reducible refine i_intN ?_) | (with_reducible refine i_intNB ?_)
  | ((with_reducible refine' i_lenL ?q1 ?_); (case q1 => walk_at "hp")) | ((with_reducible refine' i_lenT ?q1 ?_); (case q1 => walk_at "hp"))
  | (with_reducible refine i_eqI ?_) | (with_reducible refine i_neI ?_) | (with_reducible refine i_eqS ?_) | (with_reducible refine i_neS ?_) | (with_reducible refine i_isNoI ?_) | (with_reducible refine i_isNoN ?_) | (with_reducible refine i_isNoR ?_)
  | ((with_reducible refine i_pow ?q1 ?q2 ?q3 ?_); (case q1 => decide); (case q2 => decide); (case q3 => (with_reducible omega)))
  | ((with_reducible refine i_rI ?q1 ?_); (case q1 => walk_at "ci"))
  | (with_reducible refine Or.inl ⟨_, rfl, ?_⟩) | (with_reducible refine Or.inr ⟨_, rfl, ?_⟩) | (with_reducible refine ⟨_, rfl, ?_⟩) | (with_reducible refine ⟨_, _, rfl, ?_⟩) | (with_reducible refine ⟨_, _, rfl, rfl, ?_⟩)
  | ((with_reducible refine' ⟨_, _, rfl, Or.inl (sqL_of ?q1), ?_⟩); (case q1 => walk_at "hp")) | ((with_reducible refine' ⟨_, _, rfl, Or.inr (sqT_of ?q1), ?_⟩); (case q1 => walk_at "hp")) | fail)
local macro_rules | `(tactic| walk_at "rd") => `(tactic| repeat' walk_at "rd1")

section
variable {P : Program} {w : World} {K : PySem.W.Frag} {mg : Str → Option Value} {base : Heap} {f : Addr} {fd : FuncData}
theorem ok__law_take (F : Fun K "_law_take" "_law_take" s__law_take f fd) (z : Z mg) : FnOk P w K mg base CX0 1 f fd ["box", "many"] spTake := by
  refine F.ok sc__law_take (fun vs H Q E h => ?_) (fun cdv A outer s H vs Q E hr h => ?_)
  · obtain ⟨b, m, d, rfl, _⟩ := h; rfl
  · obtain ⟨b, m, d, rfl, B, hd, hm, hm2, k⟩ := h
    obtain ⟨n, g, c, e, hb, hn, hc0, hc1, he0, he1⟩ := B.ex
    have L : SqL K H b [.int n, .bl g, .int c, .int e] := .inl (.inl hb)
    refine ⟨_, (pss_cons (ps_if (PW.pt (pw_and (pt_val (pe_ix ix_list (pv 0) pe_int (fun _ _ => rfl))) (pw_and1 (pt_cmpR op_gt (pe_ix ix_list (pv 0) pe_int (fun _ _ => rfl)) pe_int (nomark _)))))
        (pss_cons (ps_set (i := 2) sc__law_take.nd rfl (.inl rfl) (pe_op op_mod (pe_callTy call_intN (by rfl) z.int (by decide +kernel) (pa_cons (pe_ix ix_list (pv 0) pe_int (fun _ _ => rfl)) pa_nil)) (pv 1)))
        (pss_cons (ps_asg (pe_op op_fdivW (pe_ix ix_list (pv 0) pe_int (fun _ _ => rfl)) (pv 1)) (pg_sub (pv 0) pe_int set_list))
        (pss_one (ps_ret (pv 2)))))
        pss_nil)
      (pss_cons (ps_asg (pe_op op_add (pe_ix ix_list (pv 0) pe_int (fun _ _ => rfl)) pe_int) (pg_sub (pv 0) pe_int set_list))
      (pss_cons (ps_set (i := 3) sc__law_take.nd rfl (.inl rfl) (pe_op op_mod (pe_callTy call_intN (by rfl) z.int (by decide +kernel) (pa_cons (pe_op op_pow (pe_op op_add (pe_op op_add (pe_ix ix_list (pv 0) pe_int (fun _ _ => rfl)) (pe_op op_mul pe_int (pe_ix ix_list (pv 0) pe_int (fun _ _ => rfl)))) pe_int) pe_int) pa_nil)) pe_int))
      (pss_one (ps_ret (pe_op op_mod (pe_op op_fdiv (pe_op op_mod (pe_callTy call_intN (by rfl) z.int (by decide +kernel) (pa_cons (pe_op op_pow (pe_op op_add (pe_op op_mul (pv 3) pe_int) (pe_op op_mul pe_int (pe_ix ix_list (pv 0) pe_int (fun _ _ => rfl)))) pe_int) pa_nil)) pe_int) pe_int) (pv 1))))))), ?_⟩
    walk_at "rd"
    refine iteC (fun hg => ?_) (fun hg => ?_)
    · walk_at "rd"
      refine iteB (fun h0 => ?_) (fun h0 => ?_)
      · walk_at "rd"
        refine i_rI (wide_div hm (by omega : m.natAbs < 2 ^ 64) (by decide) (by decide)) ?_
        walk_at "rd"
        refine i_setL hb rfl ?_
        walk_at "rd"
        refine k _ _ (Int.emod_nonneg _ (by omega)) (Int.emod_lt_of_pos _ hm) ⟨n / m, g, c, e, upd_same, Int.ediv_nonneg hn (by omega), hc0, hc1, he0, by omega⟩ SB.upd
      · walk_at "rd"
        refine i_setL hb rfl ?_
        walk_at "rd"
        exact k _ _ (Int.emod_nonneg _ (by omega)) (Int.emod_lt_of_pos _ hm) ⟨n, g, c, e + 1, upd_same, hn, hc0, hc1, by omega, by omega⟩ SB.upd
    · walk_at "rd"
      refine i_setL hb rfl ?_
      walk_at "rd"
      exact k _ _ (Int.emod_nonneg _ (by omega)) (Int.emod_lt_of_pos _ hm) ⟨n, g, c, e + 1, upd_same, hn, hc0, hc1, by omega, by omega⟩ SB.upd
theorem ok__law_box (F : Fun K "_law_box" "_law_box" s__law_box f fd) (z : Z mg) : FnOk P w K mg base CX0 1 f fd ["great"] spBox := by
  refine F.ok sc__law_box (fun vs H Q E h => ?_) (fun cdv A outer s H vs Q E hr h => ?_)
  · obtain ⟨n, rfl, _⟩ := h; rfl
  · obtain ⟨n, rfl, k⟩ := h
    refine ⟨_, (pss_one (ps_ret (pe_lst (pa_cons (pe_callB call_absN (by rfl) z.abs (by decide +kernel) (pa_cons (pv 0) pa_nil)) (pa_cons (pe_cmpR op_ge (pe_callB call_absN (by rfl) z.abs (by decide +kernel) (pa_cons (pv 0) pa_nil)) (pe_op op_pow pe_int pe_int) (nomark _)) (pa_cons (pe_op op_mod (pe_callTy call_intN (by rfl) z.int (by decide +kernel) (pa_cons (pe_callB call_absN (by rfl) z.abs (by decide +kernel) (pa_cons (pv 0) pa_nil)) pa_nil)) pe_int) (pa_cons pe_int pa_nil))))))), ?_⟩
    walk_at "rd"
    have q0 := Int.emod_nonneg (if n < 0 then -n else n) (show (2147483587 : Int) ≠ 0 by decide)
    have q1 : (if n < 0 then -n else n) % 2147483587 < 2147483629 := by have := Int.emod_lt_of_pos (if n < 0 then -n else n) (show (0 : Int) < 2147483587 by decide); omega
    refine ⟨Nat.le_of_ble_eq_true rfl, fun p np => ?_⟩
    refine k p _ np (same_upd np) ⟨_, _, _, _, upd_same, by split <;> omega, q0, q1, by omega, by omega⟩
theorem ok__law_cell (F : Fun K "_law_cell" "_law_cell" s__law_cell f fd) (z : Z mg) : FnOk P w K mg base CX0 1 f fd ["script", "k"] (spCell K) := by
  refine F.ok sc__law_cell (fun vs H Q E h => ?_) (fun cdv A outer s H vs Q E hr h => ?_)
  · obtain ⟨a, ns, j, rfl, _⟩ := h; rfl
  · obtain ⟨a, ns, j, rfl, L, h0, h1, k⟩ := h
    refine ⟨_, (pss_one (ps_ret (pe_ifExp (pt_cmpR op_lt (pv 1) (pe_callB call_lenQ (by rfl) z.len PySem.boot_len (pa_cons (pv 0) pa_nil)) (nomark _)) (pe_ix ix_list (pv 0) (pv 1) (fun _ _ => rfl)) (pe_op op_add (pe_op op_mul pe_int (pv 1)) (pe_op op_mod (pe_callTy call_intN (by rfl) z.int (by decide +kernel) (pa_cons (pe_callB (cr_sum rfl) (by rfl) z.sum (by decide +kernel) (pa_cons (pe_slice sl_list (pv 0) po_none (po_some pe_int)) pa_nil)) pa_nil)) pe_int))))), ?_⟩
    walk_at "rd"
    refine i_lenK L ?_
    walk_at "rd"
    rw [List.length_map]
    refine iteB (fun hlt => ?_) (fun hlt => ?_)
    · walk_at "rd"
      refine i_ixL L (atI_ints h0 hlt) ?_
      exact k _ _ (Same.refl _)
    · walk_at "rd"
      refine ⟨a, _, rfl, L, fun p np => ?_⟩
      walk_at "rd"
      have e : cutV (ns.map V.int) none (some 1) = (ns.take 1).map V.int := by
        unfold cutV
        rw [show HT.sIx (ns.map V.int).length (ns.map V.int).length (some 1) = min 1 (ns.map V.int).length from HT.sIx_nat _ _ 1, HT.sIx_none, List.drop_zero, Nat.sub_zero, List.map_take]
        rcases Nat.le_total 1 (ns.map V.int).length with q | q
        · rw [Nat.min_eq_left q]
        · rw [Nat.min_eq_right q, List.take_length, List.take_of_length_le q]
      rw [e]
      refine ⟨p, ns.take 1, rfl, sqL_of upd_same, ?_⟩
      walk_at "rd"
      exact k _ _ (same_upd np)
end
end Sw
namespace Sw
open PySem PySem.Spec PyProof.Rows L2
local macro_rules | `(tactic| walk_at "hp") => `(tactic| first
  | (with_reducible assumption) | (with_reducible exact upd_same)
  | ((with_reducible refine' upd_old ?q1 ?q2); (case q1 => (with_reducible assumption)); (case q2 => walk_at "hp"))
  | ((with_reducible refine' Same.at ?q1 ?q2); (case q1 => (with_reducible assumption)); (case q2 => walk_at "hp"))
  | ((with_reducible refine' upd_skip ?q1 ?q2); (case q1 => walk_at "ne"); (case q2 => walk_at "hp"))
  | fail)
local macro_rules | `(tactic| walk_at "ne") => `(tactic| first
  | (with_reducible assumption) | (with_reducible exact Ne.symm (by assumption))
  | ((with_reducible refine' ne_of_none ?q1 ?q2); (case q2 => (with_reducible assumption)); (case q1 => walk_at "hp"))
  | fail)
local macro_rules | `(tactic| walk_at "ci") => `(tactic| first | assumption | (show (0 : Int) < _; first | decide | (with_reducible omega)) | exact ⟨by decide, by decide⟩ | exact .inl ⟨by decide, by decide⟩ | exact .inr ⟨by decide, by decide⟩)
local macro_rules | `(tactic| walk_at "ln") => `(tactic| first | (with_reducible assumption) | (with_reducible omega) | (simp only [List.length_append, List.length_take, List.length_drop, List.length_reverse, List.length_cons, List.length_nil]; with_reducible omega))
local macro_rules | `(tactic| walk_at "rd1") => `(tactic| first
  | (with_reducible refine i_seq ?_) | (with_reducible refine i_asg ?_) | (with_reducible refine i_ret ?_) | (with_reducible refine i_name ?_) | ((with_reducible refine' i_var ?q1 ?_); (case q1 => exact rfl)) | (with_reducible refine i_c ?_) | (with_reducible refine i_op ?_) | (with_reducible refine i_un ?_)
  | (with_reducible refine i_rI0 ?_) | (with_reducible refine i_cb ?_) | (with_reducible refine i_cons ?_) | (with_reducible refine i_nil ?_) | (with_reducible refine i_call ?_) | (with_reducible refine i_if ?_) | (with_reducible refine i_ifE ?_) | (with_reducible refine i_test ?_) | (with_reducible refine i_bl ?_)
  | (with_reducible refine i_and ?_) | (with_reducible refine i_or ?_) | (with_reducible refine i_not ?_) | (with_reducible refine i_lst ?_) | (with_reducible refine i_tup ?_) | (with_reducible refine i_next ?_) | (with_reducible refine i_drop ?_) | (with_reducible refine i_sub ?_)
  | (with_reducible refine i_bm ?_) | (with_reducible refine i_sl ?_) | (with_reducible refine i_part ?_) | (with_reducible refine i_nopart ?_) | (with_reducible refine i_exI ?_) | (with_reducible refine i_chain ?_) | ((with_reducible refine' i_aug ?q1 ?_); (case q1 => exact rfl)) | (with_reducible refine i_ip ?_)
  | (with_reducible refine i_par ?_) | (with_reducible refine i_pair ?_) | (with_reducible refine i_andV ?_) | (with_reducible refine i_orV ?_) | (with_reducible refine i_notV ?_) | (with_reducible refine i_m1 ?_) | (with_reducible refine i_str ?_)
  | (with_reducible refine iteF ?_) | (with_reducible refine iteT ?_) | (with_reducible refine iteNT ?_) | (with_reducible refine iteNF ?_) | (with_reducible refine i_tyS ?_) | (with_reducible refine i_tB ?_) | (with_reducible refine i_retN ?_) | (with_reducible refine i_par3 ?_) | (with_reducible refine i_trip ?_) | (with_reducible refine i_gCons ?_) | (with_reducible refine i_gNil ?_) | (with_reducible refine i_lstRg ?_) | (with_reducible refine i_rg1 ?_)
  | (with_reducible refine i_lc ?_) | (with_reducible refine i_for ?_) | (with_reducible refine i_iList ?_) | (with_reducible refine i_iTup ?_) | (with_reducible refine i_iStr ?_) | (with_reducible refine i_iRng1 ?_) | (with_reducible refine i_iEnS ?_)
  | ((with_reducible refine' i_ixTH ?q1 ?q2 ?_); (case q1 => walk_at "hp"); (case q2 => exact rfl))
  | ((with_reducible refine' i_ixLH ?q1 ?q2 ?_); (case q1 => walk_at "hp"); (case q2 => exact rfl))
  | ((with_reducible refine i_addS ?q1 ?_); (case q1 => walk_at "ln")) | ((with_reducible refine i_lenSS ?q1 ?_); (case q1 => walk_at "ln")) | ((with_reducible refine i_slFrom ?q1 ?q2 ?_); (case q1 => walk_at "ln"); (case q2 => walk_at "ln")) | ((with_reducible refine i_slTo ?q1 ?q2 ?_); (case q1 => walk_at "ln"); (case q2 => walk_at "ln"))
  | ((with_reducible refine' i_tyL ?q1 ?_); (case q1 => walk_at "hp"))
  | ((with_reducible refine' i_gTupH ?q1 ?q2 ?_); (case q1 => walk_at "hp"); (case q2 => exact rfl))
  | (with_reducible refine i_dnew ?_) | (with_reducible refine i_init ?_) | (with_reducible refine i_fst ?_) | (with_reducible refine i_mk ?_) | (with_reducible refine i_raise ?_) | (with_reducible refine i_callS ?_) | (with_reducible refine i_kwS ?_)
  | (with_reducible refine i_revT ?_) | (with_reducible refine i_kw ?_) | ((with_reducible refine' ⟨_, _, rfl, sqT_of ?q1, ?_⟩); (case q1 => walk_at "hp"))
  | (with_reducible refine i_revS ?_) | ((with_reducible refine i_revSS ?q1 ?_); (case q1 => walk_at "ln"))
  | (with_reducible refine i_startS ?_) | (with_reducible refine i_inSg ?_) | (with_reducible refine i_absN ?_) | (with_reducible refine i_min2 ?_) | (with_reducible refine i_max2 ?_) | (with_reducible refine i_min3 ?_) | (with_reducible refine i_intN ?_) | (with_reducible refine i_intNB ?_)
  | ((with_reducible refine' i_lenL ?q1 ?_); (case q1 => walk_at "hp")) | ((with_reducible refine' i_lenT ?q1 ?_); (case q1 => walk_at "hp"))
  | (with_reducible refine i_eqI ?_) | (with_reducible refine i_neI ?_) | (with_reducible refine i_eqS ?_) | (with_reducible refine i_neS ?_) | (with_reducible refine i_isNoI ?_) | (with_reducible refine i_isNoN ?_) | (with_reducible refine i_isNoR ?_)
  | ((with_reducible refine i_pow ?q1 ?q2 ?q3 ?_); (case q1 => decide); (case q2 => decide); (case q3 => (with_reducible omega)))
  | ((with_reducible refine i_rI ?q1 ?_); (case q1 => walk_at "ci"))
  | (with_reducible refine Or.inl ⟨_, rfl, ?_⟩) | (with_reducible refine Or.inr ⟨_, rfl, ?_⟩) | (with_reducible refine ⟨_, rfl, ?_⟩) | (with_reducible refine ⟨_, _, rfl, ?_⟩) | (with_reducible refine ⟨_, _, rfl, rfl, ?_⟩)
  | ((with_reducible refine' ⟨_, _, rfl, Or.inl (sqL_of ?q1), ?_⟩); (case q1 => walk_at "hp")) | ((with_reducible refine' ⟨_, _, rfl, Or.inr (sqT_of ?q1), ?_⟩); (case q1 => walk_at "hp")) | fail)
local macro_rules | `(tactic| walk_at "rd") => `(tactic| repeat' walk_at "rd1")

/-! ### the exception that tells a bad value -/
abbrev s_init : Stmt := inClass (topS 2) 0
abbrev n_init : List Str := ["self", "given"]
theorem sc_init : FnScope n_init ["self", "given"] (defScope s_init) := ⟨rfl, rfl, rfl, by decide +kernel, rfl, by decide +kernel, by decide +kernel⟩
section
variable {P : Program} {w : World} {K : PySem.W.Frag} {mg : Str → Option Value} {base : Heap} {f : Addr} {fd : FuncData}
theorem ok_init {B : Addr} (F : Fun K "__init__" "InvalidText.__init__" s_init f fd) (o : Over K mg B) : FnOk P w K mg base CX0 1 f fd ["self", "given"] (spInit K) := by
  refine F.ok sc_init (fun vs H Q E h => ?_) (fun cdv A outer s H vs Q E hr h => ?_)
  · obtain ⟨a, C, v, rfl, _⟩ := h; rfl
  · obtain ⟨a, C, v, rfl, ha, T, no, k⟩ := h
    refine ⟨_, (pss_cons (ps_expr (ps_init (by rfl) o.hm o.ga o.ty o.rd o.fi (pa_cons (pv 0) (pa_cons pe_str pa_nil))))
      (pss_one (ps_fst (pv 0) (pv 1)))), ?_⟩
    walk_at "rd"
    refine ⟨a, C, _, rfl, by simp, T, ha, ?_⟩
    walk_at "rd"
    exact ⟨a, C, rfl, T, no, ha, fun dx n ne => k dx n ne⟩
end
end Sw
namespace Sw
open PySem PySem.Spec PyProof.Rows L2
local macro_rules | `(tactic| walk_at "hp") => `(tactic| first
  | (with_reducible assumption) | (with_reducible exact upd_same)
  | ((with_reducible refine' upd_old ?q1 ?q2); (case q1 => (with_reducible assumption)); (case q2 => walk_at "hp"))
  | ((with_reducible refine' Same.at ?q1 ?q2); (case q1 => (with_reducible assumption)); (case q2 => walk_at "hp"))
  | ((with_reducible refine' upd_skip ?q1 ?q2); (case q1 => walk_at "ne"); (case q2 => walk_at "hp"))
  | fail)
local macro_rules | `(tactic| walk_at "ne") => `(tactic| first
  | (with_reducible assumption) | (with_reducible exact Ne.symm (by assumption))
  | ((with_reducible refine' ne_of_none ?q1 ?q2); (case q2 => (with_reducible assumption)); (case q1 => walk_at "hp"))
  | fail)
local macro_rules | `(tactic| walk_at "ci") => `(tactic| first | assumption | (show (0 : Int) < _; first | decide | (with_reducible omega)) | exact ⟨by decide, by decide⟩ | exact .inl ⟨by decide, by decide⟩ | exact .inr ⟨by decide, by decide⟩)
local macro_rules | `(tactic| walk_at "ln") => `(tactic| first | (with_reducible assumption) | (with_reducible omega) | (simp only [List.length_append, List.length_take, List.length_drop, List.length_reverse, List.length_cons, List.length_nil]; with_reducible omega))
local macro_rules | `(tactic| walk_at "rd1") => `(tactic| first
  | (with_reducible refine i_seq ?_) | (with_reducible refine i_asg ?_) | (with_reducible refine i_ret ?_) | (with_reducible refine i_name ?_) | ((with_reducible refine' i_var ?q1 ?_); (case q1 => exact rfl)) | (with_reducible refine i_c ?_) | (with_reducible refine i_op ?_) | (with_reducible refine i_un ?_)
  | (with_reducible refine i_rI0 ?_) | (with_reducible refine i_cb ?_) | (with_reducible refine i_cons ?_) | (with_reducible refine i_nil ?_) | (with_reducible refine i_call ?_) | (with_reducible refine i_if ?_) | (with_reducible refine i_ifE ?_) | (with_reducible refine i_test ?_) | (with_reducible refine i_bl ?_)
  | (with_reducible refine i_and ?_) | (with_reducible refine i_or ?_) | (with_reducible refine i_not ?_) | (with_reducible refine i_lst ?_) | (with_reducible refine i_tup ?_) | (with_reducible refine i_next ?_) | (with_reducible refine i_drop ?_) | (with_reducible refine i_sub ?_)
  | (with_reducible refine i_bm ?_) | (with_reducible refine i_sl ?_) | (with_reducible refine i_part ?_) | (with_reducible refine i_nopart ?_) | (with_reducible refine i_exI ?_) | (with_reducible refine i_chain ?_) | ((with_reducible refine' i_aug ?q1 ?_); (case q1 => exact rfl)) | (with_reducible refine i_ip ?_)
  | (with_reducible refine i_par ?_) | (with_reducible refine i_pair ?_) | (with_reducible refine i_andV ?_) | (with_reducible refine i_orV ?_) | (with_reducible refine i_notV ?_) | (with_reducible refine i_m1 ?_) | (with_reducible refine i_str ?_)
  | (with_reducible refine iteF ?_) | (with_reducible refine iteT ?_) | (with_reducible refine iteNT ?_) | (with_reducible refine iteNF ?_) | (with_reducible refine i_tyS ?_) | (with_reducible refine i_tB ?_) | (with_reducible refine i_retN ?_) | (with_reducible refine i_par3 ?_) | (with_reducible refine i_trip ?_) | (with_reducible refine i_gCons ?_) | (with_reducible refine i_gNil ?_) | (with_reducible refine i_lstRg ?_) | (with_reducible refine i_rg1 ?_)
  | (with_reducible refine i_lc ?_) | (with_reducible refine i_for ?_) | (with_reducible refine i_iList ?_) | (with_reducible refine i_iTup ?_) | (with_reducible refine i_iStr ?_) | (with_reducible refine i_iRng1 ?_) | (with_reducible refine i_iEnS ?_)
  | ((with_reducible refine' i_ixTH ?q1 ?q2 ?_); (case q1 => walk_at "hp"); (case q2 => exact rfl))
  | ((with_reducible refine' i_ixLH ?q1 ?q2 ?_); (case q1 => walk_at "hp"); (case q2 => exact rfl))
  | ((with_reducible refine i_addS ?q1 ?_); (case q1 => walk_at "ln")) | ((with_reducible refine i_lenSS ?q1 ?_); (case q1 => walk_at "ln")) | ((with_reducible refine i_slFrom ?q1 ?q2 ?_); (case q1 => walk_at "ln"); (case q2 => walk_at "ln")) | ((with_reducible refine i_slTo ?q1 ?q2 ?_); (case q1 => walk_at "ln"); (case q2 => walk_at "ln"))
  | ((with_reducible refine' i_tyL ?q1 ?_); (case q1 => walk_at "hp"))
  | ((with_reducible refine' i_gTupH ?q1 ?q2 ?_); (case q1 => walk_at "hp"); (case q2 => exact rfl))
  | (with_reducible refine i_dnew ?_) | (with_reducible refine i_init ?_) | (with_reducible refine i_fst ?_) | (with_reducible refine i_mk ?_) | (with_reducible refine i_raise ?_) | (with_reducible refine i_callS ?_) | (with_reducible refine i_kwS ?_)
  | (with_reducible refine i_revT ?_) | (with_reducible refine i_kw ?_) | ((with_reducible refine' ⟨_, _, rfl, sqT_of ?q1, ?_⟩); (case q1 => walk_at "hp"))
  | (with_reducible refine i_revS ?_) | ((with_reducible refine i_revSS ?q1 ?_); (case q1 => walk_at "ln"))
  | (with_reducible refine i_startS ?_) | (with_reducible refine i_inSg ?_) | (with_reducible refine i_absN ?_) | (with_reducible refine i_min2 ?_) | (with_reducible refine i_max2 ?_) | (with_reducible refine i_min3 ?_) | (with_reducible refine i_intN ?_) | (with_reducible refine i_intNB ?_)
  | ((with_reducible refine' i_lenL ?q1 ?_); (case q1 => walk_at "hp")) | ((with_reducible refine' i_lenT ?q1 ?_); (case q1 => walk_at "hp"))
  | (with_reducible refine i_eqI ?_) | (with_reducible refine i_neI ?_) | (with_reducible refine i_eqS ?_) | (with_reducible refine i_neS ?_) | (with_reducible refine i_isNoI ?_) | (with_reducible refine i_isNoN ?_) | (with_reducible refine i_isNoR ?_)
  | ((with_reducible refine i_pow ?q1 ?q2 ?q3 ?_); (case q1 => decide); (case q2 => decide); (case q3 => (with_reducible omega)))
  | ((with_reducible refine i_rI ?q1 ?_); (case q1 => walk_at "ci"))
  | (with_reducible refine Or.inl ⟨_, rfl, ?_⟩) | (with_reducible refine Or.inr ⟨_, rfl, ?_⟩) | (with_reducible refine ⟨_, rfl, ?_⟩) | (with_reducible refine ⟨_, _, rfl, ?_⟩) | (with_reducible refine ⟨_, _, rfl, rfl, ?_⟩)
  | ((with_reducible refine' ⟨_, _, rfl, Or.inl (sqL_of ?q1), ?_⟩); (case q1 => walk_at "hp")) | ((with_reducible refine' ⟨_, _, rfl, Or.inr (sqT_of ?q1), ?_⟩); (case q1 => walk_at "hp")) | fail)
local macro_rules | `(tactic| walk_at "rd") => `(tactic| repeat' walk_at "rd1")

/-- is_text(value) -/
def spIsText (K : PySem.W.Frag) : Sp := fun vs H Q _ => ∃ x, vs = [x] ∧ ((∃ l, x = .str (S l) ∧ l.length ≤ 100000 ∧ ∀ H', Same H H' → Q (.bl (azB l)) H') ∨
  (∃ t, TyX K H x t ∧ PySem.W.kitOne K t (.type "str") = some false ∧ Q (.bl false) H))
/-- check_text(text), of a text -/
def spCheckText : Sp := fun vs H Q _ => ∃ l, vs = [.str (S l)] ∧ l.length ≤ 100000 ∧ azB l = true ∧ ∀ H', Same H H' → Q .non H'
section
variable {P : Program} {w : World} {K : PySem.W.Frag} {mg : Str → Option Value} {base : Heap} {f : Addr} {fd : FuncData}
theorem ok_is_text (F : Fun K "is_text" "is_text" s_is_text f fd) (z : Z mg) {t : Tok} (g_LETTERS : mg "LETTERS" = some (.str (("abcdefghijklmnopqrstuvwxyz" : Str)) t)) : FnOk P w K mg base CX0 1 f fd ["value"] (spIsText K) := by
  refine F.ok sc_is_text (fun vs H Q E h => ?_) (fun cdv A outer s H vs Q E hr h => ?_)
  · obtain ⟨x, rfl, _⟩ := h; rfl
  · obtain ⟨x, rfl, h⟩ := h
    refine ⟨_, (pss_one (ps_ret (pe_and (pe_callB call_isi (by rfl) z.isinstance (by decide +kernel) (pa_cons (pv 0) (pa_cons (pe_bltn (v := .ty "str") (by rfl) z.str (by decide +kernel) rfl) pa_nil))) (pe_one (pe_callB (cr_all rfl) (by rfl) z.all (by decide +kernel) (pa_cons (pe_lc (own := [("letter", 1)]) (g := gName 1) (tt := tYes) rfl sc_is_text.nd (pi_str (pv 0)) (blkOk_by (own := [("letter", 1)]) (N := n_is_text) (sc := defScope s_is_text) (by decide +kernel)) (fun _ _ _ _ _ => (pg_name (i := 1) sc_is_text.nd rfl (.inl rfl))) (fun _ _ _ _ _ => pts_nil) (fun _ _ _ _ _ => (pe_cmpR op_inSg (pv 1) (pe_glob (v := .str ("abcdefghijklmnopqrstuvwxyz" : Str)) rfl g_LETTERS ⟨_, rfl⟩) rfl))) pa_nil)))))), ?_⟩
    walk_at "rd"
    rcases h with ⟨l, rfl, hl, k⟩ | ⟨t, ty, kt, k⟩
    · refine i_isi true (.base (.str _)) (kit_ty (by decide +kernel)) ?_
      walk_at "rd"
      refine go_map walk_S (fun i => V.bl (decide (97 ≤ l.getD i 0 ∧ l.getD i 0 ≤ 122))) (by omega) (fun _ _ => trivial) (fun i x H2 H3 hi s2 y R hR => ?_) mono_name (fun p H2 np s2 e2 => ?_)
      · obtain ⟨rfl, c, hc, rfl⟩ := y
        have ec : l.getD i 0 = c := by rw [List.getD_eq_getElem?_getD, hc]; rfl
        walk_at "rd"
        refine ⟨rfl, ?_⟩
        walk_at "rd"
        rw [az_in, ← ec]
        exact hR _ (Same.refl _)
      · walk_at "rd"
        have e3 : H2 p = some (.lst (((List.range l.length).map fun i => decide (97 ≤ l.getD i 0 ∧ l.getD i 0 ≤ 122)).map V.bl)) := by
          rw [e2, List.map_map]
          rfl
        refine i_all e3 ?_
        rw [range_map_get l _ (fun c => decide (97 ≤ c ∧ c ≤ 122)) (fun i x hx => by rw [List.getD_eq_getElem?_getD, hx]; rfl), List.all_map]
        exact k _ s2
    · refine i_isi false ty kt ?_
      walk_at "rd"
      exact k
theorem ok_check_text (F : Fun K "check_text" "check_text" s_check_text f fd) (c_is_text : Cal P w K mg base "is_text" ["value"] 1 (spIsText K)) : FnOk P w K mg base CX0 2 f fd ["text"] spCheckText := by
  refine F.ok sc_check_text (fun vs H Q E h => ?_) (fun cdv A outer s H vs Q E hr h => ?_)
  · obtain ⟨l, rfl, _⟩ := h; rfl
  · obtain ⟨l, rfl, hl, ha, k⟩ := h
    refine ⟨_, (pss_one (ps_if (pt_not (pt_val (pe_cal c_is_text hr (pa_cons (pv 0) pa_nil))))
        (pss_one ps_never)
        pss_nil)), ?_⟩
    walk_at "rd"
    refine ⟨_, rfl, .inl ⟨l, rfl, hl, fun H' s' => ?_⟩⟩
    rw [ha]
    walk_at "rd"
    exact k _ s'
end
end Sw
namespace Sw
open PySem PySem.Spec PyProof.Rows L2
local macro_rules | `(tactic| walk_at "hp") => `(tactic| first
  | (with_reducible assumption) | (with_reducible exact upd_same)
  | ((with_reducible refine' upd_old ?q1 ?q2); (case q1 => (with_reducible assumption)); (case q2 => walk_at "hp"))
  | ((with_reducible refine' Same.at ?q1 ?q2); (case q1 => (with_reducible assumption)); (case q2 => walk_at "hp"))
  | ((with_reducible refine' upd_skip ?q1 ?q2); (case q1 => walk_at "ne"); (case q2 => walk_at "hp"))
  | fail)
local macro_rules | `(tactic| walk_at "ne") => `(tactic| first
  | (with_reducible assumption) | (with_reducible exact Ne.symm (by assumption))
  | ((with_reducible refine' ne_of_none ?q1 ?q2); (case q2 => (with_reducible assumption)); (case q1 => walk_at "hp"))
  | fail)
local macro_rules | `(tactic| walk_at "ci") => `(tactic| first | assumption | (show (0 : Int) < _; first | decide | (with_reducible omega)) | exact ⟨by decide, by decide⟩ | exact .inl ⟨by decide, by decide⟩ | exact .inr ⟨by decide, by decide⟩)
local macro_rules | `(tactic| walk_at "ln") => `(tactic| first | (with_reducible assumption) | (with_reducible omega) | (simp only [List.length_append, List.length_take, List.length_drop, List.length_reverse, List.length_cons, List.length_nil]; with_reducible omega))
local macro_rules | `(tactic| walk_at "rd1") => `(tactic| first
  | (with_reducible refine i_seq ?_) | (with_reducible refine i_asg ?_) | (with_reducible refine i_ret ?_) | (with_reducible refine i_name ?_) | ((with_reducible refine' i_var ?q1 ?_); (case q1 => exact rfl)) | (with_reducible refine i_c ?_) | (with_reducible refine i_op ?_) | (with_reducible refine i_un ?_)
  | (with_reducible refine i_rI0 ?_) | (with_reducible refine i_cb ?_) | (with_reducible refine i_cons ?_) | (with_reducible refine i_nil ?_) | (with_reducible refine i_call ?_) | (with_reducible refine i_if ?_) | (with_reducible refine i_ifE ?_) | (with_reducible refine i_test ?_) | (with_reducible refine i_bl ?_)
  | (with_reducible refine i_and ?_) | (with_reducible refine i_or ?_) | (with_reducible refine i_not ?_) | (with_reducible refine i_lst ?_) | (with_reducible refine i_tup ?_) | (with_reducible refine i_next ?_) | (with_reducible refine i_drop ?_) | (with_reducible refine i_sub ?_)
  | (with_reducible refine i_bm ?_) | (with_reducible refine i_sl ?_) | (with_reducible refine i_part ?_) | (with_reducible refine i_nopart ?_) | (with_reducible refine i_exI ?_) | (with_reducible refine i_chain ?_) | ((with_reducible refine' i_aug ?q1 ?_); (case q1 => exact rfl)) | (with_reducible refine i_ip ?_)
  | (with_reducible refine i_par ?_) | (with_reducible refine i_pair ?_) | (with_reducible refine i_andV ?_) | (with_reducible refine i_orV ?_) | (with_reducible refine i_notV ?_) | (with_reducible refine i_m1 ?_) | (with_reducible refine i_str ?_)
  | (with_reducible refine iteF ?_) | (with_reducible refine iteT ?_) | (with_reducible refine iteNT ?_) | (with_reducible refine iteNF ?_) | (with_reducible refine i_tyS ?_) | (with_reducible refine i_tB ?_) | (with_reducible refine i_retN ?_) | (with_reducible refine i_par3 ?_) | (with_reducible refine i_trip ?_) | (with_reducible refine i_gCons ?_) | (with_reducible refine i_gNil ?_) | (with_reducible refine i_lstRg ?_) | (with_reducible refine i_rg1 ?_)
  | (with_reducible refine i_lc ?_) | (with_reducible refine i_for ?_) | (with_reducible refine i_iList ?_) | (with_reducible refine i_iTup ?_) | (with_reducible refine i_iStr ?_) | (with_reducible refine i_iRng1 ?_) | (with_reducible refine i_iEnS ?_)
  | ((with_reducible refine' i_ixTH ?q1 ?q2 ?_); (case q1 => walk_at "hp"); (case q2 => exact rfl))
  | ((with_reducible refine' i_ixLH ?q1 ?q2 ?_); (case q1 => walk_at "hp"); (case q2 => exact rfl))
  | ((with_reducible refine i_addS ?q1 ?_); (case q1 => walk_at "ln")) | ((with_reducible refine i_lenSS ?q1 ?_); (case q1 => walk_at "ln")) | ((with_reducible refine i_slFrom ?q1 ?q2 ?_); (case q1 => walk_at "ln"); (case q2 => walk_at "ln")) | ((with_reducible refine i_slTo ?q1 ?q2 ?_); (case q1 => walk_at "ln"); (case q2 => walk_at "ln"))
  | ((with_reducible refine' i_tyL ?q1 ?_); (case q1 => walk_at "hp"))
  | ((with_reducible refine' i_gTupH ?q1 ?q2 ?_); (case q1 => walk_at "hp"); (case q2 => exact rfl))
  | (with_reducible refine i_dnew ?_) | (with_reducible refine i_init ?_) | (with_reducible refine i_fst ?_) | (with_reducible refine i_mk ?_) | (with_reducible refine i_raise ?_) | (with_reducible refine i_callS ?_) | (with_reducible refine i_kwS ?_)
  | (with_reducible refine i_revT ?_) | (with_reducible refine i_kw ?_) | ((with_reducible refine' ⟨_, _, rfl, sqT_of ?q1, ?_⟩); (case q1 => walk_at "hp"))
  | (with_reducible refine i_revS ?_) | ((with_reducible refine i_revSS ?q1 ?_); (case q1 => walk_at "ln"))
  | (with_reducible refine i_startS ?_) | (with_reducible refine i_inSg ?_) | (with_reducible refine i_absN ?_) | (with_reducible refine i_min2 ?_) | (with_reducible refine i_max2 ?_) | (with_reducible refine i_min3 ?_) | (with_reducible refine i_intN ?_) | (with_reducible refine i_intNB ?_)
  | ((with_reducible refine' i_lenL ?q1 ?_); (case q1 => walk_at "hp")) | ((with_reducible refine' i_lenT ?q1 ?_); (case q1 => walk_at "hp"))
  | (with_reducible refine i_eqI ?_) | (with_reducible refine i_neI ?_) | (with_reducible refine i_eqS ?_) | (with_reducible refine i_neS ?_) | (with_reducible refine i_isNoI ?_) | (with_reducible refine i_isNoN ?_) | (with_reducible refine i_isNoR ?_)
  | ((with_reducible refine i_pow ?q1 ?q2 ?q3 ?_); (case q1 => decide); (case q2 => decide); (case q3 => (with_reducible omega)))
  | ((with_reducible refine i_rI ?q1 ?_); (case q1 => walk_at "ci"))
  | (with_reducible refine Or.inl ⟨_, rfl, ?_⟩) | (with_reducible refine Or.inr ⟨_, rfl, ?_⟩) | (with_reducible refine ⟨_, rfl, ?_⟩) | (with_reducible refine ⟨_, _, rfl, ?_⟩) | (with_reducible refine ⟨_, _, rfl, rfl, ?_⟩)
  | ((with_reducible refine' ⟨_, _, rfl, Or.inl (sqL_of ?q1), ?_⟩); (case q1 => walk_at "hp")) | ((with_reducible refine' ⟨_, _, rfl, Or.inr (sqT_of ?q1), ?_⟩); (case q1 => walk_at "hp")) | fail)
local macro_rules | `(tactic| walk_at "rd") => `(tactic| repeat' walk_at "rd1")

theorem eqV_S (a b : List Nat) : eqV (.str (S a)) (.str (S b)) = decide (V.str (S a) = .str (S b)) := by
  show (S a == S b) = _
  rw [S_dec]
  by_cases c : a = b
  · rw [c, decide_eq_true rfl, beq_self_eq_true]
  · rw [decide_eq_false c, beq_eq_false_iff_ne]
    exact fun q => c (S_inj.mp q)
/-- whether is_text says yes -/
def IsT (K : PySem.W.Frag) (H : Hp) (v : V) (b : Bool) : Prop := (∃ l, v = .str (S l) ∧ l.length ≤ 100000 ∧ b = azB l) ∨ (∃ t, TyX K H v t ∧ PySem.W.kitOne K t (.type "str") = some false ∧ b = false)
theorem TyX.same {K : PySem.W.Frag} {H H' : Hp} {v : V} {t : Value} (s : Same H H') (h : TyX K H v t) : TyX K H' v t := by
  cases h with
  | base b =>
    cases b with
    | non => exact .base .non
    | bl x => exact .base (.bl x)
    | int i => exact .base (.int i)
    | str x => exact .base (.str x)
    | flt x => exact .base (.flt x)
    | lst e => exact .base (.lst (s _ _ e))
    | frz e => exact .base (.frz (s _ _ e))
    | tup e => exact .base (.tup (s _ _ e))
    | dK e => exact .base (.dK (s _ _ e))
    | dT e => exact .base (.dT (s _ _ e))
    | ins e cl ha hn htk hm => exact .base (.ins (s _ _ e) cl ha hn htk hm)
  | byt b => exact .byt b
  | set e => exact .set (s _ _ e)
  | kList e c => exact .kList e c
  | kTuple e c => exact .kTuple e c
  | kDict e c => exact .kDict e c
  | fTuple e => exact .fTuple (s _ _ e)
  | fDict e => exact .fDict (s _ _ e)
theorem IsT.same {K : PySem.W.Frag} {H H' : Hp} {v : V} {b : Bool} (s : Same H H') (h : IsT K H v b) : IsT K H' v b := by
  rcases h with h | ⟨t, h1, h2⟩
  · exact .inl h
  · exact .inr ⟨t, TyX.same s h1, h2⟩
/-- is_text(value) -/
def spIsT (K : PySem.W.Frag) : Sp := fun vs H Q _ => ∃ x b, vs = [x] ∧ IsT K H x b ∧ ∀ H', Same H H' → Q (.bl b) H'
/-- check_text(text) -/
def spCheckX (K : PySem.W.Frag) (C : Addr) : Sp := fun vs H Q E => ∃ x b, vs = [x] ∧ IsT K H x b ∧ (b = true → ∀ H', Same H H' → Q .non H') ∧
  (b = false → ∀ dx H', H dx = none → Same H H' → H' dx = some (.xd [("given", x)]) → E (.ref C) (some dx) H')
theorem IsT.yes {K : PySem.W.Frag} {H : Hp} {v : V} (h : IsT K H v true) : ∃ l, v = .str (S l) ∧ l.length ≤ 100000 ∧ azB l = true := by
  rcases h with ⟨l, h1, h2, h3⟩ | ⟨t, h1, h2, h3⟩
  · exact ⟨l, h1, h2, h3.symm⟩
  · cases h3
section
variable {P : Program} {w : World} {K : PySem.W.Frag} {mg : Str → Option Value} {base : Heap} {f : Addr} {fd : FuncData}
theorem ok_is_t (O : FnOk P w K mg base CX0 1 f fd ["value"] (spIsText K)) : FnOk P w K mg base CX0 1 f fd ["value"] (spIsT K) := by
  refine O.imp fun vs H Q E h => ?_
  obtain ⟨x, b, rfl, hb, k⟩ := h
  rcases hb with ⟨l, rfl, hl, rfl⟩ | ⟨t, h1, h2, rfl⟩
  · exact ⟨_, rfl, .inl ⟨l, rfl, hl, k⟩⟩
  · exact ⟨_, rfl, .inr ⟨t, h1, h2, k _ (Same.refl _)⟩⟩
theorem ok_checkX {C : Addr} (F : Fun K "check_text" "check_text" s_check_text f fd) (xt : XT P w K mg base C) (c_is_text : Cal P w K mg base "is_text" ["value"] 1 (spIsT K)) : FnOk P w K mg base (L2.CX P w) 3 f fd ["text"] (spCheckX K C) := by
  refine Sw.Fun.okX F sc_check_text (fun vs H Q E h => ?_) (fun cdv A outer s H vs Q E hr h tk => ?_)
  · obtain ⟨x, b, rfl, _⟩ := h; rfl
  · obtain ⟨x, b, rfl, hb, k1, k2⟩ := h
    refine ⟨_, (pss_one (ps_if (pt_not (pt_val (pe_cal c_is_text hr (pa_cons (pv 0) pa_nil))))
        (pss_one (ps_rs rfl tk (pmk_T xt hr (pv 0))))
        pss_nil)), ?_⟩
    walk_at "rd"
    refine ⟨x, b, rfl, hb, fun H1 s1 => ?_⟩
    walk_at "rd"
    refine iteNC (fun e => ?_) (fun e => ?_)
    · walk_at "rd"
      refine i_thrown xt.T xt.no (fun dx nx => ?_)
      exact k2 e dx _ (s1.free nx) (s1.trans (same_upd nx)) upd_same
    · walk_at "rd"
      exact k1 e _ s1
end
end Sw
namespace Sw
open PySem PySem.Spec PyProof.Rows L2
local macro_rules | `(tactic| walk_at "hp") => `(tactic| first
  | (with_reducible assumption) | (with_reducible exact upd_same)
  | ((with_reducible refine' upd_old ?q1 ?q2); (case q1 => (with_reducible assumption)); (case q2 => walk_at "hp"))
  | ((with_reducible refine' Same.at ?q1 ?q2); (case q1 => (with_reducible assumption)); (case q2 => walk_at "hp"))
  | ((with_reducible refine' upd_skip ?q1 ?q2); (case q1 => walk_at "ne"); (case q2 => walk_at "hp"))
  | fail)
local macro_rules | `(tactic| walk_at "ne") => `(tactic| first
  | (with_reducible assumption) | (with_reducible exact Ne.symm (by assumption))
  | ((with_reducible refine' ne_of_none ?q1 ?q2); (case q2 => (with_reducible assumption)); (case q1 => walk_at "hp"))
  | fail)
local macro_rules | `(tactic| walk_at "ci") => `(tactic| first | assumption | (show (0 : Int) < _; first | decide | (with_reducible omega)) | exact ⟨by decide, by decide⟩ | exact .inl ⟨by decide, by decide⟩ | exact .inr ⟨by decide, by decide⟩)
local macro_rules | `(tactic| walk_at "ln") => `(tactic| first | (with_reducible assumption) | (with_reducible omega) | (simp only [List.length_append, List.length_take, List.length_drop, List.length_reverse, List.length_cons, List.length_nil]; with_reducible omega))
local macro_rules | `(tactic| walk_at "rd1") => `(tactic| first
  | (with_reducible refine i_seq ?_) | (with_reducible refine i_asg ?_) | (with_reducible refine i_ret ?_) | (with_reducible refine i_name ?_) | ((with_reducible refine' i_var ?q1 ?_); (case q1 => exact rfl)) | (with_reducible refine i_c ?_) | (with_reducible refine i_op ?_) | (with_reducible refine i_un ?_)
  | (with_reducible refine i_rI0 ?_) | (with_reducible refine i_cb ?_) | (with_reducible refine i_cons ?_) | (with_reducible refine i_nil ?_) | (with_reducible refine i_call ?_) | (with_reducible refine i_if ?_) | (with_reducible refine i_ifE ?_) | (with_reducible refine i_test ?_) | (with_reducible refine i_bl ?_)
  | (with_reducible refine i_and ?_) | (with_reducible refine i_or ?_) | (with_reducible refine i_not ?_) | (with_reducible refine i_lst ?_) | (with_reducible refine i_tup ?_) | (with_reducible refine i_next ?_) | (with_reducible refine i_drop ?_) | (with_reducible refine i_sub ?_)
  | (with_reducible refine i_bm ?_) | (with_reducible refine i_sl ?_) | (with_reducible refine i_part ?_) | (with_reducible refine i_nopart ?_) | (with_reducible refine i_exI ?_) | (with_reducible refine i_chain ?_) | ((with_reducible refine' i_aug ?q1 ?_); (case q1 => exact rfl)) | (with_reducible refine i_ip ?_)
  | (with_reducible refine i_par ?_) | (with_reducible refine i_pair ?_) | (with_reducible refine i_andV ?_) | (with_reducible refine i_orV ?_) | (with_reducible refine i_notV ?_) | (with_reducible refine i_m1 ?_) | (with_reducible refine i_str ?_)
  | (with_reducible refine iteF ?_) | (with_reducible refine iteT ?_) | (with_reducible refine iteNT ?_) | (with_reducible refine iteNF ?_) | (with_reducible refine i_tyS ?_) | (with_reducible refine i_tB ?_) | (with_reducible refine i_retN ?_) | (with_reducible refine i_par3 ?_) | (with_reducible refine i_trip ?_) | (with_reducible refine i_gCons ?_) | (with_reducible refine i_gNil ?_) | (with_reducible refine i_lstRg ?_) | (with_reducible refine i_rg1 ?_)
  | (with_reducible refine i_lc ?_) | (with_reducible refine i_for ?_) | (with_reducible refine i_iList ?_) | (with_reducible refine i_iTup ?_) | (with_reducible refine i_iStr ?_) | (with_reducible refine i_iRng1 ?_) | (with_reducible refine i_iEnS ?_)
  | ((with_reducible refine' i_ixTH ?q1 ?q2 ?_); (case q1 => walk_at "hp"); (case q2 => exact rfl))
  | ((with_reducible refine' i_ixLH ?q1 ?q2 ?_); (case q1 => walk_at "hp"); (case q2 => exact rfl))
  | ((with_reducible refine i_addS ?q1 ?_); (case q1 => walk_at "ln")) | ((with_reducible refine i_lenSS ?q1 ?_); (case q1 => walk_at "ln")) | ((with_reducible refine i_slFrom ?q1 ?q2 ?_); (case q1 => walk_at "ln"); (case q2 => walk_at "ln")) | ((with_reducible refine i_slTo ?q1 ?q2 ?_); (case q1 => walk_at "ln"); (case q2 => walk_at "ln"))
  | ((with_reducible refine' i_tyL ?q1 ?_); (case q1 => walk_at "hp"))
  | ((with_reducible refine' i_gTupH ?q1 ?q2 ?_); (case q1 => walk_at "hp"); (case q2 => exact rfl))
  | (with_reducible refine i_dnew ?_) | (with_reducible refine i_init ?_) | (with_reducible refine i_fst ?_) | (with_reducible refine i_mk ?_) | (with_reducible refine i_raise ?_) | (with_reducible refine i_callS ?_) | (with_reducible refine i_kwS ?_)
  | (with_reducible refine i_revT ?_) | (with_reducible refine i_kw ?_) | ((with_reducible refine' ⟨_, _, rfl, sqT_of ?q1, ?_⟩); (case q1 => walk_at "hp"))
  | (with_reducible refine i_revS ?_) | ((with_reducible refine i_revSS ?q1 ?_); (case q1 => walk_at "ln"))
  | (with_reducible refine i_startS ?_) | (with_reducible refine i_inSg ?_) | (with_reducible refine i_absN ?_) | (with_reducible refine i_min2 ?_) | (with_reducible refine i_max2 ?_) | (with_reducible refine i_min3 ?_) | (with_reducible refine i_intN ?_) | (with_reducible refine i_intNB ?_)
  | ((with_reducible refine' i_lenL ?q1 ?_); (case q1 => walk_at "hp")) | ((with_reducible refine' i_lenT ?q1 ?_); (case q1 => walk_at "hp"))
  | (with_reducible refine i_eqI ?_) | (with_reducible refine i_neI ?_) | (with_reducible refine i_eqS ?_) | (with_reducible refine i_neS ?_) | (with_reducible refine i_isNoI ?_) | (with_reducible refine i_isNoN ?_) | (with_reducible refine i_isNoR ?_)
  | ((with_reducible refine i_pow ?q1 ?q2 ?q3 ?_); (case q1 => decide); (case q2 => decide); (case q3 => (with_reducible omega)))
  | ((with_reducible refine i_rI ?q1 ?_); (case q1 => walk_at "ci"))
  | (with_reducible refine Or.inl ⟨_, rfl, ?_⟩) | (with_reducible refine Or.inr ⟨_, rfl, ?_⟩) | (with_reducible refine ⟨_, rfl, ?_⟩) | (with_reducible refine ⟨_, _, rfl, ?_⟩) | (with_reducible refine ⟨_, _, rfl, rfl, ?_⟩)
  | ((with_reducible refine' ⟨_, _, rfl, Or.inl (sqL_of ?q1), ?_⟩); (case q1 => walk_at "hp")) | ((with_reducible refine' ⟨_, _, rfl, Or.inr (sqT_of ?q1), ?_⟩); (case q1 => walk_at "hp")) | fail)
local macro_rules | `(tactic| walk_at "rd") => `(tactic| repeat' walk_at "rd1")

open Lev (lev)
/-! ### the table -/
def row (a b : List Nat) (i : Nat) : List Int := (List.range (b.length + 1)).map fun k => (lev (a.take i) (b.take k) : Int)
theorem row_zero (a b : List Nat) : row a b 0 = (List.range (b.length + 1)).map fun (k : Nat) => (k : Int) := by
  unfold row
  refine List.map_congr_left fun k hk => ?_
  have hk := List.mem_range.mp hk
  rw [List.take_zero, Lev.lev_nil, List.length_take, Nat.min_eq_left (by omega)]
theorem row_len (a b : List Nat) (i : Nat) : (row a b i).length = b.length + 1 := by simp [row]
theorem row_get {a b : List Nat} {i k : Nat} (h : k < b.length + 1) : (row a b i)[k]? = some (lev (a.take i) (b.take k) : Int) := by
  simp [row, List.getElem?_map, List.getElem?_range h]
theorem row_next2 {a b : List Nat} {i k x y : Nat} (hx : a[i]? = some x) (hy : b[k]? = some y) :
    min (min ((lev (a.take i) (b.take k) : Nat) + (if (!decide ([x] = [y])) = true then (1 : Int) else 0)) ((lev (a.take i) (b.take (k + 1)) : Nat) + 1)) ((lev (a.take (i + 1)) (b.take k) : Nat) + 1) = ((lev (a.take (i + 1)) (b.take (k + 1)) : Nat) : Int) := by
  rw [Lev.take_snoc hx, Lev.take_snoc hy, Lev.lev_snoc]
  by_cases c : x = y
  · subst c; simp; omega
  · simp [c]; omega
/-- next_row(row, letter, other) -/
def spNext : Sp := fun vs H Q _ => ∃ (r : Addr) (x : Nat) (a b : List Nat) (i : Nat), vs = [.ref r, .str (S [x]), .str (S b)] ∧ H r = some (.lst ((row a b i).map V.int)) ∧ a[i]? = some x ∧ b.length ≤ 2000 ∧
  ∀ p H', Same H H' → H p = none → H' p = some (.lst ((row a b (i + 1)).map V.int)) → Q (.ref p) H'
/-- addresses of rows -/
def RowsAt (H : Hp) (a b : List Nat) (rs : List Addr) : Prop := ∀ (i : Nat) (r : Addr), rs[i]? = some r → H r = some (.lst ((row a b i).map V.int))
/-- table_of(one, other) -/
def spTab : Sp := fun vs H Q _ => ∃ (a b : List Nat), vs = [.str (S a), .str (S b)] ∧ a.length ≤ 2000 ∧ b.length ≤ 2000 ∧
  ∀ p rs H', Same H H' → H p = none → H' p = some (.lst (rs.map V.ref)) → rs.length = a.length + 1 → RowsAt H' a b rs → Q (.ref p) H'
section
variable {P : Program} {w : World} {K : PySem.W.Frag} {mg : Str → Option Value} {base : Heap} {f : Addr} {fd : FuncData}
theorem ok_next (F : Fun K "next_row" "next_row" s_next_row f fd) (z : Z mg) : FnOk P w K mg base CX0 1 f fd ["row", "letter", "other"] spNext := by
  refine F.ok sc_next_row (fun vs H Q E h => ?_) (fun cdv A outer s H vs Q E hr h => ?_)
  · obtain ⟨r, x, a, b, i, rfl, _⟩ := h; rfl
  · obtain ⟨r, x, a, b, i, rfl, hrow, hx, hb, k⟩ := h
    refine ⟨_, (pss_cons (ps_set (i := 3) sc_next_row.nd rfl (.inl rfl) (pe_lst (pa_cons (pe_op op_add (pe_ix ix_list (pv 0) pe_int (fun _ _ => rfl)) pe_int) pa_nil)))
      (pss_cons (ps_for PassesOwn.never rfl (pi_enumS (by rfl) z.enumerate (pa_cons (pv 2) pa_nil)) (pg_tup rfl (pgs_cons (pg_name (i := 4) sc_next_row.nd rfl (.inl rfl)) (pgs_cons (pg_name (i := 5) sc_next_row.nd rfl (.inl rfl)) pgs_nil)))
        (pss_one (ps_expr (pe_bm PySem.F.plainAttrs_list PySem.F.slot_list_append PySem.F.type_list_append mt_append (pv 3) (pa_cons (pe_callB (call_min3N rfl) (by rfl) z.min_ (by decide +kernel) (pa_cons (pe_op op_add (pe_ix ix_list (pv 0) (pv 4) (fun _ _ => rfl)) (pe_callTy call_intN (by rfl) z.int (by decide +kernel) (pa_cons (pe_cmpR op_ne (pv 1) (pv 5) (nomark _)) pa_nil))) (pa_cons (pe_op op_add (pe_ix ix_list (pv 0) (pe_op op_add (pv 4) pe_int) (fun _ _ => rfl)) pe_int) (pa_cons (pe_op op_add (pe_ix ix_list (pv 3) (pv 4) (fun _ _ => rfl)) pe_int) pa_nil)))) pa_nil)))))
      (pss_one (ps_ret (pv 3))))), ?_⟩
    walk_at "rd"
    refine i_ixLI hrow (by omega) (row_get (by omega)) ?_
    walk_at "rd"
    refine ⟨Nat.le_of_ble_eq_true rfl, fun p np => ?_⟩
    walk_at "rd"
    have t1 : ∀ j, j ≤ b.length → ((row a b (i + 1)).take (j + 1)).length = j + 1 := fun j hj => by rw [List.length_take, row_len]; omega
    have hi : i < a.length := by
      rcases Nat.lt_or_ge i a.length with q | q
      · exact q
      · rw [List.getElem?_eq_none q] at hx; cases hx
    have e0 : [V.int ((lev (a.take i) (b.take (Int.toNat 0)) : Nat) + 1)] = ((row a b (i + 1)).take 1).map V.int := by
      have g0 : (row a b (i + 1))[0]? = some ((i : Int) + 1) := by
        rw [row_get (by omega), List.take_zero, Lev.lev_nil', List.length_take, Nat.min_eq_left (by omega)]; rfl
      rw [List.take_one, List.head?_eq_getElem?, g0, show Int.toNat 0 = 0 from rfl, List.take_zero, Lev.lev_nil', List.length_take, Nat.min_eq_left (by omega)]; rfl
    refine go_for walk_eS (fun j σ H2 => ∃ (u4 u5 : Option V), σ = [some (.ref r), some (.str (S [x])), some (.str (S b)), some (.ref p), u4, u5] ∧ Same H H2 ∧ H2 p = some (.lst (((row a b (i + 1)).take (j + 1)).map V.int)))
      ⟨none, none, rfl, same_upd np, by rw [upd_same, e0]⟩ (fun _ _ _ _ _ => trivial) (fun j v σ H2 H3 hj h y => ?_) (fun σ H2 h => ?_)
    · obtain ⟨u4, u5, rfl, s2, ep⟩ := h
      obtain ⟨T, c, rfl, nT, hc, rfl⟩ := y
      have s3 := s2.trans (same_upd (o := .tup [.int (j : Nat), .str (S [c])]) nT)
      have ep3 := (same_upd (o := .tup [.int (j : Nat), .str (S [c])]) nT) _ _ ep
      have er3 := s3 _ _ hrow
      have eT : upd H2 T (.tup [.int (j : Nat), .str (S [c])]) T = some (.tup [.int (j : Nat), .str (S [c])]) := upd_same
      generalize upd H2 T (.tup [.int (j : Nat), .str (S [c])]) = H4 at *
      have l1 := t1 j (by omega)
      walk_at "rd"
      refine i_ixLI er3 (by omega) (row_get (by omega)) ?_
      walk_at "rd"
      refine i_ixLI er3 (by omega) (row_get (by omega)) ?_
      walk_at "rd"
      refine i_ixLI ep3 (by omega) (by rw [Int.toNat_natCast, List.getElem?_take, if_pos (by omega)]; exact row_get (by omega)) ?_
      walk_at "rd"
      rw [Int.toNat_natCast, show ((j : Int) + 1).toNat = j + 1 by omega, row_next2 hx hc]
      refine i_appI ep3 (by omega) ?_
      refine ⟨_, _, rfl, Same.set_new s3 np, ?_⟩
      rw [upd_same, List.take_add_one (i := j + 1), row_get (by omega)]; rfl
    · obtain ⟨u4, u5, rfl, s2, ep⟩ := h
      walk_at "rd"
      rw [List.take_of_length_le (by rw [row_len]; omega)] at ep
      exact k _ _ s2 np ep
theorem ok_tab (F : Fun K "table_of" "table_of" s_table_of f fd) (z : Z mg) (c_next_row : Cal P w K mg base "next_row" ["row", "letter", "other"] 1 spNext) : FnOk P w K mg base CX0 2 f fd ["one", "other"] spTab := by
  refine F.ok sc_table_of (fun vs H Q E h => ?_) (fun cdv A outer s H vs Q E hr h => ?_)
  · obtain ⟨a, b, rfl, _⟩ := h; rfl
  · obtain ⟨a, b, rfl, ha, hb, k⟩ := h
    refine ⟨_, (pss_cons (ps_set (i := 2) sc_table_of.nd rfl (.inl rfl) (pe_lst (pa_cons (pe_listRg rfl (by rfl) z.list (prg_1 (by rfl) z.range (pe_op op_add (pe_callB call_lenS (by rfl) z.len PySem.boot_len (pa_cons (pv 1) pa_nil)) pe_int))) pa_nil)))
      (pss_cons (ps_for PassesOwn.never rfl (pi_str (pv 0)) (pg_name (i := 3) sc_table_of.nd rfl (.inl rfl))
        (pss_one (ps_expr (pe_bm PySem.F.plainAttrs_list PySem.F.slot_list_append PySem.F.type_list_append mt_append (pv 2) (pa_cons (pe_cal c_next_row hr (pa_cons (pe_ix ix_list (pv 2) (pe_un un_neg pe_int) (fun _ _ => rfl)) (pa_cons (pv 3) (pa_cons (pv 1) pa_nil)))) pa_nil)))))
      (pss_one (ps_ret (pv 2))))), ?_⟩
    walk_at "rd"
    refine ⟨by unfold RgOk; refine ⟨by omega, by omega, by omega, by omega, by omega⟩, fun q nq => ?_⟩
    walk_at "rd"
    refine ⟨Nat.le_of_ble_eq_true rfl, fun p np => ?_⟩
    have s1 := same_upd (o := .lst (rgV 0 ((b.length : Int) + 1))) nq
    have e0 : rgV 0 ((b.length : Int) + 1) = (row a b 0).map V.int := by
      rw [row_zero, List.map_map]
      unfold rgV
      rw [show ((b.length : Int) + 1 - 0).toNat = b.length + 1 by omega]
      refine List.map_congr_left fun k _ => ?_
      rw [Int.zero_add]; rfl
    have np0 := np
    have npH : H p = none := s1.free np
    have eq1 : upd (upd H q (.lst (rgV 0 ((b.length : Int) + 1)))) p (.lst [V.ref q]) q = some (.lst ((row a b 0).map V.int)) := by
      rw [← e0]; exact (same_upd np) _ _ upd_same
    have s2 := s1.trans (same_upd (o := .lst [V.ref q]) np)
    have ep : upd (upd H q (.lst (rgV 0 ((b.length : Int) + 1)))) p (.lst [V.ref q]) p = some (.lst [V.ref q]) := upd_same
    generalize upd (upd H q (.lst (rgV 0 ((b.length : Int) + 1)))) p (.lst [V.ref q]) = H1 at *
    walk_at "rd"
    refine go_for walk_S (fun i σ H2 => ∃ (u3 : Option V) (rs : List Addr), σ = [some (.str (S a)), some (.str (S b)), some (.ref p), u3] ∧ Same H H2 ∧ H2 p = some (.lst (rs.map V.ref)) ∧ rs.length = i + 1 ∧ RowsAt H2 a b rs)
      ⟨none, [q], rfl, s2, ep, rfl, fun j r hr => by
        rcases j with _ | j
        · cases hr; exact eq1
        · cases hr⟩ (fun _ _ _ _ _ => trivial) (fun i v σ H2 H3 hi h y => ?_) (fun σ H2 h => ?_)
    · obtain ⟨u3, rs, rfl, s3, ep3, hl, hrs⟩ := h
      obtain ⟨rfl, c, hc, rfl⟩ := y
      have hlast : rs[i]? = some rs[i] := List.getElem?_eq_getElem (by omega)
      walk_at "rd"
      refine i_rU ?_
      refine i_ixLH ep3 (atI_neg1 (by rw [List.length_map, hl]) (by rw [List.getElem?_map, hlast]; rfl)) ?_
      walk_at "rd"
      refine ⟨_, c, a, b, i, rfl, hrs _ _ hlast, hc, hb, fun r H4 s4 nr er => ?_⟩
      walk_at "rd"
      have ep4 := s4 _ _ ep3
      refine i_append ep4 (by rw [List.length_map, hl]; exact Nat.lt_of_le_of_lt (m := 2001) (by omega) (Nat.le_of_ble_eq_true rfl)) ?_
      have s5 := s3.trans s4
      refine ⟨_, rs ++ [r], rfl, Same.set_new s5 npH, by rw [upd_same, List.map_append]; rfl, by rw [List.length_append, hl]; rfl, fun j x hx => ?_⟩
      have ne : ∀ (x : Addr) (k : Nat), H4 x = some (.lst ((row a b k).map V.int)) → x ≠ p := fun x k hx e => by
        subst e
        rw [ep4] at hx
        have h2 := congrArg (fun o => match o with | some (HO.lst xs) => xs[0]? | _ => none) hx
        simp only [List.getElem?_map, row_get (show 0 < b.length + 1 by omega), show rs[0]? = some rs[0] from List.getElem?_eq_getElem (by omega)] at h2
        cases h2
      rw [List.getElem?_append, hl] at hx
      split at hx
      · have := s4 _ _ (hrs j x hx)
        rw [upd_ne (ne _ _ this)]; exact this
      · obtain rfl : j = i + 1 := by
          rcases Nat.lt_or_ge (i + 1) j with q | q
          · rw [List.getElem?_eq_none (by rw [List.length_singleton]; omega)] at hx; cases hx
          · omega
        rw [Nat.sub_self] at hx
        cases hx
        rw [upd_ne (ne _ _ er)]; exact er
    · obtain ⟨u3, rs, rfl, s3, ep3, hl, hrs⟩ := h
      walk_at "rd"
      exact k p rs _ s3 npH ep3 hl hrs
end
end Sw
namespace Sw
open PySem PySem.Spec PyProof.Rows L2
local macro_rules | `(tactic| walk_at "hp") => `(tactic| first
  | (with_reducible assumption) | (with_reducible exact upd_same)
  | ((with_reducible refine' upd_old ?q1 ?q2); (case q1 => (with_reducible assumption)); (case q2 => walk_at "hp"))
  | ((with_reducible refine' Same.at ?q1 ?q2); (case q1 => (with_reducible assumption)); (case q2 => walk_at "hp"))
  | ((with_reducible refine' upd_skip ?q1 ?q2); (case q1 => walk_at "ne"); (case q2 => walk_at "hp"))
  | fail)
local macro_rules | `(tactic| walk_at "ne") => `(tactic| first
  | (with_reducible assumption) | (with_reducible exact Ne.symm (by assumption))
  | ((with_reducible refine' ne_of_none ?q1 ?q2); (case q2 => (with_reducible assumption)); (case q1 => walk_at "hp"))
  | fail)
local macro_rules | `(tactic| walk_at "ci") => `(tactic| first | assumption | (show (0 : Int) < _; first | decide | (with_reducible omega)) | exact ⟨by decide, by decide⟩ | exact .inl ⟨by decide, by decide⟩ | exact .inr ⟨by decide, by decide⟩)
local macro_rules | `(tactic| walk_at "ln") => `(tactic| first | (with_reducible assumption) | (with_reducible omega) | (simp only [List.length_append, List.length_take, List.length_drop, List.length_reverse, List.length_cons, List.length_nil]; with_reducible omega))
local macro_rules | `(tactic| walk_at "rd1") => `(tactic| first
  | (with_reducible refine i_seq ?_) | (with_reducible refine i_asg ?_) | (with_reducible refine i_ret ?_) | (with_reducible refine i_name ?_) | ((with_reducible refine' i_var ?q1 ?_); (case q1 => exact rfl)) | (with_reducible refine i_c ?_) | (with_reducible refine i_op ?_) | (with_reducible refine i_un ?_)
  | (with_reducible refine i_rI0 ?_) | (with_reducible refine i_cb ?_) | (with_reducible refine i_cons ?_) | (with_reducible refine i_nil ?_) | (with_reducible refine i_call ?_) | (with_reducible refine i_if ?_) | (with_reducible refine i_ifE ?_) | (with_reducible refine i_test ?_) | (with_reducible refine i_bl ?_)
  | (with_reducible refine i_and ?_) | (with_reducible refine i_or ?_) | (with_reducible refine i_not ?_) | (with_reducible refine i_lstM ?_) | (with_reducible refine i_lstLM ?_) | (with_reducible refine i_tupM ?_) | (with_reducible refine i_next ?_) | (with_reducible refine i_drop ?_) | (with_reducible refine i_sub ?_)
  | (with_reducible refine i_bm ?_) | (with_reducible refine i_sl ?_) | (with_reducible refine i_part ?_) | (with_reducible refine i_nopart ?_) | (with_reducible refine i_exI ?_) | (with_reducible refine i_chain ?_) | ((with_reducible refine' i_aug ?q1 ?_); (case q1 => exact rfl)) | (with_reducible refine i_ip ?_)
  | (with_reducible refine i_par ?_) | (with_reducible refine i_pair ?_) | (with_reducible refine i_andV ?_) | (with_reducible refine i_orV ?_) | (with_reducible refine i_notV ?_) | (with_reducible refine i_m1 ?_) | (with_reducible refine i_str ?_)
  | (with_reducible refine iteF ?_) | (with_reducible refine iteT ?_) | (with_reducible refine iteNT ?_) | (with_reducible refine iteNF ?_) | (with_reducible refine i_tyS ?_) | (with_reducible refine i_tB ?_) | (with_reducible refine i_retN ?_) | (with_reducible refine i_par3 ?_) | (with_reducible refine i_trip ?_) | (with_reducible refine i_gCons ?_) | (with_reducible refine i_gNil ?_) | (with_reducible refine i_lstRg ?_) | (with_reducible refine i_rg1 ?_)
  | (with_reducible refine i_lc ?_) | (with_reducible refine i_for ?_) | (with_reducible refine i_iList ?_) | (with_reducible refine i_iTup ?_) | (with_reducible refine i_iStr ?_) | (with_reducible refine i_iRng1 ?_) | (with_reducible refine i_iEnS ?_)
  | ((with_reducible refine' i_ixTH ?q1 ?q2 ?_); (case q1 => walk_at "hp"); (case q2 => exact rfl))
  | ((with_reducible refine' i_ixLH ?q1 ?q2 ?_); (case q1 => walk_at "hp"); (case q2 => exact rfl))
  | ((with_reducible refine i_addS ?q1 ?_); (case q1 => walk_at "ln")) | ((with_reducible refine i_lenSS ?q1 ?_); (case q1 => walk_at "ln")) | ((with_reducible refine i_slFrom ?q1 ?q2 ?_); (case q1 => walk_at "ln"); (case q2 => walk_at "ln")) | ((with_reducible refine i_slTo ?q1 ?q2 ?_); (case q1 => walk_at "ln"); (case q2 => walk_at "ln"))
  | ((with_reducible refine' i_tyL ?q1 ?_); (case q1 => walk_at "hp"))
  | ((with_reducible refine' i_gTupH ?q1 ?q2 ?_); (case q1 => walk_at "hp"); (case q2 => exact rfl))
  | (with_reducible refine i_dnewM ?_) | (with_reducible refine i_init ?_) | (with_reducible refine i_fst ?_) | (with_reducible refine i_mk ?_) | (with_reducible refine i_raise ?_) | (with_reducible refine i_callS ?_) | (with_reducible refine i_kwS ?_)
  | (with_reducible refine i_revT ?_) | (with_reducible refine i_kw ?_) | ((with_reducible refine' ⟨_, _, rfl, sqT_of ?q1, ?_⟩); (case q1 => walk_at "hp"))
  | (with_reducible refine i_revS ?_) | ((with_reducible refine i_revSS ?q1 ?_); (case q1 => walk_at "ln"))
  | (with_reducible refine i_startS ?_) | (with_reducible refine i_inSg ?_) | (with_reducible refine i_absN ?_) | (with_reducible refine i_min2 ?_) | (with_reducible refine i_max2 ?_) | (with_reducible refine i_min3 ?_) | (with_reducible refine i_intN ?_) | (with_reducible refine i_intNB ?_)
  | ((with_reducible refine' i_lenL ?q1 ?_); (case q1 => walk_at "hp")) | ((with_reducible refine' i_lenT ?q1 ?_); (case q1 => walk_at "hp"))
  | (with_reducible refine i_eqI ?_) | (with_reducible refine i_neI ?_) | (with_reducible refine i_eqS ?_) | (with_reducible refine i_neS ?_) | (with_reducible refine i_isNoI ?_) | (with_reducible refine i_isNoN ?_) | (with_reducible refine i_isNoR ?_)
  | ((with_reducible refine i_pow ?q1 ?q2 ?q3 ?_); (case q1 => decide); (case q2 => decide); (case q3 => (with_reducible omega)))
  | ((with_reducible refine i_rI ?q1 ?_); (case q1 => walk_at "ci"))
  | (with_reducible refine Or.inl ⟨_, rfl, ?_⟩) | (with_reducible refine Or.inr ⟨_, rfl, ?_⟩) | (with_reducible refine ⟨_, rfl, ?_⟩) | (with_reducible refine ⟨_, _, rfl, ?_⟩) | (with_reducible refine ⟨_, _, rfl, rfl, ?_⟩)
  | ((with_reducible refine' ⟨_, _, rfl, Or.inl (sqL_of ?q1), ?_⟩); (case q1 => walk_at "hp")) | ((with_reducible refine' ⟨_, _, rfl, Or.inr (sqT_of ?q1), ?_⟩); (case q1 => walk_at "hp")) | fail)
local macro_rules | `(tactic| walk_at "rd") => `(tactic| repeat' walk_at "rd1")

open Lev (lev)
/-- last_step(rows, one, other, ends) -/
def spStep (K : PySem.W.Frag) : Sp := fun vs H Q _ => ∃ (p e : Addr) (rs : List Addr) (a b : List Nat) (i j : Nat), vs = [.ref p, .str (S a), .str (S b), .ref e] ∧ H p = some (.lst (rs.map V.ref)) ∧ rs.length = a.length + 1 ∧ RowsAt H a b rs ∧
  H e = some (.tup [.int (i : Nat), .int (j : Nat)]) ∧ i ≤ a.length ∧ j ≤ b.length ∧ ¬ (i = 0 ∧ j = 0) ∧ a.length ≤ 2000 ∧ b.length ≤ 2000 ∧
  ∀ q u T i' j' s H', Same H H' → Tr a b i j s i' j' → De K H' (.ref T) s.dat → H' q = some (.tup [.ref T, .ref u]) → H' u = some (.tup [.int (i' : Nat), .int (j' : Nat)]) → Q (.ref q) H'
/-- first the value of a condition, then the rest -/
theorem cond_and {c0 : Bool} {t : L2.St → Hp → (Bool → Hp → Prop) → Prop} {σ : L2.St} {H : Hp} {R : Bool → Hp → Prop} (P : Bool → Prop) (h1 : ∀ R' : Bool → Hp → Prop, (∀ c, P c → R' c H) → if c0 = true then t σ H R' else R' false H) (h2 : ∀ c, P c → R c H) : if c0 = true then t σ H R else R false H := h1 R h2
theorem nW1 {a b : List Nat} {i j : Nat} (h : i = 0 ∨ j = 0) : false = true ↔ Way1 a b i j :=
  ⟨fun q => (by cases q), fun ⟨_, _, _, _, q1, q2, _⟩ => by omega⟩
section
variable {P : Program} {w : World} {K : PySem.W.Frag} {mg : Str → Option Value} {base : Heap} {f : Addr} {fd : FuncData}
theorem ok_step (F : Fun K "last_step" "last_step" s_last_step f fd) (z : Z mg) : FnOk P w K mg base CX0 1 f fd ["rows", "one", "other", "ends"] (spStep K) := by
  refine F.ok sc_last_step (fun vs H Q E h => ?_) (fun cdv A outer s H vs Q E hr h => ?_)
  · obtain ⟨p, e, rs, a, b, i, j, rfl, _⟩ := h; rfl
  · obtain ⟨p, e, rs, a, b, i, j, rfl, hp, hl, hrs, he, hi, hj, ne, ha, hb, k⟩ := h
    refine ⟨_, (pss_cons (ps_asg (pv 3) (pg_tup rfl (pgs_cons (pg_name (i := 4) sc_last_step.nd rfl (.inl rfl)) (pgs_cons (pg_name (i := 5) sc_last_step.nd rfl (.inl rfl)) pgs_nil))))
      (pss_cons (ps_if (PW.pt (pw_and (pt_cmpR op_gt (pv 4) pe_int (nomark _)) (pw_and (pt_cmpR op_gt (pv 5) pe_int (nomark _)) (pw_and1 (pt_cmpR op_eq (pe_op op_add (pe_ix ix_list (pe_ix ix_list (pv 0) (pe_op op_sub (pv 4) pe_int) (fun _ _ => rfl)) (pe_op op_sub (pv 5) pe_int) (fun _ _ => rfl)) (pe_callTy call_intN (by rfl) z.int (by decide +kernel) (pa_cons (pe_cmpR op_ne (pe_ix ix_S (pv 1) (pe_op op_sub (pv 4) pe_int) (fun _ _ => rfl)) (pe_ix ix_S (pv 2) (pe_op op_sub (pv 5) pe_int) (fun _ _ => rfl)) (nomark _)) pa_nil))) (pe_ix ix_list (pe_ix ix_list (pv 0) (pv 4) (fun _ _ => rfl)) (pv 5) (fun _ _ => rfl)) (nomark _))))))
        (pss_cons (ps_set (i := 6) sc_last_step.nd rfl (.inl rfl) (pe_cmpR op_eq (pe_ix ix_S (pv 1) (pe_op op_sub (pv 4) pe_int) (fun _ _ => rfl)) (pe_ix ix_S (pv 2) (pe_op op_sub (pv 5) pe_int) (fun _ _ => rfl)) (nomark _)))
        (pss_cons (ps_set (i := 7) sc_last_step.nd rfl (.inl rfl) (pe_ifExp (pt_val (pv 6)) (pe_tup (pa_cons (pe_strS (l := [107, 101, 101, 112]) (by decide +kernel)) (pa_cons (pe_ix ix_S (pv 1) (pe_op op_sub (pv 4) pe_int) (fun _ _ => rfl)) pa_nil))) (pe_tup (pa_cons (pe_strS (l := [115, 119, 97, 112]) (by decide +kernel)) (pa_cons (pe_ix ix_S (pv 1) (pe_op op_sub (pv 4) pe_int) (fun _ _ => rfl)) (pa_cons (pe_ix ix_S (pv 2) (pe_op op_sub (pv 5) pe_int) (fun _ _ => rfl)) pa_nil))))))
        (pss_one (ps_ret (pe_tup (pa_cons (pv 7) (pa_cons (pe_tup (pa_cons (pe_op op_sub (pv 4) pe_int) (pa_cons (pe_op op_sub (pv 5) pe_int) pa_nil))) pa_nil)))))))
        pss_nil)
      (pss_cons (ps_if (PW.pt (pw_and (pt_cmpR op_gt (pv 4) pe_int (nomark _)) (pw_and1 (pt_cmpR op_eq (pe_op op_add (pe_ix ix_list (pe_ix ix_list (pv 0) (pe_op op_sub (pv 4) pe_int) (fun _ _ => rfl)) (pv 5) (fun _ _ => rfl)) pe_int) (pe_ix ix_list (pe_ix ix_list (pv 0) (pv 4) (fun _ _ => rfl)) (pv 5) (fun _ _ => rfl)) (nomark _)))))
        (pss_one (ps_ret (pe_tup (pa_cons (pe_tup (pa_cons (pe_strS (l := [100, 114, 111, 112]) (by decide +kernel)) (pa_cons (pe_ix ix_S (pv 1) (pe_op op_sub (pv 4) pe_int) (fun _ _ => rfl)) pa_nil))) (pa_cons (pe_tup (pa_cons (pe_op op_sub (pv 4) pe_int) (pa_cons (pv 5) pa_nil))) pa_nil)))))
        pss_nil)
      (pss_one (ps_ret (pe_tup (pa_cons (pe_tup (pa_cons (pe_strS (l := [97, 100, 100]) (by decide +kernel)) (pa_cons (pe_ix ix_S (pv 2) (pe_op op_sub (pv 5) pe_int) (fun _ _ => rfl)) pa_nil))) (pa_cons (pe_tup (pa_cons (pv 4) (pa_cons (pe_op op_sub (pv 5) pe_int) pa_nil))) pa_nil)))))))), ?_⟩
    walk_at "rd"
    have gr : ∀ k, k < a.length + 1 → rs[k]? = some (rs.getD k 0) := fun k hk => by rw [List.getD_eq_getElem?_getD, List.getElem?_eq_getElem (by omega)]; rfl
    have gv : ∀ k, k < a.length + 1 → (rs.map V.ref)[k]? = some (V.ref (rs.getD k 0)) := fun k hk => by rw [List.getElem?_map, gr k hk]; rfl
    have gc : ∀ k, k < a.length + 1 → H (rs.getD k 0) = some (.lst ((row a b k).map V.int)) := fun k hk => hrs k _ (gr k hk)
    refine cond_and (fun c => c = true ↔ Way1 a b i j) (fun R hR => ?_) (fun c hc => ?_)
    · rcases i with _ | i
      · refine iteF ?_
        exact hR false (nW1 (.inl rfl))
      · rw [decide_eq_true (show (0 : Int) < ((i + 1 : Nat) : Int) by omega)]
        walk_at "rd"
        rcases j with _ | j
        · refine iteF ?_
          exact hR false (nW1 (.inr rfl))
        · rw [decide_eq_true (show (0 : Int) < ((j + 1 : Nat) : Int) by omega)]
          walk_at "rd"
          have hx : a[i]? = some a[i] := List.getElem?_eq_getElem (by omega)
          have hy : b[j]? = some b[j] := List.getElem?_eq_getElem (by omega)
          refine i_ixLv hp (by omega) (by rw [show (((i + 1 : Nat) : Int) - 1 : Int).toNat = i by omega]; exact gv _ (by omega)) ?_
          walk_at "rd"
          refine i_ixLI (gc i (by omega)) (by omega) (by rw [show (((j + 1 : Nat) : Int) - 1 : Int).toNat = j by omega]; exact row_get (by omega)) ?_
          walk_at "rd"
          refine i_ixSI (by omega) (by rw [show (((i + 1 : Nat) : Int) - 1 : Int).toNat = i by omega]; exact hx) (by omega) ?_
          walk_at "rd"
          refine i_ixSI (by omega) (by rw [show (((j + 1 : Nat) : Int) - 1 : Int).toNat = j by omega]; exact hy) (by omega) ?_
          walk_at "rd"
          refine i_ixLv hp (by omega) (by rw [show (((i + 1 : Nat) : Int) : Int).toNat = i + 1 by omega]; exact gv _ (by omega)) ?_
          walk_at "rd"
          refine i_ixLI (gc (i + 1) (by omega)) (by omega) (by rw [show (((j + 1 : Nat) : Int) : Int).toNat = j + 1 by omega]; exact row_get (by omega)) ?_
          walk_at "rd"
          refine hR _ ⟨fun q => ⟨i, j, _, _, rfl, rfl, hx, hy, ?_⟩, fun q => ?_⟩
          · have q := of_decide_eq_true q
            by_cases e : a[i] = b[j]
            · rw [if_pos e]; simp [e] at q; omega
            · rw [if_neg e]; simp [e] at q; omega
          · obtain ⟨i', j', x, y, e1, e2, h1, h2, q⟩ := q
            obtain rfl : i = i' := by omega
            obtain rfl : j = j' := by omega
            rw [hx] at h1; rw [hy] at h2; cases h1; cases h2
            refine decide_eq_true ?_
            by_cases e : a[i] = b[j]
            · rw [if_pos e] at q; simp [e]; omega
            · rw [if_neg e] at q; simp [e]; omega
    · cases c with
      | true =>
        obtain ⟨i, j, x, y, rfl, rfl, hx, hy, e⟩ := hc.mp rfl
        walk_at "rd"
        refine i_ixSI (by omega) (by rw [show (((i + 1 : Nat) : Int) - 1 : Int).toNat = i by omega]; exact hx) (by omega) ?_
        walk_at "rd"
        refine i_ixSI (by omega) (by rw [show (((j + 1 : Nat) : Int) - 1 : Int).toNat = j by omega]; exact hy) (by omega) ?_
        walk_at "rd"
        have hne : ([x] = [y]) = (x = y) := by simp
        by_cases exy : x = y
        · subst exy
          rw [decide_eq_true rfl]
          walk_at "rd"
          refine i_ixSI (by omega) (by rw [show (((i + 1 : Nat) : Int) - 1 : Int).toNat = i by omega]; exact hx) (by omega) ?_
          walk_at "rd"
          refine newT0 (Nat.le_of_ble_eq_true rfl) fun T H1 nT s1 eT => ?_
          walk_at "rd"
          refine newT0 (Nat.le_of_ble_eq_true rfl) fun u H2 nu s2 eu => ?_
          walk_at "rd"
          refine newT0 (Nat.le_of_ble_eq_true rfl) fun q H3 nq s3 eq => ?_
          refine k q u T i j (.keep x) H3 (s1.trans (s2.trans s3)) (.keep hx hy (by rw [if_pos rfl] at e; exact e)) (.tup (sqT_of (s3 _ _ (s2 _ _ eT))) (.cons (.str _) (.cons (.str _) .nil))) eq ?_
          rw [s3 _ _ eu]; congr 4 <;> (congr 1; omega)
        · rw [decide_eq_false fun q => exy (List.cons.inj q).1]
          walk_at "rd"
          refine i_ixSI (by omega) (by rw [show (((i + 1 : Nat) : Int) - 1 : Int).toNat = i by omega]; exact hx) (by omega) ?_
          walk_at "rd"
          refine i_ixSI (by omega) (by rw [show (((j + 1 : Nat) : Int) - 1 : Int).toNat = j by omega]; exact hy) (by omega) ?_
          walk_at "rd"
          refine newT0 (Nat.le_of_ble_eq_true rfl) fun T H1 nT s1 eT => ?_
          walk_at "rd"
          refine newT0 (Nat.le_of_ble_eq_true rfl) fun u H2 nu s2 eu => ?_
          walk_at "rd"
          refine newT0 (Nat.le_of_ble_eq_true rfl) fun q H3 nq s3 eq => ?_
          refine k q u T i j (.swap x y) H3 (s1.trans (s2.trans s3)) (.swap hx hy exy (by rw [if_neg exy] at e; exact e)) (.tup (sqT_of (s3 _ _ (s2 _ _ eT))) (.cons (.str _) (.cons (.str _) (.cons (.str _) .nil)))) eq ?_
          rw [s3 _ _ eu]; congr 4 <;> (congr 1; omega)
      | false =>
        have n1 : ¬ Way1 a b i j := fun q => by cases hc.mpr q
        walk_at "rd"
        refine cond_and (fun c => c = true ↔ Way2 a b i j) (fun R hR => ?_) (fun c hc2 => ?_)
        · walk_at "rd"
          rcases i with _ | i
          · refine iteF ?_
            exact hR false ⟨fun q => (by cases q), fun ⟨_, q1, _⟩ => by omega⟩
          · rw [decide_eq_true (show (0 : Int) < ((i + 1 : Nat) : Int) by omega)]
            walk_at "rd"
            refine i_ixLv hp (by omega) (by rw [show (((i + 1 : Nat) : Int) - 1 : Int).toNat = i by omega]; exact gv _ (by omega)) ?_
            walk_at "rd"
            refine i_ixLI (gc i (by omega)) (by omega) (by rw [show ((j : Int) : Int).toNat = j by omega]; exact row_get (by omega)) ?_
            walk_at "rd"
            refine i_ixLv hp (by omega) (by rw [show (((i + 1 : Nat) : Int) : Int).toNat = i + 1 by omega]; exact gv _ (by omega)) ?_
            walk_at "rd"
            refine i_ixLI (gc (i + 1) (by omega)) (by omega) (by rw [show ((j : Int) : Int).toNat = j by omega]; exact row_get (by omega)) ?_
            walk_at "rd"
            refine hR _ ⟨fun q => ⟨i, rfl, ?_⟩, fun q => decide_eq_true ?_⟩
            · have q := of_decide_eq_true q; omega
            · obtain ⟨i', e1, q⟩ := q
              obtain rfl : i = i' := by omega
              omega
        · cases c with
          | true =>
            obtain ⟨i, rfl, e⟩ := hc2.mp rfl
            walk_at "rd"
            have hx : a[i]? = some a[i] := List.getElem?_eq_getElem (by omega)
            refine i_ixSI (by omega) (by rw [show (((i + 1 : Nat) : Int) - 1 : Int).toNat = i by omega]; exact hx) (by omega) ?_
            walk_at "rd"
            refine newT0 (Nat.le_of_ble_eq_true rfl) fun T H1 nT s1 eT => ?_
            walk_at "rd"
            refine newT0 (Nat.le_of_ble_eq_true rfl) fun u H2 nu s2 eu => ?_
            walk_at "rd"
            refine newT0 (Nat.le_of_ble_eq_true rfl) fun q H3 nq s3 eq => ?_
            refine k q u T i j (.drop a[i]) H3 (s1.trans (s2.trans s3)) (.drop hx e n1) (.tup (sqT_of (s3 _ _ (s2 _ _ eT))) (.cons (.str _) (.cons (.str _) .nil))) eq ?_
            rw [s3 _ _ eu]; congr 4 <;> (congr 1; omega)
          | false =>
            have n2 : ¬ Way2 a b i j := fun q => by cases hc2.mpr q
            walk_at "rd"
            obtain ⟨j, c, rfl, hc, e⟩ := tr_add hi hj ne (fun i' j' x y e1 e2 hx hy q => n1 ⟨i', j', x, y, e1, e2, hx, hy, q⟩) (fun i' e1 q => n2 ⟨i', e1, q⟩)
            refine i_ixSI (by omega) (by rw [show (((j + 1 : Nat) : Int) - 1 : Int).toNat = j by omega]; exact hc) (by omega) ?_
            walk_at "rd"
            refine newT0 (Nat.le_of_ble_eq_true rfl) fun T H1 nT s1 eT => ?_
            walk_at "rd"
            refine newT0 (Nat.le_of_ble_eq_true rfl) fun u H2 nu s2 eu => ?_
            walk_at "rd"
            refine newT0 (Nat.le_of_ble_eq_true rfl) fun q H3 nq s3 eq => ?_
            refine k q u T i j (.add c) H3 (s1.trans (s2.trans s3)) (.add hc e n1 n2) (.tup (sqT_of (s3 _ _ (s2 _ _ eT))) (.cons (.str _) (.cons (.str _) .nil))) eq ?_
            rw [s3 _ _ eu]; congr 4 <;> (congr 1; omega)
end
end Sw
namespace Sw
open PySem PySem.Spec PyProof.Rows L2
local macro_rules | `(tactic| walk_at "hp") => `(tactic| first
  | (with_reducible assumption) | (with_reducible exact upd_same)
  | ((with_reducible refine' upd_old ?q1 ?q2); (case q1 => (with_reducible assumption)); (case q2 => walk_at "hp"))
  | ((with_reducible refine' Same.at ?q1 ?q2); (case q1 => (with_reducible assumption)); (case q2 => walk_at "hp"))
  | ((with_reducible refine' upd_skip ?q1 ?q2); (case q1 => walk_at "ne"); (case q2 => walk_at "hp"))
  | fail)
local macro_rules | `(tactic| walk_at "ne") => `(tactic| first
  | (with_reducible assumption) | (with_reducible exact Ne.symm (by assumption))
  | ((with_reducible refine' ne_of_none ?q1 ?q2); (case q2 => (with_reducible assumption)); (case q1 => walk_at "hp"))
  | fail)
local macro_rules | `(tactic| walk_at "ci") => `(tactic| first | assumption | (show (0 : Int) < _; first | decide | (with_reducible omega)) | exact ⟨by decide, by decide⟩ | exact .inl ⟨by decide, by decide⟩ | exact .inr ⟨by decide, by decide⟩)
local macro_rules | `(tactic| walk_at "ln") => `(tactic| first | (with_reducible assumption) | (with_reducible omega) | (simp only [List.length_append, List.length_take, List.length_drop, List.length_reverse, List.length_cons, List.length_nil]; with_reducible omega))
local macro_rules | `(tactic| walk_at "rd1") => `(tactic| first
  | (with_reducible refine i_seq ?_) | (with_reducible refine i_asg ?_) | (with_reducible refine i_ret ?_) | (with_reducible refine i_name ?_) | ((with_reducible refine' i_var ?q1 ?_); (case q1 => exact rfl)) | (with_reducible refine i_c ?_) | (with_reducible refine i_op ?_) | (with_reducible refine i_un ?_)
  | (with_reducible refine i_rI0 ?_) | (with_reducible refine i_cb ?_) | (with_reducible refine i_cons ?_) | (with_reducible refine i_nil ?_) | (with_reducible refine i_call ?_) | (with_reducible refine i_if ?_) | (with_reducible refine i_ifE ?_) | (with_reducible refine i_test ?_) | (with_reducible refine i_bl ?_)
  | (with_reducible refine i_and ?_) | (with_reducible refine i_or ?_) | (with_reducible refine i_not ?_) | (with_reducible refine i_lstM ?_) | (with_reducible refine i_lstLM ?_) | (with_reducible refine i_tupM ?_) | (with_reducible refine i_next ?_) | (with_reducible refine i_drop ?_) | (with_reducible refine i_sub ?_)
  | (with_reducible refine i_bm ?_) | (with_reducible refine i_sl ?_) | (with_reducible refine i_part ?_) | (with_reducible refine i_nopart ?_) | (with_reducible refine i_exI ?_) | (with_reducible refine i_chain ?_) | ((with_reducible refine' i_aug ?q1 ?_); (case q1 => exact rfl)) | (with_reducible refine i_ip ?_)
  | (with_reducible refine i_par ?_) | (with_reducible refine i_pair ?_) | (with_reducible refine i_andV ?_) | (with_reducible refine i_orV ?_) | (with_reducible refine i_notV ?_) | (with_reducible refine i_m1 ?_) | (with_reducible refine i_str ?_)
  | (with_reducible refine iteF ?_) | (with_reducible refine iteT ?_) | (with_reducible refine iteNT ?_) | (with_reducible refine iteNF ?_) | (with_reducible refine i_tyS ?_) | (with_reducible refine i_tB ?_) | (with_reducible refine i_retN ?_) | (with_reducible refine i_par3 ?_) | (with_reducible refine i_trip ?_) | (with_reducible refine i_gCons ?_) | (with_reducible refine i_gNil ?_) | (with_reducible refine i_lstRg ?_) | (with_reducible refine i_rg1 ?_)
  | (with_reducible refine i_lc ?_) | (with_reducible refine i_for ?_) | (with_reducible refine i_iList ?_) | (with_reducible refine i_iTup ?_) | (with_reducible refine i_iStr ?_) | (with_reducible refine i_iRng1 ?_) | (with_reducible refine i_iEnS ?_)
  | ((with_reducible refine' i_ixTH ?q1 ?q2 ?_); (case q1 => walk_at "hp"); (case q2 => exact rfl))
  | ((with_reducible refine' i_ixLH ?q1 ?q2 ?_); (case q1 => walk_at "hp"); (case q2 => exact rfl))
  | ((with_reducible refine i_addS ?q1 ?_); (case q1 => walk_at "ln")) | ((with_reducible refine i_lenSS ?q1 ?_); (case q1 => walk_at "ln")) | ((with_reducible refine i_slFrom ?q1 ?q2 ?_); (case q1 => walk_at "ln"); (case q2 => walk_at "ln")) | ((with_reducible refine i_slTo ?q1 ?q2 ?_); (case q1 => walk_at "ln"); (case q2 => walk_at "ln"))
  | ((with_reducible refine' i_tyL ?q1 ?_); (case q1 => walk_at "hp"))
  | ((with_reducible refine' i_gTupH ?q1 ?q2 ?_); (case q1 => walk_at "hp"); (case q2 => exact rfl))
  | (with_reducible refine i_dnewM ?_) | (with_reducible refine i_init ?_) | (with_reducible refine i_fst ?_) | (with_reducible refine i_mk ?_) | (with_reducible refine i_raise ?_) | (with_reducible refine i_callS ?_) | (with_reducible refine i_kwS ?_)
  | (with_reducible refine i_revT ?_) | (with_reducible refine i_kw ?_) | ((with_reducible refine' ⟨_, _, rfl, sqT_of ?q1, ?_⟩); (case q1 => walk_at "hp"))
  | (with_reducible refine i_revS ?_) | ((with_reducible refine i_revSS ?q1 ?_); (case q1 => walk_at "ln"))
  | (with_reducible refine i_startS ?_) | (with_reducible refine i_inSg ?_) | (with_reducible refine i_absN ?_) | (with_reducible refine i_min2 ?_) | (with_reducible refine i_max2 ?_) | (with_reducible refine i_min3 ?_) | (with_reducible refine i_intN ?_) | (with_reducible refine i_intNB ?_)
  | ((with_reducible refine' i_lenL ?q1 ?_); (case q1 => walk_at "hp")) | ((with_reducible refine' i_lenT ?q1 ?_); (case q1 => walk_at "hp"))
  | (with_reducible refine i_eqI ?_) | (with_reducible refine i_neI ?_) | (with_reducible refine i_eqS ?_) | (with_reducible refine i_neS ?_) | (with_reducible refine i_isNoI ?_) | (with_reducible refine i_isNoN ?_) | (with_reducible refine i_isNoR ?_)
  | ((with_reducible refine i_pow ?q1 ?q2 ?q3 ?_); (case q1 => decide); (case q2 => decide); (case q3 => (with_reducible omega)))
  | ((with_reducible refine i_rI ?q1 ?_); (case q1 => walk_at "ci"))
  | (with_reducible refine Or.inl ⟨_, rfl, ?_⟩) | (with_reducible refine Or.inr ⟨_, rfl, ?_⟩) | (with_reducible refine ⟨_, rfl, ?_⟩) | (with_reducible refine ⟨_, _, rfl, ?_⟩) | (with_reducible refine ⟨_, _, rfl, rfl, ?_⟩)
  | ((with_reducible refine' ⟨_, _, rfl, Or.inl (sqL_of ?q1), ?_⟩); (case q1 => walk_at "hp")) | ((with_reducible refine' ⟨_, _, rfl, Or.inr (sqT_of ?q1), ?_⟩); (case q1 => walk_at "hp")) | fail)
local macro_rules | `(tactic| walk_at "rd") => `(tactic| repeat' walk_at "rd1")

open Lev (lev)
/-- alignment(one, other) -/
def spAln (K : PySem.W.Frag) (C : Addr) : Sp := fun vs H Q E => ∃ x y b1 b2, vs = [x, y] ∧ IsT K H x b1 ∧ IsT K H y b2 ∧
  (b1 = false → ∀ dx H', H dx = none → Same H H' → H' dx = some (.xd [("given", x)]) → E (.ref C) (some dx) H') ∧
  (b1 = true → b2 = false → ∀ dx H', H dx = none → Same H H' → H' dx = some (.xd [("given", y)]) → E (.ref C) (some dx) H') ∧
  (∀ a b, x = .str (S a) → y = .str (S b) → azB a = true → azB b = true → a.length ≤ 2000 ∧ b.length ≤ 2000 ∧ ∀ p ss H', Same H H' → Run a b a.length b.length [] ss → Aln a b ss → costs ss = lev a b → ss.length ≤ a.length + b.length → De K H' (.ref p) (.tuple (ss.map St.dat)) → Q (.ref p) H')
theorem i_revL {K : PySem.W.Frag} {te : TE} {σ : L2.St} {H : Hp} {Q : VK} (h : te σ H fun x H1 => ∃ a xs, x = .ref a ∧ SqL K H1 a xs ∧ ∀ p, H1 p = none → Q (.ref p) (upd H1 p (.lst xs.reverse))) : tRevL K te σ H Q := h
theorem DeAll.rev {K : PySem.W.Frag} {H : Hp} : ∀ {vs : List V} {ds : List PyData}, DeAll K H vs ds → DeAll K H vs.reverse ds.reverse
  | _, _, .nil => .nil
  | _, _, .cons h1 h2 => by
    rw [List.reverse_cons, List.reverse_cons]
    exact (DeAll.rev h2).app (.cons h1 .nil)
theorem eqv_pair (i j : Nat) : PyData.eqv (.tuple [.int (i : Nat), .int (j : Nat)]) (.tuple [.int 0, .int 0]) = decide (i = 0 ∧ j = 0) := by
  simp only [PyData.eqv, PyData.eqvAll]
  rcases i with _ | i <;> rcases j with _ | j <;> simp <;> omega
theorem sd_pair {i j : Nat} (h : i ≤ 2000) (h2 : j ≤ 2000) : Sd 1 500 (.tuple [.int (i : Nat), .int (j : Nat)]) :=
  (sd_tup' (.cons (sd_int (by omega)) (.cons (sd_int (by omega)) .nil))).mono (by omega) (by omega)
theorem noL_dats (ss : List St) : noLAll (ss.map St.dat) = true := noLAll_iff.mpr fun d hd => by
  obtain ⟨s, _, rfl⟩ := List.mem_map.mp hd
  exact dat_noL s
theorem Found.le {one other : List Nat} {i j : Nat} {ss : List St} (f : Found one other i j ss) : ss.length ≤ one.length + other.length := by have := f.n; omega
section
variable {P : Program} {w : World} {K : PySem.W.Frag} {mg : Str → Option Value} {base : Heap} {f : Addr} {fd : FuncData}
theorem ok_alnX {C : Addr} (F : Fun K "alignment" "alignment" s_alignment f fd) (z : Z mg) (x_check_text : CalX P w K mg base "check_text" ["text"] 3 (spCheckX K C)) (c_table_of : Cal P w K mg base "table_of" ["one", "other"] 2 spTab) (c_last_step : Cal P w K mg base "last_step" ["rows", "one", "other", "ends"] 1 (spStep K)) : FnOk P w K mg base (L2.CX P w) 4 f fd ["one", "other"] (spAln K C) := by
  refine Sw.Fun.okX F sc_alignment (fun vs H Q E h => ?_) (fun cdv A outer s H vs Q E hr h tk => ?_)
  · obtain ⟨x, y, b1, b2, rfl, _⟩ := h; rfl
  · obtain ⟨x, y, b1, b2, rfl, h1, h2, k1, k2, k3⟩ := h
    refine ⟨_, (pss_cons (ps_expr (pe_calX x_check_text hr tk (pa_cons (pv 0) pa_nil)))
      (pss_cons (ps_expr (pe_calX x_check_text hr tk (pa_cons (pv 1) pa_nil)))
      (pss_cons (ps_par3 (i := 2) (j := 3) (l := 4) rfl sc_alignment.nd rfl rfl rfl (by decide) (by decide) (by decide) rfl rfl rfl (pa_cons (pe_cal c_table_of hr (pa_cons (pv 0) (pa_cons (pv 1) pa_nil))) (pa_cons (pe_tup (pa_cons (pe_callB call_lenS (by rfl) z.len PySem.boot_len (pa_cons (pv 0) pa_nil)) (pa_cons (pe_callB call_lenS (by rfl) z.len PySem.boot_len (pa_cons (pv 1) pa_nil)) pa_nil))) (pa_cons (pe_lst pa_nil) pa_nil))) (by rfl))
      (pss_cons (ps_while PassesOwn.leaving (pt_cmpR (op_neD hr.units) (pv 3) (pe_tup (pa_cons pe_int (pa_cons pe_int pa_nil))) (nomark _))
        (pss_cons (ps_asg (pe_cal c_last_step hr (pa_cons (pv 2) (pa_cons (pv 0) (pa_cons (pv 1) (pa_cons (pv 3) pa_nil))))) (pg_tup rfl (pgs_cons (pg_name (i := 5) sc_alignment.nd rfl (.inl rfl)) (pgs_cons (pg_name (i := 3) sc_alignment.nd rfl (.inl rfl)) pgs_nil))))
        (pss_one (ps_expr (pe_bm PySem.F.plainAttrs_list PySem.F.slot_list_append PySem.F.type_list_append mt_append (pv 4) (pa_cons (pv 5) pa_nil))))))
      (pss_one (ps_ret (pe_callTy call_tuple_of (by rfl) z.tuple (by decide +kernel) (pa_cons (pe_revL (pv 4)) pa_nil)))))))), ?_⟩
    walk_at "rd"
    refine ⟨x, b1, rfl, h1, fun e1 H1 s1 => ?_, k1⟩
    walk_at "rd"
    refine ⟨y, b2, rfl, h2.same s1, fun e2 H2 s2 => ?_, fun e2 dx H' n s2 e => k2 e1 e2 dx H' (s1.free n) (s1.trans s2) e⟩
    subst e1 e2
    obtain ⟨a, rfl, ha, za⟩ := h1.yes
    obtain ⟨b, rfl, hb, zb⟩ := h2.yes
    obtain ⟨la, lb, k⟩ := k3 a b rfl rfl za zb
    walk_at "rd"
    refine ⟨a, b, rfl, la, lb, fun rp rs H3 s3 _ er hl hrs => ?_⟩
    walk_at "rd"
    refine newT0 (Nat.le_of_ble_eq_true rfl) fun ep H4 n4 s4 e4 => ?_
    walk_at "rd"
    refine newL0 (Nat.le_of_ble_eq_true rfl) fun fp H5 n5 s5 e5 => ?_
    walk_at "rd"
    have erp := s5 _ _ (s4 _ _ er)
    have rows5 : RowsAt H5 a b rs := fun i r hr => s5 _ _ (s4 _ _ (hrs i r hr))
    have nfp : H fp = none := (s1.trans (s2.trans (s3.trans s4))).free n5
    have sH5 := s1.trans (s2.trans (s3.trans (s4.trans s5)))
    refine go_while (fun m σ Hx => ∃ (i j : Nat) (ss : List St) (ts : List V) (e : Addr) (u5 : Option V), σ = [some (.str (S a)), some (.str (S b)), some (.ref rp), some (.ref e), some (.ref fp), u5] ∧ m = i + j ∧ Hx e = some (.tup [.int (i : Nat), .int (j : Nat)]) ∧ Hx fp = some (.lst ts) ∧ DeAll K Hx ts (ss.reverse.map St.dat) ∧ (Found a b i j ss ∧ ∀ res, Run a b i j ss res → Run a b a.length b.length [] res) ∧ i ≤ a.length ∧ j ≤ b.length ∧ KeepP fp H5 Hx ∧ Same H Hx)
      (a.length + b.length) ⟨a.length, b.length, [], [], ep, none, rfl, rfl, s5 _ _ e4, e5, (.nil), ⟨Found.start a b, fun _ h => h⟩, Nat.le_refl _, Nat.le_refl _, fun _ _ _ h => h, sH5⟩ (fun m σ Hx h => ?_)
    obtain ⟨i, j, ss, ts, e, u5, rfl, rfl, ee, ef, hd, ⟨fd', run⟩, hi, hj, kp, sx⟩ := h
    have nef : e ≠ fp := fun q => by rw [q, ef] at ee; cases ee
    walk_at "rd"
    refine newT0 (Nat.le_of_ble_eq_true rfl) fun zp H6 n6 s6 e6 => ?_
    refine i_neE (d := .tuple [.int (i : Nat), .int (j : Nat)]) (e := .tuple [.int 0, .int 0]) (.tup (sqT_of (s6 _ _ ee)) (.cons (.int _) (.cons (.int _) .nil))) (.tup (sqT_of e6) (.cons (.int _) (.cons (.int _) .nil))) (sd_pair (by omega) (by omega)) (sd_pair (i := 0) (j := 0) (by omega) (by omega)) (by simp [PyData.hasDict, PyData.hasDictAll]) (by simp [PyData.hasDict, PyData.hasDictAll]) ?_
    rw [eqv_pair]
    walk_at "rd"
    by_cases c : i = 0 ∧ j = 0
    · rw [decide_eq_true c]
      obtain ⟨rfl, rfl⟩ := c
      walk_at "rd"
      have ef6 := s6 _ _ ef
      have hd6 := hd.same s6
      refine i_revL (i_var rfl ?_)
      refine ⟨_, _, rfl, sqL_of ef6, fun q nq => ?_⟩
      walk_at "rd"
      refine ⟨_, _, rfl, .inl ⟨sqL_of upd_same, fun l nl => ?_⟩⟩
      have hd7 := (hd6.same (same_upd (o := .lst ts.reverse) nq)).rev
      rw [← List.map_reverse, List.reverse_reverse] at hd7
      obtain ⟨al, co, le⟩ := fd'.done
      exact k l ss _ (sx.trans (s6.trans ((same_upd nq).trans (same_upd nl)))) (run _ .done) al co le (.tup (sqT_of upd_same) (hd7.same (same_upd nl)))
    · rw [decide_eq_false c]
      walk_at "rd"
      refine next_turn ?_
      walk_at "rd"
      have ne5 : ∀ (x : Addr) (v : V) (vs : List V), H5 x = some (.lst (v :: vs)) → x ≠ fp := fun x v vs hx q => by
        subst q; rw [e5] at hx; cases hx
      have erx : Hx rp = some (.lst (rs.map V.ref)) := by
        refine kp _ _ (.inl ?_) erp
        rcases rs with _ | ⟨r, rs⟩
        · rw [List.length_nil] at hl; omega
        · exact ne5 rp _ _ erp
      have rowsx : RowsAt Hx a b rs := fun i r hr => by
        have e7 := rows5 i r hr
        refine kp _ _ (.inl ?_) e7
        have : ∃ v vs, (row a b i).map V.int = v :: vs := by
          cases q : (row a b i).map V.int with
          | nil => have := congrArg List.length q; rw [List.length_map, row_len] at this; simp at this
          | cons v vs => exact ⟨v, vs, rfl⟩
        obtain ⟨v, vs, q⟩ := this
        rw [q] at e7
        exact ne5 r v vs e7
      refine ⟨rp, e, rs, a, b, i, j, rfl, s6 _ _ erx, hl, fun i r hr => s6 _ _ (rowsx i r hr), s6 _ _ ee, hi, hj, c, la, lb, fun q u T i' j' st H7 s7 tr hde eq eu => ?_⟩
      obtain ⟨fd2, lt⟩ := fd'.step tr za zb
      have sx7 := s6.trans s7
      refine i_gTupH eq rfl ?_
      walk_at "rd"
      have ef7 := sx7 _ _ ef
      have dle : ts.length < sizeLine := by
        have e1 := hd.len
        have e2 := fd'.le
        rw [List.length_map, List.length_reverse] at e1
        exact Nat.lt_of_le_of_lt (m := 4000) (by omega) (Nat.lt_of_lt_of_le (by decide : 4000 < 100000) (Nat.le_of_ble_eq_true rfl))
      refine i_append ef7 dle ?_
      have nu : u ≠ fp := fun q => by rw [q, ef7] at eu; cases eu
      have := push_val ef7 (hd.same sx7) (noL_dats _) hde (dat_noL _)
      refine ⟨i' + j', lt, i', j', st :: ss, _, u, _, rfl, rfl, upd_skip nu eu, upd_same, ?_, ⟨fd2, fun res r => run res (.step tr r)⟩, ?_, ?_, kp.trans ((Same.keepP sx7).trans (keepP_upd ef7)), Same.set_new (sx.trans sx7) nfp⟩
      · rw [List.reverse_cons, List.map_append]; exact this
      · cases tr <;> omega
      · cases tr <;> omega
end
end Sw
namespace Sw
open PySem PySem.Spec PyProof.Rows L2
local macro_rules | `(tactic| walk_at "hp") => `(tactic| first
  | (with_reducible assumption) | (with_reducible exact upd_same)
  | ((with_reducible refine' upd_old ?q1 ?q2); (case q1 => (with_reducible assumption)); (case q2 => walk_at "hp"))
  | ((with_reducible refine' Same.at ?q1 ?q2); (case q1 => (with_reducible assumption)); (case q2 => walk_at "hp"))
  | ((with_reducible refine' upd_skip ?q1 ?q2); (case q1 => walk_at "ne"); (case q2 => walk_at "hp"))
  | fail)
local macro_rules | `(tactic| walk_at "ne") => `(tactic| first
  | (with_reducible assumption) | (with_reducible exact Ne.symm (by assumption))
  | ((with_reducible refine' ne_of_none ?q1 ?q2); (case q2 => (with_reducible assumption)); (case q1 => walk_at "hp"))
  | fail)
local macro_rules | `(tactic| walk_at "ci") => `(tactic| first | assumption | (show (0 : Int) < _; first | decide | (with_reducible omega)) | exact ⟨by decide, by decide⟩ | exact .inl ⟨by decide, by decide⟩ | exact .inr ⟨by decide, by decide⟩)
local macro_rules | `(tactic| walk_at "ln") => `(tactic| first | (with_reducible assumption) | (with_reducible omega) | (simp only [List.length_append, List.length_take, List.length_drop, List.length_reverse, List.length_cons, List.length_nil]; with_reducible omega))
local macro_rules | `(tactic| walk_at "rd1") => `(tactic| first
  | (with_reducible refine i_seq ?_) | (with_reducible refine i_asg ?_) | (with_reducible refine i_ret ?_) | (with_reducible refine i_name ?_) | ((with_reducible refine' i_var ?q1 ?_); (case q1 => exact rfl)) | (with_reducible refine i_c ?_) | (with_reducible refine i_op ?_) | (with_reducible refine i_un ?_)
  | (with_reducible refine i_rI0 ?_) | (with_reducible refine i_cb ?_) | (with_reducible refine i_cons ?_) | (with_reducible refine i_nil ?_) | (with_reducible refine i_call ?_) | (with_reducible refine i_if ?_) | (with_reducible refine i_ifE ?_) | (with_reducible refine i_test ?_) | (with_reducible refine i_bl ?_)
  | (with_reducible refine i_and ?_) | (with_reducible refine i_or ?_) | (with_reducible refine i_not ?_) | (with_reducible refine i_lst ?_) | (with_reducible refine i_tup ?_) | (with_reducible refine i_next ?_) | (with_reducible refine i_drop ?_) | (with_reducible refine i_sub ?_)
  | (with_reducible refine i_bm ?_) | (with_reducible refine i_sl ?_) | (with_reducible refine i_part ?_) | (with_reducible refine i_nopart ?_) | (with_reducible refine i_exI ?_) | (with_reducible refine i_chain ?_) | ((with_reducible refine' i_aug ?q1 ?_); (case q1 => exact rfl)) | (with_reducible refine i_ip ?_)
  | (with_reducible refine i_par ?_) | (with_reducible refine i_pair ?_) | (with_reducible refine i_andV ?_) | (with_reducible refine i_orV ?_) | (with_reducible refine i_notV ?_) | (with_reducible refine i_m1 ?_) | (with_reducible refine i_str ?_)
  | (with_reducible refine iteF ?_) | (with_reducible refine iteT ?_) | (with_reducible refine iteNT ?_) | (with_reducible refine iteNF ?_) | (with_reducible refine i_tyS ?_) | (with_reducible refine i_tB ?_) | (with_reducible refine i_retN ?_) | (with_reducible refine i_par3 ?_) | (with_reducible refine i_trip ?_) | (with_reducible refine i_gCons ?_) | (with_reducible refine i_gNil ?_) | (with_reducible refine i_lstRg ?_) | (with_reducible refine i_rg1 ?_)
  | (with_reducible refine i_lc ?_) | (with_reducible refine i_for ?_) | (with_reducible refine i_iList ?_) | (with_reducible refine i_iTup ?_) | (with_reducible refine i_iStr ?_) | (with_reducible refine i_iRng1 ?_) | (with_reducible refine i_iEnS ?_)
  | ((with_reducible refine' i_ixTH ?q1 ?q2 ?_); (case q1 => walk_at "hp"); (case q2 => exact rfl))
  | ((with_reducible refine' i_ixLH ?q1 ?q2 ?_); (case q1 => walk_at "hp"); (case q2 => exact rfl))
  | ((with_reducible refine i_addS ?q1 ?_); (case q1 => walk_at "ln")) | ((with_reducible refine i_lenSS ?q1 ?_); (case q1 => walk_at "ln")) | ((with_reducible refine i_slFrom ?q1 ?q2 ?_); (case q1 => walk_at "ln"); (case q2 => walk_at "ln")) | ((with_reducible refine i_slTo ?q1 ?q2 ?_); (case q1 => walk_at "ln"); (case q2 => walk_at "ln"))
  | ((with_reducible refine' i_tyL ?q1 ?_); (case q1 => walk_at "hp"))
  | ((with_reducible refine' i_gTupH ?q1 ?q2 ?_); (case q1 => walk_at "hp"); (case q2 => exact rfl))
  | (with_reducible refine i_dnew ?_) | (with_reducible refine i_init ?_) | (with_reducible refine i_fst ?_) | (with_reducible refine i_mk ?_) | (with_reducible refine i_raise ?_) | (with_reducible refine i_callS ?_) | (with_reducible refine i_kwS ?_)
  | (with_reducible refine i_revT ?_) | (with_reducible refine i_kw ?_) | ((with_reducible refine' ⟨_, _, rfl, sqT_of ?q1, ?_⟩); (case q1 => walk_at "hp"))
  | (with_reducible refine i_revS ?_) | ((with_reducible refine i_revSS ?q1 ?_); (case q1 => walk_at "ln"))
  | (with_reducible refine i_startS ?_) | (with_reducible refine i_inSg ?_) | (with_reducible refine i_absN ?_) | (with_reducible refine i_min2 ?_) | (with_reducible refine i_max2 ?_) | (with_reducible refine i_min3 ?_) | (with_reducible refine i_intN ?_) | (with_reducible refine i_intNB ?_)
  | ((with_reducible refine' i_lenL ?q1 ?_); (case q1 => walk_at "hp")) | ((with_reducible refine' i_lenT ?q1 ?_); (case q1 => walk_at "hp"))
  | (with_reducible refine i_eqI ?_) | (with_reducible refine i_neI ?_) | (with_reducible refine i_eqS ?_) | (with_reducible refine i_neS ?_) | (with_reducible refine i_isNoI ?_) | (with_reducible refine i_isNoN ?_) | (with_reducible refine i_isNoR ?_)
  | ((with_reducible refine i_pow ?q1 ?q2 ?q3 ?_); (case q1 => decide); (case q2 => decide); (case q3 => (with_reducible omega)))
  | ((with_reducible refine i_rI ?q1 ?_); (case q1 => walk_at "ci"))
  | (with_reducible refine Or.inl ⟨_, rfl, ?_⟩) | (with_reducible refine Or.inr ⟨_, rfl, ?_⟩) | (with_reducible refine ⟨_, rfl, ?_⟩) | (with_reducible refine ⟨_, _, rfl, ?_⟩) | (with_reducible refine ⟨_, _, rfl, rfl, ?_⟩)
  | ((with_reducible refine' ⟨_, _, rfl, Or.inl (sqL_of ?q1), ?_⟩); (case q1 => walk_at "hp")) | ((with_reducible refine' ⟨_, _, rfl, Or.inr (sqT_of ?q1), ?_⟩); (case q1 => walk_at "hp")) | fail)
local macro_rules | `(tactic| walk_at "rd") => `(tactic| repeat' walk_at "rd1")

def textB : PyData → Bool
  | .str z => azB z.cps.toList
  | _ => false
theorem str_S (z : Str) : z = S z.cps.toList := by
  obtain ⟨cps⟩ := z
  simp [S]
theorem De.isT {K : PySem.W.Frag} {H : Hp} {v : V} {d : PyData} {n w : Nat} (h : De K H v d) (s : Sd n w d) (hw : w ≤ 100000) : IsT K H v (textB d) := by
  cases h with
  | non => exact .inr ⟨_, .base .non, kit_ty (by decide +kernel), rfl⟩
  | bl b => exact .inr ⟨_, .base (.bl _), kit_ty (by decide +kernel), rfl⟩
  | int i => exact .inr ⟨_, .base (.int _), kit_ty (by decide +kernel), rfl⟩
  | str x =>
    refine .inl ⟨x.cps.toList, congrArg V.str (str_S x), ?_, rfl⟩
    have := s.wei
    simp only [PyData.weight] at this
    rw [Array.length_toList]
    omega
  | lst h1 _ h2 => exact .inr ⟨_, .base (.lst h1), kit_ty (by decide +kernel), rfl⟩
  | tup h1 h2 => exact .inr ⟨_, tyx_tup h1, kit_ty (by decide +kernel), rfl⟩
  | dict h1 h2 => exact .inr ⟨_, .base (.dK h1), kit_ty (by decide +kernel), rfl⟩
theorem stepB_no {ds : List PyData} (h : ds.length = 2 ∨ ds.length = 3) (e : (ds.drop 1).all isLet = false) : stepB (.tuple ds) = false := by
  rcases ds with _ | ⟨x1, _ | ⟨x2, _ | ⟨x3, _ | ⟨x4, ys⟩⟩⟩⟩
  · rfl
  · rfl
  · simp only [List.drop_succ_cons, List.drop_zero, List.all_cons, List.all_nil, Bool.and_true] at e
    simp only [stepB, e, Bool.false_and]
  · simp only [List.drop_succ_cons, List.drop_zero, List.all_cons, List.all_nil, Bool.and_true] at e
    simp only [stepB, e, Bool.false_and]
  · rfl
/-- is_letter(value) -/
def spIsLet (K : PySem.W.Frag) : Sp := fun vs H Q _ => ∃ x d n w, vs = [x] ∧ De K H x d ∧ Sd n w d ∧ w ≤ 100000 ∧ ∀ H', Same H H' → Q (.bl (isLet d)) H'
/-- is_alignment_step(value) -/
def spIsStep (K : PySem.W.Frag) : Sp := fun vs H Q _ => ∃ x d w, vs = [x] ∧ De K H x d ∧ Sd 5 w d ∧ w ≤ 100000 ∧ d.hasDict = false ∧ ∀ H', Same H H' → Q (.bl (stepB d)) H'
section
variable {P : Program} {w : World} {K : PySem.W.Frag} {mg : Str → Option Value} {base : Heap} {f : Addr} {fd : FuncData}
theorem ok_is_letter (F : Fun K "is_letter" "is_letter" s_is_letter f fd) (z : Z mg) (c_is_text : Cal P w K mg base "is_text" ["value"] 1 (spIsT K)) : FnOk P w K mg base CX0 2 f fd ["value"] (spIsLet K) := by
  refine F.ok sc_is_letter (fun vs H Q E h => ?_) (fun cdv A outer s H vs Q E hr h => ?_)
  · obtain ⟨x, d, n, w, rfl, _⟩ := h; rfl
  · obtain ⟨x, d, n, w, rfl, hd, hs, hw, k⟩ := h
    refine ⟨_, (pss_one (ps_ret (pe_and (pe_cal c_is_text hr (pa_cons (pv 0) pa_nil)) (pe_one (pe_cmpR op_eq (pe_callB call_lenS (by rfl) z.len PySem.boot_len (pa_cons (pv 0) pa_nil)) pe_int (nomark _)))))), ?_⟩
    walk_at "rd"
    refine ⟨_, _, rfl, hd.isT hs hw, fun H1 s1 => ?_⟩
    walk_at "rd"
    rcases e : textB d with _ | _
    · have : isLet d = false := by
        cases d <;> first | rfl | skip
        rename_i z
        simp only [textB] at e
        simp only [isLet]
        split
        · rename_i c q
          rw [q] at e
          simpa [azB, azN] using e
        · rfl
      rw [this] at k
      walk_at "rd"
      exact k _ s1
    · cases d <;> first | cases e | skip
      rename_i z
      obtain ⟨l, rfl⟩ : ∃ l, z = S l := ⟨_, str_S z⟩
      cases hd
      simp only [textB] at e
      have el : (S l).cps.toList = l := by simp [S]
      rw [el] at e
      have hl : l.length ≤ 100000 := by
        have := hs.wei
        simp only [PyData.weight, S_size] at this
        omega
      walk_at "rd"
      have : isLet (.str (S l)) = decide ((l.length : Int) = 1) := by
        simp only [isLet]
        rw [el]
        rcases l with _ | ⟨c, _ | ⟨c2, l⟩⟩
        · rfl
        · simpa [azB, azN] using e
        · symm; exact decide_eq_false (by simp only [List.length_cons]; omega)
      rw [this] at k
      exact k _ s1
theorem ok_is_alignment_step (F : Fun K "is_alignment_step" "is_alignment_step" s_is_alignment_step f fd) (z : Z mg) (c_is_letter : Cal P w K mg base "is_letter" ["value"] 2 (spIsLet K)) : FnOk P w K mg base CX0 3 f fd ["value"] (spIsStep K) := by
  refine F.ok sc_is_alignment_step (fun vs H Q E h => ?_) (fun cdv A outer s H vs Q E hr h => ?_)
  · obtain ⟨x, d, w, rfl, _⟩ := h; rfl
  · obtain ⟨x, d, w, rfl, hd, hs, hw, hz, k⟩ := h
    refine ⟨_, (pss_cons (ps_if (PW.pt (pw_or (pt_not (pt_val (pe_callB call_isi (by rfl) z.isinstance (by decide +kernel) (pa_cons (pv 0) (pa_cons (pe_bltn (v := .ty "tuple") (by rfl) z.tuple (by decide +kernel) rfl) pa_nil))))) (pw_or (pt_cmpR op_notIn_seq (pe_callB call_lenQ (by rfl) z.len PySem.boot_len (pa_cons (pv 0) pa_nil)) (pe_tup (pa_cons pe_int (pa_cons pe_int pa_nil))) (by rfl)) (pw_or1 (pt_not (pt_val (pe_callB (cr_all rfl) (by rfl) z.all (by decide +kernel) (pa_cons (pe_lc (own := [("part", 1)]) (g := gName 1) (tt := tYes) rfl sc_is_alignment_step.nd (pi_tup (pe_slice sl_tupA (pv 0) (po_some pe_int) po_none)) (blkOk_by (own := [("part", 1)]) (N := n_is_alignment_step) (sc := defScope s_is_alignment_step) (by decide +kernel)) (fun _ _ _ _ _ => (pg_name (i := 1) sc_is_alignment_step.nd rfl (.inl rfl))) (fun _ _ _ _ _ => pts_nil) (fun _ _ _ _ _ => (pe_cal c_is_letter hr (pa_cons (pv 1) pa_nil)))) pa_nil))))))))
        (pss_one (ps_ret pe_bl))
        pss_nil)
      (pss_cons (ps_if (pt_cmpR op_eq (pe_callB call_lenQ (by rfl) z.len PySem.boot_len (pa_cons (pv 0) pa_nil)) pe_int (nomark _))
        (pss_one (ps_ret (pe_cmpR (op_inT hr.units) (pe_ix ix_tup (pv 0) pe_int (fun _ _ => rfl)) (pe_tup (pa_cons (pe_strS (l := [107, 101, 101, 112]) (by decide +kernel)) (pa_cons (pe_strS (l := [100, 114, 111, 112]) (by decide +kernel)) (pa_cons (pe_strS (l := [97, 100, 100]) (by decide +kernel)) pa_nil)))) (by rfl))))
        pss_nil)
      (pss_one (ps_ret (pe_and (pe_cmpR (op_eqX hr.units) (pe_ix ix_tup (pv 0) pe_int (fun _ _ => rfl)) (pe_strS (l := [115, 119, 97, 112]) (by decide +kernel)) (nomark _)) (pe_one (pe_cmpR op_ne (pe_ix ix_tup (pv 0) pe_int (fun _ _ => rfl)) (pe_ix ix_tup (pv 0) pe_int (fun _ _ => rfl)) (nomark _)))))))), ?_⟩
    walk_at "rd"
    refine hd.isi (n := "tuple") (.inr (.inr (.inr (.inr rfl)))) ?_
    by_cases ht : ∃ ds, d = .tuple ds
    case neg =>
      have e : tyB "tuple" d = false := by cases d <;> first | rfl | exact (ht ⟨_, rfl⟩).elim
      have e2 : stepB d = false := by cases d <;> first | rfl | exact (ht ⟨_, rfl⟩).elim
      rw [e]
      rw [e2] at k
      walk_at "rd"
      exact k _ (Same.refl _)
    obtain ⟨ds, rfl⟩ := ht
    obtain ⟨a, xs, rfl, ha, hxs⟩ := hd.tupI
    rw [show tyB "tuple" (.tuple ds) = true from rfl]
    have lx := hxs.len
    have hy := hasDict_tup.mp hz
    walk_at "rd"
    refine ⟨a, xs, rfl, .inr ha, ?_⟩
    walk_at "rd"
    refine ⟨Nat.le_of_ble_eq_true rfl, fun p np => ?_⟩
    have t1 := same_upd (o := .tup [.int 2, .int 3]) np
    have e1 := upd_same (H := H) (a := p) (o := .tup [.int 2, .int 3])
    generalize upd H p (.tup [.int 2, .int 3]) = H1 at *
    refine ⟨p, _, rfl, .inr (sqT_of e1), rfl, rfl, ?_⟩
    walk_at "rd"
    rw [if_pos rfl, inV_two]
    by_cases len : ds.length = 2 ∨ ds.length = 3
    case neg =>
      have e2 : stepB (.tuple ds) = false := by
        rcases ds with _ | ⟨x1, _ | ⟨x2, _ | ⟨x3, _ | ⟨x4, ys⟩⟩⟩⟩
        · rfl
        · rfl
        · exact (len (.inl rfl)).elim
        · exact (len (.inr rfl)).elim
        · rfl
      rw [e2] at k
      rw [decide_eq_false (by omega), decide_eq_false (by omega)]
      walk_at "rd"
      exact k _ t1
    case pos =>
      have ba : (decide ((xs.length : Int) = 2) || decide ((xs.length : Int) = 3)) = true := by
        rcases len with len | len
        · rw [decide_eq_true (by omega)]; rfl
        · rw [decide_eq_true (show (xs.length : Int) = 3 by omega), Bool.or_true]
      rw [ba]
      walk_at "rd"
      refine i_slTF (k := 1) (Same.sqT t1 ha) fun p2 H2 s2 e2 => ?_
      have t2 := t1.trans s2
      have hx2 := (hxs.drop 1).same t2
      walk_at "rd"
      refine ⟨⟨_, e2⟩, ?_⟩
      refine go_map (walk_tup (xs := xs.drop 1)) (fun i => V.bl (isLet ((ds.drop 1).getD i .none))) (by rw [List.length_drop]; omega) (fun H s => Same.sqT s e2) (fun j v H6 H7 hj s6 y R2 hR2 => ?_) mono_name (fun pj H6 npj s6 ej => ?_)
      · obtain ⟨rfl, hv⟩ := y
        have dv := (hx2.getD hv).same s6
        obtain ⟨dj, gj, _⟩ := hx2.get hv
        have mj : (ds.drop 1).getD j .none ∈ ds := by
          rw [List.getD_eq_getElem?_getD, gj]
          exact List.mem_of_mem_drop (List.mem_of_getElem? gj)
        walk_at "rd"
        refine ⟨rfl, ?_⟩
        walk_at "rd"
        exact ⟨v, _, _, _, rfl, dv, hs.tupI'.get mj, hw, fun H8 s8 => hR2 _ s8⟩
      · rw [show (xs.drop 1).length = (ds.drop 1).length by rw [List.length_drop, List.length_drop, lx], map_getD (ds.drop 1) (fun d => V.bl (isLet d)), show (ds.drop 1).map (fun d => V.bl (isLet d)) = ((ds.drop 1).map isLet).map V.bl by rw [List.map_map]; rfl] at ej
        walk_at "rd"
        refine i_all ej ?_
        have t6 := t2.trans s6
        have ha6 := Same.sqT t6 ha
        have hx6 := hxs.same t6
        rw [List.all_map, show (id ∘ isLet) = isLet from rfl]
        refine ⟨_, rfl, iteNC (fun e => ?_) (fun e => ?_)⟩
        · rw [stepB_no len e] at k
          walk_at "rd"
          exact k _ t6
        walk_at "rd"
        refine i_lenSqT ha6 ?_
        walk_at "rd"
        refine iteB (fun l2 => ?_) (fun l2 => ?_)
        · have l2' : ds.length = 2 := by omega
          obtain ⟨d0, d1, rfl⟩ : ∃ d0 d1, ds = [d0, d1] := by
            rcases ds with _ | ⟨x1, _ | ⟨x2, _ | ⟨x3, ys⟩⟩⟩
            · cases l2'
            · cases l2'
            · exact ⟨_, _, rfl⟩
            · simp at l2'
          simp only [List.drop_succ_cons, List.drop_zero, List.all_cons, List.all_nil, Bool.and_true] at e
          simp only [stepB, e, Bool.true_and] at k
          cases hx6 with
          | cons h0 h1 =>
            rename_i v0 vs
            walk_at "rd"
            refine i_ixTn (k := 0) ha6 rfl ?_
            walk_at "rd"
            refine ⟨Nat.le_of_ble_eq_true rfl, fun p7 n7 => ?_⟩
            have t7 := same_upd (o := .tup [.str (S tKeep), .str (S tDrop), .str (S tAdd)]) n7
            have st0 := hs.tupI'.get List.mem_cons_self
            refine i_inT [tKeep, tDrop, tAdd] (h0.same t7) st0 (hy _ List.mem_cons_self) (by decide) upd_same ?_
            rw [show ([tKeep, tDrop, tAdd].any fun l => isS l d0) = (isS tKeep d0 || (isS tDrop d0 || isS tAdd d0)) by simp only [List.any_cons, List.any_nil, Bool.or_false]]
            exact k _ (t6.trans t7)
        · have l3' : ds.length = 3 := by omega
          obtain ⟨d0, d1, d2, rfl⟩ : ∃ d0 d1 d2, ds = [d0, d1, d2] := by
            rcases ds with _ | ⟨x1, _ | ⟨x2, _ | ⟨x3, _ | ⟨x4, ys⟩⟩⟩⟩
            · cases l3'
            · cases l3'
            · cases l3'
            · exact ⟨_, _, _, rfl⟩
            · simp at l3'
          simp only [List.drop_succ_cons, List.drop_zero, List.all_cons, List.all_nil, Bool.and_true] at e
          rw [Bool.and_eq_true] at e
          simp only [stepB, e.1, e.2, Bool.and_self, Bool.true_and] at k
          obtain ⟨x1, rfl, _⟩ := isLet_inv e.1
          obtain ⟨x2, rfl, _⟩ := isLet_inv e.2
          cases hx6 with
          | cons h0 h1 =>
            cases h1 with
            | cons h1 h2 =>
              cases h2 with
              | cons h2 h3 =>
                cases h3
                cases h1
                cases h2
                walk_at "rd"
                refine i_ixTn (k := 0) ha6 rfl ?_
                walk_at "rd"
                have st0 := hs.tupI'.get List.mem_cons_self
                refine i_eqS1 h0 st0 (.inr (hy _ List.mem_cons_self)) (by decide) ?_
                refine ⟨_, rfl, iteC (fun e0 => ?_) (fun e0 => ?_)⟩
                · rw [e0, Bool.true_and, eqv_S] at k
                  walk_at "rd"
                  refine i_ixTn (k := 1) ha6 rfl ?_
                  walk_at "rd"
                  refine i_ixTn (k := 2) ha6 rfl ?_
                  walk_at "rd"
                  exact k _ t6
                · rw [e0] at k
                  exact k _ t6
end
end Sw
namespace Sw
open PySem PySem.Spec PyProof.Rows L2
local macro_rules | `(tactic| walk_at "hp") => `(tactic| first
  | (with_reducible assumption) | (with_reducible exact upd_same)
  | ((with_reducible refine' upd_old ?q1 ?q2); (case q1 => (with_reducible assumption)); (case q2 => walk_at "hp"))
  | ((with_reducible refine' Same.at ?q1 ?q2); (case q1 => (with_reducible assumption)); (case q2 => walk_at "hp"))
  | ((with_reducible refine' upd_skip ?q1 ?q2); (case q1 => walk_at "ne"); (case q2 => walk_at "hp"))
  | fail)
local macro_rules | `(tactic| walk_at "ne") => `(tactic| first
  | (with_reducible assumption) | (with_reducible exact Ne.symm (by assumption))
  | ((with_reducible refine' ne_of_none ?q1 ?q2); (case q2 => (with_reducible assumption)); (case q1 => walk_at "hp"))
  | fail)
local macro_rules | `(tactic| walk_at "ci") => `(tactic| first | assumption | (show (0 : Int) < _; first | decide | (with_reducible omega)) | exact ⟨by decide, by decide⟩ | exact .inl ⟨by decide, by decide⟩ | exact .inr ⟨by decide, by decide⟩)
local macro_rules | `(tactic| walk_at "ln") => `(tactic| first | (with_reducible assumption) | (with_reducible omega) | (simp only [List.length_append, List.length_take, List.length_drop, List.length_reverse, List.length_cons, List.length_nil]; with_reducible omega))
local macro_rules | `(tactic| walk_at "rd1") => `(tactic| first
  | (with_reducible refine i_seq ?_) | (with_reducible refine i_asg ?_) | (with_reducible refine i_ret ?_) | (with_reducible refine i_name ?_) | ((with_reducible refine' i_var ?q1 ?_); (case q1 => exact rfl)) | (with_reducible refine i_c ?_) | (with_reducible refine i_op ?_) | (with_reducible refine i_un ?_)
  | (with_reducible refine i_rI0 ?_) | (with_reducible refine i_cb ?_) | (with_reducible refine i_cons ?_) | (with_reducible refine i_nil ?_) | (with_reducible refine i_call ?_) | (with_reducible refine i_if ?_) | (with_reducible refine i_ifE ?_) | (with_reducible refine i_test ?_) | (with_reducible refine i_bl ?_)
  | (with_reducible refine i_and ?_) | (with_reducible refine i_or ?_) | (with_reducible refine i_not ?_) | (with_reducible refine i_lst ?_) | (with_reducible refine i_tup ?_) | (with_reducible refine i_next ?_) | (with_reducible refine i_drop ?_) | (with_reducible refine i_sub ?_)
  | (with_reducible refine i_bm ?_) | (with_reducible refine i_sl ?_) | (with_reducible refine i_part ?_) | (with_reducible refine i_nopart ?_) | (with_reducible refine i_exI ?_) | (with_reducible refine i_chain ?_) | ((with_reducible refine' i_aug ?q1 ?_); (case q1 => exact rfl)) | (with_reducible refine i_ip ?_)
  | (with_reducible refine i_par ?_) | (with_reducible refine i_pair ?_) | (with_reducible refine i_andV ?_) | (with_reducible refine i_orV ?_) | (with_reducible refine i_notV ?_) | (with_reducible refine i_m1 ?_) | (with_reducible refine i_str ?_)
  | (with_reducible refine iteF ?_) | (with_reducible refine iteT ?_) | (with_reducible refine iteNT ?_) | (with_reducible refine iteNF ?_) | (with_reducible refine i_tyS ?_) | (with_reducible refine i_tB ?_) | (with_reducible refine i_retN ?_) | (with_reducible refine i_par3 ?_) | (with_reducible refine i_trip ?_) | (with_reducible refine i_gCons ?_) | (with_reducible refine i_gNil ?_) | (with_reducible refine i_lstRg ?_) | (with_reducible refine i_rg1 ?_)
  | (with_reducible refine i_lc ?_) | (with_reducible refine i_for ?_) | (with_reducible refine i_iList ?_) | (with_reducible refine i_iTup ?_) | (with_reducible refine i_iStr ?_) | (with_reducible refine i_iRng1 ?_) | (with_reducible refine i_iEnS ?_)
  | ((with_reducible refine' i_ixTH ?q1 ?q2 ?_); (case q1 => walk_at "hp"); (case q2 => exact rfl))
  | ((with_reducible refine' i_ixLH ?q1 ?q2 ?_); (case q1 => walk_at "hp"); (case q2 => exact rfl))
  | ((with_reducible refine i_addS ?q1 ?_); (case q1 => walk_at "ln")) | ((with_reducible refine i_lenSS ?q1 ?_); (case q1 => walk_at "ln")) | ((with_reducible refine i_slFrom ?q1 ?q2 ?_); (case q1 => walk_at "ln"); (case q2 => walk_at "ln")) | ((with_reducible refine i_slTo ?q1 ?q2 ?_); (case q1 => walk_at "ln"); (case q2 => walk_at "ln"))
  | ((with_reducible refine' i_tyL ?q1 ?_); (case q1 => walk_at "hp"))
  | ((with_reducible refine' i_gTupH ?q1 ?q2 ?_); (case q1 => walk_at "hp"); (case q2 => exact rfl))
  | (with_reducible refine i_dnew ?_) | (with_reducible refine i_init ?_) | (with_reducible refine i_fst ?_) | (with_reducible refine i_mk ?_) | (with_reducible refine i_raise ?_) | (with_reducible refine i_callS ?_) | (with_reducible refine i_kwS ?_)
  | (with_reducible refine i_revT ?_) | (with_reducible refine i_kw ?_) | ((with_reducible refine' ⟨_, _, rfl, sqT_of ?q1, ?_⟩); (case q1 => walk_at "hp"))
  | (with_reducible refine i_revS ?_) | ((with_reducible refine i_revSS ?q1 ?_); (case q1 => walk_at "ln"))
  | (with_reducible refine i_startS ?_) | (with_reducible refine i_inSg ?_) | (with_reducible refine i_absN ?_) | (with_reducible refine i_min2 ?_) | (with_reducible refine i_max2 ?_) | (with_reducible refine i_min3 ?_) | (with_reducible refine i_intN ?_) | (with_reducible refine i_intNB ?_)
  | ((with_reducible refine' i_lenL ?q1 ?_); (case q1 => walk_at "hp")) | ((with_reducible refine' i_lenT ?q1 ?_); (case q1 => walk_at "hp"))
  | (with_reducible refine i_eqI ?_) | (with_reducible refine i_neI ?_) | (with_reducible refine i_eqS ?_) | (with_reducible refine i_neS ?_) | (with_reducible refine i_isNoI ?_) | (with_reducible refine i_isNoN ?_) | (with_reducible refine i_isNoR ?_)
  | ((with_reducible refine i_pow ?q1 ?q2 ?q3 ?_); (case q1 => decide); (case q2 => decide); (case q3 => (with_reducible omega)))
  | ((with_reducible refine i_rI ?q1 ?_); (case q1 => walk_at "ci"))
  | (with_reducible refine Or.inl ⟨_, rfl, ?_⟩) | (with_reducible refine Or.inr ⟨_, rfl, ?_⟩) | (with_reducible refine ⟨_, rfl, ?_⟩) | (with_reducible refine ⟨_, _, rfl, ?_⟩) | (with_reducible refine ⟨_, _, rfl, rfl, ?_⟩)
  | ((with_reducible refine' ⟨_, _, rfl, Or.inl (sqL_of ?q1), ?_⟩); (case q1 => walk_at "hp")) | ((with_reducible refine' ⟨_, _, rfl, Or.inr (sqT_of ?q1), ?_⟩); (case q1 => walk_at "hp")) | fail)
local macro_rules | `(tactic| walk_at "rd") => `(tactic| repeat' walk_at "rd1")

/-- is_alignment(one, other, value) -/
def spIsAln (K : PySem.W.Frag) (C : Addr) : Sp := fun vs H Q E => ∃ x y v b1 b2, vs = [x, y, v] ∧ IsT K H x b1 ∧ IsT K H y b2 ∧
  (b1 = false → ∀ dx H', H dx = none → Same H H' → H' dx = some (.xd [("given", x)]) → E (.ref C) (some dx) H') ∧
  (b1 = true → b2 = false → ∀ dx H', H dx = none → Same H H' → H' dx = some (.xd [("given", y)]) → E (.ref C) (some dx) H') ∧
  (∀ a b, x = .str (S a) → y = .str (S b) → azB a = true → azB b = true → ∃ d w, De K H v d ∧ Sd 6 w d ∧ w ≤ 100000 ∧ Ok1 d ∧ ∀ H', Same H H' → Q (.bl (alnB a b d)) H')
theorem hasDict_in {ds : List PyData} (h : (PyData.tuple ds).hasDict = false) : ∀ y ∈ ds, y.hasDict = false := hasDict_tup.mp h
theorem lefts_take {ss : List St} {i : Nat} {s : St} (h : ss[i]? = some s) : lefts (ss.take (i + 1)) = lefts (ss.take i) ++ s.left := by
  rw [List.take_add_one, h, lefts_app]; simp [lefts]
theorem rights_take {ss : List St} {i : Nat} {s : St} (h : ss[i]? = some s) : rights (ss.take (i + 1)) = rights (ss.take i) ++ s.right := by
  rw [List.take_add_one, h, rights_app]; simp [rights]
theorem wsLen {ws : List (List Nat)} (h : ∀ l ∈ ws, l.length ≤ 1) : ws.flatten.length ≤ ws.length := by
  induction ws with
  | nil => exact Nat.le_refl _
  | cons l ws ih =>
    have := ih fun x hx => h x (List.mem_cons_of_mem _ hx)
    have := h l List.mem_cons_self
    rw [List.flatten_cons, List.length_append, List.length_cons]; omega
/-- the parts of a step at a heap -/
theorem dat_parts {K : PySem.W.Frag} {H : Hp} {v : V} {s : St} (h : De K H v s.dat) : ∃ a xs t, v = .ref a ∧ SqT K H a xs ∧ xs[0]? = some (.str (S t)) ∧ (∀ l, xs[1]? = some (.str (S l)) ∨ True) ∧
    (decide (t = tAdd) = true → s.left = []) ∧ (decide (t = tAdd) = false → ∃ c, s.left = [c] ∧ xs[1]? = some (.str (S [c]))) ∧
    (decide (t = tDrop) = true → s.right = []) ∧ (decide (t = tDrop) = false → ∃ c, s.right = [c] ∧ atI xs (-1) = some (.str (S [c]))) ∧
    (s.cost = if decide (t = tKeep) = true then 0 else 1) := by
  cases s with
  | keep c =>
    obtain ⟨a, xs, rfl, ha, hx⟩ := h.tupI
    cases hx with | cons h0 h1 => cases h1 with | cons h1 h2 => cases h2; cases h0; cases h1; exact ⟨_, _, tKeep, rfl, ha, rfl, fun _ => .inr trivial, fun q => absurd q (by decide), fun _ => ⟨c, rfl, rfl⟩, fun q => absurd q (by decide), fun _ => ⟨c, rfl, rfl⟩, rfl⟩
  | drop c =>
    obtain ⟨a, xs, rfl, ha, hx⟩ := h.tupI
    cases hx with | cons h0 h1 => cases h1 with | cons h1 h2 => cases h2; cases h0; cases h1; exact ⟨_, _, tDrop, rfl, ha, rfl, fun _ => .inr trivial, fun q => absurd q (by decide), fun _ => ⟨c, rfl, rfl⟩, fun _ => rfl, fun q => absurd q (by decide), rfl⟩
  | add c =>
    obtain ⟨a, xs, rfl, ha, hx⟩ := h.tupI
    cases hx with | cons h0 h1 => cases h1 with | cons h1 h2 => cases h2; cases h0; cases h1; exact ⟨_, _, tAdd, rfl, ha, rfl, fun _ => .inr trivial, fun _ => rfl, fun q => absurd q (by decide), fun q => absurd q (by decide), fun _ => ⟨c, rfl, rfl⟩, rfl⟩
  | swap x y =>
    obtain ⟨a, xs, rfl, ha, hx⟩ := h.tupI
    cases hx with | cons h0 h1 => cases h1 with | cons h1 h2 => cases h2 with | cons h2 h3 => cases h3; cases h0; cases h1; cases h2; exact ⟨_, _, tSwap, rfl, ha, rfl, fun _ => .inr trivial, fun q => absurd q (by decide), fun _ => ⟨x, rfl, rfl⟩, fun q => absurd q (by decide), fun _ => ⟨y, rfl, rfl⟩, rfl⟩
section
variable {P : Program} {w : World} {K : PySem.W.Frag} {mg : Str → Option Value} {base : Heap} {f : Addr} {fd : FuncData}
theorem ok_isAlnX {C : Addr} (F : Fun K "is_alignment" "is_alignment" s_is_alignment f fd) (z : Z mg) (x_check_text : CalX P w K mg base "check_text" ["text"] 3 (spCheckX K C)) (c_is_alignment_step : Cal P w K mg base "is_alignment_step" ["value"] 3 (spIsStep K)) : FnOk P w K mg base (L2.CX P w) 4 f fd ["one", "other", "value"] (spIsAln K C) := by
  refine Sw.Fun.okX F sc_is_alignment (fun vs H Q E h => ?_) (fun cdv A outer s H vs Q E hr h tk => ?_)
  · obtain ⟨x, y, v, b1, b2, rfl, _⟩ := h; rfl
  · obtain ⟨x, y, v, b1, b2, rfl, h1, h2, k1, k2, k3⟩ := h
    refine ⟨_, (pss_cons (ps_expr (pe_calX x_check_text hr tk (pa_cons (pv 0) pa_nil)))
      (pss_cons (ps_expr (pe_calX x_check_text hr tk (pa_cons (pv 1) pa_nil)))
      (pss_cons (ps_if (PW.pt (pw_or (pt_not (pt_val (pe_callB call_isi (by rfl) z.isinstance (by decide +kernel) (pa_cons (pv 2) (pa_cons (pe_bltn (v := .ty "tuple") (by rfl) z.tuple (by decide +kernel) rfl) pa_nil))))) (pw_or1 (pt_not (pt_val (pe_callB (cr_all rfl) (by rfl) z.all (by decide +kernel) (pa_cons (pe_lc (own := [("step", 3)]) (g := gName 3) (tt := tYes) rfl sc_is_alignment.nd (pi_tup (pv 2)) (blkOk_by (own := [("step", 3)]) (N := n_is_alignment) (sc := defScope s_is_alignment) (by decide +kernel)) (fun _ _ _ _ _ => (pg_name (i := 3) sc_is_alignment.nd rfl (.inl rfl))) (fun _ _ _ _ _ => pts_nil) (fun _ _ _ _ _ => (pe_cal c_is_alignment_step hr (pa_cons (pv 3) pa_nil)))) pa_nil)))))))
        (pss_one (ps_ret pe_bl))
        pss_nil)
      (pss_cons (ps_set (i := 4) sc_is_alignment.nd rfl (.inl rfl) (pe_m1 PySem.F.slot_str_join PySem.F.type_str_join mt_joinS (pe_strS (l := []) (by decide +kernel)) (pe_lc (own := [("step", 3)]) (g := gName 3) (tt := _) rfl sc_is_alignment.nd (pi_tup (pv 2)) (blkOk_by (own := [("step", 3)]) (N := n_is_alignment) (sc := defScope s_is_alignment) (by decide +kernel)) (fun _ _ _ _ _ => (pg_name (i := 3) sc_is_alignment.nd rfl (.inl rfl))) (fun _ _ _ _ _ => (pts_one (pt_cmpR op_ne (pe_ix (r := rIxT K) ix_tup (pv 3) pe_int (fun _ _ => rfl)) (pe_strS (l := [97, 100, 100]) (by decide +kernel)) (nomark _)))) (fun _ _ _ _ _ => (pe_ix (r := rIxT K) ix_tup (pv 3) pe_int (fun _ _ => rfl))))))
      (pss_cons (ps_set (i := 5) sc_is_alignment.nd rfl (.inl rfl) (pe_m1 PySem.F.slot_str_join PySem.F.type_str_join mt_joinS (pe_strS (l := []) (by decide +kernel)) (pe_lc (own := [("step", 3)]) (g := gName 3) (tt := _) rfl sc_is_alignment.nd (pi_tup (pv 2)) (blkOk_by (own := [("step", 3)]) (N := n_is_alignment) (sc := defScope s_is_alignment) (by decide +kernel)) (fun _ _ _ _ _ => (pg_name (i := 3) sc_is_alignment.nd rfl (.inl rfl))) (fun _ _ _ _ _ => (pts_one (pt_cmpR op_ne (pe_ix (r := rIxT K) ix_tup (pv 3) pe_int (fun _ _ => rfl)) (pe_strS (l := [100, 114, 111, 112]) (by decide +kernel)) (nomark _)))) (fun _ _ _ _ _ => (pe_ix (r := rIxT K) ix_tup (pv 3) (pe_un un_neg pe_int) (fun _ _ => rfl))))))
      (pss_one (ps_ret (pe_and (pe_cmpR op_eq (pv 4) (pv 0) (nomark _)) (pe_one (pe_cmpR op_eq (pv 5) (pv 1) (nomark _))))))))))), ?_⟩
    walk_at "rd"
    refine ⟨x, b1, rfl, h1, fun e1 H1 s1 => ?_, k1⟩
    walk_at "rd"
    refine ⟨y, b2, rfl, h2.same s1, fun e2 H2 s2 => ?_, fun e2 dx H' n s2 e => k2 e1 e2 dx H' (s1.free n) (s1.trans s2) e⟩
    subst e1 e2
    obtain ⟨a, rfl, la, za⟩ := h1.yes
    obtain ⟨b, rfl, lb, zb⟩ := h2.yes
    obtain ⟨d, w, hd, hs, hw, ho, k⟩ := k3 a b rfl rfl za zb
    have s12 := s1.trans s2
    have hd2 := hd.same s12
    walk_at "rd"
    refine hd2.isi (n := "tuple") (.inr (.inr (.inr (.inr rfl)))) ?_
    by_cases ht : ∃ ds, d = .tuple ds
    case neg =>
      have e : tyB "tuple" d = false := by cases d <;> first | rfl | exact (ht ⟨_, rfl⟩).elim
      have e2 : alnB a b d = false := by cases d <;> first | rfl | exact (ht ⟨_, rfl⟩).elim
      rw [e]
      rw [e2] at k
      walk_at "rd"
      exact k _ s12
    obtain ⟨ds, rfl⟩ := ht
    obtain ⟨va, xs, rfl, ha, hxs⟩ := hd2.tupI
    rw [show tyB "tuple" (.tuple ds) = true from rfl]
    have lx := hxs.len
    have hz : (PyData.tuple ds).hasDict = false := ho.elim (fun q => by cases q) id
    have lds : ds.length ≤ w := by
      have : ∀ {n w : Nat} {ds : List PyData}, SdAll n w ds → ds.length ≤ w := by
        intro n w ds
        induction ds generalizing w with
        | nil => intro _; exact Nat.zero_le _
        | cons d ds ih =>
          intro h
          obtain ⟨a, b, hab, h1, h2⟩ := h.inv
          have := ih h2
          rw [List.length_cons]; omega
      exact this hs.tupI
    walk_at "rd"
    refine ⟨⟨_, ha⟩, ?_⟩
    refine go_map (walk_tup (xs := xs)) (fun i => V.bl (stepB (ds.getD i .none))) (by omega) (fun H s => Same.sqT s ha) (fun j v H6 H7 hj s6 y R2 hR2 => ?_) mono_name (fun pj H6 npj s6 ej => ?_)
    · obtain ⟨rfl, hv⟩ := y
      obtain ⟨dj, gj, dv⟩ := hxs.get hv
      have gD : ds.getD j .none = dj := by rw [List.getD_eq_getElem?_getD, gj]; rfl
      have mj := List.mem_of_getElem? gj
      rw [gD] at hR2
      walk_at "rd"
      refine ⟨rfl, ?_⟩
      walk_at "rd"
      exact ⟨v, dj, w, rfl, dv.same s6, hs.tupI.get mj, hw, hasDict_in hz _ mj, hR2⟩
    · rw [lx, map_getD ds (fun d => V.bl (stepB d)), show ds.map (fun d => V.bl (stepB d)) = (ds.map stepB).map V.bl by rw [List.map_map]; rfl] at ej
      walk_at "rd"
      refine i_all ej ?_
      rw [List.all_map, show (id ∘ stepB) = stepB from rfl]
      have t6 := s12.trans s6
      refine ⟨_, rfl, iteNC (fun e => ?_) (fun e => ?_)⟩
      · have : alnB a b (.tuple ds) = false := by simp only [alnB, e, Bool.false_and]
        rw [this] at k
        walk_at "rd"
        exact k _ t6
      obtain ⟨ss, rfl, hok⟩ := steps_inv e
      rw [alnB_dat hok] at k
      have ha6 := Same.sqT s6 ha
      have hx6 := hxs.same s6
      have l6 : xs.length = ss.length := by rw [lx, List.length_map]
      rw [List.length_map] at lds
      walk_at "rd"
      refine ⟨⟨_, ha6⟩, ?_⟩
      refine go_lc (walk_tup (xs := xs)) (fun p i HX => ∃ ws : List (List Nat), HX p = some (.lst (ws.map fun l => V.str (S l))) ∧ ws.flatten = lefts (ss.take i) ∧ ws.length ≤ i ∧ (∀ l ∈ ws, l.length ≤ 1) ∧ Same H6 HX)
        (fun p np => ⟨[], upd_same, by simp [lefts], Nat.le_refl _, (fun l h => by cases h), same_upd np⟩) (fun p i HX hi q => Same.sqT q.choose_spec.2.2.2.2 ha6) (fun p np i v HX HY hi q y => ?_) (fun p7 H7 np7 q => ?_)
      · obtain ⟨ws, ep, ef, el, eo, sx⟩ := q
        obtain ⟨rfl, hv⟩ := y
        obtain ⟨dj, gj, dv⟩ := DeAll.get hx6 hv
        obtain ⟨st, gs, rfl⟩ : ∃ st, ss[i]? = some st ∧ dj = st.dat := by
          rw [List.getElem?_map] at gj
          cases q : ss[i]? with
          | none => rw [q] at gj; cases gj
          | some st => rw [q] at gj; exact ⟨st, rfl, (Option.some.inj gj).symm⟩
        obtain ⟨va2, xs2, t, rfl, ha2, hx0, _, l1, l2, r1, r2, _⟩ := dat_parts (dv.same sx)
        rw [lefts_take gs]
        walk_at "rd"
        refine ⟨rfl, ?_⟩
        walk_at "rd"
        refine i_ixTn (k := 0) ha2 hx0 ?_
        walk_at "rd"
        refine iteNC (fun q => ?_) (fun q => ?_)
        · obtain ⟨c, e1, e2⟩ := l2 q
          walk_at "rd"
          refine i_ixTn (k := 1) ha2 e2 ?_
          refine ⟨_, ep, (Nat.lt_of_le_of_lt (m := 100000) (by rw [List.length_map]; omega) (Nat.le_of_ble_eq_true rfl)), ws ++ [[c]], ?_, ?_, ?_, ?_, Same.set_new sx np⟩
          · rw [upd_same, List.map_append]; rfl
          · rw [List.flatten_append, ef, e1]; rfl
          · rw [List.length_append]; exact Nat.succ_le_succ el
          · intro l hl
            rcases List.mem_append.mp hl with hl | hl
            · exact eo l hl
            · rw [List.mem_singleton.mp hl]; exact Nat.le_refl _
        · rw [l1 q, List.append_nil]
          exact ⟨ws, ep, ef, Nat.le_succ_of_le el, eo, sx⟩
      obtain ⟨ws1, ep, ef1, el, eo, s7⟩ := q
      rw [l6, List.take_length] at ef1
      refine i_joinS ep (by have := wsLen eo; omega) ?_
      rw [ef1]
      walk_at "rd"
      have ha7 := Same.sqT s7 ha6
      have hx7 := hx6.same s7
      refine ⟨⟨_, ha7⟩, ?_⟩
      refine go_lc (walk_tup (xs := xs)) (fun p i HX => ∃ ws : List (List Nat), HX p = some (.lst (ws.map fun l => V.str (S l))) ∧ ws.flatten = rights (ss.take i) ∧ ws.length ≤ i ∧ (∀ l ∈ ws, l.length ≤ 1) ∧ Same H7 HX)
        (fun p np => ⟨[], upd_same, by simp [rights], Nat.le_refl _, (fun l h => by cases h), same_upd np⟩) (fun p i HX hi q => Same.sqT q.choose_spec.2.2.2.2 ha7) (fun p np i v HX HY hi q y => ?_) (fun p8 H8 np8 q => ?_)
      · obtain ⟨ws, ep, ef, el, eo, sx⟩ := q
        obtain ⟨rfl, hv⟩ := y
        obtain ⟨dj, gj, dv⟩ := DeAll.get hx7 hv
        obtain ⟨st, gs, rfl⟩ : ∃ st, ss[i]? = some st ∧ dj = st.dat := by
          rw [List.getElem?_map] at gj
          cases q : ss[i]? with
          | none => rw [q] at gj; cases gj
          | some st => rw [q] at gj; exact ⟨st, rfl, (Option.some.inj gj).symm⟩
        obtain ⟨va2, xs2, t, rfl, ha2, hx0, _, l1, l2, r1, r2, _⟩ := dat_parts (dv.same sx)
        rw [rights_take gs]
        walk_at "rd"
        refine ⟨rfl, ?_⟩
        walk_at "rd"
        refine i_ixTn (k := 0) ha2 hx0 ?_
        walk_at "rd"
        refine iteNC (fun q => ?_) (fun q => ?_)
        · obtain ⟨c, e1, e2⟩ := r2 q
          walk_at "rd"
          refine i_rU (i_ixT ha2 e2 ?_)
          refine ⟨_, ep, (Nat.lt_of_le_of_lt (m := 100000) (by rw [List.length_map]; omega) (Nat.le_of_ble_eq_true rfl)), ws ++ [[c]], ?_, ?_, ?_, ?_, Same.set_new sx np⟩
          · rw [upd_same, List.map_append]; rfl
          · rw [List.flatten_append, ef, e1]; rfl
          · rw [List.length_append]; exact Nat.succ_le_succ el
          · intro l hl
            rcases List.mem_append.mp hl with hl | hl
            · exact eo l hl
            · rw [List.mem_singleton.mp hl]; exact Nat.le_refl _
        · rw [r1 q, List.append_nil]
          exact ⟨ws, ep, ef, Nat.le_succ_of_le el, eo, sx⟩
      obtain ⟨ws2, ep, ef2, el, eo, s8⟩ := q
      rw [l6, List.take_length] at ef2
      refine i_joinS ep (by have := wsLen eo; omega) ?_
      rw [ef2]
      walk_at "rd"
      refine iteB (fun q1 => ?_) (fun q1 => ?_)
      · rw [decide_eq_true q1, Bool.true_and] at k
        walk_at "rd"
        exact k _ (t6.trans (s7.trans s8))
      · rw [decide_eq_false q1, Bool.false_and] at k
        exact k _ (t6.trans (s7.trans s8))
end
end Sw
namespace Sw
open PySem PySem.Spec PyProof.Rows L2
local macro_rules | `(tactic| walk_at "hp") => `(tactic| first
  | (with_reducible assumption) | (with_reducible exact upd_same)
  | ((with_reducible refine' upd_old ?q1 ?q2); (case q1 => (with_reducible assumption)); (case q2 => walk_at "hp"))
  | ((with_reducible refine' Same.at ?q1 ?q2); (case q1 => (with_reducible assumption)); (case q2 => walk_at "hp"))
  | ((with_reducible refine' upd_skip ?q1 ?q2); (case q1 => walk_at "ne"); (case q2 => walk_at "hp"))
  | fail)
local macro_rules | `(tactic| walk_at "ne") => `(tactic| first
  | (with_reducible assumption) | (with_reducible exact Ne.symm (by assumption))
  | ((with_reducible refine' ne_of_none ?q1 ?q2); (case q2 => (with_reducible assumption)); (case q1 => walk_at "hp"))
  | fail)
local macro_rules | `(tactic| walk_at "ci") => `(tactic| first | assumption | (show (0 : Int) < _; first | decide | (with_reducible omega)) | exact ⟨by decide, by decide⟩ | exact .inl ⟨by decide, by decide⟩ | exact .inr ⟨by decide, by decide⟩)
local macro_rules | `(tactic| walk_at "ln") => `(tactic| first | (with_reducible assumption) | (with_reducible omega) | (simp only [List.length_append, List.length_take, List.length_drop, List.length_reverse, List.length_cons, List.length_nil]; with_reducible omega))
local macro_rules | `(tactic| walk_at "rd1") => `(tactic| first
  | (with_reducible refine i_seq ?_) | (with_reducible refine i_asg ?_) | (with_reducible refine i_ret ?_) | (with_reducible refine i_name ?_) | ((with_reducible refine' i_var ?q1 ?_); (case q1 => exact rfl)) | (with_reducible refine i_c ?_) | (with_reducible refine i_op ?_) | (with_reducible refine i_un ?_)
  | (with_reducible refine i_rI0 ?_) | (with_reducible refine i_cb ?_) | (with_reducible refine i_cons ?_) | (with_reducible refine i_nil ?_) | (with_reducible refine i_call ?_) | (with_reducible refine i_if ?_) | (with_reducible refine i_ifE ?_) | (with_reducible refine i_test ?_) | (with_reducible refine i_bl ?_)
  | (with_reducible refine i_and ?_) | (with_reducible refine i_or ?_) | (with_reducible refine i_not ?_) | (with_reducible refine i_lstM ?_) | (with_reducible refine i_lstLM ?_) | (with_reducible refine i_tupM ?_) | (with_reducible refine i_next ?_) | (with_reducible refine i_drop ?_) | (with_reducible refine i_sub ?_)
  | (with_reducible refine i_bm ?_) | (with_reducible refine i_sl ?_) | (with_reducible refine i_part ?_) | (with_reducible refine i_nopart ?_) | (with_reducible refine i_exI ?_) | (with_reducible refine i_chain ?_) | ((with_reducible refine' i_aug ?q1 ?_); (case q1 => exact rfl)) | (with_reducible refine i_ip ?_)
  | (with_reducible refine i_par ?_) | (with_reducible refine i_pair ?_) | (with_reducible refine i_andV ?_) | (with_reducible refine i_orV ?_) | (with_reducible refine i_notV ?_) | (with_reducible refine i_m1 ?_) | (with_reducible refine i_str ?_)
  | (with_reducible refine iteF ?_) | (with_reducible refine iteT ?_) | (with_reducible refine iteNT ?_) | (with_reducible refine iteNF ?_) | (with_reducible refine i_tyS ?_) | (with_reducible refine i_tB ?_) | (with_reducible refine i_retN ?_) | (with_reducible refine i_par3 ?_) | (with_reducible refine i_trip ?_) | (with_reducible refine i_gCons ?_) | (with_reducible refine i_gNil ?_) | (with_reducible refine i_lstRg ?_) | (with_reducible refine i_rg1 ?_)
  | (with_reducible refine i_lc ?_) | (with_reducible refine i_for ?_) | (with_reducible refine i_iList ?_) | (with_reducible refine i_iTup ?_) | (with_reducible refine i_iStr ?_) | (with_reducible refine i_iRng1 ?_) | (with_reducible refine i_iEnS ?_)
  | ((with_reducible refine' i_ixTH ?q1 ?q2 ?_); (case q1 => walk_at "hp"); (case q2 => exact rfl))
  | ((with_reducible refine' i_ixLH ?q1 ?q2 ?_); (case q1 => walk_at "hp"); (case q2 => exact rfl))
  | ((with_reducible refine i_addS ?q1 ?_); (case q1 => walk_at "ln")) | ((with_reducible refine i_lenSS ?q1 ?_); (case q1 => walk_at "ln")) | ((with_reducible refine i_slFrom ?q1 ?q2 ?_); (case q1 => walk_at "ln"); (case q2 => walk_at "ln")) | ((with_reducible refine i_slTo ?q1 ?q2 ?_); (case q1 => walk_at "ln"); (case q2 => walk_at "ln"))
  | ((with_reducible refine' i_tyL ?q1 ?_); (case q1 => walk_at "hp"))
  | ((with_reducible refine' i_gTupH ?q1 ?q2 ?_); (case q1 => walk_at "hp"); (case q2 => exact rfl))
  | (with_reducible refine i_dnewM ?_) | (with_reducible refine i_init ?_) | (with_reducible refine i_fst ?_) | (with_reducible refine i_mk ?_) | (with_reducible refine i_raise ?_) | (with_reducible refine i_callS ?_) | (with_reducible refine i_kwS ?_)
  | (with_reducible refine i_revT ?_) | (with_reducible refine i_kw ?_) | ((with_reducible refine' ⟨_, _, rfl, sqT_of ?q1, ?_⟩); (case q1 => walk_at "hp"))
  | (with_reducible refine i_revS ?_) | ((with_reducible refine i_revSS ?q1 ?_); (case q1 => walk_at "ln"))
  | (with_reducible refine i_startS ?_) | (with_reducible refine i_inSg ?_) | (with_reducible refine i_absN ?_) | (with_reducible refine i_min2 ?_) | (with_reducible refine i_max2 ?_) | (with_reducible refine i_min3 ?_) | (with_reducible refine i_intN ?_) | (with_reducible refine i_intNB ?_)
  | ((with_reducible refine' i_lenL ?q1 ?_); (case q1 => walk_at "hp")) | ((with_reducible refine' i_lenT ?q1 ?_); (case q1 => walk_at "hp"))
  | (with_reducible refine i_eqI ?_) | (with_reducible refine i_neI ?_) | (with_reducible refine i_eqS ?_) | (with_reducible refine i_neS ?_) | (with_reducible refine i_isNoI ?_) | (with_reducible refine i_isNoN ?_) | (with_reducible refine i_isNoR ?_)
  | ((with_reducible refine i_pow ?q1 ?q2 ?q3 ?_); (case q1 => decide); (case q2 => decide); (case q3 => (with_reducible omega)))
  | ((with_reducible refine i_rI ?q1 ?_); (case q1 => walk_at "ci"))
  | (with_reducible refine Or.inl ⟨_, rfl, ?_⟩) | (with_reducible refine Or.inr ⟨_, rfl, ?_⟩) | (with_reducible refine ⟨_, rfl, ?_⟩) | (with_reducible refine ⟨_, _, rfl, ?_⟩) | (with_reducible refine ⟨_, _, rfl, rfl, ?_⟩)
  | ((with_reducible refine' ⟨_, _, rfl, Or.inl (sqL_of ?q1), ?_⟩); (case q1 => walk_at "hp")) | ((with_reducible refine' ⟨_, _, rfl, Or.inr (sqT_of ?q1), ?_⟩); (case q1 => walk_at "hp")) | fail)
local macro_rules | `(tactic| walk_at "rd") => `(tactic| repeat' walk_at "rd1")

/-- _law_is_step(step) -/
def spLstep (K : PySem.W.Frag) : Sp := fun vs H Q _ => ∃ x d w, vs = [x] ∧ De K H x d ∧ Sd 5 w d ∧ w ≤ 100000 ∧ d.hasDict = false ∧ ∀ H', Same H H' → Q (.bl (stepB d)) H'
/-- _law_is(first, second, value) -/
def spLis (K : PySem.W.Frag) : Sp := fun vs H Q _ => ∃ a b v d w, vs = [.str (S a), .str (S b), v] ∧ De K H v d ∧ Sd 6 w d ∧ w ≤ 100000 ∧ Ok1 d ∧ ∀ H', Same H H' → Q (.bl (alnB a b d)) H'
theorem sdAll_len {n : Nat} : ∀ {w : Nat} {ds : List PyData}, SdAll n w ds → ds.length ≤ w
  | _, [], _ => Nat.zero_le _
  | _, d :: ds, h => by
    obtain ⟨a, b, hab, h1, h2⟩ := h.inv
    have := sdAll_len h2
    rw [List.length_cons]
    omega
theorem az_in2 (c : Nat) : decide (c ∈ (S [97, 98, 99, 100, 101, 102, 103, 104, 105, 106, 107, 108, 109, 110, 111, 112, 113, 114, 115, 116, 117, 118, 119, 120, 121, 122]).cps.toList) = decide (97 ≤ c ∧ c ≤ 122) := by
  refine decide_eq_decide.mpr ?_
  simp only [S, List.mem_cons, List.not_mem_nil, or_false]
  omega
theorem room65 {k : Nat} {A : Around} (r : Room k A) : A.units + 65 < cLine := by have := r.un; omega
theorem SdAll.filter {n : Nat} (p : PyData → Bool) : ∀ {w : Nat} {ds : List PyData}, SdAll n w ds → SdAll n w (ds.filter p)
  | _, [], h => h
  | _, d :: ds, h => by
    obtain ⟨a, b, hab, h1, h2⟩ := h.inv
    rw [List.filter_cons]
    split
    · exact (SdAll.cons h1 (SdAll.filter p h2)).mono (Nat.le_refl _) (by omega)
    · exact (SdAll.filter p h2).mono (Nat.le_refl _) (by omega)
theorem eqvAll_nil (ds : List PyData) : PyData.eqvAll ds [] = ds.isEmpty := by cases ds <;> simp [PyData.eqvAll]
theorem dp_of {K : PySem.W.Frag} {H : Hp} {vs : List V} {ds : List PyData} (h : DeAll K H vs ds) (z : ∀ y ∈ ds, y.hasDict = false) : DpAll K H vs ds :=
  h.dp (by have := hasDict_tup.mpr z; simpa only [PyData.hasDict] using this)
/-- xs != [] -/
theorem i_neL {K : PySem.W.Frag} {H : Hp} {a b : Addr} {vs : List V} {ds : List PyData} {n w : Nat} {Q : VK} (h1 : H a = some (.lst vs)) (h2 : DeAll K H vs ds) (h3 : H b = some (.lst [])) (s : SdAll n w ds) (z : ∀ y ∈ ds, y.hasDict = false) (k : Q (.bl (!ds.isEmpty)) H) (hn : n ≤ 50 := by omega) : rNeD K (.ref a) (.ref b) H Q := by
  refine ⟨.list ds, .list [], .lst (sqL_of h1) (dp_of h2 z), .lst (sqL_of h3) .nil, (sd_lst' s).shaped (by omega) ?_, (sd_lst' (n := 0) SdAll.nil).shaped (by omega) (by simp [PyData.hasDict, PyData.hasDictAll]), ?_⟩
  · have := hasDict_tup.mpr z
    simpa only [PyData.hasDict] using this
  · rw [show PyData.eqv (.list ds) (.list []) = ds.isEmpty by simp only [PyData.eqv]; exact eqvAll_nil ds]; exact k
theorem filter_empty {α : Type} (p : α → Bool) (ds : List α) : (ds.filter fun d => !p d).isEmpty = ds.all p := by
  induction ds with
  | nil => rfl
  | cons d ds ih =>
    rw [List.filter_cons, List.all_cons]
    cases p d <;> simp [ih]
section
variable {P : Program} {w : World} {K : PySem.W.Frag} {mg : Str → Option Value} {base : Heap} {f : Addr} {fd : FuncData}
theorem ok_lletter (F : Fun K "_law_is_letter" "_law_is_letter" s__law_is_letter f fd) (z : Z mg) : FnOk P w K mg base CX0 1 f fd ["value"] (spIsLet K) := by
  refine F.ok sc__law_is_letter (fun vs H Q E h => ?_) (fun cdv A outer s H vs Q E hr h => ?_)
  · obtain ⟨x, d, n, w, rfl, _⟩ := h; rfl
  · obtain ⟨x, d, n, w, rfl, hd, hs, hw, k⟩ := h
    refine ⟨_, (pss_one (ps_ret (pe_and (pe_callB call_isi (by rfl) z.isinstance (by decide +kernel) (pa_cons (pv 0) (pa_cons (pe_bltn (v := .ty "str") (by rfl) z.str (by decide +kernel) rfl) pa_nil))) (pe_and (pe_cmpR op_eq (pe_callB call_lenS (by rfl) z.len PySem.boot_len (pa_cons (pv 0) pa_nil)) pe_int (nomark _)) (pe_one (pe_cmpR op_inSg (pv 0) (pe_strS (l := [97, 98, 99, 100, 101, 102, 103, 104, 105, 106, 107, 108, 109, 110, 111, 112, 113, 114, 115, 116, 117, 118, 119, 120, 121, 122]) (by decide +kernel)) (by rfl))))))), ?_⟩
    walk_at "rd"
    refine hd.isi (n := "str") (.inr (.inr (.inl rfl))) ?_
    by_cases ht : ∃ l, d = .str (S l)
    case neg =>
      have e : tyB "str" d = false := by
        cases d <;> first | rfl | exact (ht ⟨_, congrArg _ (str_S _)⟩).elim
      have e2 : isLet d = false := by
        cases d <;> first | rfl | exact (ht ⟨_, congrArg _ (str_S _)⟩).elim
      rw [e]
      rw [e2] at k
      walk_at "rd"
      exact k _ (Same.refl _)
    obtain ⟨l, rfl⟩ := ht
    cases hd
    rw [show tyB "str" (.str (S l)) = true from rfl]
    have hl : l.length ≤ 100000 := by
      have := hs.wei
      simp only [PyData.weight, S_size] at this
      omega
    walk_at "rd"
    refine iteB (fun q => ?_) (fun q => ?_)
    · obtain ⟨c, rfl⟩ : ∃ c, l = [c] := by
        rcases l with _ | ⟨c, _ | ⟨c2, l⟩⟩
        · cases q
        · exact ⟨c, rfl⟩
        · simp only [List.length_cons] at q; omega
      walk_at "rd"
      rw [az_in2]
      rw [isLet_S] at k
      have e : azN c = decide (97 ≤ c ∧ c ≤ 122) := by simp [azN]
      rw [e] at k
      exact k _ (Same.refl _)
    · have : isLet (.str (S l)) = false := by
        simp only [isLet]
        have el : (S l).cps.toList = l := by simp [S]
        rw [el]
        rcases l with _ | ⟨c, _ | ⟨c2, l⟩⟩
        · rfl
        · exact (q rfl).elim
        · rfl
      rw [this] at k
      exact k _ (Same.refl _)
theorem ok_lstep (F : Fun K "_law_is_step" "_law_is_step" s__law_is_step f fd) (z : Z mg) (c__law_is_letter : Cal P w K mg base "_law_is_letter" ["value"] 1 (spIsLet K)) : FnOk P w K mg base CX0 2 f fd ["step"] (spLstep K) := by
  refine F.ok sc__law_is_step (fun vs H Q E h => ?_) (fun cdv A outer s H vs Q E hr h => ?_)
  · obtain ⟨x, d, w, rfl, _⟩ := h; rfl
  · obtain ⟨x, d, w, rfl, hd, hs, hw, hz, k⟩ := h
    refine ⟨_, (pss_cons (ps_if (PW.pt (pw_or (pt_not (pt_val (pe_callB call_isi (by rfl) z.isinstance (by decide +kernel) (pa_cons (pv 0) (pa_cons (pe_bltn (v := .ty "tuple") (by rfl) z.tuple (by decide +kernel) rfl) pa_nil))))) (pw_or1 (pt_cmpR op_lt (pe_callB call_lenQ (by rfl) z.len PySem.boot_len (pa_cons (pv 0) pa_nil)) pe_int (nomark _)))))
        (pss_one (ps_ret pe_bl))
        pss_nil)
      (pss_cons (ps_if (pt_cmpR (op_neD hr.units) (pe_lc (own := [("part", 1)]) (g := gName 1) (tt := _) rfl sc__law_is_step.nd (pi_tup (pe_slice sl_tupA (pv 0) (po_some pe_int) po_none)) (blkOk_by (own := [("part", 1)]) (N := n__law_is_step) (sc := defScope s__law_is_step) (by decide +kernel)) (fun _ _ _ _ _ => (pg_name (i := 1) sc__law_is_step.nd rfl (.inl rfl))) (fun _ _ _ _ _ => (pts_one (pt_not (pt_val (pe_cal c__law_is_letter hr (pa_cons (pv 1) pa_nil)))))) (fun _ _ _ _ _ => (pv 1))) (pe_lstL pa_nil) (nomark _))
        (pss_one (ps_ret pe_bl))
        pss_nil)
      (pss_cons (ps_if (pt_cmpR op_eq (pe_callB call_lenQ (by rfl) z.len PySem.boot_len (pa_cons (pv 0) pa_nil)) pe_int (nomark _))
        (pss_one (ps_ret (pe_cmpR (op_inD (room65 hr)) (pe_ix ix_tup (pv 0) pe_int (fun _ _ => rfl)) (pe_lstL (pa_cons (pe_strS (l := [107, 101, 101, 112]) (by decide +kernel)) (pa_cons (pe_strS (l := [100, 114, 111, 112]) (by decide +kernel)) (pa_cons (pe_strS (l := [97, 100, 100]) (by decide +kernel)) pa_nil)))) (by rfl))))
        pss_nil)
      (pss_one (ps_ret (pe_and (pe_cmpR op_eq (pe_callB call_lenQ (by rfl) z.len PySem.boot_len (pa_cons (pv 0) pa_nil)) pe_int (nomark _)) (pe_and (pe_cmpR (op_eqX hr.units) (pe_ix ix_tup (pv 0) pe_int (fun _ _ => rfl)) (pe_strS (l := [115, 119, 97, 112]) (by decide +kernel)) (nomark _)) (pe_one (pe_cmpR op_ne (pe_ix ix_tup (pv 0) pe_int (fun _ _ => rfl)) (pe_ix ix_tup (pv 0) pe_int (fun _ _ => rfl)) (nomark _)))))))))), ?_⟩
    walk_at "rd"
    refine hd.isi (n := "tuple") (.inr (.inr (.inr (.inr rfl)))) ?_
    by_cases ht : ∃ ds, d = .tuple ds
    case neg =>
      have e : tyB "tuple" d = false := by cases d <;> first | rfl | exact (ht ⟨_, rfl⟩).elim
      have e2 : stepB d = false := by cases d <;> first | rfl | exact (ht ⟨_, rfl⟩).elim
      rw [e]
      rw [e2] at k
      walk_at "rd"
      exact k _ (Same.refl _)
    obtain ⟨ds, rfl⟩ := ht
    obtain ⟨a, xs, rfl, ha, hxs⟩ := hd.tupI
    rw [show tyB "tuple" (.tuple ds) = true from rfl]
    have lx := hxs.len
    have hy := hasDict_tup.mp hz
    walk_at "rd"
    refine i_lenSqT ha ?_
    walk_at "rd"
    refine iteB (fun l2 => ?_) (fun l2 => ?_)
    · have : stepB (.tuple ds) = false := by
        rcases ds with _ | ⟨x1, _ | ⟨x2, ds⟩⟩
        · rfl
        · rfl
        · rw [lx] at l2; simp only [List.length_cons] at l2; omega
      rw [this] at k
      walk_at "rd"
      exact k _ (Same.refl _)
    walk_at "rd"
    refine i_slTF (k := 1) ha fun p2 H2 s2 e2 => ?_
    have hx2 := (hxs.drop 1).same s2
    walk_at "rd"
    refine ⟨⟨_, e2⟩, ?_⟩
    have lld : xs.length ≤ w := by rw [lx]; exact sdAll_len hs.tupI
    refine go_lc (walk_tup (xs := xs.drop 1)) (fun p i HX => ∃ vs, HX p = some (.lst vs) ∧ DeAll K H2 vs (((ds.drop 1).take i).filter fun d => !isLet d) ∧ Same H2 HX)
      (fun p np => ⟨[], upd_same, by rw [List.take_zero]; exact .nil, same_upd np⟩) (fun p i HX hi q => Same.sqT q.choose_spec.2.2 e2) (fun p np i v HX HY hi q y => ?_) (fun p3 H3 np3 q => ?_)
    · obtain ⟨vs, ep, ed, sx⟩ := q
      obtain ⟨rfl, hv⟩ := y
      obtain ⟨dj, gj, dv⟩ := DeAll.get hx2 hv
      have mj : dj ∈ ds := List.mem_of_mem_drop (List.mem_of_getElem? gj)
      have lf : (((ds.drop 1).take i).filter fun d => !isLet d).length ≤ ds.length := Nat.le_trans (List.length_filter_le _ _) (by rw [List.length_take, List.length_drop]; omega)
      rw [List.take_add_one, gj, List.filter_append]
      walk_at "rd"
      refine ⟨rfl, ?_⟩
      walk_at "rd"
      refine ⟨v, dj, _, _, rfl, dv.same sx, hs.tupI'.get mj, hw, fun H8 s8 => ?_⟩
      have ep8 := s8 _ _ ep
      refine ⟨_, rfl, iteNC (fun q => ?_) (fun q => ?_)⟩
      · walk_at "rd"
        refine ⟨_, ep8, (Nat.lt_of_le_of_lt (m := 100000) (by rw [ed.len]; omega) (Nat.le_of_ble_eq_true rfl)), _, upd_same, ?_, Same.set_new (sx.trans s8) np⟩
        have nl : Option.toList (some dj) = [dj] := rfl
        rw [nl, show ([dj].filter fun d => !isLet d) = [dj] by simp [q]]
        exact ed.app (.cons dv .nil)
      · have nl : Option.toList (some dj) = [dj] := rfl
        rw [nl, show ([dj].filter fun d => !isLet d) = [] by simp [q], List.append_nil]
        exact ⟨_, ep8, ed, sx.trans s8⟩
    obtain ⟨vs, ep, ed, s3⟩ := q
    rw [show (xs.drop 1).length = (ds.drop 1).length by rw [List.length_drop, List.length_drop, lx], List.take_length] at ed
    walk_at "rd"
    refine newLL0 (Nat.le_of_ble_eq_true rfl) fun q4 H4 nq4 lq4 s4 e4 => ?_
    have s24 := s3.trans s4
    have t4 := s2.trans s24
    have ed4 := ed.same s24
    refine i_neL (s4 _ _ ep) ed4 e4 ((hs.tupI.drop 1).filter _) (fun y hm => hy y (List.mem_of_mem_drop (List.mem_filter.mp hm).1)) ?_
    rw [filter_empty]
    have ha4 := Same.sqT t4 ha
    have hx4 := hxs.same t4
    refine ⟨_, rfl, iteNC (fun e => ?_) (fun e => ?_)⟩
    · have : stepB (.tuple ds) = false := by
        by_cases l : ds.length = 2 ∨ ds.length = 3
        · exact stepB_no l e
        · rcases ds with _ | ⟨x1, _ | ⟨x2, _ | ⟨x3, _ | ⟨x4, ys⟩⟩⟩⟩
          · rfl
          · rfl
          · exact (l (.inl rfl)).elim
          · exact (l (.inr rfl)).elim
          · rfl
      rw [this] at k
      walk_at "rd"
      exact k _ t4
    walk_at "rd"
    refine i_lenSqT ha4 ?_
    walk_at "rd"
    refine iteB (fun l3 => ?_) (fun l3 => ?_)
    · obtain ⟨d0, d1, rfl⟩ : ∃ d0 d1, ds = [d0, d1] := by
        rcases ds with _ | ⟨x1, _ | ⟨x2, _ | ⟨x3, ys⟩⟩⟩
        · rw [lx] at l3; simp at l3
        · rw [lx] at l3; simp at l3
        · exact ⟨_, _, rfl⟩
        · rw [lx] at l3; simp only [List.length_cons] at l3; omega
      simp only [List.drop_succ_cons, List.drop_zero, List.all_cons, List.all_nil, Bool.and_true] at e
      simp only [stepB, e, Bool.true_and] at k
      cases hx4 with
      | cons h0 h1 =>
        walk_at "rd"
        refine i_ixTn (k := 0) ha4 rfl ?_
        walk_at "rd"
        refine newLL0 (Nat.le_of_ble_eq_true rfl) fun q5 H5 nq5 lq5 s5 e5 => ?_
        have st0 := hs.tupI'.get List.mem_cons_self
        refine ⟨d0, [.str (S tKeep), .str (S tDrop), .str (S tAdd)], (h0.same s5).dp (hy _ List.mem_cons_self), .lst (sqL_of e5) (.cons (.str _) (.cons (.str _) (.cons (.str _) .nil))), st0.shaped (by omega) (hy _ List.mem_cons_self), (sd_lst' (n := 0) (w := 20) ((SdAll.cons (sd_str (l := tKeep) (by decide)) (SdAll.cons (sd_str (l := tDrop) (by decide)) (SdAll.cons (sd_str (l := tAdd) (by decide)) SdAll.nil))).mono (Nat.le_refl _) (by decide))).shaped (by omega) (by simp [PyData.hasDict, PyData.hasDictAll]), ?_⟩
        rw [show ([PyData.str (S tKeep), .str (S tDrop), .str (S tAdd)].any fun z => PyData.eqv z d0) = (isS tKeep d0 || (isS tDrop d0 || isS tAdd d0)) by simp only [List.any_cons, List.any_nil, Bool.or_false, eqv_str_l]]
        exact k _ (t4.trans s5)
    walk_at "rd"
    refine i_lenSqT ha4 ?_
    walk_at "rd"
    refine iteB (fun l4 => ?_) (fun l4 => ?_)
    · obtain ⟨d0, d1, d2, rfl⟩ : ∃ d0 d1 d2, ds = [d0, d1, d2] := by
        rcases ds with _ | ⟨x1, _ | ⟨x2, _ | ⟨x3, _ | ⟨x4, ys⟩⟩⟩⟩
        · rw [lx] at l4; simp at l4
        · rw [lx] at l4; simp at l4
        · rw [lx] at l4; simp at l4
        · exact ⟨_, _, _, rfl⟩
        · rw [lx] at l4; simp only [List.length_cons] at l4; omega
      simp only [List.drop_succ_cons, List.drop_zero, List.all_cons, List.all_nil, Bool.and_true] at e
      rw [Bool.and_eq_true] at e
      simp only [stepB, e.1, e.2, Bool.and_self, Bool.true_and] at k
      obtain ⟨x1, rfl, _⟩ := isLet_inv e.1
      obtain ⟨x2, rfl, _⟩ := isLet_inv e.2
      cases hx4 with
      | cons h0 h1 =>
        cases h1 with
        | cons h1 h2 =>
          cases h2 with
          | cons h2 h3 =>
            cases h3
            cases h1
            cases h2
            walk_at "rd"
            refine i_ixTn (k := 0) ha4 rfl ?_
            walk_at "rd"
            have st0 := hs.tupI'.get List.mem_cons_self
            refine i_eqS1 h0 st0 (.inr (hy _ List.mem_cons_self)) (by decide) ?_
            refine ⟨_, rfl, iteC (fun e0 => ?_) (fun e0 => ?_)⟩
            · rw [e0, Bool.true_and, eqv_S] at k
              walk_at "rd"
              refine i_ixTn (k := 1) ha4 rfl ?_
              walk_at "rd"
              refine i_ixTn (k := 2) ha4 rfl ?_
              walk_at "rd"
              exact k _ t4
            · rw [e0] at k
              exact k _ t4
    · have : stepB (.tuple ds) = false := by
        rcases ds with _ | ⟨x1, _ | ⟨x2, _ | ⟨x3, _ | ⟨x4, ys⟩⟩⟩⟩
        · rfl
        · rfl
        · exact (l3 (by rw [lx]; rfl)).elim
        · exact (l4 (by rw [lx]; rfl)).elim
        · rfl
      rw [this] at k
      exact k _ t4
theorem ok_lis (F : Fun K "_law_is" "_law_is" s__law_is f fd) (z : Z mg) (c__law_is_step : Cal P w K mg base "_law_is_step" ["step"] 2 (spLstep K)) : FnOk P w K mg base CX0 3 f fd ["first", "second", "value"] (spLis K) := by
  refine F.ok sc__law_is (fun vs H Q E h => ?_) (fun cdv A outer s H vs Q E hr h => ?_)
  · obtain ⟨a, b, v, d, w, rfl, _⟩ := h; rfl
  · obtain ⟨a, b, v, d, w, rfl, hd, hs, hw, hz, k⟩ := h
    refine ⟨_, (pss_cons (ps_if (PW.pt (pw_or (pt_not (pt_val (pe_callB call_isi (by rfl) z.isinstance (by decide +kernel) (pa_cons (pv 2) (pa_cons (pe_bltn (v := .ty "tuple") (by rfl) z.tuple (by decide +kernel) rfl) pa_nil))))) (pw_or1 (pt_cmpR (op_neD hr.units) (pe_lc (own := [("step", 3)]) (g := gName 3) (tt := _) rfl sc__law_is.nd (pi_tup (pv 2)) (blkOk_by (own := [("step", 3)]) (N := n__law_is) (sc := defScope s__law_is) (by decide +kernel)) (fun _ _ _ _ _ => (pg_name (i := 3) sc__law_is.nd rfl (.inl rfl))) (fun _ _ _ _ _ => (pts_one (pt_not (pt_val (pe_cal c__law_is_step hr (pa_cons (pv 3) pa_nil)))))) (fun _ _ _ _ _ => (pv 3))) (pe_lstL pa_nil) (nomark _)))))
        (pss_one (ps_ret pe_bl))
        pss_nil)
      (pss_cons (ps_set (i := 4) sc__law_is.nd rfl (.inl rfl) (pe_m1 PySem.F.slot_str_join PySem.F.type_str_join mt_joinS (pe_strS (l := []) (by decide +kernel)) (pe_lc (own := [("step", 3)]) (g := gName 3) (tt := _) rfl sc__law_is.nd (pi_tup (pv 2)) (blkOk_by (own := [("step", 3)]) (N := n__law_is) (sc := defScope s__law_is) (by decide +kernel)) (fun _ _ _ _ _ => (pg_name (i := 3) sc__law_is.nd rfl (.inl rfl))) (fun _ _ _ _ _ => (pts_one (pt_cmpR op_ne (pe_ix (r := rIxT K) ix_tup (pv 3) pe_int (fun _ _ => rfl)) (pe_strS (l := [97, 100, 100]) (by decide +kernel)) (nomark _)))) (fun _ _ _ _ _ => (pe_ix (r := rIxT K) ix_tup (pv 3) pe_int (fun _ _ => rfl))))))
      (pss_cons (ps_set (i := 5) sc__law_is.nd rfl (.inl rfl) (pe_m1 PySem.F.slot_str_join PySem.F.type_str_join mt_joinS (pe_strS (l := []) (by decide +kernel)) (pe_lc (own := [("step", 3)]) (g := gName 3) (tt := _) rfl sc__law_is.nd (pi_tup (pv 2)) (blkOk_by (own := [("step", 3)]) (N := n__law_is) (sc := defScope s__law_is) (by decide +kernel)) (fun _ _ _ _ _ => (pg_name (i := 3) sc__law_is.nd rfl (.inl rfl))) (fun _ _ _ _ _ => (pts_one (pt_cmpR op_ne (pe_ix (r := rIxT K) ix_tup (pv 3) pe_int (fun _ _ => rfl)) (pe_strS (l := [100, 114, 111, 112]) (by decide +kernel)) (nomark _)))) (fun _ _ _ _ _ => (pe_ix (r := rIxT K) ix_tup (pv 3) (pe_un un_neg pe_int) (fun _ _ => rfl))))))
      (pss_one (ps_ret (pe_and (pe_cmpR op_eq (pv 4) (pv 0) (nomark _)) (pe_one (pe_cmpR op_eq (pv 5) (pv 1) (nomark _))))))))), ?_⟩
    walk_at "rd"
    refine hd.isi (n := "tuple") (.inr (.inr (.inr (.inr rfl)))) ?_
    by_cases ht : ∃ ds, d = .tuple ds
    case neg =>
      have e : tyB "tuple" d = false := by cases d <;> first | rfl | exact (ht ⟨_, rfl⟩).elim
      have e2 : alnB a b d = false := by cases d <;> first | rfl | exact (ht ⟨_, rfl⟩).elim
      rw [e]
      rw [e2] at k
      walk_at "rd"
      exact k _ (Same.refl _)
    obtain ⟨ds, rfl⟩ := ht
    obtain ⟨va, xs, rfl, ha, hxs⟩ := hd.tupI
    rw [show tyB "tuple" (.tuple ds) = true from rfl]
    have lx := hxs.len
    have hz : (PyData.tuple ds).hasDict = false := hz.elim (fun q => by cases q) id
    have hy := hasDict_tup.mp hz
    have lds := sdAll_len hs.tupI
    walk_at "rd"
    refine ⟨⟨_, ha⟩, ?_⟩
    refine go_lc (walk_tup (xs := xs)) (fun p i HX => ∃ vs, HX p = some (.lst vs) ∧ DeAll K H vs ((ds.take i).filter fun d => !stepB d) ∧ Same H HX)
      (fun p np => ⟨[], upd_same, by rw [List.take_zero]; exact .nil, same_upd np⟩) (fun p i HX hi q => Same.sqT q.choose_spec.2.2 ha) (fun p np i v HX HY hi q y => ?_) (fun p3 H3 np3 q => ?_)
    · obtain ⟨vs, ep, ed, sx⟩ := q
      obtain ⟨rfl, hv⟩ := y
      obtain ⟨dj, gj, dv⟩ := DeAll.get hxs hv
      have mj : dj ∈ ds := List.mem_of_getElem? gj
      have lf : ((ds.take i).filter fun d => !stepB d).length ≤ ds.length := Nat.le_trans (List.length_filter_le _ _) (by rw [List.length_take]; omega)
      rw [List.take_add_one, gj, List.filter_append]
      have nl : Option.toList (some dj) = [dj] := rfl
      walk_at "rd"
      refine ⟨rfl, ?_⟩
      walk_at "rd"
      refine ⟨v, dj, w, rfl, dv.same sx, hs.tupI.get mj, hw, hy _ mj, fun H8 s8 => ?_⟩
      have ep8 := s8 _ _ ep
      refine ⟨_, rfl, iteNC (fun q => ?_) (fun q => ?_)⟩
      · walk_at "rd"
        refine ⟨_, ep8, (Nat.lt_of_le_of_lt (m := 100000) (by rw [ed.len]; omega) (Nat.le_of_ble_eq_true rfl)), _, upd_same, ?_, Same.set_new (sx.trans s8) np⟩
        rw [nl, show ([dj].filter fun d => !stepB d) = [dj] by simp [q]]
        exact ed.app (.cons dv .nil)
      · rw [nl, show ([dj].filter fun d => !stepB d) = [] by simp [q], List.append_nil]
        exact ⟨_, ep8, ed, sx.trans s8⟩
    obtain ⟨vs, ep, ed, s3⟩ := q
    rw [lx, List.take_length] at ed
    walk_at "rd"
    refine newLL0 (Nat.le_of_ble_eq_true rfl) fun q4 H6 nq4 lq4 s4 e4 => ?_
    have t6 := s3.trans s4
    refine i_neL (s4 _ _ ep) (ed.same t6) e4 (hs.tupI.filter _) (fun y hm => hy y (List.mem_filter.mp hm).1) ?_
    rw [filter_empty]
    refine ⟨_, rfl, iteNC (fun e => ?_) (fun e => ?_)⟩
    · have : alnB a b (.tuple ds) = false := by simp only [alnB, e, Bool.false_and]
      rw [this] at k
      walk_at "rd"
      exact k _ t6
    obtain ⟨ss, rfl, hok⟩ := steps_inv e
    rw [alnB_dat hok] at k
    have ha6 := Same.sqT t6 ha
    have hx6 := hxs.same t6
    have l6 : xs.length = ss.length := by rw [lx, List.length_map]
    rw [List.length_map] at lds
    walk_at "rd"
    refine ⟨⟨_, ha6⟩, ?_⟩
    refine go_lc (walk_tup (xs := xs)) (fun p i HX => ∃ ws : List (List Nat), HX p = some (.lst (ws.map fun l => V.str (S l))) ∧ ws.flatten = lefts (ss.take i) ∧ ws.length ≤ i ∧ (∀ l ∈ ws, l.length ≤ 1) ∧ Same H6 HX)
      (fun p np => ⟨[], upd_same, by simp [lefts], Nat.le_refl _, (fun l h => by cases h), same_upd np⟩) (fun p i HX hi q => Same.sqT q.choose_spec.2.2.2.2 ha6) (fun p np i v HX HY hi q y => ?_) (fun p7 H7 np7 q => ?_)
    · obtain ⟨ws, ep, ef, el, eo, sx⟩ := q
      obtain ⟨rfl, hv⟩ := y
      obtain ⟨dj, gj, dv⟩ := DeAll.get hx6 hv
      obtain ⟨st, gs, rfl⟩ : ∃ st, ss[i]? = some st ∧ dj = st.dat := by
        rw [List.getElem?_map] at gj
        cases q : ss[i]? with
        | none => rw [q] at gj; cases gj
        | some st => rw [q] at gj; exact ⟨st, rfl, (Option.some.inj gj).symm⟩
      obtain ⟨va2, xs2, t, rfl, ha2, hx0, _, l1, l2, r1, r2, _⟩ := dat_parts (dv.same sx)
      rw [lefts_take gs]
      walk_at "rd"
      refine ⟨rfl, ?_⟩
      walk_at "rd"
      refine i_ixTn (k := 0) ha2 hx0 ?_
      walk_at "rd"
      refine iteNC (fun q => ?_) (fun q => ?_)
      · obtain ⟨c, e1, e2⟩ := l2 q
        walk_at "rd"
        refine i_ixTn (k := 1) ha2 e2 ?_
        refine ⟨_, ep, (Nat.lt_of_le_of_lt (m := 100000) (by rw [List.length_map]; omega) (Nat.le_of_ble_eq_true rfl)), ws ++ [[c]], ?_, ?_, ?_, ?_, Same.set_new sx np⟩
        · rw [upd_same, List.map_append]; rfl
        · rw [List.flatten_append, ef, e1]; rfl
        · rw [List.length_append]; exact Nat.succ_le_succ el
        · intro l hl
          rcases List.mem_append.mp hl with hl | hl
          · exact eo l hl
          · rw [List.mem_singleton.mp hl]; exact Nat.le_refl _
      · rw [l1 q, List.append_nil]
        exact ⟨ws, ep, ef, Nat.le_succ_of_le el, eo, sx⟩
    obtain ⟨ws1, ep, ef1, el, eo, s7⟩ := q
    rw [l6, List.take_length] at ef1
    refine i_joinS ep (by have := wsLen eo; omega) ?_
    rw [ef1]
    walk_at "rd"
    have ha7 := Same.sqT s7 ha6
    have hx7 := hx6.same s7
    refine ⟨⟨_, ha7⟩, ?_⟩
    refine go_lc (walk_tup (xs := xs)) (fun p i HX => ∃ ws : List (List Nat), HX p = some (.lst (ws.map fun l => V.str (S l))) ∧ ws.flatten = rights (ss.take i) ∧ ws.length ≤ i ∧ (∀ l ∈ ws, l.length ≤ 1) ∧ Same H7 HX)
      (fun p np => ⟨[], upd_same, by simp [rights], Nat.le_refl _, (fun l h => by cases h), same_upd np⟩) (fun p i HX hi q => Same.sqT q.choose_spec.2.2.2.2 ha7) (fun p np i v HX HY hi q y => ?_) (fun p8 H8 np8 q => ?_)
    · obtain ⟨ws, ep, ef, el, eo, sx⟩ := q
      obtain ⟨rfl, hv⟩ := y
      obtain ⟨dj, gj, dv⟩ := DeAll.get hx7 hv
      obtain ⟨st, gs, rfl⟩ : ∃ st, ss[i]? = some st ∧ dj = st.dat := by
        rw [List.getElem?_map] at gj
        cases q : ss[i]? with
        | none => rw [q] at gj; cases gj
        | some st => rw [q] at gj; exact ⟨st, rfl, (Option.some.inj gj).symm⟩
      obtain ⟨va2, xs2, t, rfl, ha2, hx0, _, l1, l2, r1, r2, _⟩ := dat_parts (dv.same sx)
      rw [rights_take gs]
      walk_at "rd"
      refine ⟨rfl, ?_⟩
      walk_at "rd"
      refine i_ixTn (k := 0) ha2 hx0 ?_
      walk_at "rd"
      refine iteNC (fun q => ?_) (fun q => ?_)
      · obtain ⟨c, e1, e2⟩ := r2 q
        walk_at "rd"
        refine i_rU (i_ixT ha2 e2 ?_)
        refine ⟨_, ep, (Nat.lt_of_le_of_lt (m := 100000) (by rw [List.length_map]; omega) (Nat.le_of_ble_eq_true rfl)), ws ++ [[c]], ?_, ?_, ?_, ?_, Same.set_new sx np⟩
        · rw [upd_same, List.map_append]; rfl
        · rw [List.flatten_append, ef, e1]; rfl
        · rw [List.length_append]; exact Nat.succ_le_succ el
        · intro l hl
          rcases List.mem_append.mp hl with hl | hl
          · exact eo l hl
          · rw [List.mem_singleton.mp hl]; exact Nat.le_refl _
      · rw [r1 q, List.append_nil]
        exact ⟨ws, ep, ef, Nat.le_succ_of_le el, eo, sx⟩
    obtain ⟨ws2, ep, ef2, el, eo, s8⟩ := q
    rw [l6, List.take_length] at ef2
    refine i_joinS ep (by have := wsLen eo; omega) ?_
    rw [ef2]
    walk_at "rd"
    refine iteB (fun q1 => ?_) (fun q1 => ?_)
    · rw [decide_eq_true q1, Bool.true_and] at k
      walk_at "rd"
      exact k _ (t6.trans (s7.trans s8))
    · rw [decide_eq_false q1, Bool.false_and] at k
      exact k _ (t6.trans (s7.trans s8))
end
end Sw
namespace Sw
open PySem PySem.Spec PyProof.Rows L2
local macro_rules | `(tactic| walk_at "hp") => `(tactic| first
  | (with_reducible assumption) | (with_reducible exact upd_same)
  | ((with_reducible refine' upd_old ?q1 ?q2); (case q1 => (with_reducible assumption)); (case q2 => walk_at "hp"))
  | ((with_reducible refine' Same.at ?q1 ?q2); (case q1 => (with_reducible assumption)); (case q2 => walk_at "hp"))
  | ((with_reducible refine' upd_skip ?q1 ?q2); (case q1 => walk_at "ne"); (case q2 => walk_at "hp"))
  | fail)
local macro_rules | `(tactic| walk_at "ne") => `(tactic| first
  | (with_reducible assumption) | (with_reducible exact Ne.symm (by assumption))
  | ((with_reducible refine' ne_of_none ?q1 ?q2); (case q2 => (with_reducible assumption)); (case q1 => walk_at "hp"))
  | fail)
local macro_rules | `(tactic| walk_at "ci") => `(tactic| first | assumption | (show (0 : Int) < _; first | decide | (with_reducible omega)) | exact ⟨by decide, by decide⟩ | exact .inl ⟨by decide, by decide⟩ | exact .inr ⟨by decide, by decide⟩)
local macro_rules | `(tactic| walk_at "ln") => `(tactic| first | (with_reducible assumption) | (with_reducible omega) | (simp only [List.length_append, List.length_take, List.length_drop, List.length_reverse, List.length_cons, List.length_nil]; with_reducible omega))
local macro_rules | `(tactic| walk_at "rd1") => `(tactic| first
  | (with_reducible refine i_seq ?_) | (with_reducible refine i_asg ?_) | (with_reducible refine i_ret ?_) | (with_reducible refine i_name ?_) | ((with_reducible refine' i_var ?q1 ?_); (case q1 => exact rfl)) | (with_reducible refine i_c ?_) | (with_reducible refine i_op ?_) | (with_reducible refine i_un ?_)
  | (with_reducible refine i_rI0 ?_) | (with_reducible refine i_cb ?_) | (with_reducible refine i_cons ?_) | (with_reducible refine i_nil ?_) | (with_reducible refine i_call ?_) | (with_reducible refine i_if ?_) | (with_reducible refine i_ifE ?_) | (with_reducible refine i_test ?_) | (with_reducible refine i_bl ?_)
  | (with_reducible refine i_and ?_) | (with_reducible refine i_or ?_) | (with_reducible refine i_not ?_) | (with_reducible refine i_lst ?_) | (with_reducible refine i_tup ?_) | (with_reducible refine i_next ?_) | (with_reducible refine i_drop ?_) | (with_reducible refine i_sub ?_)
  | (with_reducible refine i_bm ?_) | (with_reducible refine i_sl ?_) | (with_reducible refine i_part ?_) | (with_reducible refine i_nopart ?_) | (with_reducible refine i_exI ?_) | (with_reducible refine i_chain ?_) | ((with_reducible refine' i_aug ?q1 ?_); (case q1 => exact rfl)) | (with_reducible refine i_ip ?_)
  | (with_reducible refine i_par ?_) | (with_reducible refine i_pair ?_) | (with_reducible refine i_andV ?_) | (with_reducible refine i_orV ?_) | (with_reducible refine i_notV ?_) | (with_reducible refine i_m1 ?_) | (with_reducible refine i_str ?_)
  | (with_reducible refine iteF ?_) | (with_reducible refine iteT ?_) | (with_reducible refine iteNT ?_) | (with_reducible refine iteNF ?_) | (with_reducible refine i_tyS ?_) | (with_reducible refine i_tB ?_) | (with_reducible refine i_retN ?_) | (with_reducible refine i_par3 ?_) | (with_reducible refine i_trip ?_) | (with_reducible refine i_gCons ?_) | (with_reducible refine i_gNil ?_) | (with_reducible refine i_lstRg ?_) | (with_reducible refine i_rg1 ?_)
  | (with_reducible refine i_lc ?_) | (with_reducible refine i_for ?_) | (with_reducible refine i_iList ?_) | (with_reducible refine i_iTup ?_) | (with_reducible refine i_iStr ?_) | (with_reducible refine i_iRng1 ?_) | (with_reducible refine i_iEnS ?_)
  | ((with_reducible refine' i_ixTH ?q1 ?q2 ?_); (case q1 => walk_at "hp"); (case q2 => exact rfl))
  | ((with_reducible refine' i_ixLH ?q1 ?q2 ?_); (case q1 => walk_at "hp"); (case q2 => exact rfl))
  | ((with_reducible refine i_addS ?q1 ?_); (case q1 => walk_at "ln")) | ((with_reducible refine i_lenSS ?q1 ?_); (case q1 => walk_at "ln")) | ((with_reducible refine i_slFrom ?q1 ?q2 ?_); (case q1 => walk_at "ln"); (case q2 => walk_at "ln")) | ((with_reducible refine i_slTo ?q1 ?q2 ?_); (case q1 => walk_at "ln"); (case q2 => walk_at "ln"))
  | ((with_reducible refine' i_tyL ?q1 ?_); (case q1 => walk_at "hp"))
  | ((with_reducible refine' i_gTupH ?q1 ?q2 ?_); (case q1 => walk_at "hp"); (case q2 => exact rfl))
  | (with_reducible refine i_dnew ?_) | (with_reducible refine i_init ?_) | (with_reducible refine i_fst ?_) | (with_reducible refine i_mk ?_) | (with_reducible refine i_raise ?_) | (with_reducible refine i_callS ?_) | (with_reducible refine i_kwS ?_)
  | (with_reducible refine i_revT ?_) | (with_reducible refine i_kw ?_) | ((with_reducible refine' ⟨_, _, rfl, sqT_of ?q1, ?_⟩); (case q1 => walk_at "hp"))
  | (with_reducible refine i_revS ?_) | ((with_reducible refine i_revSS ?q1 ?_); (case q1 => walk_at "ln"))
  | (with_reducible refine i_startS ?_) | (with_reducible refine i_inSg ?_) | (with_reducible refine i_absN ?_) | (with_reducible refine i_min2 ?_) | (with_reducible refine i_max2 ?_) | (with_reducible refine i_min3 ?_) | (with_reducible refine i_intN ?_) | (with_reducible refine i_intNB ?_)
  | ((with_reducible refine' i_lenL ?q1 ?_); (case q1 => walk_at "hp")) | ((with_reducible refine' i_lenT ?q1 ?_); (case q1 => walk_at "hp"))
  | (with_reducible refine i_eqI ?_) | (with_reducible refine i_neI ?_) | (with_reducible refine i_eqS ?_) | (with_reducible refine i_neS ?_) | (with_reducible refine i_isNoI ?_) | (with_reducible refine i_isNoN ?_) | (with_reducible refine i_isNoR ?_)
  | ((with_reducible refine i_pow ?q1 ?q2 ?q3 ?_); (case q1 => decide); (case q2 => decide); (case q3 => (with_reducible omega)))
  | ((with_reducible refine i_rI ?q1 ?_); (case q1 => walk_at "ci"))
  | (with_reducible refine Or.inl ⟨_, rfl, ?_⟩) | (with_reducible refine Or.inr ⟨_, rfl, ?_⟩) | (with_reducible refine ⟨_, rfl, ?_⟩) | (with_reducible refine ⟨_, _, rfl, ?_⟩) | (with_reducible refine ⟨_, _, rfl, rfl, ?_⟩)
  | ((with_reducible refine' ⟨_, _, rfl, Or.inl (sqL_of ?q1), ?_⟩); (case q1 => walk_at "hp")) | ((with_reducible refine' ⟨_, _, rfl, Or.inr (sqT_of ?q1), ?_⟩); (case q1 => walk_at "hp")) | fail)
local macro_rules | `(tactic| walk_at "rd") => `(tactic| repeat' walk_at "rd1")

open Lev (lev)
theorem row_next' {a b : List Nat} {i k x y : Nat} (hx : a[i]? = some x) (hy : b[k]? = some y) :
    min (min ((lev (a.take i) (b.take k) : Nat) + (if (!decide ([x] = [y])) = true then (1 : Int) else 0)) ((lev (a.take (i + 1)) (b.take k) : Nat) + 1)) ((lev (a.take i) (b.take (k + 1)) : Nat) + 1) = ((lev (a.take (i + 1)) (b.take (k + 1)) : Nat) : Int) := by
  rw [Lev.take_snoc hx, Lev.take_snoc hy, Lev.lev_snoc]
  by_cases c : x = y
  · subst c; simp; omega
  · simp [c]; omega
/-- the first k of the one, the others of the other -/
def mix (A B : List Int) (k : Nat) : List Int := A.take k ++ B.drop k
theorem mix_get {A B : List Int} {k x : Nat} (h : A.length = B.length) (hk : k ≤ A.length) : (mix A B k)[x]? = if x < k then A[x]? else B[x]? := by
  unfold mix
  rw [List.getElem?_append, List.length_take, Nat.min_eq_left hk]
  by_cases c : x < k
  · rw [if_pos c, if_pos c, List.getElem?_take, if_pos c]
  · rw [if_neg c, if_neg c, List.getElem?_drop]
    congr 1; omega
theorem mix_len {A B : List Int} {k : Nat} (h : A.length = B.length) (hk : k ≤ A.length) : (mix A B k).length = A.length := by
  unfold mix
  rw [List.length_append, List.length_take, List.length_drop]; omega
theorem mix_set {A B : List Int} {k : Nat} {v : Int} (h : A.length = B.length) (hk : k < A.length) (hv : A[k]? = some v) : (mix A B k).set k v = mix A B (k + 1) := by
  apply List.ext_getElem?
  intro x
  rw [List.getElem?_set, mix_get h (by omega), mix_get h (by omega), mix_len h (by omega)]
  by_cases c : k = x
  · subst c
    rw [if_pos rfl, if_pos hk, if_pos (by omega), hv]
  · rw [if_neg c]
    by_cases c2 : x < k
    · rw [if_pos c2, if_pos (by omega)]
    · rw [if_neg c2, if_neg (by omega)]
theorem mix_all {A B : List Int} (h : A.length = B.length) : mix A B A.length = A := by
  unfold mix
  rw [List.take_length, h, List.drop_length, List.append_nil]
/-- _law_table(first, second) -/
def spTable : Sp := fun vs H Q _ => ∃ (a b : List Nat), vs = [.str (S a), .str (S b)] ∧ a.length ≤ 2000 ∧ b.length ≤ 2000 ∧ ∀ H', Same H H' → Q (.int (lev a b : Nat)) H'
section
variable {P : Program} {w : World} {K : PySem.W.Frag} {mg : Str → Option Value} {base : Heap} {f : Addr} {fd : FuncData}
theorem ixN_at {n j : Nat} (hj : j < n) : ixN n (j : Int) = some j := by
  unfold ixN
  rw [if_pos (by omega), if_pos (by omega)]
  simp
theorem ok_table (F : Fun K "_law_table" "_law_table" s__law_table f fd) (z : Z mg) : FnOk P w K mg base CX0 1 f fd ["first", "second"] spTable := by
  refine F.ok sc__law_table (fun vs H Q E h => ?_) (fun cdv A outer s H vs Q E hr h => ?_)
  · obtain ⟨a, b, rfl, _⟩ := h; rfl
  · obtain ⟨a, b, rfl, ha, hb, k⟩ := h
    refine ⟨_, (pss_cons (ps_set (i := 2) sc__law_table.nd rfl (.inl rfl) (pe_listRg rfl (by rfl) z.list (prg_1 (by rfl) z.range (pe_op op_add (pe_callB call_lenS (by rfl) z.len PySem.boot_len (pa_cons (pv 1) pa_nil)) pe_int))))
      (pss_cons (ps_for PassesOwn.never rfl (pi_range1 (by rfl) z.range (pa_cons (pe_callB call_lenS (by rfl) z.len PySem.boot_len (pa_cons (pv 0) pa_nil)) pa_nil)) (pg_name (i := 3) sc__law_table.nd rfl (.inl rfl))
        (pss_cons (ps_asg (pe_tup (pa_cons (pe_ix ix_list (pv 2) pe_int (fun _ _ => rfl)) (pa_cons (pe_op op_add (pv 3) pe_int) pa_nil))) (pg_tup rfl (pgs_cons (pg_name (i := 4) sc__law_table.nd rfl (.inl rfl)) (pgs_cons (pg_sub (pv 2) pe_int set_list) pgs_nil))))
        (pss_one (ps_for PassesOwn.never rfl (pi_range1 (by rfl) z.range (pa_cons (pe_callB call_lenS (by rfl) z.len PySem.boot_len (pa_cons (pv 1) pa_nil)) pa_nil)) (pg_name (i := 5) sc__law_table.nd rfl (.inl rfl))
          (pss_cons (ps_set (i := 6) sc__law_table.nd rfl (.inl rfl) (pe_op op_add (pv 4) (pe_callTy call_intN (by rfl) z.int (by decide +kernel) (pa_cons (pe_cmpR op_ne (pe_ix ix_S (pv 0) (pv 3) (fun _ _ => rfl)) (pe_ix ix_S (pv 1) (pv 5) (fun _ _ => rfl)) (nomark _)) pa_nil))))
          (pss_cons (ps_set (i := 4) sc__law_table.nd rfl (.inl rfl) (pe_ix ix_list (pv 2) (pe_op op_add (pv 5) pe_int) (fun _ _ => rfl)))
          (pss_one (ps_asg (pe_callB (call_min3N rfl) (by rfl) z.min_ (by decide +kernel) (pa_cons (pv 6) (pa_cons (pe_op op_add (pe_ix ix_list (pv 2) (pv 5) (fun _ _ => rfl)) pe_int) (pa_cons (pe_op op_add (pv 4) pe_int) pa_nil)))) (pg_sub (pv 2) (pe_op op_add (pv 5) pe_int) set_list)))))))))
      (pss_one (ps_ret (pe_ix ix_list (pv 2) (pe_un un_neg pe_int) (fun _ _ => rfl)))))), ?_⟩
    walk_at "rd"
    refine ⟨by unfold RgOk; refine ⟨by omega, by omega, by omega, by omega, by omega⟩, fun p np => ?_⟩
    walk_at "rd"
    have e0 : rgV 0 ((b.length : Int) + 1) = (row a b 0).map V.int := by
      rw [row_zero, List.map_map]
      unfold rgV
      rw [show ((b.length : Int) + 1 - 0).toNat = b.length + 1 by omega]
      refine List.map_congr_left fun k _ => ?_
      rw [Int.zero_add]; rfl
    rw [e0]
    refine i_rng (by omega) (by omega) ?_
    refine go_for walk_rangeZ (fun i σ H2 => ∃ (u3 u4 u5 u6 : Option V), σ = [some (.str (S a)), some (.str (S b)), some (.ref p), u3, u4, u5, u6] ∧ Same H H2 ∧ H2 p = some (.lst ((row a b i).map V.int))) ⟨none, none, none, none, rfl, same_upd np, upd_same⟩ (fun _ _ _ _ _ => trivial) (fun i v σ H2 H3 hi h y => ?_) (fun σ H2 h => ?_)
    · obtain ⟨u3, u4, u5, u6, rfl, s2, ep⟩ := h
      obtain ⟨rfl, rfl⟩ := y
      have hi' : i < a.length := by omega
      walk_at "rd"
      refine i_ixLI ep (by omega) (row_get (by omega)) ?_
      walk_at "rd"
      refine ⟨Nat.le_of_ble_eq_true rfl, fun q nq => ?_⟩
      have sq := same_upd (o := .tup [V.int ↑(lev (List.take i a) (List.take (Int.toNat 0) b)), V.int (↑i + 1)]) nq
      have ep' := sq _ _ ep
      have eL : (row a b (i + 1)).length = (row a b i).length := by rw [row_len, row_len]
      have g0 : (row a b (i + 1))[0]? = some ((i : Int) + 1) := by
        rw [row_get (by omega), List.take_zero, Lev.lev_nil', List.length_take, Nat.min_eq_left (by omega)]
        rfl
      walk_at "rd"
      refine i_setL ep' (ixN_at (j := 0) (by rw [List.length_map, row_len]; omega)) ?_
      have s3 := Same.set_new (o := .lst (((row a b i).map V.int).set 0 (V.int ((i : Int) + 1)))) (s2.trans sq) np
      have ep3 : upd (upd H3 q (.tup [V.int ↑(lev (List.take i a) (List.take (Int.toNat 0) b)), V.int (↑i + 1)])) p (.lst (((row a b i).map V.int).set 0 (V.int ((i : Int) + 1)))) p = some (.lst ((mix (row a b (i + 1)) (row a b i) 1).map V.int)) := by
        rw [upd_same, ← mix_set eL (k := 0) (by rw [row_len]; omega) g0, List.map_set]
        unfold mix
        rw [List.take_zero, List.drop_zero, List.nil_append]
      generalize upd (upd H3 q (.tup [V.int ↑(lev (List.take i a) (List.take (Int.toNat 0) b)), V.int (↑i + 1)])) p (.lst (((row a b i).map V.int).set 0 (V.int ((i : Int) + 1)))) = H4 at *
      walk_at "rd"
      refine i_rng (by omega) (by omega) ?_
      refine go_for walk_rangeZ (fun j σ H5 => ∃ (u5 u6 : Option V), σ = [some (.str (S a)), some (.str (S b)), some (.ref p), some (.int (i : Int)), some (.int (lev (a.take i) (b.take j) : Nat)), u5, u6] ∧ Same H H5 ∧ H5 p = some (.lst ((mix (row a b (i + 1)) (row a b i) (j + 1)).map V.int)))
        ⟨u5, u6, rfl, s3, ep3⟩ (fun _ _ _ _ _ => trivial) (fun j v σ H5 H6 hj h y => ?_) (fun σ H5 h => ?_)
      · obtain ⟨u5, u6, rfl, s5, ep5⟩ := h
        obtain ⟨rfl, rfl⟩ := y
        have hj' : j < b.length := by omega
        have lA : (row a b (i + 1)).length = b.length + 1 := row_len _ _ _
        have m1 : (mix (row a b (i + 1)) (row a b i) (j + 1))[j + 1]? = some (lev (a.take i) (b.take (j + 1)) : Int) := by
          rw [mix_get eL (by omega), if_neg (by omega), row_get (by omega)]
        have m0 : (mix (row a b (i + 1)) (row a b i) (j + 1))[j]? = some (lev (a.take (i + 1)) (b.take j) : Int) := by
          rw [mix_get eL (by omega), if_pos (by omega), row_get (by omega)]
        walk_at "rd"
        refine i_ixSI (by omega) (by rw [Int.toNat_natCast]; exact List.getElem?_eq_getElem hi') (by omega) ?_
        walk_at "rd"
        refine i_ixSI (by omega) (by rw [Int.toNat_natCast]; exact List.getElem?_eq_getElem hj') (by omega) ?_
        walk_at "rd"
        refine i_ixLI ep5 (by omega) (by rw [show ((j : Int) + 1).toNat = j + 1 by omega]; exact m1) ?_
        walk_at "rd"
        refine i_ixLI ep5 (by omega) (by rw [Int.toNat_natCast]; exact m0) ?_
        walk_at "rd"
        rw [row_next' (List.getElem?_eq_getElem hi') (List.getElem?_eq_getElem hj')]
        refine i_setL (j := j + 1) ep5 (by rw [show (j : Int) + 1 = ((j + 1 : Nat) : Int) by omega]; exact ixN_at (by rw [List.length_map, mix_len eL (by omega), lA]; omega)) ?_
        refine ⟨_, _, rfl, Same.set_new s5 np, ?_⟩
        rw [upd_same, ← List.map_set, mix_set eL (by omega) (row_get (by omega))]
      · obtain ⟨u5, u6, rfl, s5, ep5⟩ := h
        rw [show ((b.length : Int)).toNat + 1 = (row a b (i + 1)).length by rw [row_len, Int.toNat_natCast], mix_all eL] at ep5
        exact ⟨_, _, _, _, rfl, s5, ep5⟩
    · obtain ⟨u3, u4, u5, u6, rfl, s2, ep⟩ := h
      walk_at "rd"
      have eg := row_get (a := a) (b := b) (i := a.length) (k := b.length) (by omega)
      refine i_rU ?_
      refine i_ixLH ep (atI_neg1 (by rw [List.length_map, row_len]) (by rw [List.getElem?_map, Int.toNat_natCast, eg]; rfl)) ?_
      rw [List.take_length, List.take_length]
      exact k _ s2
end
end Sw
namespace Sw
open PySem PySem.Spec PyProof.Rows L2
local macro_rules | `(tactic| walk_at "hp") => `(tactic| first
  | (with_reducible assumption) | (with_reducible exact upd_same)
  | ((with_reducible refine' upd_old ?q1 ?q2); (case q1 => (with_reducible assumption)); (case q2 => walk_at "hp"))
  | ((with_reducible refine' Same.at ?q1 ?q2); (case q1 => (with_reducible assumption)); (case q2 => walk_at "hp"))
  | ((with_reducible refine' upd_skip ?q1 ?q2); (case q1 => walk_at "ne"); (case q2 => walk_at "hp"))
  | fail)
local macro_rules | `(tactic| walk_at "ne") => `(tactic| first
  | (with_reducible assumption) | (with_reducible exact Ne.symm (by assumption))
  | ((with_reducible refine' ne_of_none ?q1 ?q2); (case q2 => (with_reducible assumption)); (case q1 => walk_at "hp"))
  | fail)
local macro_rules | `(tactic| walk_at "ci") => `(tactic| first | assumption | (show (0 : Int) < _; first | decide | (with_reducible omega)) | exact ⟨by decide, by decide⟩ | exact .inl ⟨by decide, by decide⟩ | exact .inr ⟨by decide, by decide⟩)
local macro_rules | `(tactic| walk_at "ln") => `(tactic| first | (with_reducible assumption) | (with_reducible omega) | (simp only [List.length_append, List.length_take, List.length_drop, List.length_reverse, List.length_cons, List.length_nil]; with_reducible omega))
local macro_rules | `(tactic| walk_at "rd1") => `(tactic| first
  | (with_reducible refine i_seq ?_) | (with_reducible refine i_asg ?_) | (with_reducible refine i_ret ?_) | (with_reducible refine i_name ?_) | ((with_reducible refine' i_var ?q1 ?_); (case q1 => exact rfl)) | (with_reducible refine i_c ?_) | (with_reducible refine i_op ?_) | (with_reducible refine i_un ?_)
  | (with_reducible refine i_rI0 ?_) | (with_reducible refine i_cb ?_) | (with_reducible refine i_cons ?_) | (with_reducible refine i_nil ?_) | (with_reducible refine i_call ?_) | (with_reducible refine i_if ?_) | (with_reducible refine i_ifE ?_) | (with_reducible refine i_test ?_) | (with_reducible refine i_bl ?_)
  | (with_reducible refine i_and ?_) | (with_reducible refine i_or ?_) | (with_reducible refine i_not ?_) | (with_reducible refine i_lstM ?_) | (with_reducible refine i_lstLM ?_) | (with_reducible refine i_tupM ?_) | (with_reducible refine i_next ?_) | (with_reducible refine i_drop ?_) | (with_reducible refine i_sub ?_)
  | (with_reducible refine i_bm ?_) | (with_reducible refine i_sl ?_) | (with_reducible refine i_part ?_) | (with_reducible refine i_nopart ?_) | (with_reducible refine i_exI ?_) | (with_reducible refine i_chain ?_) | ((with_reducible refine' i_aug ?q1 ?_); (case q1 => exact rfl)) | (with_reducible refine i_ip ?_)
  | (with_reducible refine i_par ?_) | (with_reducible refine i_pair ?_) | (with_reducible refine i_andV ?_) | (with_reducible refine i_orV ?_) | (with_reducible refine i_notV ?_) | (with_reducible refine i_m1 ?_) | (with_reducible refine i_str ?_)
  | (with_reducible refine iteF ?_) | (with_reducible refine iteT ?_) | (with_reducible refine iteNT ?_) | (with_reducible refine iteNF ?_) | (with_reducible refine i_tyS ?_) | (with_reducible refine i_tB ?_) | (with_reducible refine i_retN ?_) | (with_reducible refine i_par3 ?_) | (with_reducible refine i_trip ?_) | (with_reducible refine i_gCons ?_) | (with_reducible refine i_gNil ?_) | (with_reducible refine i_lstRg ?_) | (with_reducible refine i_rg1 ?_)
  | (with_reducible refine i_lc ?_) | (with_reducible refine i_for ?_) | (with_reducible refine i_iList ?_) | (with_reducible refine i_iTup ?_) | (with_reducible refine i_iStr ?_) | (with_reducible refine i_iRng1 ?_) | (with_reducible refine i_iEnS ?_)
  | ((with_reducible refine' i_ixTH ?q1 ?q2 ?_); (case q1 => walk_at "hp"); (case q2 => exact rfl))
  | ((with_reducible refine' i_ixLH ?q1 ?q2 ?_); (case q1 => walk_at "hp"); (case q2 => exact rfl))
  | ((with_reducible refine i_addS ?q1 ?_); (case q1 => walk_at "ln")) | ((with_reducible refine i_lenSS ?q1 ?_); (case q1 => walk_at "ln")) | ((with_reducible refine i_slFrom ?q1 ?q2 ?_); (case q1 => walk_at "ln"); (case q2 => walk_at "ln")) | ((with_reducible refine i_slTo ?q1 ?q2 ?_); (case q1 => walk_at "ln"); (case q2 => walk_at "ln"))
  | ((with_reducible refine' i_tyL ?q1 ?_); (case q1 => walk_at "hp"))
  | ((with_reducible refine' i_gTupH ?q1 ?q2 ?_); (case q1 => walk_at "hp"); (case q2 => exact rfl))
  | (with_reducible refine i_dnewM ?_) | (with_reducible refine i_init ?_) | (with_reducible refine i_fst ?_) | (with_reducible refine i_mk ?_) | (with_reducible refine i_raise ?_) | (with_reducible refine i_callS ?_) | (with_reducible refine i_kwS ?_)
  | (with_reducible refine i_revT ?_) | (with_reducible refine i_kw ?_) | ((with_reducible refine' ⟨_, _, rfl, sqT_of ?q1, ?_⟩); (case q1 => walk_at "hp"))
  | (with_reducible refine i_revS ?_) | ((with_reducible refine i_revSS ?q1 ?_); (case q1 => walk_at "ln"))
  | (with_reducible refine i_startS ?_) | (with_reducible refine i_inSg ?_) | (with_reducible refine i_absN ?_) | (with_reducible refine i_min2 ?_) | (with_reducible refine i_max2 ?_) | (with_reducible refine i_min3 ?_) | (with_reducible refine i_intN ?_) | (with_reducible refine i_intNB ?_)
  | ((with_reducible refine' i_lenL ?q1 ?_); (case q1 => walk_at "hp")) | ((with_reducible refine' i_lenT ?q1 ?_); (case q1 => walk_at "hp"))
  | (with_reducible refine i_eqI ?_) | (with_reducible refine i_neI ?_) | (with_reducible refine i_eqS ?_) | (with_reducible refine i_neS ?_) | (with_reducible refine i_isNoI ?_) | (with_reducible refine i_isNoN ?_) | (with_reducible refine i_isNoR ?_)
  | ((with_reducible refine i_pow ?q1 ?q2 ?q3 ?_); (case q1 => decide); (case q2 => decide); (case q3 => (with_reducible omega)))
  | ((with_reducible refine i_rI ?q1 ?_); (case q1 => walk_at "ci"))
  | (with_reducible refine Or.inl ⟨_, rfl, ?_⟩) | (with_reducible refine Or.inr ⟨_, rfl, ?_⟩) | (with_reducible refine ⟨_, rfl, ?_⟩) | (with_reducible refine ⟨_, _, rfl, ?_⟩) | (with_reducible refine ⟨_, _, rfl, rfl, ?_⟩)
  | ((with_reducible refine' ⟨_, _, rfl, Or.inl (sqL_of ?q1), ?_⟩); (case q1 => walk_at "hp")) | ((with_reducible refine' ⟨_, _, rfl, Or.inr (sqT_of ?q1), ?_⟩); (case q1 => walk_at "hp")) | fail)
local macro_rules | `(tactic| walk_at "rd") => `(tactic| repeat' walk_at "rd1")

open Lev (lev)
theorem BoxAt.ne_lst {H : Hp} {b p : Addr} {d : Int} {x : Str} {xs : List V} (B : BoxAt H b d) (h : H p = some (.lst (.str x :: xs))) : p ≠ b := by
  obtain ⟨n, g, c, e, hb, _⟩ := B.ex
  rintro rfl
  rw [h] at hb
  cases hb
theorem BoxAt.ne_tup {H : Hp} {b p : Addr} {d : Int} {xs : List V} (B : BoxAt H b d) (h : H p = some (.tup xs)) : p ≠ b := by
  obtain ⟨n, g, c, e, hb, _⟩ := B.ex
  rintro rfl
  rw [h] at hb
  cases hb
theorem BoxAt.ne_new {H : Hp} {b p : Addr} {d : Int} (B : BoxAt H b d) (h : H p = none) : p ≠ b := by
  obtain ⟨n, g, c, e, hb, _⟩ := B.ex
  rintro rfl
  rw [h] at hb
  cases hb
theorem SB.free {b p : Addr} {H H' : Hp} {d : Int} (s : SB b H H') (B : BoxAt H' b d) (n : H' p = none) : H p = none := by
  have npb := B.ne_new n
  rcases e : H p with _ | o
  · rfl
  · rw [s _ _ npb e] at n; cases n
theorem BoxAt.upd_ne {H : Hp} {b p : Addr} {d : Int} {o : HO} (B : BoxAt H b d) (h : p ≠ b) : BoxAt (upd H p o) b d := by
  obtain ⟨n, g, c, e, hb, hr⟩ := B.ex
  exact ⟨n, g, c, e, by rw [L2.upd_ne (Ne.symm h)]; exact hb, hr⟩
theorem flat_one (ws : List Nat) : (ws.map fun c => [c]).flatten = ws := by
  induction ws with
  | nil => rfl
  | cons c ws ih => rw [List.map_cons, List.flatten_cons, ih]; rfl
theorem letters_get : ∀ i, i < 26 → ([97, 98, 99, 100, 101, 102, 103, 104, 105, 106, 107, 108, 109, 110, 111, 112, 113, 114, 115, 116, 117, 118, 119, 120, 121, 122] : List Nat)[i]? = some (97 + i) := by decide
theorem azB_one {i : Nat} (h : i < 26) : azB [97 + i] = true := by
  unfold azB
  simp
  omega

theorem azB_rep {l : List Nat} (h : azB l = true) (n : Nat) : azB (List.replicate n l).flatten = true := by
  induction n with
  | zero => rfl
  | succ n ih => rw [List.replicate_succ, List.flatten_cons, azB_app, h, ih]; rfl
/-- three letters -/
def Let3 (H : Hp) (p : Addr) : Prop := ∃ c1 c2 c3, H p = some (.lst [.str (S [c1]), .str (S [c2]), .str (S [c3])]) ∧ azB [c1] = true ∧ azB [c2] = true ∧ azB [c3] = true
theorem Let3.neb {H : Hp} {p b : Addr} {d : Int} (l : Let3 H p) (B : BoxAt H b d) : p ≠ b := by
  obtain ⟨c1, c2, c3, e, _⟩ := l
  exact B.ne_lst e
theorem Let3.sb {H H' : Hp} {p b : Addr} {d : Int} (l : Let3 H p) (B : BoxAt H b d) (s : SB b H H') : Let3 H' p := by
  have n := l.neb B
  obtain ⟨c1, c2, c3, e, r⟩ := l
  exact ⟨c1, c2, c3, s _ _ n e, r⟩
theorem Let3.same {H H' : Hp} {p : Addr} (l : Let3 H p) (s : Same H H') : Let3 H' p := by
  obtain ⟨c1, c2, c3, e, r⟩ := l
  exact ⟨c1, c2, c3, s _ _ e, r⟩
theorem Let3.at {H : Hp} {p : Addr} (l : Let3 H p) {j : Int} (h0 : 0 ≤ j) (h1 : j < 3) {K : PySem.W.Frag} {Q : VK} (k : ∀ c, azB [c] = true → Q (.str (S [c])) H) : rIxL K (.ref p) (.int j) H Q := by
  obtain ⟨c1, c2, c3, e, z1, z2, z3⟩ := l
  have hj : j = 0 ∨ j = 1 ∨ j = 2 := by omega
  rcases hj with rfl | rfl | rfl
  · exact i_ixLv e (by omega) rfl (k c1 z1)
  · exact i_ixLv e (by omega) rfl (k c2 z2)
  · exact i_ixLv e (by omega) rfl (k c3 z3)
/-- _law_changed(box, letters, text) -/
def spChanged : Sp := fun vs H Q _ => ∃ (b lp : Addr) (t : List Nat) (d : Int), vs = [.ref b, .ref lp, .str (S t)] ∧ Let3 H lp ∧ azB t = true ∧ t.length ≤ 500 ∧ BoxAt H b d ∧ d + 20 ≤ 1000000 ∧
  ∀ (u : List Nat) (H' : Hp), u.length ≤ t.length + 4 → azB u = true → BoxAt H' b (d + 20) → SB b H H' → Q (.str (S u)) H'
/-- _law_texts(box) -/
def spTexts : Sp := fun vs H Q _ => ∃ (b : Addr) (d : Int), vs = [.ref b] ∧ BoxAt H b d ∧ d + 1000 ≤ 1000000 ∧
  ∀ (p : Addr) (l r : List Nat) (H' : Hp), H p = none → H' p = some (.lst [.str (S l), .str (S r)]) → l.length ≤ 40 → r.length ≤ 40 → azB l = true → azB r = true → BoxAt H' b (d + 100) → SB b H H' → Q (.ref p) H'
section
variable {P : Program} {w : World} {K : PySem.W.Frag} {mg : Str → Option Value} {base : Heap} {f : Addr} {fd : FuncData}
theorem ok_changed (F : Fun K "_law_changed" "_law_changed" s__law_changed f fd) (z : Z mg) (c__law_take : Cal P w K mg base "_law_take" ["box", "many"] 1 spTake) : FnOk P w K mg base CX0 2 f fd ["box", "letters", "text"] spChanged := by
  refine F.ok sc__law_changed (fun vs H Q E h => ?_) (fun cdv A outer s H vs Q E hr h => ?_)
  · obtain ⟨b, lp, t, d, rfl, _⟩ := h; rfl
  · obtain ⟨b, lp, t, d, rfl, hL, zt, ht, B, hd, k⟩ := h
    refine ⟨_, (pss_cons (ps_set (i := 3) sc__law_changed.nd rfl (.inl rfl) (pv 2))
      (pss_cons (ps_for PassesOwn.never rfl (pi_range1 (by rfl) z.range (pa_cons (pe_op op_add pe_int (pe_cal c__law_take hr (pa_cons (pv 0) (pa_cons pe_int pa_nil)))) pa_nil)) (pg_name (i := 4) sc__law_changed.nd rfl (.inl rfl))
        (pss_cons (ps_par (i := 5) (j := 6) rfl sc__law_changed.nd rfl rfl (by decide) rfl rfl (pa_cons (pe_cal c__law_take hr (pa_cons (pv 0) (pa_cons (pe_op op_add (pe_callB call_lenS (by rfl) z.len PySem.boot_len (pa_cons (pv 3) pa_nil)) pe_int) pa_nil))) (pa_cons (pe_cal c__law_take hr (pa_cons (pv 0) (pa_cons pe_int pa_nil))) pa_nil)) (by rfl))
        (pss_cons (ps_set (i := 7) sc__law_changed.nd rfl (.inl rfl) (pe_ix ix_list (pv 1) (pe_cal c__law_take hr (pa_cons (pv 0) (pa_cons pe_int pa_nil))) (fun _ _ => rfl)))
        (pss_one (ps_set (i := 3) sc__law_changed.nd rfl (.inl rfl) (pe_op op_addS (pe_op op_addS (pe_slice sl_S (pv 3) po_none (po_some (pv 5))) (pe_ix ix_list (pe_lst (pa_cons (pe_strS (l := []) (by decide +kernel)) (pa_cons (pv 7) (pa_cons (pv 7) pa_nil)))) (pv 6) (fun _ _ => rfl))) (pe_slice sl_S (pv 3) (po_some (pe_op op_add (pv 5) (pe_ix ix_list (pe_lst (pa_cons pe_int (pa_cons pe_int (pa_cons pe_int pa_nil)))) (pv 6) (fun _ _ => rfl)))) po_none)))))))
      (pss_one (ps_ret (pv 3))))), ?_⟩
    walk_at "rd"
    refine ⟨b, 4, d, rfl, B, by omega, by omega, by omega, fun r H1 r0 r1 B1 s1 => ?_⟩
    obtain ⟨n, rfl⟩ : ∃ n : Nat, r = n := ⟨r.toNat, by omega⟩
    walk_at "rd"
    rw [show (1 : Int) + (n : Int) = ((1 + n : Nat) : Int) by omega]
    refine i_rng (by omega) (by omega) ?_
    rw [Int.toNat_natCast]
    refine go_for walk_rangeZ (fun i σ H2 => ∃ (u : List Nat) (u4 u5 u6 u7 : Option V), σ = [some (.ref b), some (.ref lp), some (.str (S t)), some (.str (S u)), u4, u5, u6, u7] ∧ SB b H H2 ∧ BoxAt H2 b (d + 1 + 3 * i) ∧ u.length ≤ t.length + i ∧ azB u = true)
      ⟨t, none, none, none, none, rfl, s1, B1.mono (by omega), by omega, zt⟩ (fun _ _ _ _ _ => trivial) (fun i v σ H2 H3 hi h y => ?_) (fun σ H2 h => ?_)
    · obtain ⟨u, u4, u5, u6, u7, rfl, s2, B2, lu, zu⟩ := h
      obtain ⟨rfl, rfl⟩ := y
      walk_at "rd"
      refine ⟨b, (u.length : Int) + 1, _, rfl, B2, by omega, by omega, by omega, fun at' H4 a0 a1 B4 s4 => ?_⟩
      obtain ⟨at', rfl⟩ : ∃ n : Nat, at' = n := ⟨at'.toNat, by omega⟩
      walk_at "rd"
      refine ⟨b, 3, _, rfl, B4, by omega, by omega, by omega, fun way H5 w0 w1 B5 s5 => ?_⟩
      walk_at "rd"
      refine ⟨b, 3, _, rfl, B5, by omega, by omega, by omega, fun j H6 j0 j1 B6 s6 => ?_⟩
      have s26 := s2.trans (s4.trans (s5.trans s6))
      have L6 := hL.sb B s26
      refine L6.at j0 j1 fun c zc => ?_
      walk_at "rd"
      refine newL0 (Nat.le_of_ble_eq_true rfl) fun q1 H7 n7 s7 e7 => ?_
      obtain ⟨v, ev, zv, lv⟩ : ∃ v, ([.str (S []), .str (S [c]), .str (S [c])] : List V)[way.toNat]? = some (.str (S v)) ∧ azB v = true ∧ v.length ≤ 1 := by
        have hw : way = 0 ∨ way = 1 ∨ way = 2 := by omega
        rcases hw with rfl | rfl | rfl
        · exact ⟨[], rfl, rfl, by simp⟩
        · exact ⟨[c], rfl, zc, by simp⟩
        · exact ⟨[c], rfl, zc, by simp⟩
      walk_at "rd"
      refine i_ixLv e7 w0 ev ?_
      walk_at "rd"
      refine newL0 (Nat.le_of_ble_eq_true rfl) fun q2 H8 n8 s8 e8 => ?_
      obtain ⟨m, em⟩ : ∃ m : Nat, ([.int 1, .int 0, .int 1] : List V)[way.toNat]? = some (.int (m : Int)) := by
        have hw : way = 0 ∨ way = 1 ∨ way = 2 := by omega
        rcases hw with rfl | rfl | rfl
        · exact ⟨1, rfl⟩
        · exact ⟨0, rfl⟩
        · exact ⟨1, rfl⟩
      walk_at "rd"
      refine i_ixLv e8 w0 em ?_
      walk_at "rd"
      refine ⟨_, _, _, _, _, rfl, (s26.trans ((SB.of s7).trans (SB.of s8))), ((B6.same s7).same s8).mono (by omega), ?_, ?_⟩
      · simp only [List.length_append, List.length_take, List.length_drop]; omega
      · rw [azB_app, azB_app, azB_take zu, zv, azB_drop zu]; rfl
    · obtain ⟨u, u4, u5, u6, u7, rfl, s2, B2, lu, zu⟩ := h
      walk_at "rd"
      exact k u _ (by omega) zu (B2.mono (by omega)) s2
theorem ok_texts (F : Fun K "_law_texts" "_law_texts" s__law_texts f fd) (z : Z mg) (c__law_take : Cal P w K mg base "_law_take" ["box", "many"] 1 spTake) (c__law_changed : Cal P w K mg base "_law_changed" ["box", "letters", "text"] 2 spChanged) : FnOk P w K mg base CX0 3 f fd ["box"] spTexts := by
  refine F.ok sc__law_texts (fun vs H Q E h => ?_) (fun cdv A outer s H vs Q E hr h => ?_)
  · obtain ⟨b, d, rfl, _⟩ := h; rfl
  · obtain ⟨b, d, rfl, B, hd, k⟩ := h
    refine ⟨_, (pss_cons (ps_set (i := 1) sc__law_texts.nd rfl (.inl rfl) (pe_cal c__law_take hr (pa_cons (pv 0) (pa_cons pe_int pa_nil))))
      (pss_cons (ps_set (i := 2) sc__law_texts.nd rfl (.inr rfl) (pe_lc (own := [("k", 3)]) (g := gName 3) (tt := tYes) rfl sc__law_texts.nd (pi_range1 (by rfl) z.range (pa_cons pe_int pa_nil)) (blkOk_by (own := [("k", 3)]) (N := n__law_texts) (sc := defScope s__law_texts) (by decide +kernel)) (fun _ _ _ _ _ => (pg_name (i := 3) sc__law_texts.nd rfl (.inl rfl))) (fun _ _ _ _ _ => pts_nil) (fun _ _ _ _ _ => (pe_ix ix_S (pe_strS (l := [97, 98, 99, 100, 101, 102, 103, 104, 105, 106, 107, 108, 109, 110, 111, 112, 113, 114, 115, 116, 117, 118, 119, 120, 121, 122]) (by decide +kernel)) (pe_cal c__law_take hr (pa_cons (pv 0) (pa_cons pe_int pa_nil))) (fun _ _ => rfl)))))
      (pss_cons (ps_set (i := 4) sc__law_texts.nd rfl (.inl rfl) (pe_m1 PySem.F.slot_str_join PySem.F.type_str_join mt_joinS (pe_strS (l := []) (by decide +kernel)) (pe_lc (own := [("k", 3)]) (g := gName 3) (tt := tYes) rfl sc__law_texts.nd (pi_range1 (by rfl) z.range (pa_cons (pe_ix ix_list (pe_lst (pa_cons pe_int (pa_cons pe_int (pa_cons pe_int (pa_cons pe_int (pa_cons pe_int (pa_cons pe_int (pa_cons pe_int (pa_cons pe_int pa_nil))))))))) (pe_cal c__law_take hr (pa_cons (pv 0) (pa_cons pe_int pa_nil))) (fun _ _ => rfl)) pa_nil)) (blkOk_by (own := [("k", 3)]) (N := n__law_texts) (sc := defScope s__law_texts) (by decide +kernel)) (fun _ _ _ _ _ => (pg_name (i := 3) sc__law_texts.nd rfl (.inl rfl))) (fun _ _ _ _ _ => pts_nil) (fun _ _ _ _ _ => (pe_ix (r := rIxL K) ix_list (pv 2) (pe_cal c__law_take hr (pa_cons (pv 0) (pa_cons pe_int pa_nil))) (fun _ _ => rfl))))))
      (pss_cons (ps_if (pt_cmpR op_lt (pv 1) pe_int (nomark _))
        (pss_one (ps_ret (pe_lst (pa_cons (pv 4) (pa_cons (pe_cal c__law_changed hr (pa_cons (pv 0) (pa_cons (pv 2) (pa_cons (pv 4) pa_nil)))) pa_nil)))))
        pss_nil)
      (pss_cons (ps_set (i := 5) sc__law_texts.nd rfl (.inl rfl) (pe_cal c__law_take hr (pa_cons (pv 0) (pa_cons (pe_op op_add (pe_callB call_lenS (by rfl) z.len PySem.boot_len (pa_cons (pv 4) pa_nil)) pe_int) pa_nil))))
      (pss_cons (ps_if (pt_cmpR op_eq (pv 1) pe_int (nomark _))
        (pss_one (ps_ret (pe_lst (pa_cons (pv 4) (pa_cons (pe_op op_addS (pe_slice sl_S (pv 4) (po_some (pv 5)) po_none) (pe_slice sl_S (pv 4) po_none (po_some (pv 5)))) pa_nil)))))
        pss_nil)
      (pss_cons (ps_if (pt_cmpR op_eq (pv 1) pe_int (nomark _))
        (pss_one (ps_ret (pe_lst (pa_cons (pv 4) (pa_cons (pe_slice sl_S (pv 4) po_none (po_some (pv 5))) pa_nil)))))
        pss_nil)
      (pss_cons (ps_if (pt_cmpR op_eq (pv 1) pe_int (nomark _))
        (pss_one (ps_ret (pe_lst (pa_cons (pv 4) (pa_cons (pe_ix ix_list (pe_lst (pa_cons (pv 4) (pa_cons (pe_strS (l := []) (by decide +kernel)) pa_nil))) (pe_cal c__law_take hr (pa_cons (pv 0) (pa_cons pe_int pa_nil))) (fun _ _ => rfl)) pa_nil)))))
        pss_nil)
      (pss_one (ps_ret (pe_lst (pa_cons (pv 4) (pa_cons (pe_m1 PySem.F.slot_str_join PySem.F.type_str_join mt_joinS (pe_strS (l := []) (by decide +kernel)) (pe_lc (own := [("k", 3)]) (g := gName 3) (tt := tYes) rfl sc__law_texts.nd (pi_range1 (by rfl) z.range (pa_cons (pe_cal c__law_take hr (pa_cons (pv 0) (pa_cons pe_int pa_nil))) pa_nil)) (blkOk_by (own := [("k", 3)]) (N := n__law_texts) (sc := defScope s__law_texts) (by decide +kernel)) (fun _ _ _ _ _ => (pg_name (i := 3) sc__law_texts.nd rfl (.inl rfl))) (fun _ _ _ _ _ => pts_nil) (fun _ _ _ _ _ => (pe_ix (r := rIxL K) ix_list (pv 2) (pe_cal c__law_take hr (pa_cons (pv 0) (pa_cons pe_int pa_nil))) (fun _ _ => rfl))))) pa_nil))))))))))))), ?_⟩
    walk_at "rd"
    refine ⟨b, 9, d, rfl, B, by omega, by omega, by omega, fun way H1 w0 w1 B1 s1 => ?_⟩
    walk_at "rd"
    refine i_rng (by omega) (by omega) ?_
    refine go_lc walk_rangeZ (fun p i H2 => ∃ cs : List Nat, cs.length = i ∧ azB cs = true ∧ H2 p = some (.lst (cs.map fun c => .str (S [c]))) ∧ BoxAt H2 b (d + 1 + i) ∧ SB b H H2)
      (fun p np => ⟨[], rfl, rfl, upd_same, (BoxAt.same B1 (same_upd np)).mono (by omega), s1.trans (SB.of (same_upd np))⟩) (fun _ _ _ _ _ => trivial) (fun p np i v H2 H3 hi q y => ?_) (fun pl H2 npl q => ?_)
    · obtain ⟨cs, lc, zc, ec, B2, s2⟩ := q
      obtain ⟨rfl, rfl⟩ := y
      have npH := s1.free B1 np
      walk_at "rd"
      refine ⟨rfl, i_yes (iteT ?_)⟩
      walk_at "rd"
      refine ⟨b, 26, _, rfl, B2, by omega, by omega, by omega, fun j H4 j0 j1 B4 s4 => ?_⟩
      refine i_ixSI j0 (letters_get j.toNat (by omega)) (by decide) ?_
      have npb : p ≠ b := B1.ne_new np
      refine ⟨_, s4 _ _ npb ec, by rw [List.length_map]; exact Nat.lt_of_le_of_lt (show cs.length ≤ 1000 by omega) (by decide), cs ++ [97 + j.toNat], by rw [List.length_append, lc]; rfl, by rw [azB_app, zc, azB_one (by omega)]; rfl, ?_, (B4.upd_ne npb).mono (by omega), ?_⟩
      · rw [upd_same, List.map_append]; rfl
      · refine fun a o na ha => ?_
        by_cases e : a = p
        · rw [e, npH] at ha; cases ha
        · rw [L2.upd_ne e]; exact (s2.trans s4) a o na ha
    obtain ⟨cs, lc, zc, el, B2, s2⟩ := q
    replace B2 : BoxAt H2 b (d + 10) := B2.mono (by omega)
    obtain ⟨c1, c2, c3, rfl⟩ : ∃ c1 c2 c3, cs = [c1, c2, c3] := by
      rcases cs with _ | ⟨a, _ | ⟨b, _ | ⟨c, _ | ⟨x, cs⟩⟩⟩⟩
      · cases lc
      · cases lc
      · cases lc
      · exact ⟨a, b, c, rfl⟩
      · simp at lc
    have zz : azB [c1] = true ∧ azB [c2] = true ∧ azB [c3] = true := by
      unfold azB at *
      simpa using zc
    have LL : Let3 H2 pl := ⟨c1, c2, c3, el, zz⟩
    walk_at "rd"
    refine newL0 (Nat.le_of_ble_eq_true rfl) fun p1 H6 n1 t1 e1 => ?_
    have p1b := B2.ne_new n1
    have L6 := LL.same t1
    have B6 := B2.same t1
    walk_at "rd"
    refine ⟨b, 8, _, rfl, B6, by omega, by omega, by omega, fun q8 H7 q0 q1 B7 s7 => ?_⟩
    have e17 := s7 _ _ p1b e1
    have L7 := L6.sb B6 s7
    have s17 := s2.trans ((SB.of t1).trans s7)
    obtain ⟨n, en, hn⟩ : ∃ n : Nat, ([.int 3, .int 6, .int 10, .int 5, .int 8, .int 1, .int 0, .int 7] : List V)[q8.toNat]? = some (.int n) ∧ n ≤ 10 := by
      have hw : q8 = 0 ∨ q8 = 1 ∨ q8 = 2 ∨ q8 = 3 ∨ q8 = 4 ∨ q8 = 5 ∨ q8 = 6 ∨ q8 = 7 := by omega
      rcases hw with rfl | rfl | rfl | rfl | rfl | rfl | rfl | rfl
      · exact ⟨3, rfl, by omega⟩
      · exact ⟨6, rfl, by omega⟩
      · exact ⟨10, rfl, by omega⟩
      · exact ⟨5, rfl, by omega⟩
      · exact ⟨8, rfl, by omega⟩
      · exact ⟨1, rfl, by omega⟩
      · exact ⟨0, rfl, by omega⟩
      · exact ⟨7, rfl, by omega⟩
    refine i_ixLv e17 q0 en ?_
    walk_at "rd"
    refine i_rng (by omega) (by omega) ?_
    rw [Int.toNat_natCast]
    refine go_lc walk_rangeZ (fun p i H2 => ∃ cs : List Nat, cs.length = i ∧ azB cs = true ∧ H2 p = some (.lst (cs.map fun c => .str (S [c]))) ∧ BoxAt H2 b (d + 11 + i) ∧ SB b H7 H2)
      (fun p np => ⟨[], rfl, rfl, upd_same, (BoxAt.same B7 (same_upd np)).mono (by omega), SB.of (same_upd np)⟩) (fun _ _ _ _ _ => trivial) (fun p np i v HX HY hi q y => ?_) (fun pw H8 npw q => ?_)
    · obtain ⟨cs, lc, zc, ec, B2, s2⟩ := q
      obtain ⟨rfl, rfl⟩ := y
      walk_at "rd"
      refine ⟨rfl, i_yes (iteT ?_)⟩
      walk_at "rd"
      refine ⟨b, 3, _, rfl, B2, by omega, by omega, by omega, fun j H4 j0 j1 B4 s4 => ?_⟩
      have npb : p ≠ b := B7.ne_new np
      refine (L7.sb B7 (s2.trans s4)).at j0 j1 fun c zc' => ?_
      refine ⟨_, s4 _ _ npb ec, by rw [List.length_map]; exact Nat.lt_of_le_of_lt (show cs.length ≤ 1000 by omega) (by decide), cs ++ [c], by rw [List.length_append, lc]; rfl, by rw [azB_app, zc, zc']; rfl, ?_, (B4.upd_ne npb).mono (by omega), ?_⟩
      · rw [upd_same, List.map_append]; rfl
      · refine fun a o na ha => ?_
        by_cases e : a = p
        · rw [e] at ha; rw [np] at ha; cases ha
        · rw [L2.upd_ne e]; exact (s2.trans s4) a o na ha
    obtain ⟨t, lt, zt, ew, B8, s78⟩ := q
    refine i_joinS (ws := t.map fun c => [c]) (by rw [List.map_map]; exact ew) (by rw [flat_one]; omega) ?_
    rw [flat_one]
    replace lt : t.length ≤ 10 := by omega
    replace B8 : BoxAt H8 b (d + 30) := B8.mono (by omega)
    have L8 := L7.sb B7 s78
    have s18 := s17.trans s78
    walk_at "rd"
    refine iteB (fun _ => ?_) (fun _ => ?_)
    · walk_at "rd"
      refine ⟨b, pl, t, _, rfl, L8, zt, by omega, B8, by omega, fun u H9 lu zu B9 s9 => ?_⟩
      walk_at "rd"
      refine newL0 (Nat.le_of_ble_eq_true rfl) fun p HA np sA eA => ?_
      exact k p t _ _ ((s18.trans s9).free B9 np) eA (by omega) (by omega) zt zu ((B9.same sA).mono (by omega)) ((s18.trans s9).trans (SB.of sA))
    walk_at "rd"
    refine ⟨b, (t.length : Int) + 1, _, rfl, B8, by omega, by omega, by omega, fun at' H9 a0 a1 B9 s9 => ?_⟩
    obtain ⟨at', rfl⟩ : ∃ n : Nat, at' = n := ⟨at'.toNat, by omega⟩
    have s19 := s18.trans s9
    walk_at "rd"
    refine iteB (fun _ => ?_) (fun _ => ?_)
    · walk_at "rd"
      refine newL0 (Nat.le_of_ble_eq_true rfl) fun p HA np sA eA => ?_
      exact k p t _ _ (s19.free B9 np) eA (by omega) (by simp only [List.length_append, List.length_take, List.length_drop]; omega) zt (by rw [azB_app, azB_drop zt, azB_take zt]; rfl) ((B9.same sA).mono (by omega)) (s19.trans (SB.of sA))
    walk_at "rd"
    refine iteB (fun _ => ?_) (fun _ => ?_)
    · walk_at "rd"
      refine newL0 (Nat.le_of_ble_eq_true rfl) fun p HA np sA eA => ?_
      exact k p t _ _ (s19.free B9 np) eA (by omega) (by simp only [List.length_take]; omega) zt (azB_take zt _) ((B9.same sA).mono (by omega)) (s19.trans (SB.of sA))
    walk_at "rd"
    refine iteB (fun _ => ?_) (fun _ => ?_)
    · walk_at "rd"
      refine newL0 (Nat.le_of_ble_eq_true rfl) fun p2 HB n2 sB e2 => ?_
      have p2b := B9.ne_new n2
      walk_at "rd"
      refine ⟨b, 2, _, rfl, B9.same sB, by omega, by omega, by omega, fun q3 HA q30 q31 BA sA => ?_⟩
      have e29 := sA _ _ p2b e2
      have s1A := s19.trans ((SB.of sB).trans sA)
      obtain ⟨u, eu, lu, zu⟩ : ∃ u, ([.str (S t), .str (S [])] : List V)[q3.toNat]? = some (.str (S u)) ∧ u.length ≤ 20 ∧ azB u = true := by
        have hw : q3 = 0 ∨ q3 = 1 := by omega
        rcases hw with rfl | rfl
        · exact ⟨t, rfl, by omega, zt⟩
        · exact ⟨[], rfl, by simp, rfl⟩
      refine i_ixLv e29 q30 eu ?_
      walk_at "rd"
      refine newL0 (Nat.le_of_ble_eq_true rfl) fun p HC np sC eC => ?_
      exact k p t u _ (s1A.free BA np) eC (by omega) (by omega) zt zu ((BA.same sC).mono (by omega)) (s1A.trans (SB.of sC))
    walk_at "rd"
    refine ⟨b, 9, _, rfl, B9, by omega, by omega, by omega, fun m HA m0 m1 BA sA => ?_⟩
    obtain ⟨m, rfl⟩ : ∃ n : Nat, m = n := ⟨m.toNat, by omega⟩
    have LA := L8.sb B8 (s9.trans sA)
    walk_at "rd"
    refine i_rng (by omega) (by omega) ?_
    rw [Int.toNat_natCast]
    refine go_lc walk_rangeZ (fun p i H2 => ∃ cs : List Nat, cs.length = i ∧ azB cs = true ∧ H2 p = some (.lst (cs.map fun c => .str (S [c]))) ∧ BoxAt H2 b (d + 40 + i) ∧ SB b HA H2)
      (fun p np => ⟨[], rfl, rfl, upd_same, (BoxAt.same BA (same_upd np)).mono (by omega), SB.of (same_upd np)⟩) (fun _ _ _ _ _ => trivial) (fun p np i v HX HY hi q y => ?_) (fun pv HB npv q => ?_)
    · obtain ⟨cs, lc, zc, ec, B2, s2⟩ := q
      obtain ⟨rfl, rfl⟩ := y
      walk_at "rd"
      refine ⟨rfl, i_yes (iteT ?_)⟩
      walk_at "rd"
      refine ⟨b, 3, _, rfl, B2, by omega, by omega, by omega, fun j H4 j0 j1 B4 s4 => ?_⟩
      have npb : p ≠ b := BA.ne_new np
      refine (LA.sb BA (s2.trans s4)).at j0 j1 fun c zc' => ?_
      refine ⟨_, s4 _ _ npb ec, by rw [List.length_map]; exact Nat.lt_of_le_of_lt (show cs.length ≤ 1000 by omega) (by decide), cs ++ [c], by rw [List.length_append, lc]; rfl, by rw [azB_app, zc, zc']; rfl, ?_, (B4.upd_ne npb).mono (by omega), ?_⟩
      · rw [upd_same, List.map_append]; rfl
      · refine fun a o na ha => ?_
        by_cases e : a = p
        · rw [e] at ha; rw [np] at ha; cases ha
        · rw [L2.upd_ne e]; exact (s2.trans s4) a o na ha
    obtain ⟨u, lu, zu, eu, BB, sB⟩ := q
    refine i_joinS (ws := u.map fun c => [c]) (by rw [List.map_map]; exact eu) (by rw [flat_one]; omega) ?_
    rw [flat_one]
    have s1B := s19.trans (sA.trans sB)
    walk_at "rd"
    refine newL0 (Nat.le_of_ble_eq_true rfl) fun p HC np sC eC => ?_
    exact k p t u _ (s1B.free BB np) eC (by omega) (by omega) zt zu ((BB.same sC).mono (by omega)) (s1B.trans (SB.of sC))
end
end Sw
namespace Sw
open PySem PySem.Spec PyProof.Rows L2
local macro_rules | `(tactic| walk_at "hp") => `(tactic| first
  | (with_reducible assumption) | (with_reducible exact upd_same)
  | ((with_reducible refine' upd_old ?q1 ?q2); (case q1 => (with_reducible assumption)); (case q2 => walk_at "hp"))
  | ((with_reducible refine' Same.at ?q1 ?q2); (case q1 => (with_reducible assumption)); (case q2 => walk_at "hp"))
  | ((with_reducible refine' upd_skip ?q1 ?q2); (case q1 => walk_at "ne"); (case q2 => walk_at "hp"))
  | fail)
local macro_rules | `(tactic| walk_at "ne") => `(tactic| first
  | (with_reducible assumption) | (with_reducible exact Ne.symm (by assumption))
  | ((with_reducible refine' ne_of_none ?q1 ?q2); (case q2 => (with_reducible assumption)); (case q1 => walk_at "hp"))
  | fail)
local macro_rules | `(tactic| walk_at "ci") => `(tactic| first | assumption | (show (0 : Int) < _; first | decide | (with_reducible omega)) | exact ⟨by decide, by decide⟩ | exact .inl ⟨by decide, by decide⟩ | exact .inr ⟨by decide, by decide⟩)
local macro_rules | `(tactic| walk_at "ln") => `(tactic| first | (with_reducible assumption) | (with_reducible omega) | (simp only [List.length_append, List.length_take, List.length_drop, List.length_reverse, List.length_cons, List.length_nil]; with_reducible omega))
local macro_rules | `(tactic| walk_at "rd1") => `(tactic| first
  | (with_reducible refine i_seq ?_) | (with_reducible refine i_asg ?_) | (with_reducible refine i_ret ?_) | (with_reducible refine i_name ?_) | ((with_reducible refine' i_var ?q1 ?_); (case q1 => exact rfl)) | (with_reducible refine i_c ?_) | (with_reducible refine i_op ?_) | (with_reducible refine i_un ?_)
  | (with_reducible refine i_rI0 ?_) | (with_reducible refine i_cb ?_) | (with_reducible refine i_cons ?_) | (with_reducible refine i_nil ?_) | (with_reducible refine i_call ?_) | (with_reducible refine i_if ?_) | (with_reducible refine i_ifE ?_) | (with_reducible refine i_test ?_) | (with_reducible refine i_bl ?_)
  | (with_reducible refine i_and ?_) | (with_reducible refine i_or ?_) | (with_reducible refine i_not ?_) | (with_reducible refine i_lstM ?_) | (with_reducible refine i_lstLM ?_) | (with_reducible refine i_tupM ?_) | (with_reducible refine i_next ?_) | (with_reducible refine i_drop ?_) | (with_reducible refine i_sub ?_)
  | (with_reducible refine i_bm ?_) | (with_reducible refine i_sl ?_) | (with_reducible refine i_part ?_) | (with_reducible refine i_nopart ?_) | (with_reducible refine i_exI ?_) | (with_reducible refine i_chain ?_) | ((with_reducible refine' i_aug ?q1 ?_); (case q1 => exact rfl)) | (with_reducible refine i_ip ?_)
  | (with_reducible refine i_par ?_) | (with_reducible refine i_pair ?_) | (with_reducible refine i_andV ?_) | (with_reducible refine i_orV ?_) | (with_reducible refine i_notV ?_) | (with_reducible refine i_m1 ?_) | (with_reducible refine i_str ?_)
  | (with_reducible refine iteF ?_) | (with_reducible refine iteT ?_) | (with_reducible refine iteNT ?_) | (with_reducible refine iteNF ?_) | (with_reducible refine i_tyS ?_) | (with_reducible refine i_tB ?_) | (with_reducible refine i_retN ?_) | (with_reducible refine i_par3 ?_) | (with_reducible refine i_trip ?_) | (with_reducible refine i_gCons ?_) | (with_reducible refine i_gNil ?_) | (with_reducible refine i_lstRg ?_) | (with_reducible refine i_rg1 ?_)
  | (with_reducible refine i_lc ?_) | (with_reducible refine i_for ?_) | (with_reducible refine i_iList ?_) | (with_reducible refine i_iTup ?_) | (with_reducible refine i_iStr ?_) | (with_reducible refine i_iRng1 ?_) | (with_reducible refine i_iEnS ?_)
  | ((with_reducible refine' i_ixTH ?q1 ?q2 ?_); (case q1 => walk_at "hp"); (case q2 => exact rfl))
  | ((with_reducible refine' i_ixLH ?q1 ?q2 ?_); (case q1 => walk_at "hp"); (case q2 => exact rfl))
  | ((with_reducible refine i_addS ?q1 ?_); (case q1 => walk_at "ln")) | ((with_reducible refine i_lenSS ?q1 ?_); (case q1 => walk_at "ln")) | ((with_reducible refine i_slFrom ?q1 ?q2 ?_); (case q1 => walk_at "ln"); (case q2 => walk_at "ln")) | ((with_reducible refine i_slTo ?q1 ?q2 ?_); (case q1 => walk_at "ln"); (case q2 => walk_at "ln"))
  | ((with_reducible refine' i_tyL ?q1 ?_); (case q1 => walk_at "hp"))
  | ((with_reducible refine' i_gTupH ?q1 ?q2 ?_); (case q1 => walk_at "hp"); (case q2 => exact rfl))
  | (with_reducible refine i_dnewM ?_) | (with_reducible refine i_init ?_) | (with_reducible refine i_fst ?_) | (with_reducible refine i_mk ?_) | (with_reducible refine i_raise ?_) | (with_reducible refine i_callS ?_) | (with_reducible refine i_kwS ?_)
  | (with_reducible refine i_revT ?_) | (with_reducible refine i_kw ?_) | ((with_reducible refine' ⟨_, _, rfl, sqT_of ?q1, ?_⟩); (case q1 => walk_at "hp"))
  | (with_reducible refine i_revS ?_) | ((with_reducible refine i_revSS ?q1 ?_); (case q1 => walk_at "ln"))
  | (with_reducible refine i_startS ?_) | (with_reducible refine i_inSg ?_) | (with_reducible refine i_absN ?_) | (with_reducible refine i_min2 ?_) | (with_reducible refine i_max2 ?_) | (with_reducible refine i_min3 ?_) | (with_reducible refine i_intN ?_) | (with_reducible refine i_intNB ?_)
  | ((with_reducible refine' i_lenL ?q1 ?_); (case q1 => walk_at "hp")) | ((with_reducible refine' i_lenT ?q1 ?_); (case q1 => walk_at "hp"))
  | (with_reducible refine i_eqI ?_) | (with_reducible refine i_neI ?_) | (with_reducible refine i_eqS ?_) | (with_reducible refine i_neS ?_) | (with_reducible refine i_isNoI ?_) | (with_reducible refine i_isNoN ?_) | (with_reducible refine i_isNoR ?_)
  | ((with_reducible refine i_pow ?q1 ?q2 ?q3 ?_); (case q1 => decide); (case q2 => decide); (case q3 => (with_reducible omega)))
  | ((with_reducible refine i_rI ?q1 ?_); (case q1 => walk_at "ci"))
  | (with_reducible refine Or.inl ⟨_, rfl, ?_⟩) | (with_reducible refine Or.inr ⟨_, rfl, ?_⟩) | (with_reducible refine ⟨_, rfl, ?_⟩) | (with_reducible refine ⟨_, _, rfl, ?_⟩) | (with_reducible refine ⟨_, _, rfl, rfl, ?_⟩)
  | ((with_reducible refine' ⟨_, _, rfl, Or.inl (sqL_of ?q1), ?_⟩); (case q1 => walk_at "hp")) | ((with_reducible refine' ⟨_, _, rfl, Or.inr (sqT_of ?q1), ?_⟩); (case q1 => walk_at "hp")) | fail)
local macro_rules | `(tactic| walk_at "rd") => `(tactic| repeat' walk_at "rd1")

/-- _law_drawn(box, first, second) -/
def spDrawn (K : PySem.W.Frag) : Sp := fun vs H Q _ => ∃ (b : Addr) (a c : List Nat) (d : Int), vs = [.ref b, .str (S a), .str (S c)] ∧ azB a = true ∧ azB c = true ∧ a.length ≤ 40 ∧ c.length ≤ 40 ∧ BoxAt H b d ∧ d + 1000 ≤ 1000000 ∧
  ∀ (p : Addr) (ss : List St) (H' : Hp), H p = none → (∀ s ∈ ss, s.ok = true) → ss.length ≤ 80 → De K (L2.del H' b) (.ref p) (.tuple (ss.map St.dat)) → BoxAt H' b (d + 100) → SB b H H' → Q (.ref p) H'
theorem del_upd {H : Hp} {b p : Addr} {o : HO} (h : p ≠ b) : L2.del (upd H p o) b = upd (L2.del H b) p o := by
  funext a
  by_cases c : a = b
  · subst c; rw [L2.del_same, L2.upd_ne (Ne.symm h), L2.del_same]
  · rw [L2.del_ne c]
    by_cases e : a = p
    · subst e; rw [upd_same, upd_same]
    · rw [L2.upd_ne e, L2.upd_ne e, L2.del_ne c]
theorem SB.set_new {b p : Addr} {H H1 : Hp} {o : HO} (s : SB b H H1) (n : H p = none) : SB b H (L2.upd H1 p o) := fun a u na ha => by
  by_cases e : a = p
  · rw [e, n] at ha; cases ha
  · rw [L2.upd_ne e]; exact s a u na ha
structure Drawn (K : PySem.W.Frag) (b fp : Addr) (H HX : Hp) (ts : List V) (ss : List St) (d : Int) : Prop where
  f : HX fp = some (.lst ts)
  h : DeAll K (L2.del HX b) ts (ss.map St.dat)
  ok : ∀ s ∈ ss, s.ok = true
  B : BoxAt HX b d
  s : SB b H HX
theorem Drawn.push {K : PySem.W.Frag} {b fp T : Addr} {H HX HY : Hp} {ts : List V} {ss : List St} {s : St} {d : Int} (D : Drawn K b fp H HX ts ss d) (nfp : H fp = none) (hfb : fp ≠ b) (sY : Same (L2.del HX b) (L2.del HY b)) (sXY : Same HX HY) (BY : BoxAt HY b d) (new : De K (L2.del HY b) (.ref T) s.dat) (ok : s.ok = true) :
    Drawn K b fp H (upd HY fp (.lst (ts ++ [.ref T]))) (ts ++ [.ref T]) (ss ++ [s]) d := by
  refine ⟨upd_same, ?_, ?_, BY.upd_ne' hfb, (D.s.trans (SB.of sXY)).set_new nfp⟩
  · rw [del_upd hfb, List.map_append]
    refine push_val (sY _ _ (by rw [L2.del_ne hfb]; exact D.f)) (D.h.same sY) (noL_dats _) new (dat_noL _)
  · intro x hx
    rcases List.mem_append.mp hx with hx | hx
    · exact D.ok x hx
    · rw [List.mem_singleton.mp hx]; exact ok
theorem Drawn.take {K : PySem.W.Frag} {b fp : Addr} {H HX HY : Hp} {ts : List V} {ss : List St} {d d' : Int} (D : Drawn K b fp H HX ts ss d) (hfb : fp ≠ b) (s : SB b HX HY) (B : BoxAt HY b d') : Drawn K b fp H HY ts ss d' :=
  ⟨s _ _ hfb D.f, D.h.same (del_sb s), D.ok, B, D.s.trans s⟩
section
variable {P : Program} {w : World} {K : PySem.W.Frag} {mg : Str → Option Value} {base : Heap} {f : Addr} {fd : FuncData}
theorem ok_drawn (F : Fun K "_law_drawn" "_law_drawn" s__law_drawn f fd) (z : Z mg) (c__law_take : Cal P w K mg base "_law_take" ["box", "many"] 1 spTake) : FnOk P w K mg base CX0 2 f fd ["box", "first", "second"] (spDrawn K) := by
  refine F.ok sc__law_drawn (fun vs H Q E h => ?_) (fun cdv A outer s H vs Q E hr h => ?_)
  · obtain ⟨b, a, c, d, rfl, _⟩ := h; rfl
  · obtain ⟨b, a, c, d, rfl, za, zc, la, lc, B, hd, k⟩ := h
    refine ⟨_, (pss_cons (ps_par3 (i := 3) (j := 4) (l := 5) rfl sc__law_drawn.nd rfl rfl rfl (by decide) (by decide) (by decide) rfl rfl rfl (pa_cons pe_int (pa_cons pe_int (pa_cons (pe_lst pa_nil) pa_nil))) (by rfl))
      (pss_cons (ps_for PassesOwn.never rfl (pi_range1 (by rfl) z.range (pa_cons (pe_op op_add (pe_callB call_lenS (by rfl) z.len PySem.boot_len (pa_cons (pv 1) pa_nil)) (pe_callB call_lenS (by rfl) z.len PySem.boot_len (pa_cons (pv 2) pa_nil))) pa_nil)) (pg_name (i := 6) sc__law_drawn.nd rfl (.inl rfl))
        (pss_cons (ps_set (i := 7) sc__law_drawn.nd rfl (.inl rfl) (pe_cal c__law_take hr (pa_cons (pv 0) (pa_cons pe_int pa_nil))))
        (pss_one (ps_if (PW.pt (pw_and (pt_cmpR op_lt (pv 3) (pe_callB call_lenS (by rfl) z.len PySem.boot_len (pa_cons (pv 1) pa_nil)) (nomark _)) (pw_and (pt_cmpR op_lt (pv 4) (pe_callB call_lenS (by rfl) z.len PySem.boot_len (pa_cons (pv 2) pa_nil)) (nomark _)) (pw_and1 (pt_cmpR op_lt (pv 7) pe_int (nomark _))))))
          (pss_cons (ps_set (i := 8) sc__law_drawn.nd rfl (.inl rfl) (pe_ifExp (pt_cmpR op_ne (pe_ix ix_S (pv 1) (pv 3) (fun _ _ => rfl)) (pe_ix ix_S (pv 2) (pv 4) (fun _ _ => rfl)) (nomark _)) (pe_tup (pa_cons (pe_strS (l := [115, 119, 97, 112]) (by decide +kernel)) (pa_cons (pe_ix ix_S (pv 1) (pv 3) (fun _ _ => rfl)) (pa_cons (pe_ix ix_S (pv 2) (pv 4) (fun _ _ => rfl)) pa_nil)))) (pe_tup (pa_cons (pe_strS (l := [107, 101, 101, 112]) (by decide +kernel)) (pa_cons (pe_ix ix_S (pv 1) (pv 3) (fun _ _ => rfl)) pa_nil)))))
          (pss_cons (ps_expr (pe_bm PySem.F.plainAttrs_list PySem.F.slot_list_append PySem.F.type_list_append mt_append (pv 5) (pa_cons (pv 8) pa_nil)))
          (pss_one (ps_par (i := 3) (j := 4) rfl sc__law_drawn.nd rfl rfl (by decide) rfl rfl (pa_cons (pe_op op_add (pv 3) pe_int) (pa_cons (pe_op op_add (pv 4) pe_int) pa_nil)) (by rfl)))))
          (pss_one (ps_if (PW.pt (pw_and (pt_cmpR op_lt (pv 3) (pe_callB call_lenS (by rfl) z.len PySem.boot_len (pa_cons (pv 1) pa_nil)) (nomark _)) (pw_and1 (PW.pt (pw_or (pt_cmpR op_eq (pv 7) pe_int (nomark _)) (pw_or1 (pt_cmpR op_eq (pv 4) (pe_callB call_lenS (by rfl) z.len PySem.boot_len (pa_cons (pv 2) pa_nil)) (nomark _))))))))
            (pss_cons (ps_expr (pe_bm PySem.F.plainAttrs_list PySem.F.slot_list_append PySem.F.type_list_append mt_append (pv 5) (pa_cons (pe_tup (pa_cons (pe_strS (l := [100, 114, 111, 112]) (by decide +kernel)) (pa_cons (pe_ix ix_S (pv 1) (pv 3) (fun _ _ => rfl)) pa_nil))) pa_nil)))
            (pss_one (ps_set (i := 3) sc__law_drawn.nd rfl (.inl rfl) (pe_op op_add (pv 3) pe_int))))
            (pss_one (ps_if (pt_cmpR op_lt (pv 4) (pe_callB call_lenS (by rfl) z.len PySem.boot_len (pa_cons (pv 2) pa_nil)) (nomark _))
              (pss_cons (ps_expr (pe_bm PySem.F.plainAttrs_list PySem.F.slot_list_append PySem.F.type_list_append mt_append (pv 5) (pa_cons (pe_tup (pa_cons (pe_strS (l := [97, 100, 100]) (by decide +kernel)) (pa_cons (pe_ix ix_S (pv 2) (pv 4) (fun _ _ => rfl)) pa_nil))) pa_nil)))
              (pss_one (ps_set (i := 4) sc__law_drawn.nd rfl (.inl rfl) (pe_op op_add (pv 4) pe_int))))
              pss_nil))))))))
      (pss_one (ps_ret (pe_callTy call_tuple_of (by rfl) z.tuple (by decide +kernel) (pa_cons (pv 5) pa_nil)))))), ?_⟩
    walk_at "rd"
    refine newL0 (Nat.le_of_ble_eq_true rfl) fun fp H1 nfp s1 e1 => ?_
    have hfb := box_ne B nfp
    walk_at "rd"
    rw [show (a.length : Int) + (c.length : Int) = ((a.length + c.length : Nat) : Int) by omega]
    refine i_rng (by omega) (by omega) ?_
    rw [Int.toNat_natCast]
    refine go_for walk_rangeZ (fun n σ HX => ∃ (i j : Nat) (ts : List V) (ss : List St) (u6 u7 u8 : Option V), σ = [some (.ref b), some (.str (S a)), some (.str (S c)), some (.int (i : Int)), some (.int (j : Int)), some (.ref fp), u6, u7, u8] ∧ i ≤ a.length ∧ j ≤ c.length ∧ ss.length ≤ n ∧ Drawn K b fp H HX ts ss (d + n))
      ⟨0, 0, [], [], none, none, none, rfl, by omega, by omega, by simp, e1, .nil, (fun s h => by cases h), (B.same s1).mono (by omega), SB.of s1⟩ (fun _ _ _ _ _ => trivial) (fun n v σ H2 H3 hn h y => ?_) (fun σ H2 h => ?_)
    · obtain ⟨i, j, ts, ss, u6, u7, u8, rfl, hi, hj, ln, D⟩ := h
      obtain ⟨rfl, rfl⟩ := y
      walk_at "rd"
      refine ⟨b, 5, _, rfl, D.B, by omega, by omega, by omega, fun way H4 w0 w1 B4 s4 => ?_⟩
      replace D := D.take hfb s4 B4
      have f4 := D.f
      have lts : ts.length < sizeLine := by
        have := D.h.len
        rw [List.length_map] at this
        exact Nat.lt_of_le_of_lt (m := 1000) (by omega) (Nat.le_of_ble_eq_true rfl)
      walk_at "rd"
      refine cond_and (fun q => q = true → i < a.length ∧ j < c.length) (fun R hR => ?_) (fun q hq => ?_)
      · refine iteB (fun q1 => ?_) (fun q1 => hR _ (by simp))
        walk_at "rd"
        refine iteB (fun q2 => ?_) (fun q2 => hR _ (by simp))
        walk_at "rd"
        exact hR _ (fun _ => ⟨by omega, by omega⟩)
      cases q with
      | true =>
        obtain ⟨hi', hj'⟩ := hq rfl
        have hx : a[i]? = some a[i] := List.getElem?_eq_getElem (by omega)
        have hy : c[j]? = some c[j] := List.getElem?_eq_getElem (by omega)
        have zx := azB_get za hx
        have zy := azB_get zc hy
        walk_at "rd"
        refine i_ixSI (by omega) hx (by omega) ?_
        walk_at "rd"
        refine i_ixSI (by omega) hy (by omega) ?_
        walk_at "rd"
        refine iteNC (fun q => ?_) (fun q => ?_)
        · have ne : a[i] ≠ c[j] := fun e => by rw [e, decide_eq_true rfl] at q; cases q
          walk_at "rd"
          refine i_ixSI (by omega) hx (by omega) ?_
          walk_at "rd"
          refine i_ixSI (by omega) hy (by omega) ?_
          walk_at "rd"
          refine newT D.B (Nat.le_of_ble_eq_true rfl) fun T H5 B5 s5 e5 s5' => ?_
          have f5 := s5' _ _ D.f
          walk_at "rd"
          refine i_append f5 lts ?_
          have D5 := D.push (s := .swap a[i] c[j]) nfp hfb s5 s5' B5 (.tup (sqT_of e5) (.cons (.str _) (.cons (.str _) (.cons (.str _) .nil)))) (by simp only [St.ok, zx, zy, decide_eq_false ne]; rfl)
          walk_at "rd"
          refine ⟨i + 1, j + 1, _, _, _, _, _, rfl, by omega, by omega, ?_, ⟨D5.f, D5.h, D5.ok, D5.B.mono (by omega), D5.s⟩⟩
          rw [List.length_append]; exact Nat.succ_le_succ ln
        · have eq : a[i] = c[j] := by have := of_decide_eq_true q; simpa using this
          walk_at "rd"
          refine i_ixSI (by omega) hx (by omega) ?_
          walk_at "rd"
          refine newT D.B (Nat.le_of_ble_eq_true rfl) fun T H5 B5 s5 e5 s5' => ?_
          have f5 := s5' _ _ D.f
          walk_at "rd"
          refine i_append f5 lts ?_
          have D5 := D.push (s := .keep a[i]) nfp hfb s5 s5' B5 (.tup (sqT_of e5) (.cons (.str _) (.cons (.str _) .nil))) zx
          walk_at "rd"
          refine ⟨i + 1, j + 1, _, _, _, _, _, rfl, by omega, by omega, ?_, ⟨D5.f, D5.h, D5.ok, D5.B.mono (by omega), D5.s⟩⟩
          rw [List.length_append]; exact Nat.succ_le_succ ln
      | false =>
        walk_at "rd"
        refine cond_and (fun q => q = true → i < a.length) (fun R hR => ?_) (fun q hq => ?_)
        · refine iteB (fun q1 => ?_) (fun q1 => hR _ (by simp))
          walk_at "rd"
          refine iteB (fun q2 => ?_) (fun q2 => ?_)
          · walk_at "rd"
            exact hR _ (fun _ => by omega)
          · walk_at "rd"
            exact hR _ (fun _ => by omega)
        cases q with
        | true =>
          have hi' := hq rfl
          have hx : a[i]? = some a[i] := List.getElem?_eq_getElem (by omega)
          walk_at "rd"
          refine i_ixSI (by omega) hx (by omega) ?_
          walk_at "rd"
          refine newT D.B (Nat.le_of_ble_eq_true rfl) fun T H5 B5 s5 e5 s5' => ?_
          have f5 := s5' _ _ D.f
          walk_at "rd"
          refine i_append f5 lts ?_
          have D5 := D.push (s := .drop a[i]) nfp hfb s5 s5' B5 (.tup (sqT_of e5) (.cons (.str _) (.cons (.str _) .nil))) (azB_get za hx)
          walk_at "rd"
          refine ⟨i + 1, j, _, _, _, _, _, rfl, by omega, by omega, ?_, ⟨D5.f, D5.h, D5.ok, D5.B.mono (by omega), D5.s⟩⟩
          rw [List.length_append]; exact Nat.succ_le_succ ln
        | false =>
          walk_at "rd"
          refine iteB (fun q1 => ?_) (fun q1 => ?_)
          · have hj' : j < c.length := by omega
            have hy : c[j]? = some c[j] := List.getElem?_eq_getElem (by omega)
            walk_at "rd"
            refine i_ixSI (by omega) hy (by omega) ?_
            walk_at "rd"
            refine newT D.B (Nat.le_of_ble_eq_true rfl) fun T H5 B5 s5 e5 s5' => ?_
            have f5 := s5' _ _ D.f
            walk_at "rd"
            refine i_append f5 lts ?_
            have D5 := D.push (s := .add c[j]) nfp hfb s5 s5' B5 (.tup (sqT_of e5) (.cons (.str _) (.cons (.str _) .nil))) (azB_get zc hy)
            walk_at "rd"
            refine ⟨i, j + 1, _, _, _, _, _, rfl, by omega, by omega, ?_, ⟨D5.f, D5.h, D5.ok, D5.B.mono (by omega), D5.s⟩⟩
            rw [List.length_append]; exact Nat.succ_le_succ ln
          · walk_at "rd"
            exact ⟨i, j, _, _, _, _, _, rfl, hi, hj, by omega, ⟨D.f, D.h, D.ok, D.B.mono (by omega), D.s⟩⟩
    · obtain ⟨i, j, ts, ss, u6, u7, u8, rfl, hi, hj, ln, D⟩ := h
      walk_at "rd"
      refine ⟨_, _, rfl, .inl ⟨sqL_of D.f, fun l nl => ?_⟩⟩
      have hlb := box_ne D.B nl
      refine k l ss _ (D.s.free D.B nl) D.ok (by omega) ?_ ((D.B.same (same_upd nl)).mono (by omega)) (D.s.trans (SB.of (same_upd nl)))
      refine .tup (sqT_of (by rw [L2.del_ne hlb]; exact upd_same)) (D.h.same (del_sb (SB.of (same_upd nl))))
end
end Sw
namespace Sw
open PySem PySem.Spec PyProof.Rows L2
local macro_rules | `(tactic| walk_at "hp") => `(tactic| first
  | (with_reducible assumption) | (with_reducible exact upd_same)
  | ((with_reducible refine' upd_old ?q1 ?q2); (case q1 => (with_reducible assumption)); (case q2 => walk_at "hp"))
  | ((with_reducible refine' Same.at ?q1 ?q2); (case q1 => (with_reducible assumption)); (case q2 => walk_at "hp"))
  | ((with_reducible refine' upd_skip ?q1 ?q2); (case q1 => walk_at "ne"); (case q2 => walk_at "hp"))
  | fail)
local macro_rules | `(tactic| walk_at "ne") => `(tactic| first
  | (with_reducible assumption) | (with_reducible exact Ne.symm (by assumption))
  | ((with_reducible refine' ne_of_none ?q1 ?q2); (case q2 => (with_reducible assumption)); (case q1 => walk_at "hp"))
  | fail)
local macro_rules | `(tactic| walk_at "ci") => `(tactic| first | assumption | (show (0 : Int) < _; first | decide | (with_reducible omega)) | exact ⟨by decide, by decide⟩ | exact .inl ⟨by decide, by decide⟩ | exact .inr ⟨by decide, by decide⟩)
local macro_rules | `(tactic| walk_at "ln") => `(tactic| first | (with_reducible assumption) | (with_reducible omega) | (simp only [List.length_append, List.length_take, List.length_drop, List.length_reverse, List.length_cons, List.length_nil]; with_reducible omega))
local macro_rules | `(tactic| walk_at "rd1") => `(tactic| first
  | (with_reducible refine i_seq ?_) | (with_reducible refine i_asg ?_) | (with_reducible refine i_ret ?_) | (with_reducible refine i_name ?_) | ((with_reducible refine' i_var ?q1 ?_); (case q1 => exact rfl)) | (with_reducible refine i_c ?_) | (with_reducible refine i_op ?_) | (with_reducible refine i_un ?_)
  | (with_reducible refine i_rI0 ?_) | (with_reducible refine i_cb ?_) | (with_reducible refine i_cons ?_) | (with_reducible refine i_nil ?_) | (with_reducible refine i_call ?_) | (with_reducible refine i_if ?_) | (with_reducible refine i_ifE ?_) | (with_reducible refine i_test ?_) | (with_reducible refine i_bl ?_)
  | (with_reducible refine i_and ?_) | (with_reducible refine i_or ?_) | (with_reducible refine i_not ?_) | (with_reducible refine i_lstM ?_) | (with_reducible refine i_lstLM ?_) | (with_reducible refine i_tupM ?_) | (with_reducible refine i_next ?_) | (with_reducible refine i_drop ?_) | (with_reducible refine i_sub ?_)
  | (with_reducible refine i_bm ?_) | (with_reducible refine i_sl ?_) | (with_reducible refine i_part ?_) | (with_reducible refine i_nopart ?_) | (with_reducible refine i_exI ?_) | (with_reducible refine i_chain ?_) | ((with_reducible refine' i_aug ?q1 ?_); (case q1 => exact rfl)) | (with_reducible refine i_ip ?_)
  | (with_reducible refine i_par ?_) | (with_reducible refine i_pair ?_) | (with_reducible refine i_andV ?_) | (with_reducible refine i_orV ?_) | (with_reducible refine i_notV ?_) | (with_reducible refine i_m1 ?_) | (with_reducible refine i_str ?_)
  | (with_reducible refine iteF ?_) | (with_reducible refine iteT ?_) | (with_reducible refine iteNT ?_) | (with_reducible refine iteNF ?_) | (with_reducible refine i_tyS ?_) | (with_reducible refine i_tB ?_) | (with_reducible refine i_retN ?_) | (with_reducible refine i_par3 ?_) | (with_reducible refine i_trip ?_) | (with_reducible refine i_gCons ?_) | (with_reducible refine i_gNil ?_) | (with_reducible refine i_lstRg ?_) | (with_reducible refine i_rg1 ?_)
  | (with_reducible refine i_lc ?_) | (with_reducible refine i_for ?_) | (with_reducible refine i_iList ?_) | (with_reducible refine i_iTup ?_) | (with_reducible refine i_iStr ?_) | (with_reducible refine i_iRng1 ?_) | (with_reducible refine i_iEnS ?_)
  | ((with_reducible refine' i_ixTH ?q1 ?q2 ?_); (case q1 => walk_at "hp"); (case q2 => exact rfl))
  | ((with_reducible refine' i_ixLH ?q1 ?q2 ?_); (case q1 => walk_at "hp"); (case q2 => exact rfl))
  | ((with_reducible refine i_addS ?q1 ?_); (case q1 => walk_at "ln")) | ((with_reducible refine i_lenSS ?q1 ?_); (case q1 => walk_at "ln")) | ((with_reducible refine i_slFrom ?q1 ?q2 ?_); (case q1 => walk_at "ln"); (case q2 => walk_at "ln")) | ((with_reducible refine i_slTo ?q1 ?q2 ?_); (case q1 => walk_at "ln"); (case q2 => walk_at "ln"))
  | ((with_reducible refine' i_tyL ?q1 ?_); (case q1 => walk_at "hp"))
  | ((with_reducible refine' i_gTupH ?q1 ?q2 ?_); (case q1 => walk_at "hp"); (case q2 => exact rfl))
  | (with_reducible refine i_dnewM ?_) | (with_reducible refine i_init ?_) | (with_reducible refine i_fst ?_) | (with_reducible refine i_mk ?_) | (with_reducible refine i_raise ?_) | (with_reducible refine i_callS ?_) | (with_reducible refine i_kwS ?_)
  | (with_reducible refine i_revT ?_) | (with_reducible refine i_kw ?_) | ((with_reducible refine' ⟨_, _, rfl, sqT_of ?q1, ?_⟩); (case q1 => walk_at "hp"))
  | (with_reducible refine i_revS ?_) | ((with_reducible refine i_revSS ?q1 ?_); (case q1 => walk_at "ln"))
  | (with_reducible refine i_startS ?_) | (with_reducible refine i_inSg ?_) | (with_reducible refine i_absN ?_) | (with_reducible refine i_min2 ?_) | (with_reducible refine i_max2 ?_) | (with_reducible refine i_min3 ?_) | (with_reducible refine i_intN ?_) | (with_reducible refine i_intNB ?_)
  | ((with_reducible refine' i_lenL ?q1 ?_); (case q1 => walk_at "hp")) | ((with_reducible refine' i_lenT ?q1 ?_); (case q1 => walk_at "hp"))
  | (with_reducible refine i_eqI ?_) | (with_reducible refine i_neI ?_) | (with_reducible refine i_eqS ?_) | (with_reducible refine i_neS ?_) | (with_reducible refine i_isNoI ?_) | (with_reducible refine i_isNoN ?_) | (with_reducible refine i_isNoR ?_)
  | ((with_reducible refine i_pow ?q1 ?q2 ?q3 ?_); (case q1 => decide); (case q2 => decide); (case q3 => (with_reducible omega)))
  | ((with_reducible refine i_rI ?q1 ?_); (case q1 => walk_at "ci"))
  | (with_reducible refine Or.inl ⟨_, rfl, ?_⟩) | (with_reducible refine Or.inr ⟨_, rfl, ?_⟩) | (with_reducible refine ⟨_, rfl, ?_⟩) | (with_reducible refine ⟨_, _, rfl, ?_⟩) | (with_reducible refine ⟨_, _, rfl, rfl, ?_⟩)
  | ((with_reducible refine' ⟨_, _, rfl, Or.inl (sqL_of ?q1), ?_⟩); (case q1 => walk_at "hp")) | ((with_reducible refine' ⟨_, _, rfl, Or.inr (sqT_of ?q1), ?_⟩); (case q1 => walk_at "hp")) | fail)
local macro_rules | `(tactic| walk_at "rd") => `(tactic| repeat' walk_at "rd1")

theorem sb_of_delX {b : Addr} {H H' : Hp} (s : Same (L2.del H b) (L2.del H' b)) : SB b H H' := fun a o n e => by
  have := s a o (by rw [L2.del_ne n]; exact e)
  rwa [L2.del_ne n] at this
/-- the odd steps -/
def oddDs : List PyData := [.none, .tuple [], .tuple [.str (S [107, 101, 101, 112]), .int 5], .tuple [.str (S [107, 101, 101, 112]), .none], .tuple [.none, .str (S [97])], .tuple [.str (S [107, 101, 101, 112]), .str (S [65])], .tuple [.str (S [107, 101, 101, 112]), .str (S [97, 97])], .str (S [107, 101, 101, 112]), .tuple [.str (S [108, 111, 115, 116]), .str (S [97])], .tuple [.str (S [107, 101, 101, 112]), .tuple [.str (S [97])]], .tuple [.str (S [115, 119, 97, 112]), .str (S [97]), .str (S [98]), .str (S [99])], .tuple [.str (S [100, 114, 111, 112]), .str (S [])], .tuple [.tuple [.str (S [107, 101, 101, 112])], .str (S [97])], .int 7, .tuple [.str (S [97, 100, 100]), .bool true]]
theorem odd_ok : ∀ d ∈ oddDs, d.hasDict = false ∧ Sd 3 100 d ∧ noL d = true := by
  have w : ∀ l : List Nat, (∀ c ∈ l, c ≤ 1000) → l.length ≤ 4 → Sd 0 4 (.str (S l)) := fun l h1 h2 => (sd_str h1).mono (Nat.le_refl _) h2
  intro d hd
  simp only [oddDs, List.mem_cons, List.not_mem_nil, or_false] at hd
  rcases hd with rfl | rfl | rfl | rfl | rfl | rfl | rfl | rfl | rfl | rfl | rfl | rfl | rfl | rfl | rfl
  · exact ⟨by simp [PyData.hasDict, PyData.hasDictAll], (sd_non.mono (Nat.zero_le _) (Nat.le_refl _)).mono (n := 3) (Nat.le_refl _) (by decide), by simp [noL, noLAll]⟩
  · exact ⟨by simp [PyData.hasDict, PyData.hasDictAll], (sd_tup' (n := 2) SdAll.nil).mono (n := 3) (Nat.le_refl _) (by decide), by simp [noL, noLAll]⟩
  · exact ⟨by simp [PyData.hasDict, PyData.hasDictAll], (sd_tup' (n := 2) (SdAll.cons ((sd_str (by decide)).mono (Nat.zero_le _) (Nat.le_refl _)) (SdAll.cons ((sd_int9 (by decide)).mono (Nat.zero_le _) (Nat.le_refl _)) SdAll.nil))).mono (n := 3) (Nat.le_refl _) (by decide), by simp [noL, noLAll]⟩
  · exact ⟨by simp [PyData.hasDict, PyData.hasDictAll], (sd_tup' (n := 2) (SdAll.cons ((sd_str (by decide)).mono (Nat.zero_le _) (Nat.le_refl _)) (SdAll.cons (sd_non.mono (Nat.zero_le _) (Nat.le_refl _)) SdAll.nil))).mono (n := 3) (Nat.le_refl _) (by decide), by simp [noL, noLAll]⟩
  · exact ⟨by simp [PyData.hasDict, PyData.hasDictAll], (sd_tup' (n := 2) (SdAll.cons (sd_non.mono (Nat.zero_le _) (Nat.le_refl _)) (SdAll.cons ((sd_str (by decide)).mono (Nat.zero_le _) (Nat.le_refl _)) SdAll.nil))).mono (n := 3) (Nat.le_refl _) (by decide), by simp [noL, noLAll]⟩
  · exact ⟨by simp [PyData.hasDict, PyData.hasDictAll], (sd_tup' (n := 2) (SdAll.cons ((sd_str (by decide)).mono (Nat.zero_le _) (Nat.le_refl _)) (SdAll.cons ((sd_str (by decide)).mono (Nat.zero_le _) (Nat.le_refl _)) SdAll.nil))).mono (n := 3) (Nat.le_refl _) (by decide), by simp [noL, noLAll]⟩
  · exact ⟨by simp [PyData.hasDict, PyData.hasDictAll], (sd_tup' (n := 2) (SdAll.cons ((sd_str (by decide)).mono (Nat.zero_le _) (Nat.le_refl _)) (SdAll.cons ((sd_str (by decide)).mono (Nat.zero_le _) (Nat.le_refl _)) SdAll.nil))).mono (n := 3) (Nat.le_refl _) (by decide), by simp [noL, noLAll]⟩
  · exact ⟨by simp [PyData.hasDict, PyData.hasDictAll], ((sd_str (by decide)).mono (Nat.zero_le _) (Nat.le_refl _)).mono (n := 3) (Nat.le_refl _) (by decide), by simp [noL, noLAll]⟩
  · exact ⟨by simp [PyData.hasDict, PyData.hasDictAll], (sd_tup' (n := 2) (SdAll.cons ((sd_str (by decide)).mono (Nat.zero_le _) (Nat.le_refl _)) (SdAll.cons ((sd_str (by decide)).mono (Nat.zero_le _) (Nat.le_refl _)) SdAll.nil))).mono (n := 3) (Nat.le_refl _) (by decide), by simp [noL, noLAll]⟩
  · exact ⟨by simp [PyData.hasDict, PyData.hasDictAll], (sd_tup' (n := 2) (SdAll.cons ((sd_str (by decide)).mono (Nat.zero_le _) (Nat.le_refl _)) (SdAll.cons (sd_tup' (n := 1) (SdAll.cons ((sd_str (by decide)).mono (Nat.zero_le _) (Nat.le_refl _)) SdAll.nil)) SdAll.nil))).mono (n := 3) (Nat.le_refl _) (by decide), by simp [noL, noLAll]⟩
  · exact ⟨by simp [PyData.hasDict, PyData.hasDictAll], (sd_tup' (n := 2) (SdAll.cons ((sd_str (by decide)).mono (Nat.zero_le _) (Nat.le_refl _)) (SdAll.cons ((sd_str (by decide)).mono (Nat.zero_le _) (Nat.le_refl _)) (SdAll.cons ((sd_str (by decide)).mono (Nat.zero_le _) (Nat.le_refl _)) (SdAll.cons ((sd_str (by decide)).mono (Nat.zero_le _) (Nat.le_refl _)) SdAll.nil))))).mono (n := 3) (Nat.le_refl _) (by decide), by simp [noL, noLAll]⟩
  · exact ⟨by simp [PyData.hasDict, PyData.hasDictAll], (sd_tup' (n := 2) (SdAll.cons ((sd_str (by decide)).mono (Nat.zero_le _) (Nat.le_refl _)) (SdAll.cons ((sd_str (by decide)).mono (Nat.zero_le _) (Nat.le_refl _)) SdAll.nil))).mono (n := 3) (Nat.le_refl _) (by decide), by simp [noL, noLAll]⟩
  · exact ⟨by simp [PyData.hasDict, PyData.hasDictAll], (sd_tup' (n := 2) (SdAll.cons (sd_tup' (n := 1) (SdAll.cons ((sd_str (by decide)).mono (Nat.zero_le _) (Nat.le_refl _)) SdAll.nil)) (SdAll.cons ((sd_str (by decide)).mono (Nat.zero_le _) (Nat.le_refl _)) SdAll.nil))).mono (n := 3) (Nat.le_refl _) (by decide), by simp [noL, noLAll]⟩
  · exact ⟨by simp [PyData.hasDict, PyData.hasDictAll], ((sd_int9 (by decide)).mono (Nat.zero_le _) (Nat.le_refl _)).mono (n := 3) (Nat.le_refl _) (by decide), by simp [noL, noLAll]⟩
  · exact ⟨by simp [PyData.hasDict, PyData.hasDictAll], (sd_tup' (n := 2) (SdAll.cons ((sd_str (by decide)).mono (Nat.zero_le _) (Nat.le_refl _)) (SdAll.cons ((sd_bl _).mono (Nat.zero_le _) (Nat.le_refl _)) SdAll.nil))).mono (n := 3) (Nat.le_refl _) (by decide), by simp [noL, noLAll]⟩
theorem all_pick {K : PySem.W.Frag} {H : Hp} {vs : List V} {ds : List PyData} {q : Int} (h : DeAll K H vs ds) (q0 : 0 ≤ q) (q1 : q < ds.length) : ∃ v d, vs[q.toNat]? = some v ∧ d ∈ ds ∧ De K H v d := by
  have l := h.len
  have e : vs[q.toNat]? = some (vs[q.toNat]'(by omega)) := List.getElem?_eq_getElem (by omega)
  obtain ⟨d, h1, h2⟩ := h.get e
  exact ⟨_, d, e, List.mem_of_getElem? h1, h2⟩
/-- _law_odd_step(box) -/
def spOddS (K : PySem.W.Frag) : Sp := fun vs H Q _ => ∃ (b : Addr) (d0 : Int), vs = [.ref b] ∧ BoxAt H b d0 ∧ d0 + 1 ≤ 1000000 ∧
  ∀ (v : V) (d : PyData) (H' : Hp), De K (L2.del H' b) v d → d.hasDict = false → Sd 3 100 d → noL d = true → BoxAt H' b (d0 + 1) → SB b H H' → Q v H'
section
variable {P : Program} {w : World} {K : PySem.W.Frag} {mg : Str → Option Value} {base : Heap} {f : Addr} {fd : FuncData}
theorem ok_oddS (F : Fun K "_law_odd_step" "_law_odd_step" s__law_odd_step f fd) (z : Z mg) (c__law_take : Cal P w K mg base "_law_take" ["box", "many"] 1 spTake) : FnOk P w K mg base CX0 2 f fd ["box"] (spOddS K) := by
  refine F.ok sc__law_odd_step (fun vs H Q E h => ?_) (fun cdv A outer s H vs Q E hr h => ?_)
  · obtain ⟨b, d0, rfl, _⟩ := h; rfl
  · obtain ⟨b, d0, rfl, B1, hd, k⟩ := h
    have s1 : SB b H H := SB.refl H
    refine ⟨_, (pss_cons (ps_set (i := 1) sc__law_odd_step.nd rfl (.inl rfl) (pe_lst (pa_cons pe_non (pa_cons (pe_tup pa_nil) (pa_cons (pe_tup (pa_cons (pe_strS (l := [107, 101, 101, 112]) (by decide +kernel)) (pa_cons pe_int pa_nil))) (pa_cons (pe_tup (pa_cons (pe_strS (l := [107, 101, 101, 112]) (by decide +kernel)) (pa_cons pe_non pa_nil))) (pa_cons (pe_tup (pa_cons pe_non (pa_cons (pe_strS (l := [97]) (by decide +kernel)) pa_nil))) (pa_cons (pe_tup (pa_cons (pe_strS (l := [107, 101, 101, 112]) (by decide +kernel)) (pa_cons (pe_strS (l := [65]) (by decide +kernel)) pa_nil))) (pa_cons (pe_tup (pa_cons (pe_strS (l := [107, 101, 101, 112]) (by decide +kernel)) (pa_cons (pe_strS (l := [97, 97]) (by decide +kernel)) pa_nil))) (pa_cons (pe_strS (l := [107, 101, 101, 112]) (by decide +kernel)) (pa_cons (pe_tup (pa_cons (pe_strS (l := [108, 111, 115, 116]) (by decide +kernel)) (pa_cons (pe_strS (l := [97]) (by decide +kernel)) pa_nil))) pa_nil)))))))))))
      (pss_cons (ps_set (i := 1) sc__law_odd_step.nd rfl (.inl rfl) (pe_op op_cat (pv 1) (pe_lst (pa_cons (pe_tup (pa_cons (pe_strS (l := [107, 101, 101, 112]) (by decide +kernel)) (pa_cons (pe_tup (pa_cons (pe_strS (l := [97]) (by decide +kernel)) pa_nil)) pa_nil))) (pa_cons (pe_tup (pa_cons (pe_strS (l := [115, 119, 97, 112]) (by decide +kernel)) (pa_cons (pe_strS (l := [97]) (by decide +kernel)) (pa_cons (pe_strS (l := [98]) (by decide +kernel)) (pa_cons (pe_strS (l := [99]) (by decide +kernel)) pa_nil))))) (pa_cons (pe_tup (pa_cons (pe_strS (l := [100, 114, 111, 112]) (by decide +kernel)) (pa_cons (pe_strS (l := []) (by decide +kernel)) pa_nil))) (pa_cons (pe_tup (pa_cons (pe_tup (pa_cons (pe_strS (l := [107, 101, 101, 112]) (by decide +kernel)) pa_nil)) (pa_cons (pe_strS (l := [97]) (by decide +kernel)) pa_nil))) (pa_cons pe_int (pa_cons (pe_tup (pa_cons (pe_strS (l := [97, 100, 100]) (by decide +kernel)) (pa_cons pe_bl pa_nil))) pa_nil)))))))))
      (pss_one (ps_ret (pe_ix ix_list (pv 1) (pe_cal c__law_take hr (pa_cons (pv 0) (pa_cons pe_int pa_nil))) (fun _ _ => rfl)))))), ?_⟩
    walk_at "rd"
    refine newT B1 (Nat.le_of_ble_eq_true rfl) fun p2 H2 B2 s2 e2 t2 => ?_
    have a2 : De K (L2.del H2 b) (.ref p2) (.tuple []) := .tup (sqT_of e2) .nil
    walk_at "rd"
    refine newT B2 (Nat.le_of_ble_eq_true rfl) fun p3 H3 B3 s3 e3 t3 => ?_
    have a2 := a2.same s3
    have a3 : De K (L2.del H3 b) (.ref p3) (.tuple [.str (S [107, 101, 101, 112]), .int 5]) := .tup (sqT_of e3) (.cons (.str _) (.cons (.int _) .nil))
    walk_at "rd"
    refine newT B3 (Nat.le_of_ble_eq_true rfl) fun p4 H4 B4 s4 e4 t4 => ?_
    have a2 := a2.same s4
    have a3 := a3.same s4
    have a4 : De K (L2.del H4 b) (.ref p4) (.tuple [.str (S [107, 101, 101, 112]), .none]) := .tup (sqT_of e4) (.cons (.str _) (.cons .non .nil))
    walk_at "rd"
    refine newT B4 (Nat.le_of_ble_eq_true rfl) fun p5 H5 B5 s5 e5 t5 => ?_
    have a2 := a2.same s5
    have a3 := a3.same s5
    have a4 := a4.same s5
    have a5 : De K (L2.del H5 b) (.ref p5) (.tuple [.none, .str (S [97])]) := .tup (sqT_of e5) (.cons .non (.cons (.str _) .nil))
    walk_at "rd"
    refine newT B5 (Nat.le_of_ble_eq_true rfl) fun p6 H6 B6 s6 e6 t6 => ?_
    have a2 := a2.same s6
    have a3 := a3.same s6
    have a4 := a4.same s6
    have a5 := a5.same s6
    have a6 : De K (L2.del H6 b) (.ref p6) (.tuple [.str (S [107, 101, 101, 112]), .str (S [65])]) := .tup (sqT_of e6) (.cons (.str _) (.cons (.str _) .nil))
    walk_at "rd"
    refine newT B6 (Nat.le_of_ble_eq_true rfl) fun p7 H7 B7 s7 e7 t7 => ?_
    have a2 := a2.same s7
    have a3 := a3.same s7
    have a4 := a4.same s7
    have a5 := a5.same s7
    have a6 := a6.same s7
    have a7 : De K (L2.del H7 b) (.ref p7) (.tuple [.str (S [107, 101, 101, 112]), .str (S [97, 97])]) := .tup (sqT_of e7) (.cons (.str _) (.cons (.str _) .nil))
    walk_at "rd"
    refine newT B7 (Nat.le_of_ble_eq_true rfl) fun p8 H8 B8 s8 e8 t8 => ?_
    have a2 := a2.same s8
    have a3 := a3.same s8
    have a4 := a4.same s8
    have a5 := a5.same s8
    have a6 := a6.same s8
    have a7 := a7.same s8
    have a8 : De K (L2.del H8 b) (.ref p8) (.tuple [.str (S [108, 111, 115, 116]), .str (S [97])]) := .tup (sqT_of e8) (.cons (.str _) (.cons (.str _) .nil))
    walk_at "rd"
    refine newL B8 (Nat.le_of_ble_eq_true rfl) fun p9 H9 B9 s9 e9 t9 => ?_
    have a2 := a2.same s9
    have a3 := a3.same s9
    have a4 := a4.same s9
    have a5 := a5.same s9
    have a6 := a6.same s9
    have a7 := a7.same s9
    have a8 := a8.same s9
    have m1 := e9
    walk_at "rd"
    walk_at "rd"
    refine newT B9 (Nat.le_of_ble_eq_true rfl) fun p10 H10 B10 s10 e10 t10 => ?_
    have a2 := a2.same s10
    have a3 := a3.same s10
    have a4 := a4.same s10
    have a5 := a5.same s10
    have a6 := a6.same s10
    have a7 := a7.same s10
    have a8 := a8.same s10
    have m1 := s10 _ _ m1
    have a10 : De K (L2.del H10 b) (.ref p10) (.tuple [.str (S [97])]) := .tup (sqT_of e10) (.cons (.str _) .nil)
    walk_at "rd"
    refine newT B10 (Nat.le_of_ble_eq_true rfl) fun p11 H11 B11 s11 e11 t11 => ?_
    have a2 := a2.same s11
    have a3 := a3.same s11
    have a4 := a4.same s11
    have a5 := a5.same s11
    have a6 := a6.same s11
    have a7 := a7.same s11
    have a8 := a8.same s11
    have a10 := a10.same s11
    have m1 := s11 _ _ m1
    have a11 : De K (L2.del H11 b) (.ref p11) (.tuple [.str (S [107, 101, 101, 112]), .tuple [.str (S [97])]]) := .tup (sqT_of e11) (.cons (.str _) (.cons a10 .nil))
    walk_at "rd"
    refine newT B11 (Nat.le_of_ble_eq_true rfl) fun p12 H12 B12 s12 e12 t12 => ?_
    have a2 := a2.same s12
    have a3 := a3.same s12
    have a4 := a4.same s12
    have a5 := a5.same s12
    have a6 := a6.same s12
    have a7 := a7.same s12
    have a8 := a8.same s12
    have a10 := a10.same s12
    have a11 := a11.same s12
    have m1 := s12 _ _ m1
    have a12 : De K (L2.del H12 b) (.ref p12) (.tuple [.str (S [115, 119, 97, 112]), .str (S [97]), .str (S [98]), .str (S [99])]) := .tup (sqT_of e12) (.cons (.str _) (.cons (.str _) (.cons (.str _) (.cons (.str _) .nil))))
    walk_at "rd"
    refine newT B12 (Nat.le_of_ble_eq_true rfl) fun p13 H13 B13 s13 e13 t13 => ?_
    have a2 := a2.same s13
    have a3 := a3.same s13
    have a4 := a4.same s13
    have a5 := a5.same s13
    have a6 := a6.same s13
    have a7 := a7.same s13
    have a8 := a8.same s13
    have a10 := a10.same s13
    have a11 := a11.same s13
    have a12 := a12.same s13
    have m1 := s13 _ _ m1
    have a13 : De K (L2.del H13 b) (.ref p13) (.tuple [.str (S [100, 114, 111, 112]), .str (S [])]) := .tup (sqT_of e13) (.cons (.str _) (.cons (.str _) .nil))
    walk_at "rd"
    refine newT B13 (Nat.le_of_ble_eq_true rfl) fun p14 H14 B14 s14 e14 t14 => ?_
    have a2 := a2.same s14
    have a3 := a3.same s14
    have a4 := a4.same s14
    have a5 := a5.same s14
    have a6 := a6.same s14
    have a7 := a7.same s14
    have a8 := a8.same s14
    have a10 := a10.same s14
    have a11 := a11.same s14
    have a12 := a12.same s14
    have a13 := a13.same s14
    have m1 := s14 _ _ m1
    have a14 : De K (L2.del H14 b) (.ref p14) (.tuple [.str (S [107, 101, 101, 112])]) := .tup (sqT_of e14) (.cons (.str _) .nil)
    walk_at "rd"
    refine newT B14 (Nat.le_of_ble_eq_true rfl) fun p15 H15 B15 s15 e15 t15 => ?_
    have a2 := a2.same s15
    have a3 := a3.same s15
    have a4 := a4.same s15
    have a5 := a5.same s15
    have a6 := a6.same s15
    have a7 := a7.same s15
    have a8 := a8.same s15
    have a10 := a10.same s15
    have a11 := a11.same s15
    have a12 := a12.same s15
    have a13 := a13.same s15
    have a14 := a14.same s15
    have m1 := s15 _ _ m1
    have a15 : De K (L2.del H15 b) (.ref p15) (.tuple [.tuple [.str (S [107, 101, 101, 112])], .str (S [97])]) := .tup (sqT_of e15) (.cons a14 (.cons (.str _) .nil))
    walk_at "rd"
    refine newT B15 (Nat.le_of_ble_eq_true rfl) fun p16 H16 B16 s16 e16 t16 => ?_
    have a2 := a2.same s16
    have a3 := a3.same s16
    have a4 := a4.same s16
    have a5 := a5.same s16
    have a6 := a6.same s16
    have a7 := a7.same s16
    have a8 := a8.same s16
    have a10 := a10.same s16
    have a11 := a11.same s16
    have a12 := a12.same s16
    have a13 := a13.same s16
    have a14 := a14.same s16
    have a15 := a15.same s16
    have m1 := s16 _ _ m1
    have a16 : De K (L2.del H16 b) (.ref p16) (.tuple [.str (S [97, 100, 100]), .bool true]) := .tup (sqT_of e16) (.cons (.str _) (.cons (.bl _) .nil))
    walk_at "rd"
    refine newL B16 (Nat.le_of_ble_eq_true rfl) fun p17 H17 B17 s17 e17 t17 => ?_
    have a2 := a2.same s17
    have a3 := a3.same s17
    have a4 := a4.same s17
    have a5 := a5.same s17
    have a6 := a6.same s17
    have a7 := a7.same s17
    have a8 := a8.same s17
    have a10 := a10.same s17
    have a11 := a11.same s17
    have a12 := a12.same s17
    have a13 := a13.same s17
    have a14 := a14.same s17
    have a15 := a15.same s17
    have a16 := a16.same s17
    have m1 := s17 _ _ m1
    walk_at "rd"
    refine i_catLB B17 m1 e17 (Nat.le_of_ble_eq_true rfl) fun p18 H18 B18 s18 e18 t18 => ?_
    have a2 := a2.same s18
    have a3 := a3.same s18
    have a4 := a4.same s18
    have a5 := a5.same s18
    have a6 := a6.same s18
    have a7 := a7.same s18
    have a8 := a8.same s18
    have a10 := a10.same s18
    have a11 := a11.same s18
    have a12 := a12.same s18
    have a13 := a13.same s18
    have a14 := a14.same s18
    have a15 := a15.same s18
    have a16 := a16.same s18
    walk_at "rd"
    refine ⟨b, 15, _, rfl, B18, by omega, by omega, by omega, fun q Hz q0 q1 Bz sz => ?_⟩
    have all : DeAll K (L2.del H18 b) _ oddDs := (.cons .non (.cons a2 (.cons a3 (.cons a4 (.cons a5 (.cons a6 (.cons a7 (.cons (.str _) (.cons a8 (.cons a11 (.cons a12 (.cons a13 (.cons a15 (.cons (.int _) (.cons a16 .nil)))))))))))))))
    have all := all.same (del_sb sz)
    have ef := del_sub _ _ (del_sb sz _ _ e18)
    obtain ⟨v, d, ev, md, hv⟩ := all_pick all q0 (by show q < (15 : Int); exact q1)
    refine i_ixLv ef q0 ev ?_
    obtain ⟨o1, o2, o3⟩ := odd_ok d md
    exact k v d _ hv o1 o2 o3 (Bz.mono (by omega)) (s1.trans (sb_of_delX (Same.trans (Same.trans (Same.trans (Same.trans (Same.trans (Same.trans (Same.trans (Same.trans (Same.trans (Same.trans (Same.trans (Same.trans (Same.trans (Same.trans (Same.trans (Same.trans (Same.trans s2 s3) s4) s5) s6) s7) s8) s9) s10) s11) s12) s13) s14) s15) s16) s17) s18) (del_sb sz))))
end
end Sw
namespace Sw
open PySem PySem.Spec PyProof.Rows L2
/-! ### a tuple once, or more often -/
theorem tuple_mul1 (l : Addr) (items : Array Value) (n : Nat) (dd : Option Addr) (sl : Array (Option Value)) (u : Tok) :
    Meets (Builtin.«tuple.__mul__» ⟨[.ref l, .int 1 u], []⟩) (fun _ R s => s.heap.get? l = some { cls := .type "tuple", dict := dd, data := .seq items n, slots := sl } ∧
      R (.ok (.ret (Value.ref l))) s) :=
  .of_wp fun prog w A R s h => by
    obtain ⟨hp, g, d, tk, os⟩ := s
    obtain ⟨hl, h⟩ := h
    have f1 := AutoSeq1.idx_int
    have c1 : (items.isEmpty || ((1 : Int) == 1)) = true := by rw [show ((1 : Int) == 1) = true from rfl, Bool.or_true]
    wp_walk using wpAny_loadPart' hl, wpAny_load hl
    repeat (first
      | (refine wpAny_ite_true c1 ?_; wp_walk using wpAny_loadPart' hl, wpAny_load hl)
      | (refine wpAny_ite_true (decide_eq_true c1) ?_; wp_walk using wpAny_loadPart' hl, wpAny_load hl))
    exact ⟨_, rfl, h⟩
/-- a tuple once is itself -/
def rRepU (K : PySem.W.Frag) : R2 := fun x y H Q => (∃ l xs, x = .ref l ∧ y = .int 1 ∧ SqT K H l xs ∧ Q (.ref l) H) ∨ rRepT K x y H Q
theorem op_repU {X : Cx} : OpR X (binaryOp .Mult) (rRepU X.K) := by
  intro pins s σ H x y v u Q I rx ry h
  rcases h with ⟨l, xs, rfl, rfl, hT, q⟩ | h
  · cases rx
    obtain ⟨t, rfl⟩ := ry
    obtain ⟨its, r, ⟨⟨cls, dd, data, sl⟩, ho, hc, n, hd⟩, hs⟩ := I.tuple hT
    simp only at hc hd
    subst hc hd
    refine wpAny_binaryOp_repeat_ref (T := "tuple") (U := "int") (by decide) ⟨_, ho, rfl⟩ (fun s' => typeIs_int s' 1 t) noFill_tuple_mul F.fills_int_mul F.slot_int_rmul repeat_tuple F.slot_int_index.lookup
      (call_meets F.slot_int_rmul (typeIs_int s 1 t) F.entry_int_rmul (F.args_int_rmul_2 _ _) (int_rmul_tuple 1 t l its.toArray n dd sl)
        ⟨ho, rfl, ⟨_, ho, rfl⟩, call_meets F.slot_tuple_mul ⟨_, ho, rfl⟩ F.entry_tuple_mul (F.args_tuple_mul_2 _ _) (tuple_mul1 l its.toArray n dd sl t) ⟨ho, ?_⟩⟩)
    exact ⟨.ref l, H, I, rfl, q⟩
  · exact op_repT pins s σ H x y v u Q I rx ry h
theorem i_rep1 {K : PySem.W.Frag} {l : Addr} {xs : List V} {H : Hp} {Q : VK} (h : SqT K H l xs) (q : Q (.ref l) H) : rRepU K (.ref l) (.int 1) H Q := .inl ⟨l, xs, rfl, rfl, h, q⟩
theorem i_repN {K : PySem.W.Frag} {l : Addr} {xs : List V} {k : Nat} {H : Hp} {Q : VK} (h : SqT K H l xs) (ne : xs ≠ []) (h2 : 2 ≤ k) (h3 : k ≤ 1000) (h4 : xs.length ≤ 1000) (q : ∀ p H', H p = none → Same H H' → H' p = some (.tup (List.replicate k xs).flatten) → Q (.ref p) H') : rRepU K (.ref l) (.int (k : Int)) H Q :=
  .inr ⟨l, k, xs, rfl, rfl, h, ne, by omega, by omega, h4, fun p n => by
    rw [Int.toNat_natCast]; exact q p _ n (same_upd n) upd_same⟩
end Sw
namespace Sw
open PySem PySem.Spec PyProof.Rows L2
abbrev vS (l : List Nat) : V := .str (S l)
abbrev pS (l : List Nat) : PyData := .str (S l)
section
variable {K : PySem.W.Frag} {G G' H H0 : Hp} {v : V} {vs us : List V} {Q : VK} {b : Addr} {d : Int}
theorem deAll_strs : ∀ {xs : List V} {ws : List (List Nat)}, DeAll K G xs (ws.map pS) → xs = ws.map vS
  | _, [], h => by cases h; rfl
  | _, w :: ws, h => by
    cases h with
    | cons h1 h2 =>
      cases h1
      rw [deAll_strs h2]; rfl
theorem strs_de : ∀ ws : List (List Nat), DeAll K G (ws.map vS) (ws.map pS)
  | [] => .nil
  | w :: ws => .cons (.str _) (strs_de ws)
/-- short words -/
def Wd (ws : List (List Nat)) : Prop := ∀ l ∈ ws, l.length ≤ 4 ∧ ∀ c ∈ l, c ≤ 1000
theorem Wd.cons {l : List Nat} {ws : List (List Nat)} (h1 : l.length ≤ 4) (h2 : ∀ c ∈ l, c ≤ 1000) (h : Wd ws) : Wd (l :: ws) := fun x hx => (List.mem_cons.mp hx).elim (fun e => e ▸ ⟨h1, h2⟩) (h x)
theorem Wd.nil : Wd [] := fun x hx => by cases hx
theorem Wd.app {xs ys : List (List Nat)} (h : Wd xs) (k : Wd ys) : Wd (xs ++ ys) := fun x hx => (List.mem_append.mp hx).elim (h x) (k x)
theorem Wd.sd {ws : List (List Nat)} (h : Wd ws) (l : ws.length ≤ 8) : Sd 1 40 (.tuple (ws.map pS)) := by
  have := sd_tup (n := 0) (w := 4) (ds := ws.map pS) fun d hd => by
    obtain ⟨x, hx, rfl⟩ := List.mem_map.mp hd
    exact (sd_str (h x hx).2).mono (Nat.le_refl _) (h x hx).1
  rw [List.length_map] at this
  exact this.mono (Nat.le_refl _) (by omega)
theorem wd_flat (ws : List (List Nat)) : (PyData.tuple (ws.map pS)).hasDict = false := hasDict_tup.mpr fun y hy => by
  obtain ⟨x, _, rfl⟩ := List.mem_map.mp hy
  simp only [PyData.hasDict]
/-- values that may lie among steps -/
def Vs (K : PySem.W.Frag) (G : Hp) (vs : List V) : Prop := ∃ ds, DeAll K G vs ds ∧ ∀ d ∈ ds, d.hasDict = false ∧ Sd 4 100 d
theorem Vs.same (h : Vs K G vs) (s : Same G G') : Vs K G' vs := by obtain ⟨ds, h1, h2⟩ := h; exact ⟨ds, h1.same s, h2⟩
theorem Vs.app (h : Vs K G vs) (k : Vs K G us) : Vs K G (vs ++ us) := by
  obtain ⟨ds, h1, h2⟩ := h
  obtain ⟨es, k1, k2⟩ := k
  exact ⟨ds ++ es, h1.app k1, fun x hx => (List.mem_append.mp hx).elim (h2 x) (k2 x)⟩
theorem Vs.nil : Vs K G [] := ⟨[], .nil, fun d h => by cases h⟩
theorem Vs.cons {d : PyData} (h : De K G v d) (z : d.hasDict = false) (s : Sd 4 100 d) (k : Vs K G vs) : Vs K G (v :: vs) := by
  obtain ⟨ds, h1, h2⟩ := k
  exact ⟨d :: ds, .cons h h1, fun x hx => (List.mem_cons.mp hx).elim (fun e => e ▸ ⟨z, s⟩) (h2 x)⟩
theorem Vs.cut (h : Vs K G vs) (lo hi : Option Int) : Vs K G (cutV vs lo hi) := by
  obtain ⟨ds, h1, h2⟩ := h
  refine ⟨_, (h1.drop _).take _, fun d hd => h2 d (List.mem_of_mem_drop (List.mem_of_mem_take hd))⟩
theorem Vs.tupW {a : Addr} {ws : List (List Nat)} (h : SqT K G a (ws.map vS)) (hw : Wd ws) (l : ws.length ≤ 8) (k : Vs K G vs) : Vs K G (.ref a :: vs) :=
  .cons (.tup h (strs_de ws)) (wd_flat ws) ((hw.sd l).mono (by omega) (by omega)) k
theorem Vs.lstW {a : Addr} {ws : List (List Nat)} (h : G a = some (.lst (ws.map vS))) (lt : sysModules < a) (hw : Wd ws) (l : ws.length ≤ 8) (k : Vs K G vs) : Vs K G (.ref a :: vs) := by
  refine .cons (.lst h lt (strs_de ws)) ?_ ((sd_lst' (hw.sd l).tupI).mono (by omega) (by omega)) k
  have := wd_flat ws
  simpa only [PyData.hasDict] using this
theorem Vs.tup {a : Addr} (h : Vs K G vs) (l : vs.length ≤ 350) (e : SqT K G a vs) : ∃ d, De K G (.ref a) d ∧ Ok1 d ∧ Sd 6 40000 d := by
  obtain ⟨ds, h1, h2⟩ := h
  have := h1.len
  exact ⟨_, .tup e h1, .inr (hasDict_tup.mpr fun y hy => (h2 y hy).1), (sd_tup fun d hd => (h2 d hd).2).mono (by omega) (by omega)⟩
theorem Vs.lst {a : Addr} (h : Vs K G vs) (l : vs.length ≤ 350) (e : G a = some (.lst vs)) (lt : sysModules < a) : ∃ d, De K G (.ref a) d ∧ Ok1 d ∧ Sd 6 40000 d := by
  obtain ⟨ds, h1, h2⟩ := h
  have := h1.len
  refine ⟨_, .lst e lt h1, .inr ?_, (sd_lst fun d hd => (h2 d hd).2).mono (by omega) (by omega)⟩
  have := hasDict_tup.mpr fun y hy => (h2 y hy).1
  simpa only [PyData.hasDict] using this
/-- a list of at most two such values -/
def Fr (K : PySem.W.Frag) (G : Hp) (v : V) : Prop := ∃ a vs, v = .ref a ∧ G a = some (.lst vs) ∧ vs.length ≤ 2 ∧ Vs K G vs
def Frs (K : PySem.W.Frag) (G : Hp) (vs : List V) : Prop := ∀ v ∈ vs, Fr K G v
theorem Fr.same (h : Fr K G v) (s : Same G G') : Fr K G' v := by
  obtain ⟨a, vs, e, h1, h2, h3⟩ := h
  exact ⟨a, vs, e, s _ _ h1, h2, h3.same s⟩
theorem Frs.same (h : Frs K G vs) (s : Same G G') : Frs K G' vs := fun v hv => (h v hv).same s
theorem Frs.nil : Frs K G [] := fun v h => by cases h
theorem Frs.snoc {a : Addr} (h : Frs K G vs) (e : G a = some (.lst us)) (l : us.length ≤ 2) (k : Vs K G us) : Frs K G (vs ++ [.ref a]) := fun x hx => (List.mem_append.mp hx).elim (h x) fun q => by
  rw [List.mem_singleton.mp q]; exact ⟨a, us, rfl, e, l, k⟩
theorem Frs.app (h : Frs K G vs) (k : Frs K G us) : Frs K G (vs ++ us) := fun x hx => (List.mem_append.mp hx).elim (h x) (k x)
/-- a step as words -/
theorem step_ws {s : St} (h : s.ok = true) : ∃ t cs, s.dat = .tuple ((t :: cs).map pS) ∧ 1 ≤ cs.length ∧ cs.length ≤ 2 ∧ Wd (t :: cs) := by
  have one : ∀ c, azN c = true → ∀ x ∈ [c], x ≤ 1000 := fun c hc x hx => by rw [List.mem_singleton.mp hx]; exact azN_le hc
  cases s with
  | keep c => exact ⟨tKeep, [[c]], rfl, Nat.le_of_ble_eq_true rfl, Nat.le_of_ble_eq_true rfl, .cons (by decide) (by decide) (.cons (Nat.le_of_ble_eq_true rfl) (one c h) .nil)⟩
  | drop c => exact ⟨tDrop, [[c]], rfl, Nat.le_of_ble_eq_true rfl, Nat.le_of_ble_eq_true rfl, .cons (by decide) (by decide) (.cons (Nat.le_of_ble_eq_true rfl) (one c h) .nil)⟩
  | add c => exact ⟨tAdd, [[c]], rfl, Nat.le_of_ble_eq_true rfl, Nat.le_of_ble_eq_true rfl, .cons (by decide) (by decide) (.cons (Nat.le_of_ble_eq_true rfl) (one c h) .nil)⟩
  | swap x y =>
    simp only [St.ok, Bool.and_eq_true] at h
    exact ⟨tSwap, [[x], [y]], rfl, Nat.le_of_ble_eq_true rfl, Nat.le_of_ble_eq_true rfl, .cons (by decide) (by decide) (.cons (Nat.le_of_ble_eq_true rfl) (one x h.1.1) (.cons (Nat.le_of_ble_eq_true rfl) (one y h.1.2) .nil))⟩
theorem i_repB {l : Addr} {x : List Nat} {k : Nat} (B : BoxAt H b d) (h : SqT K (L2.del H b) l ([x].map vS)) (k1 : 1 ≤ k) (k2 : k ≤ 1000) (q : ∀ t H', BoxAt H' b d → Same (L2.del H b) (L2.del H' b) → SqT K (L2.del H' b) t ((List.replicate k x).map vS) → Same H H' → Q (.ref t) H') : rRepU K (.ref l) (.int (k : Int)) H Q := by
  by_cases c : k = 1
  · subst c
    exact i_rep1 (Same.sqT del_sub h) (q _ _ B (Same.refl _) h (Same.refl _))
  · refine .inr ⟨l, k, _, rfl, rfl, Same.sqT del_sub h, (by simp), by omega, by omega, (by simp), fun p n => ?_⟩
    rw [Int.toNat_natCast]
    have e : (List.replicate k ([x].map vS)).flatten = (List.replicate k x).map vS := by
      clear q k1 k2 c
      induction k with
      | zero => rfl
      | succ k ih => rw [List.replicate_succ, List.flatten_cons, ih, List.replicate_succ]; rfl
    rw [e]
    exact q p _ (B.same (same_upd n)) (del_sb (SB.of (same_upd n))) (sqT_of (del_new B n)) (same_upd n)
theorem i_slNB {a : Addr} {xs : List V} (B : BoxAt H b d) (h : SqT K (L2.del H b) a xs) (hx : 1 ≤ xs.length) (k : ∀ t H', BoxAt H' b d → Same (L2.del H b) (L2.del H' b) → SqT K (L2.del H' b) t xs.dropLast → Same H H' → Q (.ref t) H') : rSlA K (.ref a) none (some (-1)) H Q := by
  have e0 : HT.sIx xs.length xs.length (some (-1)) = xs.length - 1 := by
    show (if (-1 : Int) < 0 then ((-1 : Int) + (xs.length : Int)).toNat else min (-1 : Int).toNat xs.length) = _
    rw [if_pos (by omega)]; omega
  refine ⟨a, xs, rfl, Same.sqT del_sub h, fun e => ?_, fun e p np => ?_⟩
  · rw [HT.sIx_none, e0] at e
    omega
  · have : cutV xs none (some (-1)) = xs.dropLast := by
      unfold cutV
      rw [HT.sIx_none, e0, List.drop_zero, Nat.sub_zero, List.dropLast_eq_take]
    rw [this]
    exact k _ _ (B.same (same_upd np)) (del_sb (SB.of (same_upd np))) (sqT_of (del_new B np)) (same_upd np)
theorem i_slLB {a : Addr} {xs : List V} {lo hi : Option Int} (B : BoxAt H b d) (h : L2.del H b a = some (.lst xs)) (k : ∀ t H', BoxAt H' b d → Same (L2.del H b) (L2.del H' b) → L2.del H' b t = some (.lst (cutV xs lo hi)) → Same H H' → Q (.ref t) H') : rSlL K (.ref a) lo hi H Q :=
  ⟨a, xs, rfl, sqL_of (del_sub _ _ h), fun p np => k _ _ (B.same (same_upd np)) (del_sb (SB.of (same_upd np))) (del_new B np) (same_upd np)⟩
theorem i_eqL {a c : Addr} {ds : List PyData} {n w : Nat} (h1 : H a = some (.lst vs)) (h2 : DeAll K H vs ds) (h3 : H c = some (.lst [])) (s : SdAll n w ds) (z : ∀ y ∈ ds, y.hasDict = false) (k : Q (.bl ds.isEmpty) H) (hn : n ≤ 50 := by omega) : rEqD K (.ref a) (.ref c) H Q := by
  have zz := hasDict_tup.mpr z
  have zl : (PyData.list ds).hasDict = false := by simpa only [PyData.hasDict] using zz
  refine ⟨.list ds, .list [], .lst (sqL_of h1) (h2.dp (by simpa only [PyData.hasDict] using zz)), .lst (sqL_of h3) .nil, (sd_lst' s).shaped (by omega) zl, (sd_lst' (n := 0) SdAll.nil).shaped (by omega) (by simp [PyData.hasDict, PyData.hasDictAll]), ?_⟩
  rw [show PyData.eqv (.list ds) (.list []) = ds.isEmpty by simp only [PyData.eqv]; cases ds <;> simp [PyData.eqvAll]]
  exact k
end
end Sw
namespace Sw
open PySem PySem.Spec PyProof.Rows L2
local macro_rules | `(tactic| walk_at "hp") => `(tactic| first
  | (with_reducible assumption) | (with_reducible exact upd_same)
  | ((with_reducible refine' upd_old ?q1 ?q2); (case q1 => (with_reducible assumption)); (case q2 => walk_at "hp"))
  | ((with_reducible refine' Same.at ?q1 ?q2); (case q1 => (with_reducible assumption)); (case q2 => walk_at "hp"))
  | ((with_reducible refine' upd_skip ?q1 ?q2); (case q1 => walk_at "ne"); (case q2 => walk_at "hp"))
  | fail)
local macro_rules | `(tactic| walk_at "ne") => `(tactic| first
  | (with_reducible assumption) | (with_reducible exact Ne.symm (by assumption))
  | ((with_reducible refine' ne_of_none ?q1 ?q2); (case q2 => (with_reducible assumption)); (case q1 => walk_at "hp"))
  | fail)
local macro_rules | `(tactic| walk_at "ci") => `(tactic| first | assumption | (show (0 : Int) < _; first | decide | (with_reducible omega)) | exact ⟨by decide, by decide⟩ | exact .inl ⟨by decide, by decide⟩ | exact .inr ⟨by decide, by decide⟩)
local macro_rules | `(tactic| walk_at "ln") => `(tactic| first | (with_reducible assumption) | (with_reducible omega) | (simp only [List.length_append, List.length_take, List.length_drop, List.length_reverse, List.length_cons, List.length_nil]; with_reducible omega))
local macro_rules | `(tactic| walk_at "rd1") => `(tactic| first
  | (with_reducible refine i_seq ?_) | (with_reducible refine i_asg ?_) | (with_reducible refine i_ret ?_) | (with_reducible refine i_name ?_) | ((with_reducible refine' i_var ?q1 ?_); (case q1 => exact rfl)) | (with_reducible refine i_c ?_) | (with_reducible refine i_op ?_) | (with_reducible refine i_un ?_)
  | (with_reducible refine i_rI0 ?_) | (with_reducible refine i_cb ?_) | (with_reducible refine i_cons ?_) | (with_reducible refine i_nil ?_) | (with_reducible refine i_call ?_) | (with_reducible refine i_if ?_) | (with_reducible refine i_ifE ?_) | (with_reducible refine i_test ?_) | (with_reducible refine i_bl ?_)
  | (with_reducible refine i_and ?_) | (with_reducible refine i_or ?_) | (with_reducible refine i_not ?_) | (with_reducible refine i_lstM ?_) | (with_reducible refine i_lstLM ?_) | (with_reducible refine i_tupM ?_) | (with_reducible refine i_next ?_) | (with_reducible refine i_drop ?_) | (with_reducible refine i_sub ?_)
  | (with_reducible refine i_bm ?_) | (with_reducible refine i_sl ?_) | (with_reducible refine i_part ?_) | (with_reducible refine i_nopart ?_) | (with_reducible refine i_exI ?_) | (with_reducible refine i_chain ?_) | ((with_reducible refine' i_aug ?q1 ?_); (case q1 => exact rfl)) | (with_reducible refine i_ip ?_)
  | (with_reducible refine i_par ?_) | (with_reducible refine i_pair ?_) | (with_reducible refine i_andV ?_) | (with_reducible refine i_orV ?_) | (with_reducible refine i_notV ?_) | (with_reducible refine i_m1 ?_) | (with_reducible refine i_str ?_)
  | (with_reducible refine iteF ?_) | (with_reducible refine iteT ?_) | (with_reducible refine iteNT ?_) | (with_reducible refine iteNF ?_) | (with_reducible refine i_tyS ?_) | (with_reducible refine i_tB ?_) | (with_reducible refine i_retN ?_) | (with_reducible refine i_par3 ?_) | (with_reducible refine i_trip ?_) | (with_reducible refine i_gCons ?_) | (with_reducible refine i_gNil ?_) | (with_reducible refine i_lstRg ?_) | (with_reducible refine i_rg1 ?_)
  | (with_reducible refine i_lc ?_) | (with_reducible refine i_for ?_) | (with_reducible refine i_iList ?_) | (with_reducible refine i_iTup ?_) | (with_reducible refine i_iStr ?_) | (with_reducible refine i_iRng1 ?_) | (with_reducible refine i_iEnS ?_)
  | ((with_reducible refine' i_ixTH ?q1 ?q2 ?_); (case q1 => walk_at "hp"); (case q2 => exact rfl))
  | ((with_reducible refine' i_ixLH ?q1 ?q2 ?_); (case q1 => walk_at "hp"); (case q2 => exact rfl))
  | ((with_reducible refine i_addS ?q1 ?_); (case q1 => walk_at "ln")) | ((with_reducible refine i_lenSS ?q1 ?_); (case q1 => walk_at "ln")) | ((with_reducible refine i_slFrom ?q1 ?q2 ?_); (case q1 => walk_at "ln"); (case q2 => walk_at "ln")) | ((with_reducible refine i_slTo ?q1 ?q2 ?_); (case q1 => walk_at "ln"); (case q2 => walk_at "ln"))
  | ((with_reducible refine' i_tyL ?q1 ?_); (case q1 => walk_at "hp"))
  | ((with_reducible refine' i_gTupH ?q1 ?q2 ?_); (case q1 => walk_at "hp"); (case q2 => exact rfl))
  | (with_reducible refine i_dnewM ?_) | (with_reducible refine i_init ?_) | (with_reducible refine i_fst ?_) | (with_reducible refine i_mk ?_) | (with_reducible refine i_raise ?_) | (with_reducible refine i_callS ?_) | (with_reducible refine i_kwS ?_)
  | (with_reducible refine i_revT ?_) | (with_reducible refine i_kw ?_) | ((with_reducible refine' ⟨_, _, rfl, sqT_of ?q1, ?_⟩); (case q1 => walk_at "hp"))
  | (with_reducible refine i_revS ?_) | ((with_reducible refine i_revSS ?q1 ?_); (case q1 => walk_at "ln"))
  | (with_reducible refine i_startS ?_) | (with_reducible refine i_inSg ?_) | (with_reducible refine i_absN ?_) | (with_reducible refine i_min2 ?_) | (with_reducible refine i_max2 ?_) | (with_reducible refine i_min3 ?_) | (with_reducible refine i_intN ?_) | (with_reducible refine i_intNB ?_)
  | ((with_reducible refine' i_lenL ?q1 ?_); (case q1 => walk_at "hp")) | ((with_reducible refine' i_lenT ?q1 ?_); (case q1 => walk_at "hp"))
  | (with_reducible refine i_eqI ?_) | (with_reducible refine i_neI ?_) | (with_reducible refine i_eqS ?_) | (with_reducible refine i_neS ?_) | (with_reducible refine i_isNoI ?_) | (with_reducible refine i_isNoN ?_) | (with_reducible refine i_isNoR ?_)
  | ((with_reducible refine i_pow ?q1 ?q2 ?q3 ?_); (case q1 => decide); (case q2 => decide); (case q3 => (with_reducible omega)))
  | ((with_reducible refine i_rI ?q1 ?_); (case q1 => walk_at "ci"))
  | (with_reducible refine Or.inl ⟨_, rfl, ?_⟩) | (with_reducible refine Or.inr ⟨_, rfl, ?_⟩) | (with_reducible refine ⟨_, rfl, ?_⟩) | (with_reducible refine ⟨_, _, rfl, ?_⟩) | (with_reducible refine ⟨_, _, rfl, rfl, ?_⟩)
  | ((with_reducible refine' ⟨_, _, rfl, Or.inl (sqL_of ?q1), ?_⟩); (case q1 => walk_at "hp")) | ((with_reducible refine' ⟨_, _, rfl, Or.inr (sqT_of ?q1), ?_⟩); (case q1 => walk_at "hp")) | fail)
local macro_rules | `(tactic| walk_at "rd") => `(tactic| repeat' walk_at "rd1")

/-- _law_bent(box, steps) -/
def spBent (K : PySem.W.Frag) : Sp := fun vs H Q _ => ∃ (b p : Addr) (ss : List St) (d0 : Int), vs = [.ref b, .ref p] ∧ De K (L2.del H b) (.ref p) (.tuple (ss.map St.dat)) ∧ (∀ s ∈ ss, s.ok = true) ∧ ss.length ≤ 100 ∧ BoxAt H b d0 ∧ d0 + 100 ≤ 1000000 ∧
  ∀ (v : V) (d : PyData) (H' : Hp), De K (L2.del H' b) v d → Ok1 d → Sd 6 40000 d → BoxAt H' b (d0 + 100) → SB b H H' → Q v H'
def bentDs : List PyData := [.none, .tuple [.tuple [pS tKeep, pS [97]]], .int 5, .tuple [.tuple []], .str (S []), .tuple [.none], .dict []]
theorem bent_ok : ∀ d ∈ bentDs, Ok1 d ∧ Sd 6 40000 d := by
  have w : ∀ {n : Nat} (l : List Nat), (∀ c ∈ l, c ≤ 1000) → Sd n l.length (.str (S l)) := fun l h1 => (sd_str h1).mono (Nat.zero_le _) (Nat.le_refl _)
  intro d hd
  simp only [bentDs, List.mem_cons, List.not_mem_nil, or_false] at hd
  have nn : ∀ {n : Nat}, Sd n 0 .none := sd_non.mono (Nat.zero_le _) (Nat.le_refl _)
  rcases hd with rfl | rfl | rfl | rfl | rfl | rfl | rfl
  · exact ⟨.inr (by simp [PyData.hasDict]), sd_non.mono (by omega) (by omega)⟩
  · exact ⟨.inr (by simp [PyData.hasDict, PyData.hasDictAll]), (sd_tup' (n := 1) (.cons (sd_tup' (n := 0) (.cons (w tKeep (by decide)) (.cons (w [97] (by decide)) .nil))) .nil)).mono (by omega) (by decide)⟩
  · exact ⟨.inr (by simp [PyData.hasDict]), (sd_int9 (by decide)).mono (by omega) (by omega)⟩
  · exact ⟨.inr (by simp [PyData.hasDict, PyData.hasDictAll]), (sd_tup' (n := 1) (.cons (sd_tup' (n := 0) SdAll.nil) .nil)).mono (by omega) (by decide)⟩
  · exact ⟨.inr (by simp [PyData.hasDict]), (w (n := 6) [] (by decide)).mono (Nat.le_refl _) (by decide)⟩
  · exact ⟨.inr (by simp [PyData.hasDict, PyData.hasDictAll]), (sd_tup' (n := 0) (.cons nn .nil)).mono (by omega) (by decide)⟩
  · exact ⟨.inl rfl, sd_emp.mono (by omega) (by omega)⟩
theorem fr_pick {K : PySem.W.Frag} {G : Hp} {vs : List V} {q : Int} (h : Frs K G vs) (q0 : 0 ≤ q) (q1 : q < vs.length) : ∃ v, vs[q.toNat]? = some v ∧ Fr K G v := by
  have e : vs[q.toNat]? = some (vs[q.toNat]'(by omega)) := List.getElem?_eq_getElem (by omega)
  exact ⟨_, e, h _ (List.getElem_mem _)⟩
section
variable {P : Program} {w : World} {K : PySem.W.Frag} {mg : Str → Option Value} {base : Heap} {f : Addr} {fd : FuncData}
theorem ok_bent (F : Fun K "_law_bent" "_law_bent" s__law_bent f fd) (z : Z mg) (c__law_take : Cal P w K mg base "_law_take" ["box", "many"] 1 spTake) (c__law_odd_step : Cal P w K mg base "_law_odd_step" ["box"] 2 (spOddS K)) : FnOk P w K mg base CX0 3 f fd ["box", "steps"] (spBent K) := by
  refine F.ok sc__law_bent (fun vs H Q E h => ?_) (fun cdv A outer s H vs Q E hr h => ?_)
  · obtain ⟨b, p, ss, d0, rfl, _⟩ := h; rfl
  · obtain ⟨b, p, ss, d0, rfl, hd, hok, ls, B, hd0, k⟩ := h
    obtain ⟨p', xs, ep, hp, hxs⟩ := hd.tupI
    cases ep
    have lx := hxs.len
    refine ⟨_, (pss_cons (ps_par (i := 2) (j := 3) rfl sc__law_bent.nd rfl rfl (by decide) rfl rfl (pa_cons (pe_cal c__law_take hr (pa_cons (pv 0) (pa_cons pe_int pa_nil))) (pa_cons (pe_callTy call_listL (by rfl) z.list (by decide +kernel) (pa_cons (pv 1) pa_nil)) pa_nil)) (by rfl))
      (pss_cons (ps_if (pt_cmpR op_eq (pv 2) pe_int (nomark _))
        (pss_one (ps_ret (pv 3)))
        pss_nil)
      (pss_cons (ps_if (pt_cmpR (op_eqD hr.units) (pv 3) (pe_lstL pa_nil) (nomark _))
        (pss_one (ps_ret (pe_ix ix_list (pe_lstL (pa_cons pe_non (pa_cons (pe_tup (pa_cons (pe_tup (pa_cons (pe_strS (l := [107, 101, 101, 112]) (by decide +kernel)) (pa_cons (pe_strS (l := [97]) (by decide +kernel)) pa_nil))) pa_nil)) (pa_cons pe_int (pa_cons (pe_tup (pa_cons (pe_tup pa_nil) pa_nil)) (pa_cons (pe_strS (l := []) (by decide +kernel)) (pa_cons (pe_tup (pa_cons pe_non pa_nil)) (pa_cons pe_dnewK pa_nil)))))))) (pe_cal c__law_take hr (pa_cons (pv 0) (pa_cons pe_int pa_nil))) (fun _ _ => rfl))))
        pss_nil)
      (pss_cons (ps_set (i := 4) sc__law_bent.nd rfl (.inl rfl) (pe_cal c__law_take hr (pa_cons (pv 0) (pa_cons (pe_callB call_lenQ (by rfl) z.len PySem.boot_len (pa_cons (pv 3) pa_nil)) pa_nil))))
      (pss_cons (ps_par (i := 5) (j := 6) rfl sc__law_bent.nd rfl rfl (by decide) rfl rfl (pa_cons (pe_ix ix_list (pv 3) (pv 4) (fun _ _ => rfl)) (pa_cons (pe_ix ix_S (pe_strS (l := [97, 98, 99, 100, 101, 102, 103, 104, 105, 106, 107, 108, 109, 110, 111, 112, 113, 114, 115, 116, 117, 118, 119, 120, 121, 122]) (by decide +kernel)) (pe_cal c__law_take hr (pa_cons (pv 0) (pa_cons pe_int pa_nil))) (fun _ _ => rfl)) pa_nil)) (by rfl))
      (pss_cons (ps_if (pt_cmpR op_eq (pv 2) pe_int (nomark _))
        (pss_one (ps_ret (pe_callTy call_tuple_of (by rfl) z.tuple (by decide +kernel) (pa_cons (pe_op op_cat (pe_slice sl_list (pv 3) po_none (po_some (pv 4))) (pe_slice sl_list (pv 3) (po_some (pe_op op_add (pv 4) pe_int)) po_none)) pa_nil))))
        pss_nil)
      (pss_cons (ps_if (pt_cmpR op_eq (pv 2) pe_int (nomark _))
        (pss_one (ps_ret (pe_callTy call_tuple_of (by rfl) z.tuple (by decide +kernel) (pa_cons (pe_op op_cat (pe_op op_cat (pe_op op_cat (pe_slice sl_list (pv 3) po_none (po_some (pv 4))) (pe_slice sl_list (pv 3) (po_some (pe_op op_add (pv 4) pe_int)) (po_some (pe_op op_add (pv 4) pe_int)))) (pe_lstL (pa_cons (pv 5) pa_nil))) (pe_slice sl_list (pv 3) (po_some (pe_op op_add (pv 4) pe_int)) po_none)) pa_nil))))
        pss_nil)
      (pss_cons (ps_set (i := 7) sc__law_bent.nd rfl (.inl rfl) (pe_lstL (pa_cons (pe_lstL (pa_cons (pv 5) pa_nil)) (pa_cons (pe_lstL (pa_cons (pv 5) pa_nil)) (pa_cons (pe_lstL (pa_cons (pv 5) (pa_cons (pv 5) pa_nil))) (pa_cons (pe_lstL (pa_cons (pe_tup (pa_cons (pe_strS (l := [115, 119, 97, 112]) (by decide +kernel)) (pa_cons (pe_ix ix_tup (pv 5) pe_int (fun _ _ => rfl)) (pa_cons (pe_ix ix_tup (pv 5) pe_int (fun _ _ => rfl)) pa_nil)))) pa_nil)) (pa_cons (pe_lstL (pa_cons (pe_tup (pa_cons (pe_strS (l := [100, 114, 111, 112]) (by decide +kernel)) (pa_cons (pe_ix ix_tup (pv 5) pe_int (fun _ _ => rfl)) pa_nil))) (pa_cons (pe_tup (pa_cons (pe_strS (l := [97, 100, 100]) (by decide +kernel)) (pa_cons (pe_ix ix_tup (pv 5) (pe_un un_neg pe_int) (fun _ _ => rfl)) pa_nil))) pa_nil))) pa_nil)))))))
      (pss_cons (ps_set (i := 7) sc__law_bent.nd rfl (.inl rfl) (pe_op op_cat (pv 7) (pe_lstL (pa_cons (pe_lstL (pa_cons (pe_tup (pa_cons (pe_strS (l := [97, 100, 100]) (by decide +kernel)) (pa_cons (pe_ix ix_tup (pv 5) (pe_un un_neg pe_int) (fun _ _ => rfl)) pa_nil))) (pa_cons (pe_tup (pa_cons (pe_strS (l := [100, 114, 111, 112]) (by decide +kernel)) (pa_cons (pe_ix ix_tup (pv 5) pe_int (fun _ _ => rfl)) pa_nil))) pa_nil))) (pa_cons (pe_lstL (pa_cons (pe_op op_catA (pe_tup (pa_cons (pe_ix ix_tup (pv 5) pe_int (fun _ _ => rfl)) pa_nil)) (pe_op op_repU (pe_tup (pa_cons (pv 6) pa_nil)) (pe_op op_sub (pe_callB call_lenQ (by rfl) z.len PySem.boot_len (pa_cons (pv 5) pa_nil)) pe_int))) pa_nil)) (pa_cons (pe_lstL (pa_cons (pe_callTy call_listL (by rfl) z.list (by decide +kernel) (pa_cons (pv 5) pa_nil)) pa_nil)) pa_nil))))))
      (pss_cons (ps_set (i := 8) sc__law_bent.nd rfl (.inl rfl) (pe_ix ix_list (pe_lstL (pa_cons (pe_strS (l := [107, 101, 101, 112]) (by decide +kernel)) (pa_cons (pe_strS (l := [100, 114, 111, 112]) (by decide +kernel)) (pa_cons (pe_strS (l := [97, 100, 100]) (by decide +kernel)) (pa_cons (pe_strS (l := [115, 119, 97, 112]) (by decide +kernel)) pa_nil))))) (pe_cal c__law_take hr (pa_cons (pv 0) (pa_cons pe_int pa_nil))) (fun _ _ => rfl)))
      (pss_cons (ps_set (i := 7) sc__law_bent.nd rfl (.inl rfl) (pe_op op_cat (pv 7) (pe_lstL (pa_cons (pe_lstL (pa_cons (pe_op op_catA (pv 5) (pe_tup (pa_cons (pe_ix ix_tup (pv 5) pe_int (fun _ _ => rfl)) pa_nil))) pa_nil)) (pa_cons (pe_lstL (pa_cons (pe_slice sl_tupA (pv 5) po_none (po_some (pe_un un_neg pe_int))) pa_nil)) (pa_cons (pe_lstL (pa_cons (pe_op op_catA (pe_tup (pa_cons (pv 8) pa_nil)) (pe_slice sl_tupA (pv 5) (po_some pe_int) po_none)) pa_nil)) (pa_cons (pe_lstL (pa_cons (pv 5) pa_nil)) (pa_cons (pe_lstL (pa_cons (pe_cal c__law_odd_step hr (pa_cons (pv 0) pa_nil)) pa_nil)) pa_nil))))))))
      (pss_one (ps_ret (pe_callTy call_tuple_of (by rfl) z.tuple (by decide +kernel) (pa_cons (pe_op op_cat (pe_op op_cat (pe_slice sl_list (pv 3) po_none (po_some (pv 4))) (pe_ix ix_list (pv 7) (pv 2) (fun _ _ => rfl))) (pe_slice sl_list (pv 3) (po_some (pe_op op_add (pv 4) pe_int)) po_none)) pa_nil))))))))))))))), ?_⟩
    walk_at "rd"
    refine ⟨b, 13, _, rfl, B, by omega, by omega, by omega, fun way H1 w0 w1 B1 s1 => ?_⟩
    have hp := Same.sqT (del_sb s1) hp
    have hxs := hxs.same (del_sb s1)
    walk_at "rd"
    refine i_listB B1 (.inr (Same.sqT del_sub hp)) fun rl H2 lt2 n2 B2 s2 er t2 => ?_
    have hp := Same.sqT s2 hp
    have hxs := hxs.same s2
    have vx : Vs K (L2.del H2 b) xs := ⟨_, hxs, fun d hd => by
      obtain ⟨s, hs, rfl⟩ := List.mem_map.mp hd
      exact ⟨dat_flat s, (dat_sd (hok s hs)).mono (by omega) (by omega)⟩⟩
    have lx' : xs.length ≤ 100 := by rw [lx, List.length_map]; exact ls
    have sE := s1.trans (SB.of t2)
    walk_at "rd"
    refine iteB (fun _ => ?_) (fun _ => ?_)
    · walk_at "rd"
      obtain ⟨d, g1, g2, g3⟩ := vx.lst (by omega) er lt2
      exact k _ d _ g1 g2 g3 (B2.mono (by omega)) sE
    walk_at "rd"
    refine newLL B2 (Nat.zero_le _) fun p3 H3 lt3 n3 B3 s3 e3 t3 => ?_
    have er := s3 _ _ er
    have hxs := hxs.same s3
    have vx := vx.same s3
    have sE := sE.trans (SB.of t3)
    refine i_eqL (del_sub _ _ er) (hxs.same del_sub) (del_sub _ _ e3) (dats_sd hok).tupI' (fun y hy => by obtain ⟨s, _, rfl⟩ := List.mem_map.mp hy; exact dat_flat s) ?_
    refine ⟨_, rfl, iteC (fun e0 => ?_) (fun e0 => ?_)⟩
    · walk_at "rd"
      refine newT B3 (Nat.le_of_ble_eq_true rfl) fun q1 J1 C1 r1 f1 u1 => ?_
      have g1 : De K (L2.del J1 b) (.ref q1) (.tuple [pS tKeep, pS [97]]) := .tup (sqT_of f1) (.cons (.str _) (.cons (.str _) .nil))
      walk_at "rd"
      refine newT C1 (Nat.le_of_ble_eq_true rfl) fun q2 J2 C2 r2 f2 u2 => ?_
      have g2 : De K (L2.del J2 b) (.ref q2) (.tuple [.tuple [pS tKeep, pS [97]]]) := .tup (sqT_of f2) (.cons (g1.same r2) .nil)
      walk_at "rd"
      refine newT C2 (Nat.zero_le _) fun q3 J3 C3 r3 f3 u3 => ?_
      have g2 := g2.same r3
      have g3 : De K (L2.del J3 b) (.ref q3) (.tuple []) := .tup (sqT_of f3) .nil
      walk_at "rd"
      refine newT C3 (Nat.le_of_ble_eq_true rfl) fun q4 J4 C4 r4 f4 u4 => ?_
      have g2 := g2.same r4
      have g4 : De K (L2.del J4 b) (.ref q4) (.tuple [.tuple []]) := .tup (sqT_of f4) (.cons (g3.same r4) .nil)
      walk_at "rd"
      refine newT C4 (Nat.le_of_ble_eq_true rfl) fun q5 J5 C5 r5 f5 u5 => ?_
      have g2 := g2.same r5
      have g4 := g4.same r5
      have g5 : De K (L2.del J5 b) (.ref q5) (.tuple [.none]) := .tup (sqT_of f5) (.cons .non .nil)
      walk_at "rd"
      refine newD C5 fun q6 J6 C6 r6 f6 u6 => ?_
      have g2 := g2.same r6
      have g4 := g4.same r6
      have g5 := g5.same r6
      have g6 : De K (L2.del J6 b) (.ref q6) (.dict []) := .dict f6 .nil
      walk_at "rd"
      refine newLL C6 (Nat.le_of_ble_eq_true rfl) fun q7 J7 ltq nq C7 r7 f7 u7 => ?_
      walk_at "rd"
      refine ⟨b, 7, _, rfl, C7, by omega, by omega, by omega, fun q J8 z0 z1 C8 v8 => ?_⟩
      have all : DeAll K (L2.del J6 b) _ bentDs := .cons .non (.cons g2 (.cons (.int _) (.cons g4 (.cons (.str _) (.cons g5 (.cons g6 .nil))))))
      have r8 := del_sb v8
      have all := (all.same r7).same r8
      obtain ⟨v, d, ev, md, hv⟩ := all_pick all z0 (by show q < (7 : Int); exact z1)
      refine i_ixLv (del_sub _ _ (r8 _ _ f7)) z0 ev ?_
      obtain ⟨o1, o2⟩ := bent_ok d md
      exact k v d _ hv o1 o2 (C8.mono (by omega)) (sE.trans (sb_of_delX (Same.trans r1 (Same.trans r2 (Same.trans r3 (Same.trans r4 (Same.trans r5 (Same.trans r6 (Same.trans r7 r8)))))))))
    have l0 : 1 ≤ xs.length := by
      rcases ss with _ | ⟨s, ss⟩
      · cases e0
      · rw [lx]; simp
    walk_at "rd"
    refine i_lenL (del_sub _ _ er) ?_
    walk_at "rd"
    refine ⟨b, (xs.length : Int), _, rfl, B3, by omega, by omega, by omega, fun at_ H3' a0 a1 B3 s3' => ?_⟩
    have er := del_sb s3' _ _ er
    have hxs := hxs.same (del_sb s3')
    have vx := vx.same (del_sb s3')
    have sE := sE.trans s3'
    have evx : xs[at_.toNat]? = some (xs[at_.toNat]'(by omega)) := List.getElem?_eq_getElem (by omega)
    obtain ⟨dj, gj, hdj⟩ := hxs.get evx
    obtain ⟨st, hst', rfl⟩ : ∃ st ∈ ss, dj = st.dat := by
      obtain ⟨s, hs, e⟩ := List.mem_map.mp (List.mem_of_getElem? gj)
      exact ⟨s, hs, e.symm⟩
    obtain ⟨t, cs, edt, c1_, c2_, hw⟩ := step_ws (hok st hst')
    generalize xs[at_.toNat]'(by omega) = vst at *
    rw [edt] at hdj
    obtain ⟨sp, ys, rfl, hst, hys⟩ := hdj.tupI
    obtain rfl := deAll_strs hys
    walk_at "rd"
    refine i_ixLv (del_sub _ _ er) a0 evx ?_
    walk_at "rd"
    refine ⟨b, 26, _, rfl, B3, by omega, by omega, by omega, fun lq H3 l0' l1' B3 s3 => ?_⟩
    have er := del_sb s3 _ _ er
    have hst := Same.sqT (del_sb s3) hst
    have vx := vx.same (del_sb s3)
    have sE := sE.trans s3
    refine i_ixSI l0' (letters_get lq.toNat (by omega)) (by decide) ?_
    have hc : ∀ c ∈ [97 + lq.toNat], c ≤ 1000 := fun c hc => by rw [List.mem_singleton.mp hc]; omega
    generalize 97 + lq.toNat = lc at *
    walk_at "rd"
    have mt : t ∈ t :: cs := List.mem_cons_self
    obtain ⟨c1, mc1, h1⟩ : ∃ c1, c1 ∈ t :: cs ∧ (vS t :: cs.map vS)[1]? = some (vS c1) := by
      rcases cs with _ | ⟨c, cs⟩
      · simp at c1_
      · exact ⟨c, by simp, rfl⟩
    obtain ⟨cm, mcm, hm⟩ : ∃ cm, cm ∈ t :: cs ∧ atI ((t :: cs).map vS) (-1) = some (vS cm) := by
      rcases cs with _ | ⟨c, _ | ⟨c', _ | ⟨c'', cs⟩⟩⟩
      · simp at c1_
      · exact ⟨c, by simp, rfl⟩
      · exact ⟨c', by simp, rfl⟩
      · simp only [List.length_cons] at c2_; omega
    refine iteB (fun _ => ?_) (fun _ => ?_)
    · walk_at "rd"
      refine i_slLB B3 er fun p4 H4 B4 s4 e4 t4 => ?_
      have er := s4 _ _ er
      walk_at "rd"
      refine i_slLB B4 er fun p5 H5 B5 s5 e5 t5 => ?_
      have e4 := s5 _ _ e4
      have c4 := cutV_length xs none (some at_)
      have c5 := cutV_length xs (some (at_ + 1)) none
      refine i_catLB B5 e4 e5 (Nat.le_trans (m := 1000) (by omega) (Nat.le_of_ble_eq_true rfl)) fun p6 H6 B6 s6 e6 t6 => ?_
      walk_at "rd"
      refine ⟨_, _, rfl, .inl ⟨sqL_of (del_sub _ _ e6), fun l nl => ?_⟩⟩
      have sf := Same.trans s4 (Same.trans s5 s6)
      have sl := del_sb (b := b) (SB.of (same_upd (o := .tup (cutV xs none (some at_) ++ cutV xs (some (at_ + 1)) none)) nl))
      have vx := (vx.same sf).same sl
      obtain ⟨d, g1, g2, g3⟩ := Vs.tup ((vx.cut none (some at_)).app (vx.cut (some (at_ + 1)) none)) (by rw [List.length_append]; omega) (sqT_of (del_new B6 nl))
      exact k _ d _ g1 g2 g3 ((B6.same (same_upd nl)).mono (by omega)) (sE.trans ((sb_of_delX sf).trans (SB.of (same_upd nl))))
    walk_at "rd"
    refine iteB (fun _ => ?_) (fun _ => ?_)
    · walk_at "rd"
      refine i_slLB B3 er fun p4 H4 B4 s4 e4 t4 => ?_
      have er := s4 _ _ er
      have hst := Same.sqT s4 hst
      walk_at "rd"
      refine i_slLB B4 er fun p5 H5 B5 s5 e5 t5 => ?_
      have er := s5 _ _ er
      have e4 := s5 _ _ e4
      have hst := Same.sqT s5 hst
      have c4 := cutV_length xs none (some at_)
      have c5 := cutV_length xs (some (at_ + 1)) (some (at_ + 2))
      have c6 := cutV_length xs (some (at_ + 2)) none
      refine i_catLB B5 e4 e5 (Nat.le_trans (m := 1000) (by omega) (Nat.le_of_ble_eq_true rfl)) fun p6 H6 B6 s6 e6 t6 => ?_
      have er := s6 _ _ er
      have hst := Same.sqT s6 hst
      walk_at "rd"
      refine newLL B6 (Nat.le_of_ble_eq_true rfl) fun p7 H7 lt7 n7 B7 s7 e7 t7 => ?_
      have er := s7 _ _ er
      have e6 := s7 _ _ e6
      have hst := Same.sqT s7 hst
      refine i_catLB B7 e6 e7 (Nat.le_trans (m := 1000) (by rw [List.length_append]; simp only [List.length_cons, List.length_nil]; omega) (Nat.le_of_ble_eq_true rfl)) fun p8 H8 B8 s8 e8 t8 => ?_
      have er := s8 _ _ er
      have hst := Same.sqT s8 hst
      walk_at "rd"
      refine i_slLB B8 er fun p9 H9 B9 s9 e9 t9 => ?_
      have e8 := s9 _ _ e8
      have hst := Same.sqT s9 hst
      refine i_catLB B9 e8 e9 (Nat.le_trans (m := 1000) (by rw [List.length_append, List.length_append]; simp only [List.length_cons, List.length_nil]; omega) (Nat.le_of_ble_eq_true rfl)) fun p10 H10 B10 s10 e10 t10 => ?_
      have hst := Same.sqT s10 hst
      walk_at "rd"
      refine ⟨_, _, rfl, .inl ⟨sqL_of (del_sub _ _ e10), fun l nl => ?_⟩⟩
      have sf := Same.trans s4 (Same.trans s5 (Same.trans s6 (Same.trans s7 (Same.trans s8 (Same.trans s9 s10)))))
      have sl := del_sb (b := b) (SB.of (same_upd (o := .tup (cutV xs none (some at_) ++ cutV xs (some (at_ + 1)) (some (at_ + 2)) ++ [.ref sp] ++ cutV xs (some (at_ + 2)) none)) nl))
      have vx := (vx.same sf).same sl
      have hst := Same.sqT sl hst
      obtain ⟨d, g1, g2, g3⟩ := Vs.tup ((((vx.cut none (some at_)).app (vx.cut (some (at_ + 1)) (some (at_ + 2)))).app (.tupW hst hw (by rw [List.length_cons]; omega) .nil)).app (vx.cut (some (at_ + 2)) none)) (by rw [List.length_append, List.length_append, List.length_append]; simp only [List.length_cons, List.length_nil]; omega) (sqT_of (del_new B10 nl))
      exact k _ d _ g1 g2 g3 ((B10.same (same_upd nl)).mono (by omega)) (sE.trans ((sb_of_delX sf).trans (SB.of (same_upd nl))))
    walk_at "rd"
    have os : Frs K (L2.del H3 b) [] := .nil
    walk_at "rd"
    refine newLL B3 (Nat.le_of_ble_eq_true rfl) fun p4 H4 lt4 n4 B4 s4 e4 t4 => ?_
    have er := s4 _ _ er
    have hst := Same.sqT s4 hst
    have os := os.same s4
    have os := os.snoc e4 (Nat.le_of_ble_eq_true rfl) (.tupW hst hw (by rw [List.length_cons]; omega) .nil)
    walk_at "rd"
    refine newLL B4 (Nat.le_of_ble_eq_true rfl) fun p5 H5 lt5 n5 B5 s5 e5 t5 => ?_
    have er := s5 _ _ er
    have hst := Same.sqT s5 hst
    have os := os.same s5
    have os := os.snoc e5 (Nat.le_of_ble_eq_true rfl) (.tupW hst hw (by rw [List.length_cons]; omega) .nil)
    walk_at "rd"
    refine newLL B5 (Nat.le_of_ble_eq_true rfl) fun p6 H6 lt6 n6 B6 s6 e6 t6 => ?_
    have er := s6 _ _ er
    have hst := Same.sqT s6 hst
    have os := os.same s6
    have os := os.snoc e6 (Nat.le_of_ble_eq_true rfl) (.tupW hst hw (by rw [List.length_cons]; omega) (.tupW hst hw (by rw [List.length_cons]; omega) .nil))
    walk_at "rd"
    refine i_ixTn (k := 1) (Same.sqT del_sub hst) (by rw [List.map_cons]; exact h1) ?_
    walk_at "rd"
    refine i_ixTn (k := 1) (Same.sqT del_sub hst) (by rw [List.map_cons]; exact h1) ?_
    walk_at "rd"
    refine newT B6 (Nat.le_of_ble_eq_true rfl) fun p7 H7 B7 s7 e7 t7 => ?_
    have er := s7 _ _ er
    have hst := Same.sqT s7 hst
    have os := os.same s7
    have q7 : SqT K (L2.del H7 b) p7 (([tSwap, c1, c1] : List (List Nat)).map vS) := sqT_of e7
    walk_at "rd"
    refine newLL B7 (Nat.le_of_ble_eq_true rfl) fun p8 H8 lt8 n8 B8 s8 e8 t8 => ?_
    have er := s8 _ _ er
    have hst := Same.sqT s8 hst
    have os := os.same s8
    have q7 := Same.sqT s8 q7
    have os := os.snoc e8 (Nat.le_of_ble_eq_true rfl) (.tupW q7 (show Wd _ from (.cons (by decide) (by decide) (.cons (hw c1 mc1).1 (hw c1 mc1).2 (.cons (hw c1 mc1).1 (hw c1 mc1).2 .nil)))) (Nat.le_of_ble_eq_true rfl) .nil)
    walk_at "rd"
    refine i_ixTn (k := 1) (Same.sqT del_sub hst) (by rw [List.map_cons]; exact h1) ?_
    walk_at "rd"
    refine newT B8 (Nat.le_of_ble_eq_true rfl) fun p9 H9 B9 s9 e9 t9 => ?_
    have er := s9 _ _ er
    have hst := Same.sqT s9 hst
    have os := os.same s9
    have q9 : SqT K (L2.del H9 b) p9 (([tDrop, c1] : List (List Nat)).map vS) := sqT_of e9
    walk_at "rd"
    refine i_rU (i_ixT (Same.sqT del_sub hst) hm ?_)
    walk_at "rd"
    refine newT B9 (Nat.le_of_ble_eq_true rfl) fun p10 H10 B10 s10 e10 t10 => ?_
    have er := s10 _ _ er
    have hst := Same.sqT s10 hst
    have os := os.same s10
    have q9 := Same.sqT s10 q9
    have q10 : SqT K (L2.del H10 b) p10 (([tAdd, cm] : List (List Nat)).map vS) := sqT_of e10
    walk_at "rd"
    refine newLL B10 (Nat.le_of_ble_eq_true rfl) fun p11 H11 lt11 n11 B11 s11 e11 t11 => ?_
    have er := s11 _ _ er
    have hst := Same.sqT s11 hst
    have os := os.same s11
    have q9 := Same.sqT s11 q9
    have q10 := Same.sqT s11 q10
    have os := os.snoc e11 (Nat.le_of_ble_eq_true rfl) (.tupW q9 (show Wd _ from (.cons (by decide) (by decide) (.cons (hw c1 mc1).1 (hw c1 mc1).2 .nil))) (Nat.le_of_ble_eq_true rfl) (.tupW q10 (show Wd _ from (.cons (by decide) (by decide) (.cons (hw cm mcm).1 (hw cm mcm).2 .nil))) (Nat.le_of_ble_eq_true rfl) .nil))
    walk_at "rd"
    refine newLL B11 (Nat.le_of_ble_eq_true rfl) fun p12 H12 lt12 n12 B12 s12 e12 t12 => ?_
    have er := s12 _ _ er
    have hst := Same.sqT s12 hst
    have os := os.same s12
    have m1 := e12
    have os1 := os
    walk_at "rd"
    have os : Frs K (L2.del H12 b) [] := .nil
    walk_at "rd"
    refine i_rU (i_ixT (Same.sqT del_sub hst) hm ?_)
    walk_at "rd"
    refine newT B12 (Nat.le_of_ble_eq_true rfl) fun p13 H13 B13 s13 e13 t13 => ?_
    have er := s13 _ _ er
    have hst := Same.sqT s13 hst
    have m1 := s13 _ _ m1
    have os1 := os1.same s13
    have os := os.same s13
    have q13 : SqT K (L2.del H13 b) p13 (([tAdd, cm] : List (List Nat)).map vS) := sqT_of e13
    walk_at "rd"
    refine i_ixTn (k := 1) (Same.sqT del_sub hst) (by rw [List.map_cons]; exact h1) ?_
    walk_at "rd"
    refine newT B13 (Nat.le_of_ble_eq_true rfl) fun p14 H14 B14 s14 e14 t14 => ?_
    have er := s14 _ _ er
    have hst := Same.sqT s14 hst
    have m1 := s14 _ _ m1
    have os1 := os1.same s14
    have os := os.same s14
    have q13 := Same.sqT s14 q13
    have q14 : SqT K (L2.del H14 b) p14 (([tDrop, c1] : List (List Nat)).map vS) := sqT_of e14
    walk_at "rd"
    refine newLL B14 (Nat.le_of_ble_eq_true rfl) fun p15 H15 lt15 n15 B15 s15 e15 t15 => ?_
    have er := s15 _ _ er
    have hst := Same.sqT s15 hst
    have m1 := s15 _ _ m1
    have os1 := os1.same s15
    have os := os.same s15
    have q13 := Same.sqT s15 q13
    have q14 := Same.sqT s15 q14
    have os := os.snoc e15 (Nat.le_of_ble_eq_true rfl) (.tupW q13 (show Wd _ from (.cons (by decide) (by decide) (.cons (hw cm mcm).1 (hw cm mcm).2 .nil))) (Nat.le_of_ble_eq_true rfl) (.tupW q14 (show Wd _ from (.cons (by decide) (by decide) (.cons (hw c1 mc1).1 (hw c1 mc1).2 .nil))) (Nat.le_of_ble_eq_true rfl) .nil))
    walk_at "rd"
    refine i_ixTn (k := 0) (Same.sqT del_sub hst) rfl ?_
    walk_at "rd"
    refine newT B15 (Nat.le_of_ble_eq_true rfl) fun p16 H16 B16 s16 e16 t16 => ?_
    have er := s16 _ _ er
    have hst := Same.sqT s16 hst
    have m1 := s16 _ _ m1
    have os1 := os1.same s16
    have os := os.same s16
    have q16 : SqT K (L2.del H16 b) p16 (([t] : List (List Nat)).map vS) := sqT_of e16
    walk_at "rd"
    refine newT B16 (Nat.le_of_ble_eq_true rfl) fun p17 H17 B17 s17 e17 t17 => ?_
    have er := s17 _ _ er
    have hst := Same.sqT s17 hst
    have m1 := s17 _ _ m1
    have os1 := os1.same s17
    have os := os.same s17
    have q16 := Same.sqT s17 q16
    have q17 : SqT K (L2.del H17 b) p17 (([[lc]] : List (List Nat)).map vS) := sqT_of e17
    walk_at "rd"
    refine i_lenSqT (Same.sqT del_sub hst) ?_
    walk_at "rd"
    rw [show ((((t :: cs).map vS).length : Nat) : Int) - 1 = ((cs.length : Nat) : Int) by rw [List.length_map, List.length_cons]; omega]
    refine i_repB B17 q17 (by omega) (by omega) fun p18 H18 B18 s18 e18 t18 => ?_
    have er := s18 _ _ er
    have hst := Same.sqT s18 hst
    have m1 := s18 _ _ m1
    have os1 := os1.same s18
    have os := os.same s18
    have q16 := Same.sqT s18 q16
    have q17 := Same.sqT s18 q17
    refine i_catB B18 q16 e18 (by rw [List.length_map, List.length_map, List.length_replicate]; exact Nat.le_trans (m := 100) (by simp; omega) (Nat.le_of_ble_eq_true rfl)) fun p19 H19 B19 s19 e19 t19 => ?_
    have er := s19 _ _ er
    have hst := Same.sqT s19 hst
    have m1 := s19 _ _ m1
    have os1 := os1.same s19
    have os := os.same s19
    have q16 := Same.sqT s19 q16
    have q17 := Same.sqT s19 q17
    have e18 := Same.sqT s19 e18
    rw [← List.map_append] at e19
    walk_at "rd"
    refine newLL B19 (Nat.le_of_ble_eq_true rfl) fun p20 H20 lt20 n20 B20 s20 e20 t20 => ?_
    have er := s20 _ _ er
    have hst := Same.sqT s20 hst
    have m1 := s20 _ _ m1
    have os1 := os1.same s20
    have os := os.same s20
    have e19 := Same.sqT s20 e19
    have os := os.snoc e20 (Nat.le_of_ble_eq_true rfl) (.tupW e19 (.app (show Wd _ from (.cons (hw t mt).1 (hw t mt).2 .nil)) (fun x hx => by rw [(List.mem_replicate.mp hx).2]; exact ⟨Nat.le_of_ble_eq_true rfl, hc⟩)) (by rw [List.length_append, List.length_replicate]; simp; omega) .nil)
    walk_at "rd"
    refine i_listB B20 (.inr (Same.sqT del_sub hst)) fun p21 H21 lt21 n21 B21 s21 e21 t21 => ?_
    have er := s21 _ _ er
    have hst := Same.sqT s21 hst
    have m1 := s21 _ _ m1
    have os1 := os1.same s21
    have os := os.same s21
    walk_at "rd"
    refine newLL B21 (Nat.le_of_ble_eq_true rfl) fun p22 H22 lt22 n22 B22 s22 e22 t22 => ?_
    have er := s22 _ _ er
    have hst := Same.sqT s22 hst
    have m1 := s22 _ _ m1
    have os1 := os1.same s22
    have os := os.same s22
    have e21 := s22 _ _ e21
    have os := os.snoc e22 (Nat.le_of_ble_eq_true rfl) (.lstW e21 lt21 hw (by rw [List.length_cons]; omega) .nil)
    walk_at "rd"
    refine newLL B22 (Nat.le_of_ble_eq_true rfl) fun p23 H23 lt23 n23 B23 s23 e23 t23 => ?_
    have er := s23 _ _ er
    have hst := Same.sqT s23 hst
    have m1 := s23 _ _ m1
    have os1 := os1.same s23
    have os := os.same s23
    walk_at "rd"
    refine i_catLB B23 m1 e23 (Nat.le_of_ble_eq_true rfl) fun p24 H24 B24 s24 e24 t24 => ?_
    have er := s24 _ _ er
    have hst := Same.sqT s24 hst
    have m1 := s24 _ _ m1
    have os1 := os1.same s24
    have os := os.same s24
    have os := os1.app os
    have m1 := e24
    have os1 := os
    walk_at "rd"
    refine newLL B24 (Nat.le_of_ble_eq_true rfl) fun p25 H25 lt25 n25 B25 s25 e25 t25 => ?_
    have er := s25 _ _ er
    have hst := Same.sqT s25 hst
    have m1 := s25 _ _ m1
    have os1 := os1.same s25
    walk_at "rd"
    refine ⟨b, 4, _, rfl, B25, by omega, by omega, by omega, fun qk H26 qk0 qk1 B26 t26 => ?_⟩
    have s26 := del_sb t26
    have er := s26 _ _ er
    have hst := Same.sqT s26 hst
    have m1 := s26 _ _ m1
    have os1 := os1.same s26
    have e25 := s26 _ _ e25
    obtain ⟨ko, eko, wko⟩ : ∃ ko, ([vS tKeep, vS tDrop, vS tAdd, vS tSwap] : List V)[qk.toNat]? = some (vS ko) ∧ Wd [ko] := by
      have hw : qk = 0 ∨ qk = 1 ∨ qk = 2 ∨ qk = 3 := by omega
      rcases hw with rfl | rfl | rfl | rfl
      · exact ⟨tKeep, rfl, .cons (by decide) (by decide) .nil⟩
      · exact ⟨tDrop, rfl, .cons (by decide) (by decide) .nil⟩
      · exact ⟨tAdd, rfl, .cons (by decide) (by decide) .nil⟩
      · exact ⟨tSwap, rfl, .cons (by decide) (by decide) .nil⟩
    refine i_ixLv (del_sub _ _ e25) qk0 eko ?_
    walk_at "rd"
    have os : Frs K (L2.del H26 b) [] := .nil
    walk_at "rd"
    refine i_ixTn (k := 1) (Same.sqT del_sub hst) (by rw [List.map_cons]; exact h1) ?_
    walk_at "rd"
    refine newT B26 (Nat.le_of_ble_eq_true rfl) fun p27 H27 B27 s27 e27 t27 => ?_
    have er := s27 _ _ er
    have hst := Same.sqT s27 hst
    have m1 := s27 _ _ m1
    have os1 := os1.same s27
    have os := os.same s27
    have q27 : SqT K (L2.del H27 b) p27 (([c1] : List (List Nat)).map vS) := sqT_of e27
    walk_at "rd"
    refine i_catB B27 hst q27 (by rw [List.length_map, List.length_map, List.length_cons]; exact Nat.le_trans (m := 100) (by simp; omega) (Nat.le_of_ble_eq_true rfl)) fun p28 H28 B28 s28 e28 t28 => ?_
    have er := s28 _ _ er
    have hst := Same.sqT s28 hst
    have m1 := s28 _ _ m1
    have os1 := os1.same s28
    have os := os.same s28
    have q27 := Same.sqT s28 q27
    rw [← List.map_append] at e28
    walk_at "rd"
    refine newLL B28 (Nat.le_of_ble_eq_true rfl) fun p29 H29 lt29 n29 B29 s29 e29 t29 => ?_
    have er := s29 _ _ er
    have hst := Same.sqT s29 hst
    have m1 := s29 _ _ m1
    have os1 := os1.same s29
    have os := os.same s29
    have e28 := Same.sqT s29 e28
    have os := os.snoc e29 (Nat.le_of_ble_eq_true rfl) (.tupW e28 (.app hw (show Wd _ from (.cons (hw c1 mc1).1 (hw c1 mc1).2 .nil))) (by rw [List.length_append, List.length_cons]; simp; omega) .nil)
    walk_at "rd"
    refine i_rU ?_
    walk_at "rd"
    refine i_slNB B29 hst (by simp) fun p30 H30 B30 s30 e30 t30 => ?_
    have er := s30 _ _ er
    have hst := Same.sqT s30 hst
    have m1 := s30 _ _ m1
    have os1 := os1.same s30
    have os := os.same s30
    rw [← List.map_dropLast] at e30
    walk_at "rd"
    refine newLL B30 (Nat.le_of_ble_eq_true rfl) fun p31 H31 lt31 n31 B31 s31 e31 t31 => ?_
    have er := s31 _ _ er
    have hst := Same.sqT s31 hst
    have m1 := s31 _ _ m1
    have os1 := os1.same s31
    have os := os.same s31
    have e30 := Same.sqT s31 e30
    have os := os.snoc e31 (Nat.le_of_ble_eq_true rfl) (.tupW e30 (fun x hx => hw x (by rw [List.dropLast_eq_take] at hx; exact List.mem_of_mem_take hx)) (by rw [List.length_dropLast, List.length_cons]; omega) .nil)
    walk_at "rd"
    refine newT B31 (Nat.le_of_ble_eq_true rfl) fun p32 H32 B32 s32 e32 t32 => ?_
    have er := s32 _ _ er
    have hst := Same.sqT s32 hst
    have m1 := s32 _ _ m1
    have os1 := os1.same s32
    have os := os.same s32
    have q32 : SqT K (L2.del H32 b) p32 (([ko] : List (List Nat)).map vS) := sqT_of e32
    walk_at "rd"
    refine i_slFB (n := 1) B32 hst fun p33 H33 B33 s33 e33 t33 => ?_
    have er := s33 _ _ er
    have hst := Same.sqT s33 hst
    have m1 := s33 _ _ m1
    have os1 := os1.same s33
    have os := os.same s33
    have q32 := Same.sqT s33 q32
    rw [← List.map_drop] at e33
    refine i_catB B33 q32 e33 (by rw [List.length_map, List.length_map, List.length_drop, List.length_cons]; exact Nat.le_trans (m := 100) (by simp; omega) (Nat.le_of_ble_eq_true rfl)) fun p34 H34 B34 s34 e34 t34 => ?_
    have er := s34 _ _ er
    have hst := Same.sqT s34 hst
    have m1 := s34 _ _ m1
    have os1 := os1.same s34
    have os := os.same s34
    have q32 := Same.sqT s34 q32
    have e33 := Same.sqT s34 e33
    rw [← List.map_append] at e34
    walk_at "rd"
    refine newLL B34 (Nat.le_of_ble_eq_true rfl) fun p35 H35 lt35 n35 B35 s35 e35 t35 => ?_
    have er := s35 _ _ er
    have hst := Same.sqT s35 hst
    have m1 := s35 _ _ m1
    have os1 := os1.same s35
    have os := os.same s35
    have e34 := Same.sqT s35 e34
    have os := os.snoc e35 (Nat.le_of_ble_eq_true rfl) (.tupW e34 (.app wko (fun x hx => hw x (List.mem_of_mem_drop hx))) (by rw [List.length_append, List.length_drop, List.length_cons]; simp; omega) .nil)
    walk_at "rd"
    refine newLL B35 (Nat.le_of_ble_eq_true rfl) fun p36 H36 lt36 n36 B36 s36 e36 t36 => ?_
    have er := s36 _ _ er
    have hst := Same.sqT s36 hst
    have m1 := s36 _ _ m1
    have os1 := os1.same s36
    have os := os.same s36
    have os := os.snoc e36 (Nat.le_of_ble_eq_true rfl) (.tupW hst hw (by rw [List.length_cons]; omega) .nil)
    walk_at "rd"
    refine ⟨b, _, rfl, B36, by omega, fun vo do_ H37 ho zo so no B37 t37 => ?_⟩
    have s37 := del_sb t37
    have er := s37 _ _ er
    have hst := Same.sqT s37 hst
    have m1 := s37 _ _ m1
    have os1 := os1.same s37
    have os := os.same s37
    walk_at "rd"
    refine newLL B37 (Nat.le_of_ble_eq_true rfl) fun p38 H38 lt38 n38 B38 s38 e38 t38 => ?_
    have er := s38 _ _ er
    have hst := Same.sqT s38 hst
    have m1 := s38 _ _ m1
    have os1 := os1.same s38
    have os := os.same s38
    have ho := ho.same s38
    have os := os.snoc e38 (Nat.le_of_ble_eq_true rfl) (.cons ho zo (so.mono (by omega) (Nat.le_refl _)) .nil)
    walk_at "rd"
    refine newLL B38 (Nat.le_of_ble_eq_true rfl) fun p39 H39 lt39 n39 B39 s39 e39 t39 => ?_
    have er := s39 _ _ er
    have hst := Same.sqT s39 hst
    have m1 := s39 _ _ m1
    have os1 := os1.same s39
    have os := os.same s39
    walk_at "rd"
    refine i_catLB B39 m1 e39 (Nat.le_of_ble_eq_true rfl) fun p40 H40 B40 s40 e40 t40 => ?_
    have er := s40 _ _ er
    have hst := Same.sqT s40 hst
    have m1 := s40 _ _ m1
    have os1 := os1.same s40
    have os := os.same s40
    have os := os1.app os
    have ef := e40
    walk_at "rd"
    refine i_slLB B40 er fun p41 H41 B41 s41 e41 t41 => ?_
    have er := s41 _ _ er
    have hst := Same.sqT s41 hst
    have os := os.same s41
    have ef := s41 _ _ ef
    walk_at "rd"
    obtain ⟨vw, ew, lw⟩ := fr_pick os w0 (by show way < (13 : Int); exact w1)
    refine i_ixLv (del_sub _ _ ef) w0 ew ?_
    obtain ⟨aw, us, rfl, eu, lu, vu⟩ := lw
    refine i_catLB B41 e41 eu (by have := cutV_length xs none (some at_); exact Nat.le_trans (m := 1000) (by omega) (Nat.le_of_ble_eq_true rfl)) fun p42 H42 B42 s42 e42 t42 => ?_
    have er := s42 _ _ er
    have hst := Same.sqT s42 hst
    have os := os.same s42
    have ef := s42 _ _ ef
    have e41 := s42 _ _ e41
    have eu := s42 _ _ eu
    have vu := vu.same s42
    walk_at "rd"
    refine i_slLB B42 er fun p43 H43 B43 s43 e43 t43 => ?_
    have er := s43 _ _ er
    have hst := Same.sqT s43 hst
    have os := os.same s43
    have ef := s43 _ _ ef
    have eu := s43 _ _ eu
    have vu := vu.same s43
    have e42 := s43 _ _ e42
    refine i_catLB B43 e42 e43 (by have := cutV_length xs none (some at_); have := cutV_length xs (some (at_ + 1)) none; rw [List.length_append]; exact Nat.le_trans (m := 1000) (by omega) (Nat.le_of_ble_eq_true rfl)) fun p44 H44 B44 s44 e44 t44 => ?_
    have er := s44 _ _ er
    have hst := Same.sqT s44 hst
    have os := os.same s44
    have ef := s44 _ _ ef
    have eu := s44 _ _ eu
    have vu := vu.same s44
    have e42 := s44 _ _ e42
    have e43 := s44 _ _ e43
    walk_at "rd"
    refine ⟨_, _, rfl, .inl ⟨sqL_of (del_sub _ _ e44), fun l nl => ?_⟩⟩
    have sf := (Same.trans (Same.trans (Same.trans (Same.trans (Same.trans (Same.trans (Same.trans (Same.trans (Same.trans (Same.trans (Same.trans (Same.trans (Same.trans (Same.trans (Same.trans (Same.trans (Same.trans (Same.trans (Same.trans (Same.trans (Same.trans (Same.trans (Same.trans (Same.trans (Same.trans (Same.trans (Same.trans (Same.trans (Same.trans (Same.trans (Same.trans (Same.trans (Same.trans (Same.trans (Same.trans (Same.trans (Same.trans (Same.trans (Same.trans (Same.trans s4 s5) s6) s7) s8) s9) s10) s11) s12) s13) s14) s15) s16) s17) s18) s19) s20) s21) s22) s23) s24) s25) s26) s27) s28) s29) s30) s31) s32) s33) s34) s35) s36) s37) s38) s39) s40) s41) s42) s43) s44)
    have sl := del_sb (b := b) (SB.of (same_upd (o := .tup (cutV xs none (some at_) ++ us ++ cutV xs (some (at_ + 1)) none)) nl))
    have vx := (vx.same sf).same sl
    have vu := vu.same sl
    obtain ⟨d, g1, g2, g3⟩ := Vs.tup (((vx.cut none (some at_)).app vu).app (vx.cut (some (at_ + 1)) none)) (by have := cutV_length xs none (some at_); have := cutV_length xs (some (at_ + 1)) none; rw [List.length_append, List.length_append]; omega) (sqT_of (del_new B44 nl))
    exact k _ d _ g1 g2 g3 ((B44.same (same_upd nl)).mono (by omega)) (sE.trans ((sb_of_delX sf).trans (SB.of (same_upd nl))))
end
end Sw
namespace Sw
open PySem PySem.Spec PyProof.Rows L2
/-! ### a call by three names, turned -/
def rev3 {α : Type} : List α → List α → List α
  | [], [c, b, a] => [a, b, c]
  | _, _ => []
theorem rev3_inv {α : Type} {us ws : List α} (h : (rev3 us ws).length = 3) : us = [] ∧ ∃ c b a, ws = [c, b, a] := by
  unfold rev3 at h
  split at h
  · exact ⟨rfl, _, _, _, rfl⟩
  · cases h
theorem rev3_rel {vs : List V} {us : List Value} {zs : List V} {ws : List Value} (r : Vals vs us) (r2 : Vals zs ws) : Vals (rev3 vs zs) (rev3 us ws) := by
  unfold rev3
  cases r with
  | cons _ _ => exact .nil
  | nil =>
    cases r2 with
    | nil => exact .nil
    | cons a r2 =>
      cases r2 with
      | nil => exact .nil
      | cons b r2 =>
        cases r2 with
        | nil => exact .nil
        | cons c r2 =>
          cases r2 with
          | nil => exact .cons c (.cons b (.cons a .nil))
          | cons _ _ => exact .nil
end Sw
namespace Sw
open PySem PySem.Spec PyProof.Rows L2
local macro_rules | `(tactic| walk_at "hp") => `(tactic| first
  | (with_reducible assumption) | (with_reducible exact upd_same)
  | ((with_reducible refine' upd_old ?q1 ?q2); (case q1 => (with_reducible assumption)); (case q2 => walk_at "hp"))
  | ((with_reducible refine' Same.at ?q1 ?q2); (case q1 => (with_reducible assumption)); (case q2 => walk_at "hp"))
  | ((with_reducible refine' upd_skip ?q1 ?q2); (case q1 => walk_at "ne"); (case q2 => walk_at "hp"))
  | fail)
local macro_rules | `(tactic| walk_at "ne") => `(tactic| first
  | (with_reducible assumption) | (with_reducible exact Ne.symm (by assumption))
  | ((with_reducible refine' ne_of_none ?q1 ?q2); (case q2 => (with_reducible assumption)); (case q1 => walk_at "hp"))
  | fail)
local macro_rules | `(tactic| walk_at "ci") => `(tactic| first | assumption | (show (0 : Int) < _; first | decide | (with_reducible omega)) | exact ⟨by decide, by decide⟩ | exact .inl ⟨by decide, by decide⟩ | exact .inr ⟨by decide, by decide⟩)
local macro_rules | `(tactic| walk_at "ln") => `(tactic| first | (with_reducible assumption) | (with_reducible omega) | (simp only [List.length_append, List.length_take, List.length_drop, List.length_reverse, List.length_cons, List.length_nil]; with_reducible omega))
local macro_rules | `(tactic| walk_at "rd1") => `(tactic| first
  | (with_reducible refine i_seq ?_) | (with_reducible refine i_asg ?_) | (with_reducible refine i_ret ?_) | (with_reducible refine i_name ?_) | ((with_reducible refine' i_var ?q1 ?_); (case q1 => exact rfl)) | (with_reducible refine i_c ?_) | (with_reducible refine i_op ?_) | (with_reducible refine i_un ?_)
  | (with_reducible refine i_rI0 ?_) | (with_reducible refine i_cb ?_) | (with_reducible refine i_cons ?_) | (with_reducible refine i_nil ?_) | (with_reducible refine i_call ?_) | (with_reducible refine i_if ?_) | (with_reducible refine i_ifE ?_) | (with_reducible refine i_test ?_) | (with_reducible refine i_bl ?_)
  | (with_reducible refine i_and ?_) | (with_reducible refine i_or ?_) | (with_reducible refine i_not ?_) | (with_reducible refine i_lstM ?_) | (with_reducible refine i_lstLM ?_) | (with_reducible refine i_tupM ?_) | (with_reducible refine i_next ?_) | (with_reducible refine i_drop ?_) | (with_reducible refine i_sub ?_)
  | (with_reducible refine i_bm ?_) | (with_reducible refine i_sl ?_) | (with_reducible refine i_part ?_) | (with_reducible refine i_nopart ?_) | (with_reducible refine i_exI ?_) | (with_reducible refine i_chain ?_) | ((with_reducible refine' i_aug ?q1 ?_); (case q1 => exact rfl)) | (with_reducible refine i_ip ?_)
  | (with_reducible refine i_par ?_) | (with_reducible refine i_pair ?_) | (with_reducible refine i_andV ?_) | (with_reducible refine i_orV ?_) | (with_reducible refine i_notV ?_) | (with_reducible refine i_m1 ?_) | (with_reducible refine i_str ?_)
  | (with_reducible refine iteF ?_) | (with_reducible refine iteT ?_) | (with_reducible refine iteNT ?_) | (with_reducible refine iteNF ?_) | (with_reducible refine i_tyS ?_) | (with_reducible refine i_tB ?_) | (with_reducible refine i_retN ?_) | (with_reducible refine i_par3 ?_) | (with_reducible refine i_trip ?_) | (with_reducible refine i_gCons ?_) | (with_reducible refine i_gNil ?_) | (with_reducible refine i_lstRg ?_) | (with_reducible refine i_rg1 ?_)
  | (with_reducible refine i_lc ?_) | (with_reducible refine i_for ?_) | (with_reducible refine i_iList ?_) | (with_reducible refine i_iTup ?_) | (with_reducible refine i_iStr ?_) | (with_reducible refine i_iRng1 ?_) | (with_reducible refine i_iEnS ?_)
  | ((with_reducible refine' i_ixTH ?q1 ?q2 ?_); (case q1 => walk_at "hp"); (case q2 => exact rfl))
  | ((with_reducible refine' i_ixLH ?q1 ?q2 ?_); (case q1 => walk_at "hp"); (case q2 => exact rfl))
  | ((with_reducible refine i_addS ?q1 ?_); (case q1 => walk_at "ln")) | ((with_reducible refine i_lenSS ?q1 ?_); (case q1 => walk_at "ln")) | ((with_reducible refine i_slFrom ?q1 ?q2 ?_); (case q1 => walk_at "ln"); (case q2 => walk_at "ln")) | ((with_reducible refine i_slTo ?q1 ?q2 ?_); (case q1 => walk_at "ln"); (case q2 => walk_at "ln"))
  | ((with_reducible refine' i_tyL ?q1 ?_); (case q1 => walk_at "hp"))
  | ((with_reducible refine' i_gTupH ?q1 ?q2 ?_); (case q1 => walk_at "hp"); (case q2 => exact rfl))
  | (with_reducible refine i_dnewM ?_) | (with_reducible refine i_init ?_) | (with_reducible refine i_fst ?_) | (with_reducible refine i_mk ?_) | (with_reducible refine i_raise ?_) | (with_reducible refine i_callS ?_) | (with_reducible refine i_kwS ?_)
  | (with_reducible refine i_revT ?_) | (with_reducible refine i_kw ?_) | ((with_reducible refine' ⟨_, _, rfl, sqT_of ?q1, ?_⟩); (case q1 => walk_at "hp"))
  | (with_reducible refine i_revS ?_) | ((with_reducible refine i_revSS ?q1 ?_); (case q1 => walk_at "ln"))
  | (with_reducible refine i_startS ?_) | (with_reducible refine i_inSg ?_) | (with_reducible refine i_absN ?_) | (with_reducible refine i_min2 ?_) | (with_reducible refine i_max2 ?_) | (with_reducible refine i_min3 ?_) | (with_reducible refine i_intN ?_) | (with_reducible refine i_intNB ?_)
  | ((with_reducible refine' i_lenL ?q1 ?_); (case q1 => walk_at "hp")) | ((with_reducible refine' i_lenT ?q1 ?_); (case q1 => walk_at "hp"))
  | (with_reducible refine i_eqI ?_) | (with_reducible refine i_neI ?_) | (with_reducible refine i_eqS ?_) | (with_reducible refine i_neS ?_) | (with_reducible refine i_isNoI ?_) | (with_reducible refine i_isNoN ?_) | (with_reducible refine i_isNoR ?_)
  | ((with_reducible refine i_pow ?q1 ?q2 ?q3 ?_); (case q1 => decide); (case q2 => decide); (case q3 => (with_reducible omega)))
  | ((with_reducible refine i_rI ?q1 ?_); (case q1 => walk_at "ci"))
  | (with_reducible refine Or.inl ⟨_, rfl, ?_⟩) | (with_reducible refine Or.inr ⟨_, rfl, ?_⟩) | (with_reducible refine ⟨_, rfl, ?_⟩) | (with_reducible refine ⟨_, _, rfl, ?_⟩) | (with_reducible refine ⟨_, _, rfl, rfl, ?_⟩)
  | ((with_reducible refine' ⟨_, _, rfl, Or.inl (sqL_of ?q1), ?_⟩); (case q1 => walk_at "hp")) | ((with_reducible refine' ⟨_, _, rfl, Or.inr (sqT_of ?q1), ?_⟩); (case q1 => walk_at "hp")) | fail)
local macro_rules | `(tactic| walk_at "rd") => `(tactic| repeat' walk_at "rd1")

open Lev (lev)
abbrev told : List Nat := [116, 111, 108, 100]
abbrev text : List Nat := [116, 101, 120, 116]
theorem names_T {P : Program} {w : World} {K : PySem.W.Frag} {mg : Str → Option Value} {base : Heap} {X : Cx} {C : Addr} (xt : XT P w K mg base C) (hm : X.mg = mg := by rfl) (hg : Gl X "InvalidText" := by rfl) : Names X "InvalidText" (.ref C) := ⟨hg, by decide, .inl (by rw [hm]; exact xt.hm)⟩
def turnKs : List Str := ["other", "one"]
def turn3Ks : List Str := ["value", "other", "one"]
/-- the text at fault -/
def first2 (x y : V) (b1 b2 : Bool) (g : V) : Prop := (b1 = false ∧ g = x) ∨ (b1 = true ∧ b2 = false ∧ g = y)
/-- _law_met(which, first, second, value) -/
def spMet (K : PySem.W.Frag) : Sp := fun vs H Q _ => ∃ (i : Int) (x y v : V) (b1 b2 : Bool), vs = [.int i, x, y, v] ∧ IsT K H x b1 ∧ IsT K H y b2 ∧
  (i = 0 ∨ i = 1 → ∀ a b, x = .str (S a) → y = .str (S b) → azB a = true → azB b = true → a.length ≤ 2000 ∧ b.length ≤ 2000 ∧ ∀ (t p : Addr) (ss : List St) (H' : Hp), Same H H' → H t = none → sysModules < t → H' t = some (.lst [.str (S told), .ref p]) → Run a b a.length b.length [] ss → Aln a b ss → costs ss = lev a b → ss.length ≤ a.length + b.length → De K H' (.ref p) (.tuple (ss.map St.dat)) → Q (.ref t) H') ∧
  (¬ (i = 0 ∨ i = 1) → ∀ a b, x = .str (S a) → y = .str (S b) → azB a = true → azB b = true → ∃ d w, De K H v d ∧ Sd 6 w d ∧ w ≤ 100000 ∧ Ok1 d ∧ ∀ (t : Addr) (H' : Hp), Same H H' → H t = none → sysModules < t → H' t = some (.lst [.str (S told), .bl (alnB a b d)]) → Q (.ref t) H') ∧
  (∀ g, first2 x y b1 b2 g → ∀ (t : Addr) (H' : Hp), Same H H' → H t = none → sysModules < t → H' t = some (.lst [.str (S text), g]) → Q (.ref t) H')
section
variable {P : Program} {w : World} {K : PySem.W.Frag} {mg : Str → Option Value} {base : Heap} {f : Addr} {fd : FuncData}
theorem ok_met {C : Addr} (F : Fun K "_law_met" "_law_met" s__law_met f fd) (xt : XT P w K mg base C)
    (x_alignment : CalX P w K mg base "alignment" ["one", "other"] 4 (spAln K C)) (kx_alignment : CalKX P w K mg base "alignment" ["one", "other"] 4 (spAln K C) turnKs rev2 rev2)
    (x_is_alignment : CalX P w K mg base "is_alignment" ["one", "other", "value"] 4 (spIsAln K C)) (kx_is_alignment : CalKX P w K mg base "is_alignment" ["one", "other", "value"] 4 (spIsAln K C) turn3Ks rev3 rev3) :
    FnOk P w K mg base CX0 5 f fd ["which", "first", "second", "value"] (spMet K) := by
  refine F.ok sc__law_met (fun vs H Q E h => ?_) (fun cdv A outer s H vs Q E hr h => ?_)
  · obtain ⟨i, x, y, v, _, _, rfl, _⟩ := h; rfl
  · obtain ⟨i, x, y, v, b1, b2, rfl, h1, h2, k1, k2, k3⟩ := h
    refine ⟨_, (pss_one (ps_try_as (i := 4) (Wout := fun _ _ _ _ => False) rfl rfl sc__law_met.nd rfl rfl (names_T xt) takes_none (fun W pn xe tk po => (pss_cons (ps_if (pt_cmpR op_eq (pv 0) pe_int (nomark _))
          (pss_one (ps_ret (pe_lstL (pa_cons (pe_strS (l := [116, 111, 108, 100]) (by decide +kernel)) (pa_cons (pe_calX x_alignment hr tk (pa_cons (pv 1) (pa_cons (pv 2) pa_nil))) pa_nil)))))
          pss_nil)
        (pss_cons (ps_if (pt_cmpR op_eq (pv 0) pe_int (nomark _))
          (pss_one (ps_ret (pe_lstL (pa_cons (pe_strS (l := [116, 111, 108, 100]) (by decide +kernel)) (pa_cons (pe_calKX kx_alignment hr tk (pk_cons (pv 2) (pk_cons (pv 1) pk_nil))) pa_nil)))))
          pss_nil)
        (pss_cons (ps_if (pt_cmpR op_eq (pv 0) pe_int (nomark _))
          (pss_one (ps_ret (pe_lstL (pa_cons (pe_strS (l := [116, 111, 108, 100]) (by decide +kernel)) (pa_cons (pe_calX x_is_alignment hr tk (pa_cons (pv 1) (pa_cons (pv 2) (pa_cons (pv 3) pa_nil)))) pa_nil)))))
          pss_nil)
        (pss_one (ps_ret (pe_lstL (pa_cons (pe_strS (l := [116, 111, 108, 100]) (by decide +kernel)) (pa_cons (pe_calKX kx_is_alignment hr tk (pk_cons (pv 3) (pk_cons (pv 2) (pk_cons (pv 1) pk_nil)))) pa_nil)))))))))
      (fun a oe cls d pn hz hf => (pss_one (ps_ret (pe_lstL (pa_cons (pe_strS (l := [116, 101, 120, 116]) (by decide +kernel)) (pa_cons (pe_xf xt.xf xt.no hz hf (pv 4)) pa_nil)))))))), ?_⟩
    walk_at "rd"
    refine iteB (fun i0 => ?_) (fun i0 => ?_)
    · walk_at "rd"
      refine ⟨x, y, b1, b2, rfl, h1, h2, fun eb dx H1 nx s1 ed => ?_, fun ea eb dx H1 nx s1 ed => ?_, fun a b ex ey za zb => ?_⟩
      · refine ⟨true, xt.me, fun _ a na => ?_, fun z => by cases z⟩
        walk_at "rd"
        refine ⟨_, rfl, rfl, rfl, dx, _, _, rfl, ed, rfl, ?_⟩
        walk_at "rd"
        refine newLL0 (Nat.le_of_ble_eq_true rfl) fun t H2 nt lt s2 et => ?_
        exact k3 _ (.inl ⟨eb, rfl⟩) t _ (s1.trans s2) (s1.free nt) lt et
      · refine ⟨true, xt.me, fun _ a na => ?_, fun z => by cases z⟩
        walk_at "rd"
        refine ⟨_, rfl, rfl, rfl, dx, _, _, rfl, ed, rfl, ?_⟩
        walk_at "rd"
        refine newLL0 (Nat.le_of_ble_eq_true rfl) fun t H2 nt lt s2 et => ?_
        exact k3 _ (.inr ⟨ea, eb, rfl⟩) t _ (s1.trans s2) (s1.free nt) lt et
      · obtain ⟨la, lb, kk⟩ := k1 (by omega) a b ex ey za zb
        refine ⟨la, lb, fun p ss H1 s1 rn al co le de => ?_⟩
        walk_at "rd"
        refine newLL0 (Nat.le_of_ble_eq_true rfl) fun t H2 nt lt s2 et => ?_
        exact kk t p ss _ (s1.trans s2) (s1.free nt) lt et rn al co le (de.same s2)
    walk_at "rd"
    refine iteB (fun i1 => ?_) (fun i1 => ?_)
    · walk_at "rd"
      refine ⟨x, y, b1, b2, rfl, h1, h2, fun eb dx H1 nx s1 ed => ?_, fun ea eb dx H1 nx s1 ed => ?_, fun a b ex ey za zb => ?_⟩
      · refine ⟨true, xt.me, fun _ a na => ?_, fun z => by cases z⟩
        walk_at "rd"
        refine ⟨_, rfl, rfl, rfl, dx, _, _, rfl, ed, rfl, ?_⟩
        walk_at "rd"
        refine newLL0 (Nat.le_of_ble_eq_true rfl) fun t H2 nt lt s2 et => ?_
        exact k3 _ (.inl ⟨eb, rfl⟩) t _ (s1.trans s2) (s1.free nt) lt et
      · refine ⟨true, xt.me, fun _ a na => ?_, fun z => by cases z⟩
        walk_at "rd"
        refine ⟨_, rfl, rfl, rfl, dx, _, _, rfl, ed, rfl, ?_⟩
        walk_at "rd"
        refine newLL0 (Nat.le_of_ble_eq_true rfl) fun t H2 nt lt s2 et => ?_
        exact k3 _ (.inr ⟨ea, eb, rfl⟩) t _ (s1.trans s2) (s1.free nt) lt et
      · obtain ⟨la, lb, kk⟩ := k1 (by omega) a b ex ey za zb
        refine ⟨la, lb, fun p ss H1 s1 rn al co le de => ?_⟩
        walk_at "rd"
        refine newLL0 (Nat.le_of_ble_eq_true rfl) fun t H2 nt lt s2 et => ?_
        exact kk t p ss _ (s1.trans s2) (s1.free nt) lt et rn al co le (de.same s2)
    walk_at "rd"
    refine iteB (fun i2 => ?_) (fun i2 => ?_)
    · walk_at "rd"
      refine ⟨x, y, v, b1, b2, rfl, h1, h2, fun eb dx H1 nx s1 ed => ?_, fun ea eb dx H1 nx s1 ed => ?_, fun a b ex ey za zb => ?_⟩
      · refine ⟨true, xt.me, fun _ a na => ?_, fun z => by cases z⟩
        walk_at "rd"
        refine ⟨_, rfl, rfl, rfl, dx, _, _, rfl, ed, rfl, ?_⟩
        walk_at "rd"
        refine newLL0 (Nat.le_of_ble_eq_true rfl) fun t H2 nt lt s2 et => ?_
        exact k3 _ (.inl ⟨eb, rfl⟩) t _ (s1.trans s2) (s1.free nt) lt et
      · refine ⟨true, xt.me, fun _ a na => ?_, fun z => by cases z⟩
        walk_at "rd"
        refine ⟨_, rfl, rfl, rfl, dx, _, _, rfl, ed, rfl, ?_⟩
        walk_at "rd"
        refine newLL0 (Nat.le_of_ble_eq_true rfl) fun t H2 nt lt s2 et => ?_
        exact k3 _ (.inr ⟨ea, eb, rfl⟩) t _ (s1.trans s2) (s1.free nt) lt et
      · obtain ⟨d, w, hd, hs, hw, ho, kk⟩ := k2 (by omega) a b ex ey za zb
        refine ⟨d, w, hd, hs, hw, ho, fun H1 s1 => ?_⟩
        walk_at "rd"
        refine newLL0 (Nat.le_of_ble_eq_true rfl) fun t H2 nt lt s2 et => ?_
        exact kk t _ (s1.trans s2) (s1.free nt) lt et
    walk_at "rd"
    refine ⟨x, y, v, b1, b2, rfl, h1, h2, fun eb dx H1 nx s1 ed => ?_, fun ea eb dx H1 nx s1 ed => ?_, fun a b ex ey za zb => ?_⟩
    · refine ⟨true, xt.me, fun _ a na => ?_, fun z => by cases z⟩
      walk_at "rd"
      refine ⟨_, rfl, rfl, rfl, dx, _, _, rfl, ed, rfl, ?_⟩
      walk_at "rd"
      refine newLL0 (Nat.le_of_ble_eq_true rfl) fun t H2 nt lt s2 et => ?_
      exact k3 _ (.inl ⟨eb, rfl⟩) t _ (s1.trans s2) (s1.free nt) lt et
    · refine ⟨true, xt.me, fun _ a na => ?_, fun z => by cases z⟩
      walk_at "rd"
      refine ⟨_, rfl, rfl, rfl, dx, _, _, rfl, ed, rfl, ?_⟩
      walk_at "rd"
      refine newLL0 (Nat.le_of_ble_eq_true rfl) fun t H2 nt lt s2 et => ?_
      exact k3 _ (.inr ⟨ea, eb, rfl⟩) t _ (s1.trans s2) (s1.free nt) lt et
    · obtain ⟨d, w, hd, hs, hw, ho, kk⟩ := k2 (by omega) a b ex ey za zb
      refine ⟨d, w, hd, hs, hw, ho, fun H1 s1 => ?_⟩
      walk_at "rd"
      refine newLL0 (Nat.le_of_ble_eq_true rfl) fun t H2 nt lt s2 et => ?_
      exact kk t _ (s1.trans s2) (s1.free nt) lt et
end
end Sw
namespace Sw
open PySem PySem.Spec PyProof.Rows L2
local macro_rules | `(tactic| walk_at "hp") => `(tactic| first
  | (with_reducible assumption) | (with_reducible exact upd_same)
  | ((with_reducible refine' upd_old ?q1 ?q2); (case q1 => (with_reducible assumption)); (case q2 => walk_at "hp"))
  | ((with_reducible refine' Same.at ?q1 ?q2); (case q1 => (with_reducible assumption)); (case q2 => walk_at "hp"))
  | ((with_reducible refine' upd_skip ?q1 ?q2); (case q1 => walk_at "ne"); (case q2 => walk_at "hp"))
  | fail)
local macro_rules | `(tactic| walk_at "ne") => `(tactic| first
  | (with_reducible assumption) | (with_reducible exact Ne.symm (by assumption))
  | ((with_reducible refine' ne_of_none ?q1 ?q2); (case q2 => (with_reducible assumption)); (case q1 => walk_at "hp"))
  | fail)
local macro_rules | `(tactic| walk_at "ci") => `(tactic| first | assumption | (show (0 : Int) < _; first | decide | (with_reducible omega)) | exact ⟨by decide, by decide⟩ | exact .inl ⟨by decide, by decide⟩ | exact .inr ⟨by decide, by decide⟩)
local macro_rules | `(tactic| walk_at "ln") => `(tactic| first | (with_reducible assumption) | (with_reducible omega) | (simp only [List.length_append, List.length_take, List.length_drop, List.length_reverse, List.length_cons, List.length_nil]; with_reducible omega))
local macro_rules | `(tactic| walk_at "rd1") => `(tactic| first
  | (with_reducible refine i_seq ?_) | (with_reducible refine i_asg ?_) | (with_reducible refine i_ret ?_) | (with_reducible refine i_name ?_) | ((with_reducible refine' i_var ?q1 ?_); (case q1 => exact rfl)) | (with_reducible refine i_c ?_) | (with_reducible refine i_op ?_) | (with_reducible refine i_un ?_)
  | (with_reducible refine i_rI0 ?_) | (with_reducible refine i_cb ?_) | (with_reducible refine i_cons ?_) | (with_reducible refine i_nil ?_) | (with_reducible refine i_call ?_) | (with_reducible refine i_if ?_) | (with_reducible refine i_ifE ?_) | (with_reducible refine i_test ?_) | (with_reducible refine i_bl ?_)
  | (with_reducible refine i_and ?_) | (with_reducible refine i_or ?_) | (with_reducible refine i_not ?_) | (with_reducible refine i_lstM ?_) | (with_reducible refine i_lstLM ?_) | (with_reducible refine i_tupM ?_) | (with_reducible refine i_next ?_) | (with_reducible refine i_drop ?_) | (with_reducible refine i_sub ?_)
  | (with_reducible refine i_bm ?_) | (with_reducible refine i_sl ?_) | (with_reducible refine i_part ?_) | (with_reducible refine i_nopart ?_) | (with_reducible refine i_exI ?_) | (with_reducible refine i_chain ?_) | ((with_reducible refine' i_aug ?q1 ?_); (case q1 => exact rfl)) | (with_reducible refine i_ip ?_)
  | (with_reducible refine i_par ?_) | (with_reducible refine i_pair ?_) | (with_reducible refine i_andV ?_) | (with_reducible refine i_orV ?_) | (with_reducible refine i_notV ?_) | (with_reducible refine i_m1 ?_) | (with_reducible refine i_str ?_)
  | (with_reducible refine iteF ?_) | (with_reducible refine iteT ?_) | (with_reducible refine iteNT ?_) | (with_reducible refine iteNF ?_) | (with_reducible refine i_tyS ?_) | (with_reducible refine i_tB ?_) | (with_reducible refine i_retN ?_) | (with_reducible refine i_par3 ?_) | (with_reducible refine i_trip ?_) | (with_reducible refine i_gCons ?_) | (with_reducible refine i_gNil ?_) | (with_reducible refine i_lstRg ?_) | (with_reducible refine i_rg1 ?_)
  | (with_reducible refine i_lc ?_) | (with_reducible refine i_for ?_) | (with_reducible refine i_iList ?_) | (with_reducible refine i_iTup ?_) | (with_reducible refine i_iStr ?_) | (with_reducible refine i_iRng1 ?_) | (with_reducible refine i_iEnS ?_)
  | ((with_reducible refine' i_ixTH ?q1 ?q2 ?_); (case q1 => walk_at "hp"); (case q2 => exact rfl))
  | ((with_reducible refine' i_ixLH ?q1 ?q2 ?_); (case q1 => walk_at "hp"); (case q2 => exact rfl))
  | ((with_reducible refine i_addS ?q1 ?_); (case q1 => walk_at "ln")) | ((with_reducible refine i_lenSS ?q1 ?_); (case q1 => walk_at "ln")) | ((with_reducible refine i_slFrom ?q1 ?q2 ?_); (case q1 => walk_at "ln"); (case q2 => walk_at "ln")) | ((with_reducible refine i_slTo ?q1 ?q2 ?_); (case q1 => walk_at "ln"); (case q2 => walk_at "ln"))
  | ((with_reducible refine' i_tyL ?q1 ?_); (case q1 => walk_at "hp"))
  | ((with_reducible refine' i_gTupH ?q1 ?q2 ?_); (case q1 => walk_at "hp"); (case q2 => exact rfl))
  | (with_reducible refine i_dnewM ?_) | (with_reducible refine i_init ?_) | (with_reducible refine i_fst ?_) | (with_reducible refine i_mk ?_) | (with_reducible refine i_raise ?_) | (with_reducible refine i_callS ?_) | (with_reducible refine i_kwS ?_)
  | (with_reducible refine i_revT ?_) | (with_reducible refine i_kw ?_) | ((with_reducible refine' ⟨_, _, rfl, sqT_of ?q1, ?_⟩); (case q1 => walk_at "hp"))
  | (with_reducible refine i_revS ?_) | ((with_reducible refine i_revSS ?q1 ?_); (case q1 => walk_at "ln"))
  | (with_reducible refine i_startS ?_) | (with_reducible refine i_inSg ?_) | (with_reducible refine i_absN ?_) | (with_reducible refine i_min2 ?_) | (with_reducible refine i_max2 ?_) | (with_reducible refine i_min3 ?_) | (with_reducible refine i_intN ?_) | (with_reducible refine i_intNB ?_)
  | ((with_reducible refine' i_lenL ?q1 ?_); (case q1 => walk_at "hp")) | ((with_reducible refine' i_lenT ?q1 ?_); (case q1 => walk_at "hp"))
  | (with_reducible refine i_eqI ?_) | (with_reducible refine i_neI ?_) | (with_reducible refine i_eqS ?_) | (with_reducible refine i_neS ?_) | (with_reducible refine i_isNoI ?_) | (with_reducible refine i_isNoN ?_) | (with_reducible refine i_isNoR ?_)
  | ((with_reducible refine i_pow ?q1 ?q2 ?q3 ?_); (case q1 => decide); (case q2 => decide); (case q3 => (with_reducible omega)))
  | ((with_reducible refine i_rI ?q1 ?_); (case q1 => walk_at "ci"))
  | (with_reducible refine Or.inl ⟨_, rfl, ?_⟩) | (with_reducible refine Or.inr ⟨_, rfl, ?_⟩) | (with_reducible refine ⟨_, rfl, ?_⟩) | (with_reducible refine ⟨_, _, rfl, ?_⟩) | (with_reducible refine ⟨_, _, rfl, rfl, ?_⟩)
  | ((with_reducible refine' ⟨_, _, rfl, Or.inl (sqL_of ?q1), ?_⟩); (case q1 => walk_at "hp")) | ((with_reducible refine' ⟨_, _, rfl, Or.inr (sqT_of ?q1), ?_⟩); (case q1 => walk_at "hp")) | fail)
local macro_rules | `(tactic| walk_at "rd") => `(tactic| repeat' walk_at "rd1")

open Lev (lev)
theorem keepP_del {H : Hp} {b : Addr} {d : Int} (B : BoxAt H b d) : KeepP b H (L2.del H b) := fun a o q e => by
  by_cases c : a = b
  · subst c
    obtain ⟨_, _, _, _, hb, _⟩ := B.ex
    rw [hb] at e; cases e
    exact (q.elim (fun q => q rfl) fun q => q _ rfl).elim
  · rw [L2.del_ne c]; exact e
theorem eqv_dat (s : St) : PyData.eqv s.dat s.dat = true := by
  cases s <;> simp [St.dat, PyData.eqv, PyData.eqvAll]
theorem eqvAll_dats : ∀ ss : List St, PyData.eqvAll (ss.map St.dat) (ss.map St.dat) = true
  | [] => by simp [PyData.eqvAll]
  | s :: ss => by
    rw [List.map_cons]
    simp only [PyData.eqvAll, eqv_dat, eqvAll_dats ss, Bool.and_self]
theorem eqv_told (ss : List St) : PyData.eqv (.list [.str (S told), .tuple (ss.map St.dat)]) (.list [.str (S told), .tuple (ss.map St.dat)]) = true := by
  simp only [PyData.eqv, PyData.eqvAll, eqvAll_dats, Bool.and_true, beq_self_eq_true]
theorem sd_told {ss : List St} (h : ∀ s ∈ ss, s.ok = true) (l : ss.length ≤ 1000) : Sd 3 20000 (.list [.str (S told), .tuple (ss.map St.dat)]) :=
  (sd_lst' (n := 2) (.cons ((sd_str (by decide)).mono (Nat.zero_le _) (Nat.le_refl _)) (.cons (dats_sd h) .nil))).mono (by omega) (by have : told.length = 4 := rfl; omega)
theorem told_flat (ss : List St) : (PyData.list [.str (S told), .tuple (ss.map St.dat)]).hasDict = false := by
  have := dats_flat ss
  simp only [PyData.hasDict] at this
  simp [PyData.hasDict, PyData.hasDictAll, this]
theorem costs_take {ss : List St} {i : Nat} {s : St} (h : ss[i]? = some s) : costs (ss.take (i + 1)) = costs (ss.take i) + s.cost := by
  rw [List.take_add_one, h]; simp [costs]
theorem isT_str {K : PySem.W.Frag} {H : Hp} {l : List Nat} (z : azB l = true) (h : l.length ≤ 2000) : IsT K H (.str (S l)) true := .inl ⟨l, rfl, by omega, z.symm⟩
theorem first2_no {l r v : V} (h : first2 l r true true v) : False := by
  rcases h with h | h
  · cases h.1
  · cases h.2.1
/-- a good call of _law_met for an alignment -/
theorem met_aln {K : PySem.W.Frag} {H : Hp} {Q : VK} {E : XK} {i : Int} {a b : List Nat} {v : V} (hi : i = 0 ∨ i = 1) (za : azB a = true) (zb : azB b = true) (la : a.length ≤ 2000) (lb : b.length ≤ 2000)
    (k : ∀ (t p : Addr) (ss : List St) (H' : Hp), Same H H' → H t = none → sysModules < t → H' t = some (.lst [.str (S told), .ref p]) → Run a b a.length b.length [] ss → Aln a b ss → costs ss = lev a b → ss.length ≤ a.length + b.length → De K H' (.ref p) (.tuple (ss.map St.dat)) → Q (.ref t) H') : spMet K [.int i, .str (S a), .str (S b), v] H Q E := by
  refine ⟨i, _, _, v, true, true, rfl, isT_str za la, isT_str zb lb, fun _ a' b' ea eb _ _ => ?_, fun n => (n hi).elim, fun g hg => (first2_no hg).elim⟩
  cases S_inj.mp (V.str.inj ea)
  cases S_inj.mp (V.str.inj eb)
  exact ⟨la, lb, k⟩
/-- a good call of _law_met for the judge -/
theorem met_is {K : PySem.W.Frag} {H : Hp} {Q : VK} {E : XK} {i : Int} {a b : List Nat} {v : V} {d : PyData} {w : Nat} (hi : ¬ (i = 0 ∨ i = 1)) (za : azB a = true) (zb : azB b = true) (la : a.length ≤ 2000) (lb : b.length ≤ 2000) (hd : De K H v d) (hs : Sd 6 w d) (hw : w ≤ 100000) (ho : Ok1 d)
    (k : ∀ (t : Addr) (H' : Hp), Same H H' → H t = none → sysModules < t → H' t = some (.lst [.str (S told), .bl (alnB a b d)]) → Q (.ref t) H') : spMet K [.int i, .str (S a), .str (S b), v] H Q E := by
  refine ⟨i, _, _, v, true, true, rfl, isT_str za la, isT_str zb lb, fun n => (hi n).elim, fun _ a' b' ea eb _ _ => ?_, fun g hg => (first2_no hg).elim⟩
  cases S_inj.mp (V.str.inj ea)
  cases S_inj.mp (V.str.inj eb)
  exact ⟨d, w, hd, hs, hw, ho, k⟩
/-- _law_right(box, first, second) -/
def spRight : Sp := fun vs H Q _ => ∃ (b : Addr) (a c : List Nat) (d : Int), vs = [.ref b, .str (S a), .str (S c)] ∧ azB a = true ∧ azB c = true ∧ a.length ≤ 40 ∧ c.length ≤ 40 ∧ BoxAt H b d ∧ d + 2000 ≤ 1000000 ∧
  ∀ H', BoxAt H' b (d + 600) → SB b H H' → Q (.bl true) H'
section
variable {P : Program} {w : World} {K : PySem.W.Frag} {mg : Str → Option Value} {base : Heap} {f : Addr} {fd : FuncData}
theorem ok_right (F : Fun K "_law_right" "_law_right" s__law_right f fd) (z : Z mg) (c__law_take : Cal P w K mg base "_law_take" ["box", "many"] 1 spTake) (c__law_met : Cal P w K mg base "_law_met" ["which", "first", "second", "value"] 5 (spMet K)) (c__law_is : Cal P w K mg base "_law_is" ["first", "second", "value"] 3 (spLis K)) (c__law_table : Cal P w K mg base "_law_table" ["first", "second"] 1 spTable) (c__law_drawn : Cal P w K mg base "_law_drawn" ["box", "first", "second"] 2 (spDrawn K)) (c__law_bent : Cal P w K mg base "_law_bent" ["box", "steps"] 3 (spBent K)) : FnG P w K mg base CX0 6 f fd ["box", "first", "second"] spRight := by
  refine Sw.Fun.okG0 F sc__law_right (fun vs H Q E h => ?_) (fun cdv A outer s H vs Q E hr quiet h => ?_)
  · obtain ⟨b, l, r, d, rfl, _⟩ := h; rfl
  · obtain ⟨b, x, y, d, rfl, zx, zy, lx, ly, B, hd, k⟩ := h
    refine ⟨_, (pss_cons (ps_set (i := 3) sc__law_right.nd rfl (.inl rfl) (pe_ix ix_list (pe_cal c__law_met hr (pa_cons (pe_cal c__law_take hr (pa_cons (pv 0) (pa_cons pe_int pa_nil))) (pa_cons (pv 1) (pa_cons (pv 2) (pa_cons pe_non pa_nil))))) pe_int (fun _ _ => rfl)))
      (pss_cons (ps_if (pt_not (pt_val (pe_cal c__law_is hr (pa_cons (pv 1) (pa_cons (pv 2) (pa_cons (pv 3) pa_nil))))))
        (pss_one (ps_ret pe_bl))
        pss_nil)
      (pss_cons (ps_if (pt_cmpR op_ne (pe_callB call_lenQ (by rfl) z.len PySem.boot_len (pa_cons (pe_lc (own := [("step", 4)]) (g := gName 4) (tt := _) rfl sc__law_right.nd (pi_tup (pv 3)) (blkOk_by (own := [("step", 4)]) (N := n__law_right) (sc := defScope s__law_right) (by decide +kernel)) (fun _ _ _ _ _ => (pg_name (i := 4) sc__law_right.nd rfl (.inl rfl))) (fun _ _ _ _ _ => (pts_one (pt_cmpR op_ne (pe_ix (r := rIxT K) ix_tup (pv 4) pe_int (fun _ _ => rfl)) (pe_strS (l := [107, 101, 101, 112]) (by decide +kernel)) (nomark _)))) (fun _ _ _ _ _ => (pv 4))) pa_nil)) (pe_cal c__law_table hr (pa_cons (pv 1) (pa_cons (pv 2) pa_nil))) (nomark _))
        (pss_one (ps_ret pe_bl))
        pss_nil)
      (pss_cons (ps_if (PW.pt (pw_or (pt_cmpR (op_neD hr.units) (pe_cal c__law_met hr (pa_cons pe_int (pa_cons (pv 1) (pa_cons (pv 2) (pa_cons pe_non pa_nil))))) (pe_lstL (pa_cons (pe_strS (l := [116, 111, 108, 100]) (by decide +kernel)) (pa_cons (pv 3) pa_nil))) (nomark _)) (pw_or1 (pt_cmpR (op_neD hr.units) (pe_cal c__law_met hr (pa_cons pe_int (pa_cons (pv 1) (pa_cons (pv 2) (pa_cons pe_non pa_nil))))) (pe_lstL (pa_cons (pe_strS (l := [116, 111, 108, 100]) (by decide +kernel)) (pa_cons (pv 3) pa_nil))) (nomark _)))))
        (pss_one (ps_ret pe_bl))
        pss_nil)
      (pss_cons (ps_set (i := 5) sc__law_right.nd rfl (.inl rfl) (pe_cal c__law_drawn hr (pa_cons (pv 0) (pa_cons (pv 1) (pa_cons (pv 2) pa_nil)))))
      (pss_cons (ps_set (i := 6) sc__law_right.nd rfl (.inl rfl) (pe_lstL (pa_cons (pv 3) (pa_cons (pv 5) (pa_cons (pe_cal c__law_bent hr (pa_cons (pv 0) (pa_cons (pv 5) pa_nil))) (pa_cons (pe_cal c__law_bent hr (pa_cons (pv 0) (pa_cons (pv 3) pa_nil))) (pa_cons (pe_cal c__law_bent hr (pa_cons (pv 0) (pa_cons (pv 5) pa_nil))) (pa_cons (pe_cal c__law_bent hr (pa_cons (pv 0) (pa_cons (pv 5) pa_nil))) pa_nil))))))))
      (pss_cons (ps_for PassesOwn.never rfl (pi_list (pv 6)) (pg_name (i := 7) sc__law_right.nd rfl (.inl rfl))
        (pss_one (ps_for PassesOwn.never rfl (pi_range1 (by rfl) z.range (pa_cons pe_int pa_nil)) (pg_name (i := 8) sc__law_right.nd rfl (.inl rfl))
          (pss_cons (ps_par (i := 9) (j := 10) rfl sc__law_right.nd rfl rfl (by decide) rfl rfl (pa_cons (pe_ix ix_list (pe_lstL (pa_cons (pv 1) (pa_cons (pv 2) pa_nil))) (pv 8) (fun _ _ => rfl)) (pa_cons (pe_ix ix_list (pe_lstL (pa_cons (pv 2) (pa_cons (pv 1) pa_nil))) (pv 8) (fun _ _ => rfl)) pa_nil)) (by rfl))
          (pss_cons (ps_set (i := 11) sc__law_right.nd rfl (.inl rfl) (pe_lstL (pa_cons (pe_strS (l := [116, 111, 108, 100]) (by decide +kernel)) (pa_cons (pe_cal c__law_is hr (pa_cons (pv 9) (pa_cons (pv 10) (pa_cons (pv 7) pa_nil)))) pa_nil))))
          (pss_one (ps_if (pt_cmpR op_ne (pe_callB (call_repE quiet hr.units) (by rfl) z.repr (by decide +kernel) (pa_cons (pe_cal c__law_met hr (pa_cons (pe_op op_add pe_int (pe_cal c__law_take hr (pa_cons (pv 0) (pa_cons pe_int pa_nil)))) (pa_cons (pv 9) (pa_cons (pv 10) (pa_cons (pv 7) pa_nil))))) pa_nil)) (pe_callB (call_repE quiet hr.units) (by rfl) z.repr (by decide +kernel) (pa_cons (pv 11) pa_nil)) (nomark _))
            (pss_one (ps_ret pe_bl))
            pss_nil)))))))
      (pss_one (ps_ret pe_bl))))))))), ?_⟩
    walk_at "rd"
    refine ⟨b, 2, d, rfl, B, by omega, by omega, by omega, fun wh H1 w0 w1 B1 s1 => ?_⟩
    walk_at "rd"
    refine met_aln (by omega) zx zy (by omega) (by omega) fun t2 p2 ss H2 s2 n2 lt2 e2 run al co ls de => ?_
    walk_at "rd"
    have lss : ss.length ≤ 80 := by omega
    have sda := (dats_sd al.ok).mono (show 2 ≤ 6 by omega) (show ss.length * 11 ≤ 1000 by omega)
    refine ⟨x, y, _, _, _, rfl, de, sda, by omega, .inr (dats_flat ss), fun H3 s3 => ?_⟩
    have yes : alnB x y (.tuple (ss.map St.dat)) = true := by rw [alnB_dat al.ok, decide_eq_true al.l, decide_eq_true al.r]; rfl
    rw [yes]
    have de3 := de.same s3
    obtain ⟨p2', xs, ep2, ha, hxs⟩ := de3.tupI
    cases ep2
    have lx' : xs.length = ss.length := by rw [hxs.len, List.length_map]
    walk_at "rd"
    refine ⟨⟨_, ha⟩, ?_⟩
    refine go_lc (walk_tup (xs := xs)) (fun p i HX => ∃ vs : List V, HX p = some (.lst vs) ∧ vs.length = costs (ss.take i) ∧ vs.length ≤ i ∧ Same H3 HX)
      (fun p np => ⟨[], upd_same, by simp [costs], Nat.le_refl _, same_upd np⟩) (fun p i HX hi q => Same.sqT q.choose_spec.2.2.2 ha) (fun p np i v HX HY hi q y' => ?_) (fun p4 H4 np4 q => ?_)
    · obtain ⟨vs, ep, ec, el, sx⟩ := q
      obtain ⟨rfl, hv⟩ := y'
      obtain ⟨dj, gj, dv⟩ := DeAll.get hxs hv
      obtain ⟨st, gs, rfl⟩ : ∃ st, ss[i]? = some st ∧ dj = st.dat := by
        rw [List.getElem?_map] at gj
        cases q : ss[i]? with
        | none => rw [q] at gj; cases gj
        | some st => rw [q] at gj; exact ⟨st, rfl, (Option.some.inj gj).symm⟩
      obtain ⟨va2, xs2, t, rfl, ha2, hx0, _, _, _, _, _, co'⟩ := dat_parts (dv.same sx)
      rw [costs_take gs, co']
      walk_at "rd"
      refine ⟨rfl, ?_⟩
      walk_at "rd"
      refine i_ixTn (k := 0) ha2 hx0 ?_
      walk_at "rd"
      refine iteNC (fun q => ?_) (fun q => ?_)
      · walk_at "rd"
        refine ⟨_, ep, (Nat.lt_of_le_of_lt (m := 100000) (by omega) (Nat.le_of_ble_eq_true rfl)), vs ++ [_], upd_same, ?_, ?_, Same.set_new sx np⟩
        · rw [q, if_neg (by simp), List.length_append, ec]; rfl
        · rw [List.length_append]; exact Nat.succ_le_succ el
      · rw [if_pos q]
        exact ⟨vs, ep, ec, Nat.le_succ_of_le el, sx⟩
    obtain ⟨vs4, e4, ec4, _, s4⟩ := q
    rw [lx', List.take_length, co] at ec4
    walk_at "rd"
    refine ⟨x, y, rfl, by omega, by omega, fun H5 s5 => ?_⟩
    walk_at "rd"
    rw [ec4, decide_eq_true rfl]
    have sdt := sd_told al.ok (show ss.length ≤ 1000 by omega)
    have s25 := s3.trans (s4.trans s5)
    walk_at "rd"
    refine met_aln (by omega) zx zy (by omega) (by omega) fun t6 p6 ss6 H6 s6 n6 lt6 e6 run6 _ _ _ de6 => ?_
    obtain rfl := run.det run6
    have de25 := de.same (s25.trans s6)
    walk_at "rd"
    refine newLL0 (Nat.le_of_ble_eq_true rfl) fun t7 H7 n7 lt7 s7 e7 => ?_
    refine i_neE (.lst (s7 _ _ e6) lt6 (.cons (.str _) (.cons (de6.same s7) .nil))) (.lst e7 lt7 (.cons (.str _) (.cons (de25.same s7) .nil))) sdt sdt (told_flat ss) (told_flat ss) ?_
    rw [eqv_told]
    walk_at "rd"
    refine met_aln (by omega) zx zy (by omega) (by omega) fun t8 p8 ss8 H8 s8 n8 lt8 e8 run8 _ _ _ de8 => ?_
    obtain rfl := run.det run8
    have de27 := (de25.same s7).same s8
    walk_at "rd"
    refine newLL0 (Nat.le_of_ble_eq_true rfl) fun t9 H9 n9 lt9 s9 e9 => ?_
    refine i_neE (.lst (s9 _ _ e8) lt8 (.cons (.str _) (.cons (de8.same s9) .nil))) (.lst e9 lt9 (.cons (.str _) (.cons (de27.same s9) .nil))) sdt sdt (told_flat ss) (told_flat ss) ?_
    rw [eqv_told]
    have de9 := de27.same s9
    have B9 := B1.same (s2.trans (s25.trans (s6.trans (s7.trans (s8.trans s9)))))
    have sE := s1.trans (SB.of (s2.trans (s25.trans (s6.trans (s7.trans (s8.trans s9))))))
    have dt := de9.keep (keepP_del B9) (by simp only [noL]; exact noL_dats ss)
    walk_at "rd"
    refine ⟨b, x, y, _, rfl, zx, zy, lx, ly, B9, by omega, fun p10 gs H10 n10 gok lgs dg B10 s10 => ?_⟩
    have dt := dt.same (del_sb s10)
    have sE := sE.trans s10
    walk_at "rd"
    refine ⟨b, p10, gs, _, rfl, dg, gok, by omega, B10, by omega, fun v11 d11 H11 h11 o11 w11 B11 s11 => ?_⟩
    have dt := dt.same (del_sb s11)
    have dg := dg.same (del_sb s11)
    have sE := sE.trans s11
    walk_at "rd"
    refine ⟨b, p2, ss, _, rfl, dt, al.ok, by omega, B11, by omega, fun v12 d12 H12 h12 o12 w12 B12 s12 => ?_⟩
    have dt := dt.same (del_sb s12)
    have dg := dg.same (del_sb s12)
    have h11 := h11.same (del_sb s12)
    have sE := sE.trans s12
    walk_at "rd"
    refine ⟨b, p10, gs, _, rfl, dg, gok, by omega, B12, by omega, fun v13 d13 H13 h13 o13 w13 B13 s13 => ?_⟩
    have dt := dt.same (del_sb s13)
    have dg := dg.same (del_sb s13)
    have h11 := h11.same (del_sb s13)
    have h12 := h12.same (del_sb s13)
    have sE := sE.trans s13
    walk_at "rd"
    refine ⟨b, p10, gs, _, rfl, dg, gok, by omega, B13, by omega, fun v14 d14 H14 h14 o14 w14 B14 s14 => ?_⟩
    have dt := dt.same (del_sb s14)
    have dg := dg.same (del_sb s14)
    have h11 := h11.same (del_sb s14)
    have h12 := h12.same (del_sb s14)
    have h13 := h13.same (del_sb s14)
    have sE := sE.trans s14
    walk_at "rd"
    refine newLL B14 (Nat.le_of_ble_eq_true rfl) fun pl HV ltl nl BV sV eV tV => ?_
    have vals : ∀ (j : Nat) (v : V), ([.ref p2, .ref p10, v11, v12, v13, v14] : List V)[j]? = some v → ∃ dd, De K (L2.del HV b) v dd ∧ Ok1 dd ∧ Sd 6 40000 dd := by
      intro j v hv
      have hj : j < 6 := by
        rcases Nat.lt_or_ge j 6 with q | q
        · exact q
        · rw [List.getElem?_eq_none (by exact q)] at hv; cases hv
      have hj6 : j = 0 ∨ j = 1 ∨ j = 2 ∨ j = 3 ∨ j = 4 ∨ j = 5 := by omega
      rcases hj6 with rfl | rfl | rfl | rfl | rfl | rfl <;> cases hv
      · exact ⟨_, dt.same sV, .inr (dats_flat ss), sda.mono (Nat.le_refl _) (by omega)⟩
      · exact ⟨_, dg.same sV, .inr (dats_flat gs), (dats_sd gok).mono (by omega) (by omega)⟩
      · exact ⟨_, h11.same sV, o11, w11⟩
      · exact ⟨_, h12.same sV, o12, w12⟩
      · exact ⟨_, h13.same sV, o13, w13⟩
      · exact ⟨_, h14.same sV, o14, w14⟩
    have sE := sE.trans (SB.of tV)
    have BV : BoxAt HV b (d + 501) := BV.mono (by omega)
    have plb := box_ne B14 nl
    have eV' := del_sub _ _ eV
    have lvs : ([.ref p2, .ref p10, v11, v12, v13, v14] : List V).length = 6 := rfl
    generalize ([.ref p2, .ref p10, v11, v12, v13, v14] : List V) = vs at *
    walk_at "rd"
    refine i_sqL (sqL_of eV') ?_
    refine go_for (walk_list (xs := vs)) (fun j σ HX => ∃ (u4 u7 u8 u9 u10 u11 : Option V), σ = [some (.ref b), some (.str (S x)), some (.str (S y)), some (.ref p2), u4, some (.ref p10), some (.ref pl), u7, u8, u9, u10, u11] ∧ SB b HV HX ∧ BoxAt HX b (d + 501 + 2 * j))
      ⟨_, _, _, _, _, _, rfl, SB.refl _, BV.mono (by omega)⟩ (fun j σ HX _ h => ?_) (fun j v σ HX HY hj h y' => ?_) (fun σ HX h => ?_)
    · obtain ⟨_, _, _, _, _, _, _, s, _⟩ := h
      exact sqL_of (s _ _ plb eV')
    · obtain ⟨u4, u7, u8, u9, u10, u11, rfl, sx, BX⟩ := h
      obtain ⟨rfl, hv⟩ := y'
      obtain ⟨dd, hdd, odd, wdd⟩ := vals j v hv
      walk_at "rd"
      refine i_rng (by omega) (by omega) ?_
      refine go_for walk_rangeZ (fun i σ HZ => ∃ (u8 u9 u10 u11 : Option V), σ = [some (.ref b), some (.str (S x)), some (.str (S y)), some (.ref p2), u4, some (.ref p10), some (.ref pl), some v, u8, u9, u10, u11] ∧ SB b HV HZ ∧ BoxAt HZ b (d + 501 + 2 * j + i))
        ⟨_, _, _, _, rfl, sx, BX.mono (by omega)⟩ (fun _ _ _ _ _ => trivial) (fun i v' σ HZ HW hi h y' => ?_) (fun σ HZ h => ?_)
      · obtain ⟨u8, u9, u10, u11, rfl, sz, BZ⟩ := h
        obtain ⟨rfl, rfl⟩ := y'
        have hi2 : i = 0 ∨ i = 1 := by
          have : i < 2 := hi
          omega
        obtain ⟨u, w', eu, ew, zu, zw, lu, lw⟩ : ∃ u w' : List Nat, ([.str (S x), .str (S y)] : List V)[((i : Nat) : Int).toNat]? = some (.str (S u)) ∧ ([.str (S y), .str (S x)] : List V)[((i : Nat) : Int).toNat]? = some (.str (S w')) ∧ azB u = true ∧ azB w' = true ∧ u.length ≤ 40 ∧ w'.length ≤ 40 := by
          rcases hi2 with rfl | rfl
          · exact ⟨x, y, rfl, rfl, zx, zy, lx, ly⟩
          · exact ⟨y, x, rfl, rfl, zy, zx, ly, lx⟩
        have hz := hdd.same (del_sb sz)
        walk_at "rd"
        refine newLL BZ (Nat.le_of_ble_eq_true rfl) fun q1 J1 _ _ C1 r1 f1 t1 => ?_
        walk_at "rd"
        refine i_ixLv (del_sub _ _ f1) (by omega) eu ?_
        walk_at "rd"
        refine newLL C1 (Nat.le_of_ble_eq_true rfl) fun q2 J2 _ _ C2 r2 f2 t2' => ?_
        walk_at "rd"
        refine i_ixLv (del_sub _ _ f2) (by omega) ew ?_
        have hz := (hz.same r1).same r2
        walk_at "rd"
        refine ⟨u, w', _, dd, _, rfl, hz.same del_sub, wdd, by omega, odd, fun J3 r3 => ?_⟩
        have hz := hz.same (del_sb (SB.of r3))
        have C3 := C2.same r3
        walk_at "rd"
        refine newLL C3 (Nat.le_of_ble_eq_true rfl) fun q4 J4 lt4 _ C4 r4 f4 t4 => ?_
        have hz := hz.same r4
        walk_at "rd"
        refine ⟨b, 2, _, rfl, C4, by omega, by omega, by omega, fun wq J5 wq0 wq1 C5 r5 => ?_⟩
        have hz := hz.same (del_sb r5)
        have f4 := del_sb r5 _ _ f4
        walk_at "rd"
        refine met_is (by omega) zu zw (by omega) (by omega) (hz.same del_sub) wdd (by omega) odd fun t6 J6 r6 n6 lt6 f6 => ?_
        have sdd : Sd 1 20 (.list [.str (S told), .bool (alnB u w' dd)]) := (sd_lst' (n := 0) (.cons (sd_str (by decide)) (.cons (sd_bl _) .nil))).mono (by omega) (by have : told.length = 4 := rfl; omega)
        walk_at "rd"
        refine i_repE (.lst f6 lt6 (.cons (.str _) (.cons (.bl _) .nil))) sdd (by omega) (by omega) ?_
        walk_at "rd"
        refine i_repE (.lst (r6 _ _ (del_sub _ _ f4)) lt4 (.cons (.str _) (.cons (.bl _) .nil))) sdd (by omega) (by omega) ?_
        walk_at "rd"
        refine ⟨rfl, ?_⟩
        rw [decide_eq_true rfl]
        walk_at "rd"
        exact ⟨_, _, _, _, rfl, sz.trans ((SB.of t1).trans ((SB.of t2').trans ((SB.of r3).trans ((SB.of t4).trans (r5.trans (SB.of r6)))))), (C5.same r6).mono (by omega)⟩
      · obtain ⟨u8, u9, u10, u11, rfl, sz, BZ⟩ := h
        exact ⟨_, _, _, _, _, _, rfl, sz, BZ.mono (by omega)⟩
    · obtain ⟨u4, u7, u8, u9, u10, u11, rfl, sx, BX⟩ := h
      walk_at "rd"
      exact k _ (BX.mono (by omega)) (sE.trans sx)
end
end Sw
namespace Lev
theorem flat_rep (n c : Nat) : (List.replicate n [c]).flatten = List.replicate n c := by
  induction n with
  | zero => rfl
  | succ n ih => rw [List.replicate_succ, List.flatten_cons, ih]; rfl
theorem lev_rep_eq (a : Nat) : ∀ n m : Nat, lev (List.replicate n a) (List.replicate m a) = max n m - min n m
  | 0, m => by rw [List.replicate_zero, lev_nil, List.length_replicate]; omega
  | n + 1, 0 => by rw [List.replicate_zero, lev_nil', List.length_replicate]; omega
  | n + 1, m + 1 => by rw [List.replicate_succ, List.replicate_succ, lev_keep, lev_rep_eq a n m]; omega
theorem lev_rep_ne {a b : Nat} (h : a ≠ b) : ∀ n m : Nat, lev (List.replicate n a) (List.replicate m b) = max n m
  | 0, m => by rw [List.replicate_zero, lev_nil, List.length_replicate]; omega
  | n + 1, 0 => by rw [List.replicate_zero, lev_nil', List.length_replicate]; omega
  | n + 1, m + 1 => by
    have h1 := lev_rep_ne h n m
    have h2 := lev_rep_ne h n (m + 1)
    have h3 := lev_rep_ne h (n + 1) m
    rw [List.replicate_succ] at h2 h3
    rw [List.replicate_succ, List.replicate_succ, lev_cons, if_neg h, h1, h2, h3]
    omega
end Lev
namespace Sw
open PySem PySem.Spec PyProof.Rows L2
/-! ### x, y = a text of two signs -/
theorem two_signs {P : Program} {w : World} {A : Around} {E : Value → Shared → Prop} {s : Shared} {a b : Nat} {t : Tok} {Q : List Value → Shared → Prop} (hh : A.handled = none)
    (k : ∀ (u v : Tok) (h' : Heap) (tk : Tok), (∀ c o, s.heap.get? c = some o → h'.get? c = some o) → Q [.str (S [a]) u, .str (S [b]) v] { s with heap := h', toks := tk }) :
    wpAny (model P w) A (unpackItems (.str (S [a, b]) t) 2 none) Q E s := by
  have n2 : (S [a, b]).cps.size = 2 := by simp [S]
  have sgn : ∀ {i : Nat} {c : Nat} {x : Value}, [a, b][i]? = some c → SignAt (S [a, b]) i x → ∃ u, x = .str (S [c]) u := by
    rintro i c x hc ⟨c', u, hc', rfl⟩
    have e : (S [a, b]).cps[i]? = [a, b][i]? := by simp [S]
    rw [e, hc] at hc'
    cases hc'
    exact ⟨u, rfl⟩
  have old : ∀ {c : Addr} {o : Obj}, s.heap.get? c = some o → c ∉ [s.heap.objs.size] := fun {c o} h z => by
    have lt := Heap.lt_size h
    rw [List.mem_singleton.mp z] at lt
    exact Nat.lt_irrefl _ lt
  unfold unpackItems
  refine wpAny_bind ?_
  unfold notIterableAtAll
  refine wpAny_bind (wpAny_specialOf (typeIs_str _ _ _) F.slot_str_iter.lookup (wpAny_pure ?_))
  rw [if_neg Bool.false_ne_true]
  refine wpAny_bind (wpAny_holding (wpAny_pyIter_str fun o St W st0 => ?_))
  rw [n2] at W
  have Wa := W A hh
  refine wpAny_bind (wpAny_holding ?_)
  show wpAny _ _ (pyNext (.ref s.heap.objs.size) >>= _) _ _ _
  refine wpAny_bind (Wa.item 0 _ _ _ (by decide) st0 fun x1 h1 tk1 p1 st1 k1 => ?_)
  obtain ⟨u1, rfl⟩ := sgn (c := a) rfl p1
  refine wpAny_bind (wpAny_holding ?_)
  show wpAny _ _ (pyNext (.ref s.heap.objs.size) >>= _) _ _ _
  refine wpAny_bind (Wa.item 1 _ _ _ (by decide) st1 fun x2 h2 tk2 p2 st2 k2 => ?_)
  obtain ⟨u2, rfl⟩ := sgn (c := b) rfl p2
  refine wpAny_bind (wpAny_holding ?_)
  show wpAny _ _ (pure []) _ _ _
  refine wpAny_pure (wpAny_pure (wpAny_pure ?_))
  rw [if_neg (by simp)]
  refine wpAny_bind (wpAny_holding (Wa.done _ _ _ st2 fun h3 tk3 k3 => ?_))
  simp only [Option.isSome_none, Bool.false_eq_true, if_false]
  refine wpAny_pure (k u1 u2 h3 tk3 fun c o e => ?_)
  exact k3 c o (old e) (k2 c o (old e) (k1 c o (old e) (Heap.get?_push_of_some _ e)))
/-- (x, y) = a text of two signs -/
def gStr2 (t : TGs) : TG := fun v σ H Q => ∃ a b : Nat, v = .str (S [a, b]) ∧ t [.str (S [a]), .str (S [b])] σ H Q
theorem i_str2 {t : TGs} {σ : L2.St} {H : Hp} {Q : L2.St → Hp → Prop} {a b : Nat} (h : t [.str (S [a]), .str (S [b])] σ H Q) : gStr2 t (.str (S [a, b])) σ H Q := ⟨a, b, rfl, h⟩
theorem pg_str2 {X : Cx} {pos : Pos} {es : List Expr} {k : Nat} {t : TGs} (hc : X.calm = true) (h : PGs X es t)
    (hn : (assignEach es X.env).length = 2 := by rfl) (hst : (assignEach es X.env).findIdx? (·.1) = none := by rfl) : PG X (.Tuple es k pos) (gStr2 t) := by
  refine ⟨fun pins s σ H v u Q I r hw => ?_⟩
  obtain ⟨a, b, rfl, hw⟩ := hw
  obtain ⟨tk, rfl⟩ := r
  rw [PyProof.Rows.assign_Tuple]
  refine wpAny_bind (wpAny_standAt ?_)
  unfold unpack
  rw [hn, hst]
  refine wpAny_bind (wpAny_holding (two_signs (I.ok.hd hc) fun u v h' tk' keep => ?_))
  have I1 : Inv X pins σ H { s with heap := h', toks := tk' } := I.kept keep
  exact h.run pins _ σ H [.str (S [a]), .str (S [b])] _ Q I1 (by exact .cons ⟨u, rfl⟩ (.cons ⟨v, rfl⟩ .nil)) hw
end Sw
namespace Sw
open PySem PySem.Spec PyProof.Rows L2
local macro_rules | `(tactic| walk_at "hp") => `(tactic| first
  | (with_reducible assumption) | (with_reducible exact upd_same)
  | ((with_reducible refine' upd_old ?q1 ?q2); (case q1 => (with_reducible assumption)); (case q2 => walk_at "hp"))
  | ((with_reducible refine' Same.at ?q1 ?q2); (case q1 => (with_reducible assumption)); (case q2 => walk_at "hp"))
  | ((with_reducible refine' upd_skip ?q1 ?q2); (case q1 => walk_at "ne"); (case q2 => walk_at "hp"))
  | fail)
local macro_rules | `(tactic| walk_at "ne") => `(tactic| first
  | (with_reducible assumption) | (with_reducible exact Ne.symm (by assumption))
  | ((with_reducible refine' ne_of_none ?q1 ?q2); (case q2 => (with_reducible assumption)); (case q1 => walk_at "hp"))
  | fail)
local macro_rules | `(tactic| walk_at "ci") => `(tactic| first | assumption | (show (0 : Int) < _; first | decide | (with_reducible omega)) | exact ⟨by decide, by decide⟩ | exact .inl ⟨by decide, by decide⟩ | exact .inr ⟨by decide, by decide⟩)
local macro_rules | `(tactic| walk_at "ln") => `(tactic| first | (with_reducible assumption) | (with_reducible omega) | (simp only [List.length_append, List.length_take, List.length_drop, List.length_reverse, List.length_cons, List.length_nil]; with_reducible omega))
local macro_rules | `(tactic| walk_at "rd1") => `(tactic| first
  | (with_reducible refine i_seq ?_) | (with_reducible refine i_asg ?_) | (with_reducible refine i_ret ?_) | (with_reducible refine i_name ?_) | ((with_reducible refine' i_var ?q1 ?_); (case q1 => exact rfl)) | (with_reducible refine i_c ?_) | (with_reducible refine i_op ?_) | (with_reducible refine i_un ?_)
  | (with_reducible refine i_rI0 ?_) | (with_reducible refine i_cb ?_) | (with_reducible refine i_cons ?_) | (with_reducible refine i_nil ?_) | (with_reducible refine i_call ?_) | (with_reducible refine i_if ?_) | (with_reducible refine i_ifE ?_) | (with_reducible refine i_test ?_) | (with_reducible refine i_bl ?_)
  | (with_reducible refine i_and ?_) | (with_reducible refine i_or ?_) | (with_reducible refine i_not ?_) | (with_reducible refine i_lstM ?_) | (with_reducible refine i_lstLM ?_) | (with_reducible refine i_tupM ?_) | (with_reducible refine i_next ?_) | (with_reducible refine i_drop ?_) | (with_reducible refine i_sub ?_)
  | (with_reducible refine i_bm ?_) | (with_reducible refine i_sl ?_) | (with_reducible refine i_part ?_) | (with_reducible refine i_nopart ?_) | (with_reducible refine i_exI ?_) | (with_reducible refine i_chain ?_) | ((with_reducible refine' i_aug ?q1 ?_); (case q1 => exact rfl)) | (with_reducible refine i_ip ?_)
  | (with_reducible refine i_par ?_) | (with_reducible refine i_pair ?_) | (with_reducible refine i_andV ?_) | (with_reducible refine i_orV ?_) | (with_reducible refine i_notV ?_) | (with_reducible refine i_m1 ?_) | (with_reducible refine i_str ?_)
  | (with_reducible refine iteF ?_) | (with_reducible refine iteT ?_) | (with_reducible refine iteNT ?_) | (with_reducible refine iteNF ?_) | (with_reducible refine i_tyS ?_) | (with_reducible refine i_tB ?_) | (with_reducible refine i_retN ?_) | (with_reducible refine i_par3 ?_) | (with_reducible refine i_trip ?_) | (with_reducible refine i_gCons ?_) | (with_reducible refine i_gNil ?_) | (with_reducible refine i_lstRg ?_) | (with_reducible refine i_rg1 ?_)
  | (with_reducible refine i_lc ?_) | (with_reducible refine i_for ?_) | (with_reducible refine i_iList ?_) | (with_reducible refine i_iTup ?_) | (with_reducible refine i_iStr ?_) | (with_reducible refine i_iRng1 ?_) | (with_reducible refine i_iEnS ?_)
  | ((with_reducible refine' i_ixTH ?q1 ?q2 ?_); (case q1 => walk_at "hp"); (case q2 => exact rfl))
  | ((with_reducible refine' i_ixLH ?q1 ?q2 ?_); (case q1 => walk_at "hp"); (case q2 => exact rfl))
  | ((with_reducible refine i_addS ?q1 ?_); (case q1 => walk_at "ln")) | ((with_reducible refine i_lenSS ?q1 ?_); (case q1 => walk_at "ln")) | ((with_reducible refine i_slFrom ?q1 ?q2 ?_); (case q1 => walk_at "ln"); (case q2 => walk_at "ln")) | ((with_reducible refine i_slTo ?q1 ?q2 ?_); (case q1 => walk_at "ln"); (case q2 => walk_at "ln"))
  | ((with_reducible refine' i_tyL ?q1 ?_); (case q1 => walk_at "hp"))
  | ((with_reducible refine' i_gTupH ?q1 ?q2 ?_); (case q1 => walk_at "hp"); (case q2 => exact rfl))
  | (with_reducible refine i_dnewM ?_) | (with_reducible refine i_init ?_) | (with_reducible refine i_fst ?_) | (with_reducible refine i_mk ?_) | (with_reducible refine i_raise ?_) | (with_reducible refine i_callS ?_) | (with_reducible refine i_kwS ?_)
  | (with_reducible refine i_revT ?_) | (with_reducible refine i_kw ?_) | ((with_reducible refine' ⟨_, _, rfl, sqT_of ?q1, ?_⟩); (case q1 => walk_at "hp"))
  | (with_reducible refine i_revS ?_) | ((with_reducible refine i_revSS ?q1 ?_); (case q1 => walk_at "ln"))
  | (with_reducible refine i_startS ?_) | (with_reducible refine i_inSg ?_) | (with_reducible refine i_absN ?_) | (with_reducible refine i_min2 ?_) | (with_reducible refine i_max2 ?_) | (with_reducible refine i_min3 ?_) | (with_reducible refine i_intN ?_) | (with_reducible refine i_intNB ?_)
  | ((with_reducible refine' i_lenL ?q1 ?_); (case q1 => walk_at "hp")) | ((with_reducible refine' i_lenT ?q1 ?_); (case q1 => walk_at "hp"))
  | (with_reducible refine i_eqI ?_) | (with_reducible refine i_neI ?_) | (with_reducible refine i_eqS ?_) | (with_reducible refine i_neS ?_) | (with_reducible refine i_isNoI ?_) | (with_reducible refine i_isNoN ?_) | (with_reducible refine i_isNoR ?_)
  | ((with_reducible refine i_pow ?q1 ?q2 ?q3 ?_); (case q1 => decide); (case q2 => decide); (case q3 => (with_reducible omega)))
  | ((with_reducible refine i_rI ?q1 ?_); (case q1 => walk_at "ci"))
  | (with_reducible refine Or.inl ⟨_, rfl, ?_⟩) | (with_reducible refine Or.inr ⟨_, rfl, ?_⟩) | (with_reducible refine ⟨_, rfl, ?_⟩) | (with_reducible refine ⟨_, _, rfl, ?_⟩) | (with_reducible refine ⟨_, _, rfl, rfl, ?_⟩)
  | ((with_reducible refine' ⟨_, _, rfl, Or.inl (sqL_of ?q1), ?_⟩); (case q1 => walk_at "hp")) | ((with_reducible refine' ⟨_, _, rfl, Or.inr (sqT_of ?q1), ?_⟩); (case q1 => walk_at "hp")) | fail)
local macro_rules | `(tactic| walk_at "rd") => `(tactic| repeat' walk_at "rd1")

open Lev (lev)
theorem azB_repl {c : Nat} (h : azB [c] = true) (n : Nat) : azB (List.replicate n c) = true := by
  rw [← Lev.flat_rep]
  exact azB_rep h n
theorem i_slTN {K : PySem.W.Frag} {H : Hp} {Q : VK} {a : Addr} {xs : List V} (h : SqT K H a xs) (hx : 1 ≤ xs.length) (q : ∀ b H', Same H H' → SqT K H' b xs.dropLast → Q (.ref b) H') : rSlA K (.ref a) none (some (-1)) H Q := by
  have e0 : HT.sIx xs.length xs.length (some (-1)) = xs.length - 1 := by
    show (if (-1 : Int) < 0 then ((-1 : Int) + (xs.length : Int)).toNat else min (-1 : Int).toNat xs.length) = _
    rw [if_pos (by omega)]; omega
  refine ⟨a, xs, rfl, h, fun e => ?_, fun e p np => ?_⟩
  · rw [HT.sIx_none, e0] at e
    omega
  · have : cutV xs none (some (-1)) = xs.dropLast := by
      unfold cutV
      rw [HT.sIx_none, e0, List.drop_zero, Nat.sub_zero, List.dropLast_eq_take]
    rw [this]
    exact q _ _ (same_upd np) (sqT_of upd_same)
theorem eqv_tb (c c' : Bool) : PyData.eqv (.list [.str (S told), .bool c]) (.list [.str (S told), .bool c']) = (c == c') := by
  cases c <;> cases c' <;> simp [PyData.eqv, PyData.eqvAll]
theorem eqv_emp (ds : List PyData) : PyData.eqv (.tuple ds) (.tuple []) = ds.isEmpty := by
  simp only [PyData.eqv]; cases ds <;> simp [PyData.eqvAll]
theorem st_some (s : St) : ¬ (s.left = [] ∧ s.right = []) := by cases s <;> simp [St.left, St.right]
theorem aln_drop {a b : List Nat} {s : St} {ss : List St} (h : Aln a b (s :: ss)) : alnB a b (.tuple (ss.map St.dat)) = false := by
  rw [alnB_dat fun x hx => h.ok x (List.mem_cons_of_mem _ hx)]
  by_cases c1 : lefts ss = a
  · by_cases c2 : rights ss = b
    · exfalso
      have e1 := h.l
      have e2 := h.r
      have l1 : lefts (s :: ss) = s.left ++ lefts ss := by simp [lefts]
      have l2 : rights (s :: ss) = s.right ++ rights ss := by simp [rights]
      rw [l1, c1] at e1
      rw [l2, c2] at e2
      have k1 := congrArg List.length e1
      have k2 := congrArg List.length e2
      rw [List.length_append] at k1 k2
      exact st_some s ⟨List.eq_nil_of_length_eq_zero (by omega), List.eq_nil_of_length_eq_zero (by omega)⟩
    · rw [decide_eq_false c2, Bool.and_false]
  · rw [decide_eq_false c1, Bool.false_and]
theorem aln_last {a b : List Nat} {ss : List St} (h : Aln a b ss) (ne : ss ≠ []) : alnB a b (.tuple (ss.dropLast.map St.dat)) = false := by
  rw [alnB_dat fun x hx => h.ok x (by rw [List.dropLast_eq_take] at hx; exact List.mem_of_mem_take hx)]
  have e := List.dropLast_concat_getLast ne
  by_cases c1 : lefts ss.dropLast = a
  · by_cases c2 : rights ss.dropLast = b
    · exfalso
      have e1 := h.l
      have e2 := h.r
      rw [← e, lefts_app, c1] at e1
      rw [← e, rights_app, c2] at e2
      have k1 := congrArg List.length e1
      have k2 := congrArg List.length e2
      rw [List.length_append] at k1 k2
      refine st_some (ss.getLast ne) ⟨List.eq_nil_of_length_eq_zero ?_, List.eq_nil_of_length_eq_zero ?_⟩
      · have : lefts [ss.getLast ne] = (ss.getLast ne).left := by simp [lefts]
        rw [this] at k1; omega
      · have : rights [ss.getLast ne] = (ss.getLast ne).right := by simp [rights]
        rw [this] at k2; omega
    · rw [decide_eq_false c2, Bool.and_false]
  · rw [decide_eq_false c1, Bool.false_and]
theorem val_if {c : Bool} {t u : TE} {σ : L2.St} {H : Hp} {Q : VK} (v : V) (h1 : ∀ Q' : VK, Q' v H → if c = true then t σ H Q' else u σ H Q') (h2 : Q v H) : if c = true then t σ H Q else u σ H Q := h1 Q h2
theorem cond_andH {c0 : Bool} {t : L2.St → Hp → (Bool → Hp → Prop) → Prop} {σ : L2.St} {H : Hp} {R : Bool → Hp → Prop} (P : Bool → Hp → Prop) (h1 : ∀ R' : Bool → Hp → Prop, (∀ c H', P c H' → R' c H') → if c0 = true then t σ H R' else R' false H) (h2 : ∀ c H', P c H' → R c H') : if c0 = true then t σ H R else R false H := h1 R h2
theorem map_drop1 (s : St) (ss : List St) : ((s :: ss).map St.dat).drop 1 = ss.map St.dat := rfl
theorem map_last (ss : List St) : (ss.map St.dat).dropLast = ss.dropLast.map St.dat := by rw [List.map_dropLast]
theorem DeAll.last {K : PySem.W.Frag} {H : Hp} {vs : List V} {ds : List PyData} (h : DeAll K H vs ds) : DeAll K H vs.dropLast ds.dropLast := by
  rw [List.dropLast_eq_take, List.dropLast_eq_take, h.len]; exact h.take _
/-- _law_long_right(box) -/
def spLong : Sp := fun vs H Q _ => ∃ (b : Addr) (d : Int), vs = [.ref b] ∧ BoxAt H b d ∧ d + 100 ≤ 1000000 ∧ ∀ H', BoxAt H' b (d + 100) → SB b H H' → Q (.bl true) H'
section
variable {P : Program} {w : World} {K : PySem.W.Frag} {mg : Str → Option Value} {base : Heap} {f : Addr} {fd : FuncData}
theorem ok_long (F : Fun K "_law_long_right" "_law_long_right" s__law_long_right f fd) (z : Z mg) (c__law_take : Cal P w K mg base "_law_take" ["box", "many"] 1 spTake) (c__law_met : Cal P w K mg base "_law_met" ["which", "first", "second", "value"] 5 (spMet K)) (c__law_is : Cal P w K mg base "_law_is" ["first", "second", "value"] 3 (spLis K)) : FnOk P w K mg base CX0 6 f fd ["box"] spLong := by
  refine F.ok sc__law_long_right (fun vs H Q E h => ?_) (fun cdv A outer s H vs Q E hr h => ?_)
  · obtain ⟨b, d, rfl, _⟩ := h; rfl
  · obtain ⟨b, d, rfl, B, hd, k⟩ := h
    refine ⟨_, (pss_cons (ps_set (i := 1) sc__law_long_right.nd rfl (.inl rfl) (pe_ix ix_list (pe_lstL (pa_cons pe_int (pa_cons (pe_cal c__law_take hr (pa_cons (pv 0) (pa_cons pe_int pa_nil))) (pa_cons (pe_op op_add pe_int (pe_cal c__law_take hr (pa_cons (pv 0) (pa_cons pe_int pa_nil)))) pa_nil)))) (pe_cal c__law_take hr (pa_cons (pv 0) (pa_cons pe_int pa_nil))) (fun _ _ => rfl)))
      (pss_cons (ps_set (i := 2) sc__law_long_right.nd rfl (.inl rfl) (pe_cal c__law_take hr (pa_cons (pv 0) (pa_cons (pe_op op_add (pe_callB (call_min2N rfl) (by rfl) z.min_ (by decide +kernel) (pa_cons pe_int (pa_cons (pe_op op_fdiv pe_int (pe_op op_add (pv 1) pe_int)) pa_nil))) pe_int) pa_nil))))
      (pss_cons (ps_asg (pe_ix ix_list (pe_lstL (pa_cons (pe_strS (l := [97, 98]) (by decide +kernel)) (pa_cons (pe_strS (l := [97, 97]) (by decide +kernel)) (pa_cons (pe_strS (l := [113, 122]) (by decide +kernel)) pa_nil)))) (pe_cal c__law_take hr (pa_cons (pv 0) (pa_cons pe_int pa_nil))) (fun _ _ => rfl)) (pg_str2 rfl (pgs_cons (pg_name (i := 3) sc__law_long_right.nd rfl (.inl rfl)) (pgs_cons (pg_name (i := 4) sc__law_long_right.nd rfl (.inl rfl)) pgs_nil))))
      (pss_cons (ps_asg (pe_ix ix_list (pe_lstL (pa_cons (pe_lstL (pa_cons (pe_op op_mulS (pv 3) (pv 1)) (pa_cons (pe_op op_mulS (pv 4) (pv 2)) pa_nil))) (pa_cons (pe_lstL (pa_cons (pe_op op_mulS (pv 4) (pv 2)) (pa_cons (pe_op op_mulS (pv 3) (pv 1)) pa_nil))) pa_nil))) (pe_cal c__law_take hr (pa_cons (pv 0) (pa_cons pe_int pa_nil))) (fun _ _ => rfl)) (pg_lst rfl (pgs_cons (pg_name (i := 5) sc__law_long_right.nd rfl (.inl rfl)) (pgs_cons (pg_name (i := 6) sc__law_long_right.nd rfl (.inl rfl)) pgs_nil))))
      (pss_cons (ps_set (i := 7) sc__law_long_right.nd rfl (.inl rfl) (pe_ix ix_list (pe_cal c__law_met hr (pa_cons (pe_cal c__law_take hr (pa_cons (pv 0) (pa_cons pe_int pa_nil))) (pa_cons (pv 5) (pa_cons (pv 6) (pa_cons pe_non pa_nil))))) pe_int (fun _ _ => rfl)))
      (pss_cons (ps_if (PW.pt (pw_or (pt_not (pt_val (pe_cal c__law_is hr (pa_cons (pv 5) (pa_cons (pv 6) (pa_cons (pv 7) pa_nil)))))) (pw_or1 (pt_cmpR (op_neD hr.units) (pe_cal c__law_met hr (pa_cons pe_int (pa_cons (pv 5) (pa_cons (pv 6) (pa_cons (pv 7) pa_nil))))) (pe_lstL (pa_cons (pe_strS (l := [116, 111, 108, 100]) (by decide +kernel)) (pa_cons pe_bl pa_nil))) (nomark _)))))
        (pss_one (ps_ret pe_bl))
        pss_nil)
      (pss_cons (ps_set (i := 8) sc__law_long_right.nd rfl (.inl rfl) (pe_ifExp (pt_cmpR op_ne (pv 3) (pv 4) (nomark _)) (pe_callB (call_max2N rfl) (by rfl) z.max_ (by decide +kernel) (pa_cons (pv 1) (pa_cons (pv 2) pa_nil))) (pe_callB call_absN (by rfl) z.abs (by decide +kernel) (pa_cons (pe_op op_sub (pv 1) (pv 2)) pa_nil))))
      (pss_cons (ps_if (PW.pt (pw_and (pt_cmpR (op_neD hr.units) (pv 7) (pe_tup pa_nil) (nomark _)) (pw_and1 (pt_cmpR (op_neD hr.units) (pe_cal c__law_met hr (pa_cons pe_int (pa_cons (pv 5) (pa_cons (pv 6) (pa_cons (pe_slice sl_tupA (pv 7) (po_some pe_int) po_none) pa_nil))))) (pe_lstL (pa_cons (pe_strS (l := [116, 111, 108, 100]) (by decide +kernel)) (pa_cons pe_bl pa_nil))) (nomark _)))))
        (pss_one (ps_ret pe_bl))
        pss_nil)
      (pss_cons (ps_if (PW.pt (pw_and (pt_cmpR (op_neD hr.units) (pv 7) (pe_tup pa_nil) (nomark _)) (pw_and1 (pt_cmpR (op_neD hr.units) (pe_cal c__law_met hr (pa_cons pe_int (pa_cons (pv 5) (pa_cons (pv 6) (pa_cons (pe_slice sl_tupA (pv 7) po_none (po_some (pe_un un_neg pe_int))) pa_nil))))) (pe_lstL (pa_cons (pe_strS (l := [116, 111, 108, 100]) (by decide +kernel)) (pa_cons pe_bl pa_nil))) (nomark _)))))
        (pss_one (ps_ret pe_bl))
        pss_nil)
      (pss_one (ps_ret (pe_cmpR op_eq (pe_callB call_lenQ (by rfl) z.len PySem.boot_len (pa_cons (pe_lc (own := [("step", 9)]) (g := gName 9) (tt := _) rfl sc__law_long_right.nd (pi_tup (pv 7)) (blkOk_by (own := [("step", 9)]) (N := n__law_long_right) (sc := defScope s__law_long_right) (by decide +kernel)) (fun _ _ _ _ _ => (pg_name (i := 9) sc__law_long_right.nd rfl (.inl rfl))) (fun _ _ _ _ _ => (pts_one (pt_cmpR op_ne (pe_ix (r := rIxT K) ix_tup (pv 9) pe_int (fun _ _ => rfl)) (pe_strS (l := [107, 101, 101, 112]) (by decide +kernel)) (nomark _)))) (fun _ _ _ _ _ => (pv 9))) pa_nil)) (pv 8) (nomark _))))))))))))), ?_⟩
    walk_at "rd"
    refine ⟨b, 401, d, rfl, B, by omega, by omega, by omega, fun q1 H1 q10 q11 B1 s1 => ?_⟩
    obtain ⟨q1, rfl⟩ : ∃ n : Nat, q1 = n := ⟨q1.toNat, by omega⟩
    walk_at "rd"
    refine ⟨b, 60, _, rfl, B1, by omega, by omega, by omega, fun q2 H2 q20 q21 B2 s2 => ?_⟩
    obtain ⟨q2, rfl⟩ : ∃ n : Nat, q2 = n := ⟨q2.toNat, by omega⟩
    walk_at "rd"
    rw [show (11 : Int) + (q2 : Int) = ((11 + q2 : Nat) : Int) by omega]
    refine newLL B2 (Nat.le_of_ble_eq_true rfl) fun p3 H3 _ n3 B3 _ e3 t3 => ?_
    have e3 := del_sub _ _ e3
    have p3b := B2.ne_new n3
    walk_at "rd"
    refine ⟨b, 3, _, rfl, B3, by omega, by omega, by omega, fun q4 H4 q40 q41 B4 s4 => ?_⟩
    have e34 := s4 _ _ p3b e3
    obtain ⟨n, en, hn⟩ : ∃ n : Nat, ([.int 400, .int (q1 : Nat), .int (11 + q2 : Nat)] : List V)[q4.toNat]? = some (.int n) ∧ n ≤ 400 := by
      have hw : q4 = 0 ∨ q4 = 1 ∨ q4 = 2 := by omega
      rcases hw with rfl | rfl | rfl
      · exact ⟨400, rfl, by omega⟩
      · exact ⟨q1, rfl, by omega⟩
      · exact ⟨11 + q2, rfl, by omega⟩
    refine i_ixLv e34 q40 en ?_
    have s14 := s1.trans (s2.trans ((SB.of t3).trans s4))
    walk_at "rd"
    refine i_rI ⟨by omega, by omega⟩ ?_
    have hq := Int.ediv_nonneg (show (0 : Int) ≤ 6000 by omega) (show (0 : Int) ≤ (n : Int) + 1 by omega)
    generalize (6000 : Int) / ((n : Int) + 1) = qq at *
    walk_at "rd"
    refine ⟨b, _, _, rfl, B4, by omega, by omega, by omega, fun m H5 m0 m1 B5 s5 => ?_⟩
    obtain ⟨m, rfl⟩ : ∃ n : Nat, m = n := ⟨m.toNat, by omega⟩
    have hm : m ≤ 400 := by omega
    walk_at "rd"
    refine newLL B5 (Nat.le_of_ble_eq_true rfl) fun p6 H6 _ n6 B6 _ e6 t6 => ?_
    have e6 := del_sub _ _ e6
    have p6b := B5.ne_new n6
    walk_at "rd"
    refine ⟨b, 3, _, rfl, B6, by omega, by omega, by omega, fun q7 H7 q70 q71 B7 s7 => ?_⟩
    have e67 := s7 _ _ p6b e6
    obtain ⟨x, y, exy, zx, zy⟩ : ∃ x y : Nat, ([.str (S [97, 98]), .str (S [97, 97]), .str (S [113, 122])] : List V)[q7.toNat]? = some (.str (S [x, y])) ∧ azB [x] = true ∧ azB [y] = true := by
      have hw : q7 = 0 ∨ q7 = 1 ∨ q7 = 2 := by omega
      rcases hw with rfl | rfl | rfl
      · exact ⟨97, 98, rfl, by decide, by decide⟩
      · exact ⟨97, 97, rfl, by decide, by decide⟩
      · exact ⟨113, 122, rfl, by decide, by decide⟩
    refine i_ixLv e67 q70 exy ?_
    have s17 := s14.trans (s5.trans ((SB.of t6).trans s7))
    walk_at "rd"
    refine i_str2 ?_
    walk_at "rd"
    have lX : (List.replicate n x).length = n := List.length_replicate
    have lY : (List.replicate m y).length = m := List.length_replicate
    have zX := azB_repl zx n
    have zY := azB_repl zy m
    obtain ⟨due, hdue⟩ : ∃ due, lev (List.replicate n x) (List.replicate m y) = due := ⟨_, rfl⟩
    have heq : x = y → due = max n m - min n m := fun e => by rw [← hdue, e, Lev.lev_rep_eq]
    have hne : x ≠ y → due = max n m := fun e => by rw [← hdue, Lev.lev_rep_ne e]
    obtain ⟨t1, et1⟩ : ∃ t, List.replicate n x = t := ⟨_, rfl⟩
    obtain ⟨t2, et2⟩ : ∃ t, List.replicate m y = t := ⟨_, rfl⟩
    rw [et1] at lX zX hdue
    rw [et2] at lY zY hdue
    refine i_mulS (n := n) (by simp) (by omega) ?_
    rw [Lev.flat_rep, et1]
    walk_at "rd"
    refine i_mulS (n := m) (by simp) (by omega) ?_
    rw [Lev.flat_rep, et2]
    walk_at "rd"
    refine newLL0 (Nat.le_of_ble_eq_true rfl) fun p1 HA1 n1 _ sA1 e1 => ?_
    walk_at "rd"
    refine i_mulS (n := m) (by simp) (by omega) ?_
    rw [Lev.flat_rep, et2]
    walk_at "rd"
    refine i_mulS (n := n) (by simp) (by omega) ?_
    rw [Lev.flat_rep, et1]
    walk_at "rd"
    refine newLL0 (Nat.le_of_ble_eq_true rfl) fun p2 HA2 n2 _ sA2 e2 => ?_
    walk_at "rd"
    refine newLL0 (Nat.le_of_ble_eq_true rfl) fun p3 HA n3 _ sA3 e3' => ?_
    have sA := sA1.trans (sA2.trans sA3)
    have e1 := sA3 _ _ (sA2 _ _ e1)
    have e2 := sA3 _ _ e2
    have BA := B7.same sA
    walk_at "rd"
    refine ⟨b, 2, _, rfl, BA, by omega, by omega, by omega, fun j HB j0 j1 BB sB => ?_⟩
    have e1B := sB _ _ (B7.ne_new n1) e1
    have e2B := sB _ _ ((B7.same sA1).ne_new n2) e2
    have e3B := sB _ _ (((B7.same sA1).same sA2).ne_new n3) e3'
    obtain ⟨pp, u, v, ep, eu, hu, zu, zv, lu, lv⟩ : ∃ (pp : Addr) (u v : List Nat), ([.ref p1, .ref p2] : List V)[j.toNat]? = some (.ref pp) ∧ HB pp = some (.lst [.str (S u), .str (S v)]) ∧ lev u v = due ∧ azB u = true ∧ azB v = true ∧ u.length ≤ 400 ∧ v.length ≤ 400 := by
      have hj : j = 0 ∨ j = 1 := by omega
      rcases hj with rfl | rfl
      · exact ⟨p1, t1, t2, rfl, e1B, hdue, zX, zY, by omega, by omega⟩
      · exact ⟨p2, t2, t1, rfl, e2B, by rw [Lev.lev_symm]; exact hdue, zY, zX, by omega, by omega⟩
    refine i_ixLv e3B j0 ep ?_
    have s1B := s17.trans ((SB.of sA).trans sB)
    walk_at "rd"
    refine ⟨pp, _, rfl, sqL_of eu, rfl, ?_⟩
    walk_at "rd"
    refine ⟨b, 2, _, rfl, BB, by omega, by omega, by omega, fun wq HC wq0 wq1 BC sC => ?_⟩
    walk_at "rd"
    refine met_aln (by omega) zu zv (by omega) (by omega) fun t6 p6 ss H6 s6 n6 lt6 e6 run al co ls de => ?_
    walk_at "rd"
    have lss : ss.length ≤ 800 := by omega
    have sda := (dats_sd al.ok).mono (show 2 ≤ 6 by omega) (show ss.length * 11 ≤ 9000 by omega)
    refine ⟨u, v, _, _, _, rfl, de, sda, by omega, .inr (dats_flat ss), fun H7 s7 => ?_⟩
    have yes : alnB u v (.tuple (ss.map St.dat)) = true := by rw [alnB_dat al.ok, decide_eq_true al.l, decide_eq_true al.r]; rfl
    rw [yes]
    have de7 := de.same s7
    have sdb : ∀ c, Sd 1 20 (.list [.str (S told), .bool c]) := fun c => (sd_lst' (n := 0) (.cons (sd_str (by decide)) (.cons (sd_bl _) .nil))).mono (by omega) (by have : told.length = 4 := rfl; omega)
    have flb : ∀ c, (PyData.list [.str (S told), .bool c]).hasDict = false := fun c => by simp [PyData.hasDict, PyData.hasDictAll]
    walk_at "rd"
    refine met_is (by omega) zu zv (by omega) (by omega) de7 sda (by omega) (.inr (dats_flat ss)) fun t8 H8 s8 n8 lt8 e8 => ?_
    rw [yes] at e8
    walk_at "rd"
    refine newLL0 (Nat.le_of_ble_eq_true rfl) fun t9 H9 n9 lt9 s9 e9 => ?_
    refine i_neE (.lst (s9 _ _ e8) lt8 (.cons (.str _) (.cons (.bl _) .nil))) (.lst e9 lt9 (.cons (.str _) (.cons (.bl _) .nil))) (sdb _) (sdb _) (flb _) (flb _) ?_
    rw [eqv_tb, show (true == true) = true from rfl]
    walk_at "rd"
    refine val_if (.int (due : Int)) (fun Q' hQ => ?_) ?_
    · refine iteNC (fun c => ?_) (fun c => ?_)
      · have cxy : x ≠ y := fun e => by rw [e] at c; simp at c
        have ed := hne cxy
        walk_at "rd"
        rw [show max (n : Int) (m : Int) = (due : Int) by omega]
        exact hQ
      · have cxy : x = y := by have := of_decide_eq_true c; simpa using this
        have ed := heq cxy
        walk_at "rd"
        rw [show (if (n : Int) - (m : Int) < 0 then -((n : Int) - (m : Int)) else (n : Int) - (m : Int)) = (due : Int) by split <;> omega]
        exact hQ
    have de9 := (de7.same s8).same s9
    have sT := s6.trans (s7.trans (s8.trans s9))
    obtain ⟨p6', xs, ep6, ha1, hxs1⟩ := de9.tupI
    cases ep6
    walk_at "rd"
    refine newT0 (Nat.zero_le _) fun pz1 HZ1 _ sZ1 eZ1 => ?_
    refine i_neE (.tup (Same.sqT sZ1 ha1) (hxs1.same sZ1)) (.tup (sqT_of eZ1) .nil) sda (sd_tup' (n := 0) SdAll.nil) (dats_flat ss) (by simp [PyData.hasDict, PyData.hasDictAll]) ?_
    rw [eqv_emp]
    walk_at "rd"
    refine cond_andH (fun c H' => c = false ∧ Same HZ1 H') (fun R hR => ?_) (fun c HQ1 hc => ?_)
    · refine iteNC (fun e0 => ?_) (fun e0 => hR _ _ ⟨rfl, Same.refl _⟩)
      have ne : ss ≠ [] := by
        rintro rfl
        cases e0
      have haZ := Same.sqT sZ1 ha1
      have hxZ := hxs1.same sZ1
      walk_at "rd"
      refine i_slTF (k := 1) haZ fun pw HW sW haW => ?_
      have hxW := (hxZ.drop 1).same sW
      obtain ⟨s0, ss0, ess⟩ : ∃ s0 ss0, ss = s0 :: ss0 := by
        cases ss with
        | nil => exact (ne rfl).elim
        | cons s0 ss0 => exact ⟨s0, ss0, rfl⟩
      rw [← List.map_drop] at hxW
      walk_at "rd"
      have df := aln_drop (ss := ss0) (s := s0) (by rw [← ess]; exact al)
      rw [show ss0 = ss.drop 1 by rw [ess]; rfl] at df
      have okd := (fun x hx => al.ok x (List.mem_of_mem_drop hx) : ∀ x ∈ ss.drop 1, x.ok = true)
      have sdd := (dats_sd okd).mono (show 2 ≤ 6 by omega) (show (ss.drop 1).length * 11 ≤ 9000 by have := List.length_dropLast (xs := ss); have := List.length_drop (i := 1) (l := ss); omega)
      refine met_is (d := .tuple ((ss.drop 1).map St.dat)) (by omega) zu zv (by omega) (by omega) (.tup haW hxW) sdd (by omega) (.inr (dats_flat _)) fun t8 H8 s8 n8 lt8 e8 => ?_
      rw [df] at e8
      walk_at "rd"
      refine newLL0 (Nat.le_of_ble_eq_true rfl) fun t9 H9 n9 lt9 s9 e9 => ?_
      refine i_neE (.lst (s9 _ _ e8) lt8 (.cons (.str _) (.cons (.bl _) .nil))) (.lst e9 lt9 (.cons (.str _) (.cons (.bl _) .nil))) (sdb _) (sdb _) (flb _) (flb _) ?_
      rw [eqv_tb]
      exact ⟨_, rfl, hR _ _ ⟨rfl, sW.trans (s8.trans s9)⟩⟩
    obtain ⟨rfl, sQ1⟩ := hc
    have ha2 := Same.sqT (sZ1.trans sQ1) ha1
    have hxs2 := hxs1.same (sZ1.trans sQ1)
    have sT := sT.trans (sZ1.trans sQ1)
    walk_at "rd"
    refine newT0 (Nat.zero_le _) fun pz2 HZ2 _ sZ2 eZ2 => ?_
    refine i_neE (.tup (Same.sqT sZ2 ha2) (hxs2.same sZ2)) (.tup (sqT_of eZ2) .nil) sda (sd_tup' (n := 0) SdAll.nil) (dats_flat ss) (by simp [PyData.hasDict, PyData.hasDictAll]) ?_
    rw [eqv_emp]
    walk_at "rd"
    refine cond_andH (fun c H' => c = false ∧ Same HZ2 H') (fun R hR => ?_) (fun c HQ hc => ?_)
    · refine iteNC (fun e0 => ?_) (fun e0 => hR _ _ ⟨rfl, Same.refl _⟩)
      have ne : ss ≠ [] := by
        rintro rfl
        cases e0
      have haZ := Same.sqT sZ2 ha2
      have hxZ := hxs2.same sZ2
      walk_at "rd"
      refine i_rU ?_
      walk_at "rd"
      refine i_slTN haZ (by rw [hxZ.len, List.length_map]; cases ss with | nil => exact (ne rfl).elim | cons _ _ => simp) fun pw HW sW haW => ?_
      have hxW := hxZ.last.same sW
      rw [map_last] at hxW
      walk_at "rd"
      have df := aln_last al ne
      have okd := (fun x hx => al.ok x (by rw [List.dropLast_eq_take] at hx; exact List.mem_of_mem_take hx) : ∀ x ∈ ss.dropLast, x.ok = true)
      have sdd := (dats_sd okd).mono (show 2 ≤ 6 by omega) (show (ss.dropLast).length * 11 ≤ 9000 by have := List.length_dropLast (xs := ss); have := List.length_drop (i := 1) (l := ss); omega)
      refine met_is (d := .tuple ((ss.dropLast).map St.dat)) (by omega) zu zv (by omega) (by omega) (.tup haW hxW) sdd (by omega) (.inr (dats_flat _)) fun t8 H8 s8 n8 lt8 e8 => ?_
      rw [df] at e8
      walk_at "rd"
      refine newLL0 (Nat.le_of_ble_eq_true rfl) fun t9 H9 n9 lt9 s9 e9 => ?_
      refine i_neE (.lst (s9 _ _ e8) lt8 (.cons (.str _) (.cons (.bl _) .nil))) (.lst e9 lt9 (.cons (.str _) (.cons (.bl _) .nil))) (sdb _) (sdb _) (flb _) (flb _) ?_
      rw [eqv_tb]
      exact ⟨_, rfl, hR _ _ ⟨rfl, sW.trans (s8.trans s9)⟩⟩
    obtain ⟨rfl, sQ2⟩ := hc
    have ha3 := Same.sqT (sZ2.trans sQ2) ha2
    have hxs3 := hxs2.same (sZ2.trans sQ2)
    have sT := sT.trans (sZ2.trans sQ2)
    walk_at "rd"
    have lx' : xs.length = ss.length := by rw [hxs3.len, List.length_map]
    refine ⟨⟨_, ha3⟩, ?_⟩
    refine go_lc (walk_tup (xs := xs)) (fun p i HX => ∃ vs : List V, HX p = some (.lst vs) ∧ vs.length = costs (ss.take i) ∧ vs.length ≤ i ∧ Same HQ HX)
      (fun p np => ⟨[], upd_same, by simp [costs], Nat.le_refl _, same_upd np⟩) (fun p i HX hi q => Same.sqT q.choose_spec.2.2.2 ha3) (fun p np i v' HX HY hi q y' => ?_) (fun p4 H4 np4 q => ?_)
    · obtain ⟨vs, ep, ec, el, sx⟩ := q
      obtain ⟨rfl, hv⟩ := y'
      obtain ⟨dj, gj, dv⟩ := DeAll.get hxs3 hv
      obtain ⟨st, gs, rfl⟩ : ∃ st, ss[i]? = some st ∧ dj = st.dat := by
        rw [List.getElem?_map] at gj
        cases q : ss[i]? with
        | none => rw [q] at gj; cases gj
        | some st => rw [q] at gj; exact ⟨st, rfl, (Option.some.inj gj).symm⟩
      obtain ⟨va2, xs2, t, rfl, ha2, hx0, _, _, _, _, _, co'⟩ := dat_parts (dv.same sx)
      rw [costs_take gs, co']
      walk_at "rd"
      refine ⟨rfl, ?_⟩
      walk_at "rd"
      refine i_ixTn (k := 0) ha2 hx0 ?_
      walk_at "rd"
      refine iteNC (fun q => ?_) (fun q => ?_)
      · walk_at "rd"
        refine ⟨_, ep, (Nat.lt_of_le_of_lt (m := 100000) (by omega) (Nat.le_of_ble_eq_true rfl)), vs ++ [_], upd_same, ?_, ?_, Same.set_new sx np⟩
        · rw [q, if_neg (by simp), List.length_append, ec]; rfl
        · rw [List.length_append]; exact Nat.succ_le_succ el
      · rw [if_pos q]
        exact ⟨vs, ep, ec, Nat.le_succ_of_le el, sx⟩
    obtain ⟨vs4, e4, ec4, _, s4'⟩ := q
    rw [lx', List.take_length, co, hu] at ec4
    walk_at "rd"
    rw [ec4, decide_eq_true rfl]
    exact k _ ((BC.same (sT.trans s4')).mono (by omega)) (s1B.trans (sC.trans (SB.of (sT.trans s4'))))
end
end Sw
namespace Sw
open PySem PySem.Spec PyProof.Rows L2
local macro_rules | `(tactic| walk_at "hp") => `(tactic| first
  | (with_reducible assumption) | (with_reducible exact upd_same)
  | ((with_reducible refine' upd_old ?q1 ?q2); (case q1 => (with_reducible assumption)); (case q2 => walk_at "hp"))
  | ((with_reducible refine' Same.at ?q1 ?q2); (case q1 => (with_reducible assumption)); (case q2 => walk_at "hp"))
  | ((with_reducible refine' upd_skip ?q1 ?q2); (case q1 => walk_at "ne"); (case q2 => walk_at "hp"))
  | fail)
local macro_rules | `(tactic| walk_at "ne") => `(tactic| first
  | (with_reducible assumption) | (with_reducible exact Ne.symm (by assumption))
  | ((with_reducible refine' ne_of_none ?q1 ?q2); (case q2 => (with_reducible assumption)); (case q1 => walk_at "hp"))
  | fail)
local macro_rules | `(tactic| walk_at "ci") => `(tactic| first | assumption | (show (0 : Int) < _; first | decide | (with_reducible omega)) | exact ⟨by decide, by decide⟩ | exact .inl ⟨by decide, by decide⟩ | exact .inr ⟨by decide, by decide⟩)
local macro_rules | `(tactic| walk_at "ln") => `(tactic| first | (with_reducible assumption) | (with_reducible omega) | (simp only [List.length_append, List.length_take, List.length_drop, List.length_reverse, List.length_cons, List.length_nil]; with_reducible omega))
local macro_rules | `(tactic| walk_at "rd1") => `(tactic| first
  | (with_reducible refine i_seq ?_) | (with_reducible refine i_asg ?_) | (with_reducible refine i_ret ?_) | (with_reducible refine i_name ?_) | ((with_reducible refine' i_var ?q1 ?_); (case q1 => exact rfl)) | (with_reducible refine i_c ?_) | (with_reducible refine i_op ?_) | (with_reducible refine i_un ?_)
  | (with_reducible refine i_rI0 ?_) | (with_reducible refine i_cb ?_) | (with_reducible refine i_cons ?_) | (with_reducible refine i_nil ?_) | (with_reducible refine i_call ?_) | (with_reducible refine i_if ?_) | (with_reducible refine i_ifE ?_) | (with_reducible refine i_test ?_) | (with_reducible refine i_bl ?_)
  | (with_reducible refine i_and ?_) | (with_reducible refine i_or ?_) | (with_reducible refine i_not ?_) | (with_reducible refine i_lst ?_) | (with_reducible refine i_tup ?_) | (with_reducible refine i_next ?_) | (with_reducible refine i_drop ?_) | (with_reducible refine i_sub ?_)
  | (with_reducible refine i_bm ?_) | (with_reducible refine i_sl ?_) | (with_reducible refine i_part ?_) | (with_reducible refine i_nopart ?_) | (with_reducible refine i_exI ?_) | (with_reducible refine i_chain ?_) | ((with_reducible refine' i_aug ?q1 ?_); (case q1 => exact rfl)) | (with_reducible refine i_ip ?_)
  | (with_reducible refine i_par ?_) | (with_reducible refine i_pair ?_) | (with_reducible refine i_andV ?_) | (with_reducible refine i_orV ?_) | (with_reducible refine i_notV ?_) | (with_reducible refine i_m1 ?_) | (with_reducible refine i_str ?_)
  | (with_reducible refine iteF ?_) | (with_reducible refine iteT ?_) | (with_reducible refine iteNT ?_) | (with_reducible refine iteNF ?_) | (with_reducible refine i_tyS ?_) | (with_reducible refine i_tB ?_) | (with_reducible refine i_retN ?_) | (with_reducible refine i_par3 ?_) | (with_reducible refine i_trip ?_) | (with_reducible refine i_gCons ?_) | (with_reducible refine i_gNil ?_) | (with_reducible refine i_lstRg ?_) | (with_reducible refine i_rg1 ?_)
  | (with_reducible refine i_lc ?_) | (with_reducible refine i_for ?_) | (with_reducible refine i_iList ?_) | (with_reducible refine i_iTup ?_) | (with_reducible refine i_iStr ?_) | (with_reducible refine i_iRng1 ?_) | (with_reducible refine i_iEnS ?_)
  | ((with_reducible refine' i_ixTH ?q1 ?q2 ?_); (case q1 => walk_at "hp"); (case q2 => exact rfl))
  | ((with_reducible refine' i_ixLH ?q1 ?q2 ?_); (case q1 => walk_at "hp"); (case q2 => exact rfl))
  | ((with_reducible refine i_addS ?q1 ?_); (case q1 => walk_at "ln")) | ((with_reducible refine i_lenSS ?q1 ?_); (case q1 => walk_at "ln")) | ((with_reducible refine i_slFrom ?q1 ?q2 ?_); (case q1 => walk_at "ln"); (case q2 => walk_at "ln")) | ((with_reducible refine i_slTo ?q1 ?q2 ?_); (case q1 => walk_at "ln"); (case q2 => walk_at "ln"))
  | ((with_reducible refine' i_tyL ?q1 ?_); (case q1 => walk_at "hp"))
  | ((with_reducible refine' i_gTupH ?q1 ?q2 ?_); (case q1 => walk_at "hp"); (case q2 => exact rfl))
  | (with_reducible refine i_dnew ?_) | (with_reducible refine i_init ?_) | (with_reducible refine i_fst ?_) | (with_reducible refine i_mk ?_) | (with_reducible refine i_raise ?_) | (with_reducible refine i_callS ?_) | (with_reducible refine i_kwS ?_)
  | (with_reducible refine i_revT ?_) | (with_reducible refine i_kw ?_) | ((with_reducible refine' ⟨_, _, rfl, sqT_of ?q1, ?_⟩); (case q1 => walk_at "hp"))
  | (with_reducible refine i_revS ?_) | ((with_reducible refine i_revSS ?q1 ?_); (case q1 => walk_at "ln"))
  | (with_reducible refine i_startS ?_) | (with_reducible refine i_inSg ?_) | (with_reducible refine i_absN ?_) | (with_reducible refine i_min2 ?_) | (with_reducible refine i_max2 ?_) | (with_reducible refine i_min3 ?_) | (with_reducible refine i_intN ?_) | (with_reducible refine i_intNB ?_)
  | ((with_reducible refine' i_lenL ?q1 ?_); (case q1 => walk_at "hp")) | ((with_reducible refine' i_lenT ?q1 ?_); (case q1 => walk_at "hp"))
  | (with_reducible refine i_eqI ?_) | (with_reducible refine i_neI ?_) | (with_reducible refine i_eqS ?_) | (with_reducible refine i_neS ?_) | (with_reducible refine i_isNoI ?_) | (with_reducible refine i_isNoN ?_) | (with_reducible refine i_isNoR ?_)
  | ((with_reducible refine i_pow ?q1 ?q2 ?q3 ?_); (case q1 => decide); (case q2 => decide); (case q3 => (with_reducible omega)))
  | ((with_reducible refine i_rI ?q1 ?_); (case q1 => walk_at "ci"))
  | (with_reducible refine Or.inl ⟨_, rfl, ?_⟩) | (with_reducible refine Or.inr ⟨_, rfl, ?_⟩) | (with_reducible refine ⟨_, rfl, ?_⟩) | (with_reducible refine ⟨_, _, rfl, ?_⟩) | (with_reducible refine ⟨_, _, rfl, rfl, ?_⟩)
  | ((with_reducible refine' ⟨_, _, rfl, Or.inl (sqL_of ?q1), ?_⟩); (case q1 => walk_at "hp")) | ((with_reducible refine' ⟨_, _, rfl, Or.inr (sqT_of ?q1), ?_⟩); (case q1 => walk_at "hp")) | fail)
local macro_rules | `(tactic| walk_at "rd") => `(tactic| repeat' walk_at "rd1")

theorem isT_strK {K : PySem.W.Frag} {H : Hp} (l : List Nat) (h : l.length ≤ 100000) : IsT K H (.str (S l)) (azB l) := .inl ⟨l, rfl, h, rfl⟩
/-! ### data of which repr is asked -/
structure Small (n w : Nat) (d : PyData) : Prop where
  lay : d.canLay0 = true
  dep : d.depth ≤ n
  wei : d.weight ≤ w
  sh : d.showable = true
  int : d.intsShort 13 = true
  nd : d.hasDict = false
theorem Small.mono {n w n' w' : Nat} {d : PyData} (s : Small n w d) (h1 : n ≤ n') (h2 : w ≤ w') : Small n' w' d := ⟨s.lay, Nat.le_trans s.dep h1, Nat.le_trans s.wei h2, s.sh, s.int, s.nd⟩
theorem strOk_lt {l : List Nat} (h : ∀ c ∈ l, c ≤ 1000) : PyData.strOk (S l) = true := by
  unfold PyData.strOk
  rw [Array.all_eq_true]
  intro i hi
  have q := h (l[i]'(by simpa [S] using hi)) (List.getElem_mem _)
  have e : (S l).cps[i] = l[i]'(by simpa [S] using hi) := by simp [S]
  rw [e]
  exact decide_eq_true (by omega)
theorem azB_le {l : List Nat} (h : azB l = true) : ∀ c ∈ l, c ≤ 1000 := by
  unfold azB at h
  rw [List.all_eq_true] at h
  intro c hc
  have := of_decide_eq_true (h c hc)
  omega
theorem small_str {l : List Nat} (h : ∀ c ∈ l, c ≤ 1000) (n : l.length ≤ 1000) : Small 0 1000 (.str (S l)) :=
  ⟨by simp only [PyData.canLay0]; exact strOk_lt h, by simp only [PyData.depth]; omega, by simp only [PyData.weight, S_size]; exact n, by simp only [PyData.showable], by simp only [PyData.intsShort], by simp only [PyData.hasDict]⟩
theorem small_non : Small 0 1000 .none := ⟨by simp only [PyData.canLay0], by simp only [PyData.depth]; omega, by simp only [PyData.weight]; omega, by simp only [PyData.showable], by simp only [PyData.intsShort], by simp only [PyData.hasDict]⟩
theorem small_all {n w : Nat} : ∀ {ds : List PyData}, (∀ d ∈ ds, Small n w d) → PyData.canLayAll0 ds = true ∧ PyData.depthAll ds ≤ n ∧ PyData.weightAll ds ≤ ds.length * (w + 1) ∧ PyData.showableAll ds = true ∧ PyData.intsShortAll 13 ds = true ∧ PyData.hasDictAll ds = false
  | [], _ => ⟨by simp only [PyData.canLayAll0], by simp only [PyData.depthAll]; omega, by simp only [PyData.weightAll]; omega, by simp only [PyData.showableAll], by simp only [PyData.intsShortAll], by simp only [PyData.hasDictAll]⟩
  | d :: ds, h => by
    obtain ⟨a1, a2, a3, a4, a5, a6⟩ := h d List.mem_cons_self
    obtain ⟨b1, b2, b3, b4, b5, b6⟩ := small_all (ds := ds) fun x hx => h x (List.mem_cons_of_mem _ hx)
    refine ⟨by simp only [PyData.canLayAll0, a1, b1, Bool.and_self], by simp only [PyData.depthAll]; omega, ?_, by simp only [PyData.showableAll, a4, b4, Bool.and_self], by simp only [PyData.intsShortAll, a5, b5, Bool.and_self], by simp only [PyData.hasDictAll, a6, b6, Bool.or_self]⟩
    simp only [PyData.weightAll, List.length_cons, Nat.succ_mul]
    omega
theorem small_lst {n w : Nat} {ds : List PyData} (h : ∀ d ∈ ds, Small n w d) : Small (n + 1) (ds.length * (w + 1)) (.list ds) := by
  obtain ⟨b1, b2, b3, b4, b5, b6⟩ := small_all h
  exact ⟨by simp only [PyData.canLay0, b1], by simp only [PyData.depth]; omega, by simp only [PyData.weight]; exact b3, by simp only [PyData.showable, b4], by simp only [PyData.intsShort, b5], by simp only [PyData.hasDict, b6]⟩
theorem small_tup {n w : Nat} {ds : List PyData} (h : ∀ d ∈ ds, Small n w d) : Small (n + 1) (ds.length * (w + 1)) (.tuple ds) := by
  obtain ⟨b1, b2, b3, b4, b5, b6⟩ := small_all h
  exact ⟨by simp only [PyData.canLay0, b1], by simp only [PyData.depth]; omega, by simp only [PyData.weight]; exact b3, by simp only [PyData.showable, b4], by simp only [PyData.intsShort, b5], by simp only [PyData.hasDict, b6]⟩
theorem Small.shaped {n w : Nat} {d : PyData} (s : Small n w d) (h : n ≤ 60) : (PyData.canLay0 d && decide (PyData.depth d ≤ 64)) = true := by
  rw [s.lay, Bool.true_and]
  exact decide_eq_true (Nat.le_trans s.dep (by omega))
theorem i_rep {K : PySem.W.Frag} {M : Hp} {x : V} {d : PyData} {n w : Nat} {R : VK} (h1 : Dp K M x d) (s : Small n w d) (hn : n ≤ 60) (hw : w ≤ 1000000) (h : R (.str d.shown) M) : rRepD K [x] M R := by
  refine ⟨x, d, rfl, h1, s.sh, s.nd, Nat.le_trans s.dep hn, ?_, h⟩
  have l : PyData.layable0 d = true := by
    unfold PyData.layable0
    rw [s.lay, decide_eq_true (Nat.le_trans s.dep (by omega)), decide_eq_true (Nat.le_trans s.wei (by omega))]
    rfl
  exact Nat.le_trans (shown_le13 l s.int) (by decide)
mutual
theorem dp_same {K : PySem.W.Frag} {H H' : Hp} (s : Same H H') : ∀ {v : V} {d : PyData}, Dp K H v d → Dp K H' v d
  | _, _, .non => .non
  | _, _, .bl b => .bl b
  | _, _, .int i => .int i
  | _, _, .str x => .str x
  | _, _, .lst h1 h2 => .lst (Same.sqL s h1) (dpAll_same s h2)
  | _, _, .tup h1 h2 => .tup (Same.sqT s h1) (dpAll_same s h2)
theorem dpAll_same {K : PySem.W.Frag} {H H' : Hp} (s : Same H H') : ∀ {vs : List V} {ds : List PyData}, DpAll K H vs ds → DpAll K H' vs ds
  | _, _, .nil => .nil
  | _, _, .cons h1 h2 => .cons (dp_same s h1) (dpAll_same s h2)
end
theorem dp_strs {K : PySem.W.Frag} {H : Hp} : ∀ ws : List (List Nat), DpAll K H (ws.map fun l => V.str (S l)) (ws.map fun l => PyData.str (S l))
  | [] => .nil
  | l :: ws => .cons (.str _) (dp_strs ws)
theorem small_nat {n : Nat} (h : n ≤ 1000) : Small 0 1000 (.int (n : Int)) := by
  have lg : n.log2 ≤ 10 := by
    rcases Nat.eq_zero_or_pos n with e | e
    · subst e; decide
    · have := (Nat.log2_lt (by omega) (k := 11)).mpr (show n < 2 ^ 11 by omega)
      omega
  refine ⟨by simp only [PyData.canLay0], by simp only [PyData.depth]; omega, ?_, ?_, ?_, by simp only [PyData.hasDict]⟩
  · simp only [PyData.weight]
    split
    · omega
    · simp only [Int.natAbs_natCast]; omega
  · simp only [PyData.showable, Int.natAbs_natCast]
    exact decide_eq_true (by omega)
  · simp only [PyData.intsShort]
    have : ∀ m : Nat, m < 1001 → (PyData.int (m : Int)).shown.length ≤ 13 := by decide +kernel
    exact decide_eq_true (this n (by omega))
/-- data, or an empty dict -/
def Dc (n w : Nat) (K : PySem.W.Frag) (H : Hp) (v : V) (d : PyData) : Prop := (Dp K H v d ∧ Small n w d) ∨ ∃ (a : Addr), v = .ref a ∧ H a = some (.dK []) ∧ d = .dict []
def rRepW (K : PySem.W.Frag) : List V → Hp → VK → Prop := fun xs M R => ∃ x d n w, xs = [x] ∧ Dc n w K M x d ∧ n ≤ 60 ∧ w ≤ 1000000 ∧ R (.str d.shown) M
theorem call_repW {X : Cx} (quiet : X.A.guards = some []) (hu : X.A.units + 64 < cLine) : CallR X (.builtin "repr") (rRepW X.K) := by
  intro pins s σ M xs us R I r h
  obtain ⟨x, d, n, w, rfl, hd, hn, hw, q⟩ := h
  rcases hd with ⟨hd, sd⟩ | ⟨a, rfl, ha, rfl⟩
  · exact call_repD quiet hu pins s σ M [x] us R I r (i_rep hd sd hn hw q)
  · obtain ⟨u, rfl, ru⟩ := vals1 r
    cases ru
    have there : ObjOk X.prog X.w M s.heap a (.dK []) := I.hok a _ ha
    obtain ⟨_, notSys, vs, kv, o, es, ep, ho, ex, hd, _, pr, _⟩ := there
    cases kv
    have none' : es.toList = [] := by
      generalize es.toList = l at pr
      cases pr
      rfl
    have rd : Reads s.heap (.ref a) (.dict []) (a :: [] ++ []) := .dict ho ex.1 hd (by rw [none']; exact .nil) (by rw [none']; exact .nil)
    refine repr_of_reads' rd (by decide +kernel) (fun _ z => ?_) quiet (by show X.A.units + (_ + 1) < cLine; simp only [PyData.depth, PyData.depthKv]; omega) (fun _ _ e => e) (fun h' t tk keep => ⟨.str _, M, I.kept (t' := tk) keep, ⟨t, rfl⟩, q⟩) (by decide +kernel)
    have z' : sysModules = a := by simpa using z
    rw [← z'] at notSys
    exact absurd notSys (by decide)
theorem i_repW {K : PySem.W.Frag} {M : Hp} {x : V} {d : PyData} {n w : Nat} {R : VK} (h : Dc n w K M x d) (hn : n ≤ 60) (hw : w ≤ 1000000) (k : R (.str d.shown) M) : rRepW K [x] M R := ⟨x, d, n, w, rfl, h, hn, hw, k⟩
theorem Dc.same {n w : Nat} {K : PySem.W.Frag} {H H' : Hp} {v : V} {d : PyData} (s : Same H H') (h : Dc n w K H v d) : Dc n w K H' v d := by
  rcases h with ⟨h1, h2⟩ | ⟨a, e, h1, h2⟩
  · exact .inl ⟨dp_same s h1, h2⟩
  · exact .inr ⟨a, e, s _ _ h1, h2⟩
/-- a value that is no text -/
def BadX (n w : Nat) (K : PySem.W.Frag) (H : Hp) (v : V) : Prop := (∃ (a : Addr) (l : List Nat), v = .ref a ∧ H a = some (.lst [.str (S l)]) ∧ (∀ c ∈ l, c ≤ 1000) ∧ l.length ≤ 1000) ∨
  (∃ t d, TyX K H v t ∧ PySem.W.kitOne K t (.type "list") = some false ∧ Dc n w K H v d)
theorem BadX.same {n w : Nat} {K : PySem.W.Frag} {H H' : Hp} {v : V} (s : Same H H') (h : BadX n w K H v) : BadX n w K H' v := by
  rcases h with ⟨a, l, e, h1, h2⟩ | ⟨t, d, h1, h2, h3⟩
  · exact .inl ⟨a, l, e, s _ _ h1, h2⟩
  · exact .inr ⟨t, d, TyX.same s h1, h2, h3.same s⟩
/-- what is new since H stands in the third heap as in the second -/
def NewKept (H H' H'' : Hp) : Prop := ∀ a o, H a = none → H' a = some o → H'' a = some o
theorem small_bl (b : Bool) : Small 0 1000 (.bool b) := ⟨by simp only [PyData.canLay0], by simp only [PyData.depth]; omega, by simp only [PyData.weight]; omega, by simp only [PyData.showable], by simp only [PyData.intsShort], by simp only [PyData.hasDict]⟩
/-- _law_odd(box, text) -/
def spOdd (K : PySem.W.Frag) : Sp := fun vs H Q _ => ∃ (b : Addr) (t : List Nat) (d : Int), vs = [.ref b, .str (S t)] ∧ azB t = true ∧ t.length ≤ 500 ∧ BoxAt H b d ∧ d + 2 ≤ 1000000 ∧
  ∀ (v : V) (H' : Hp), (∀ H'', NewKept H H' H'' → IsT K H'' v false ∧ BadX 1 2002 K H'' v) → BoxAt H' b (d + 2) → SB b H H' → Q v H'
section
variable {P : Program} {w : World} {K : PySem.W.Frag} {mg : Str → Option Value} {base : Heap} {f : Addr} {fd : FuncData}
theorem ok_odd (F : Fun K "_law_odd" "_law_odd" s__law_odd f fd) (c__law_take : Cal P w K mg base "_law_take" ["box", "many"] 1 spTake) (z : Z mg) : FnOk P w K mg base CX0 2 f fd ["box", "text"] (spOdd K) := by
  refine F.ok sc__law_odd (fun vs H Q E h => ?_) (fun cdv A outer s H vs Q E hr h => ?_)
  · obtain ⟨b, t, d, rfl, _⟩ := h; rfl
  · obtain ⟨b, t, d, rfl, zt, ht, B, hd, k⟩ := h
    refine ⟨_, (pss_cons (ps_par (i := 2) (j := 3) rfl sc__law_odd.nd rfl rfl (by decide) rfl rfl (pa_cons (pe_cal c__law_take hr (pa_cons (pv 0) (pa_cons pe_int pa_nil))) (pa_cons (pe_cal c__law_take hr (pa_cons (pv 0) (pa_cons (pe_op op_add (pe_callB call_lenS (by rfl) z.len PySem.boot_len (pa_cons (pv 1) pa_nil)) pe_int) pa_nil))) pa_nil)) (by rfl))
      (pss_cons (ps_if (pt_cmpR op_lt (pv 2) pe_int (nomark _))
        (pss_one (ps_ret (pe_op op_addS (pe_op op_addS (pe_slice sl_S (pv 1) po_none (po_some (pv 3))) (pe_ix ix_list (pe_lst (pa_cons (pe_strS (l := [65]) (by decide +kernel)) (pa_cons (pe_strS (l := [123]) (by decide +kernel)) (pa_cons (pe_strS (l := [32]) (by decide +kernel)) (pa_cons (pe_strS (l := [48]) (by decide +kernel)) (pa_cons (pe_strS (l := [45]) (by decide +kernel)) (pa_cons (pe_strS (l := [90]) (by decide +kernel)) (pa_cons (pe_strS (l := [10]) (by decide +kernel)) pa_nil)))))))) (pv 2) (fun _ _ => rfl))) (pe_slice sl_S (pv 1) (po_some (pv 3)) po_none))))
        pss_nil)
      (pss_one (ps_ret (pe_ix ix_list (pe_lst (pa_cons pe_non (pa_cons pe_int (pa_cons pe_bl (pa_cons (pe_lst (pa_cons (pv 1) pa_nil)) (pa_cons (pe_tup (pa_cons (pv 1) (pa_cons (pe_strS (l := [97]) (by decide +kernel)) pa_nil))) (pa_cons pe_dnewK pa_nil))))))) (pe_op op_sub (pv 2) pe_int) (fun _ _ => rfl)))))), ?_⟩
    walk_at "rd"
    refine ⟨b, 13, d, rfl, B, by omega, by omega, by omega, fun r H1 r0 r1 B1 s1 => ?_⟩
    walk_at "rd"
    refine ⟨b, (t.length : Int) + 1, d + 1, rfl, B1, by omega, by omega, by omega, fun sp H4 p0 p1 B4 s4 => ?_⟩
    have s14 := s1.trans s4
    walk_at "rd"
    refine iteB (fun hr6 => ?_) (fun hr6 => ?_)
    · walk_at "rd"
      refine ⟨Nat.le_of_ble_eq_true rfl, fun p np => ?_⟩
      walk_at "rd"
      obtain ⟨x, ex, zx, lx⟩ : ∃ x, ([.str (S [65]), .str (S [123]), .str (S [32]), .str (S [48]), .str (S [45]), .str (S [90]), .str (S [10])] : List V)[r.toNat]? = some (.str (S [x])) ∧ azB [x] = false ∧ x ≤ 1000 := by
        have hj : r = 0 ∨ r = 1 ∨ r = 2 ∨ r = 3 ∨ r = 4 ∨ r = 5 ∨ r = 6 := by omega
        rcases hj with rfl | rfl | rfl | rfl | rfl | rfl | rfl
        · exact ⟨_, rfl, by decide, by decide⟩
        · exact ⟨_, rfl, by decide, by decide⟩
        · exact ⟨_, rfl, by decide, by decide⟩
        · exact ⟨_, rfl, by decide, by decide⟩
        · exact ⟨_, rfl, by decide, by decide⟩
        · exact ⟨_, rfl, by decide, by decide⟩
        · exact ⟨_, rfl, by decide, by decide⟩
      refine i_ixLv upd_same r0 ex ?_
      walk_at "rd"
      have za : azB (t.take sp.toNat ++ [x] ++ t.drop sp.toNat) = false := by rw [azB_app, azB_app, zx, Bool.and_false, Bool.false_and]
      have lt : (t.take sp.toNat ++ [x] ++ t.drop sp.toNat).length ≤ 1000 := by simp only [List.length_append, List.length_take, List.length_drop, List.length_cons, List.length_nil]; omega
      have cx : ∀ c ∈ t.take sp.toNat ++ [x] ++ t.drop sp.toNat, c ≤ 1000 := by
        intro c hc
        rcases List.mem_append.mp hc with hc | hc
        · rcases List.mem_append.mp hc with hc | hc
          · exact azB_le zt c (List.mem_of_mem_take hc)
          · rw [List.mem_singleton.mp hc]; exact lx
        · exact azB_le zt c (List.mem_of_mem_drop hc)
      refine k _ _ (fun H'' _ => ⟨?_, .inr ⟨_, _, .base (.str _), kit_ty (by decide +kernel), .inl ⟨.str _, (small_str cx lt).mono (by omega) (by omega)⟩⟩⟩) ((B4.same (same_upd np)).mono (by omega)) (s14.trans (SB.of (same_upd np)))
      have := isT_strK (K := K) (H := H'') (t.take sp.toNat ++ [x] ++ t.drop sp.toNat) (by omega)
      rwa [za] at this
    · walk_at "rd"
      refine ⟨Nat.le_of_ble_eq_true rfl, fun p1 n1 => ?_⟩
      walk_at "rd"
      refine ⟨Nat.le_of_ble_eq_true rfl, fun p2 n2 => ?_⟩
      walk_at "rd"
      intro p3 n3
      walk_at "rd"
      refine ⟨Nat.le_of_ble_eq_true rfl, fun p4 n4 => ?_⟩
      obtain ⟨q2, q3⟩ : H4 p2 = none ∧ H4 p3 = none := ⟨(same_upd n1).free n2, (Same.upd_new (same_upd n1) n2).free n3⟩
      have sA := Same.upd_new (o := .lst [.non, .int 5, .bl true, .ref p1, .ref p2, .ref p3]) (Same.upd_new (o := .dK []) (Same.upd_new (o := .tup [.str (S t), .str (S [97])]) (same_upd (o := .lst [.str (S t)]) n1) n2) n3) n4
      have e1 := upd_old (o := .lst [.non, .int 5, .bl true, .ref p1, .ref p2, .ref p3]) n4 (upd_old (o := .dK []) n3 (upd_old (o := .tup [.str (S t), .str (S [97])]) n2 (upd_same (H := H4) (a := p1) (o := .lst [.str (S t)]))))
      have e2 := upd_old (o := .lst [.non, .int 5, .bl true, .ref p1, .ref p2, .ref p3]) n4 (upd_old (o := .dK []) n3 (upd_same (H := upd H4 p1 (.lst [.str (S t)])) (a := p2) (o := .tup [.str (S t), .str (S [97])])))
      have e3 := upd_old (o := .lst [.non, .int 5, .bl true, .ref p1, .ref p2, .ref p3]) n4 (upd_same (H := upd (upd H4 p1 (.lst [.str (S t)])) p2 (.tup [.str (S t), .str (S [97])])) (a := p3) (o := .dK []))
      have e4 := upd_same (H := upd (upd (upd H4 p1 (.lst [.str (S t)])) p2 (.tup [.str (S t), .str (S [97])])) p3 (.dK [])) (a := p4) (o := .lst [.non, .int 5, .bl true, .ref p1, .ref p2, .ref p3])
      generalize upd (upd (upd (upd H4 p1 (.lst [.str (S t)])) p2 (.tup [.str (S t), .str (S [97])])) p3 (.dK [])) p4 (.lst [.non, .int 5, .bl true, .ref p1, .ref p2, .ref p3]) = H8 at *
      have f1 : H p1 = none := s14.free B4 n1
      have f2 : H p2 = none := s14.free B4 q2
      have f3 : H p3 = none := s14.free B4 q3
      have BA := (B4.same sA).mono (show d + 1 + 1 ≤ d + 2 by omega)
      have sB := s14.trans (SB.of sA)
      walk_at "rd"
      have az1 : ∀ c ∈ t, c ≤ 1000 := azB_le zt
      have hr : r = 7 ∨ r = 8 ∨ r = 9 ∨ r = 10 ∨ r = 11 ∨ r = 12 := by omega
      rcases hr with rfl | rfl | rfl | rfl | rfl | rfl
      · refine i_ixLv e4 (by omega) rfl ?_
        exact k _ _ (fun H'' nk => ⟨.inr ⟨_, .base .non, kit_ty (by decide +kernel), rfl⟩, .inr ⟨_, _, .base .non, kit_ty (by decide +kernel), .inl ⟨.non, small_non.mono (by omega) (by omega)⟩⟩⟩) BA sB
      · refine i_ixLv e4 (by omega) rfl ?_
        exact k _ _ (fun H'' nk => ⟨.inr ⟨_, .base (.int _), kit_ty (by decide +kernel), rfl⟩, .inr ⟨_, _, .base (.int _), kit_ty (by decide +kernel), .inl ⟨.int _, (small_nat (n := 5) (by omega)).mono (by omega) (by omega)⟩⟩⟩) BA sB
      · refine i_ixLv e4 (by omega) rfl ?_
        exact k _ _ (fun H'' nk => ⟨.inr ⟨_, .base (.bl _), kit_ty (by decide +kernel), rfl⟩, .inr ⟨_, _, .base (.bl _), kit_ty (by decide +kernel), .inl ⟨.bl _, (small_bl _).mono (by omega) (by omega)⟩⟩⟩) BA sB
      · refine i_ixLv e4 (by omega) rfl ?_
        refine k _ _ (fun H'' nk => ?_) BA sB
        have g1 := nk _ _ f1 e1
        exact ⟨.inr ⟨_, .base (.lst g1), kit_ty (by decide +kernel), rfl⟩, .inl ⟨p1, t, rfl, g1, az1, by omega⟩⟩
      · refine i_ixLv e4 (by omega) rfl ?_
        refine k _ _ (fun H'' nk => ?_) BA sB
        have g2 := nk _ _ f2 e2
        refine ⟨.inr ⟨_, .base (.tup g2), kit_ty (by decide +kernel), rfl⟩, .inr ⟨_, _, .base (.tup g2), kit_ty (by decide +kernel), .inl ⟨.tup (sqT_of g2) (.cons (.str _) (.cons (.str _) .nil)), (small_tup (n := 0) (w := 1000) fun x hx => ?_).mono (by omega) (by simp)⟩⟩⟩
        simp only [List.mem_cons, List.not_mem_nil, or_false] at hx
        rcases hx with rfl | rfl
        · exact small_str az1 (by omega)
        · exact small_str (by simp) (by simp)
      · refine i_ixLv e4 (by omega) rfl ?_
        refine k _ _ (fun H'' nk => ?_) BA sB
        have g3 := nk _ _ f3 e3
        exact ⟨.inr ⟨_, .base (.dK g3), kit_ty (by decide +kernel), rfl⟩, .inr ⟨_, _, .base (.dK g3), kit_ty (by decide +kernel), .inr ⟨p3, rfl, g3, rfl⟩⟩⟩
end
end Sw
namespace Sw
open PySem PySem.Spec PyProof.Rows L2
local macro_rules | `(tactic| walk_at "hp") => `(tactic| first
  | (with_reducible assumption) | (with_reducible exact upd_same)
  | ((with_reducible refine' upd_old ?q1 ?q2); (case q1 => (with_reducible assumption)); (case q2 => walk_at "hp"))
  | ((with_reducible refine' Same.at ?q1 ?q2); (case q1 => (with_reducible assumption)); (case q2 => walk_at "hp"))
  | ((with_reducible refine' upd_skip ?q1 ?q2); (case q1 => walk_at "ne"); (case q2 => walk_at "hp"))
  | fail)
local macro_rules | `(tactic| walk_at "ne") => `(tactic| first
  | (with_reducible assumption) | (with_reducible exact Ne.symm (by assumption))
  | ((with_reducible refine' ne_of_none ?q1 ?q2); (case q2 => (with_reducible assumption)); (case q1 => walk_at "hp"))
  | fail)
local macro_rules | `(tactic| walk_at "ci") => `(tactic| first | assumption | (show (0 : Int) < _; first | decide | (with_reducible omega)) | exact ⟨by decide, by decide⟩ | exact .inl ⟨by decide, by decide⟩ | exact .inr ⟨by decide, by decide⟩)
local macro_rules | `(tactic| walk_at "ln") => `(tactic| first | (with_reducible assumption) | (with_reducible omega) | (simp only [List.length_append, List.length_take, List.length_drop, List.length_reverse, List.length_cons, List.length_nil]; with_reducible omega))
local macro_rules | `(tactic| walk_at "rd1") => `(tactic| first
  | (with_reducible refine i_seq ?_) | (with_reducible refine i_asg ?_) | (with_reducible refine i_ret ?_) | (with_reducible refine i_name ?_) | ((with_reducible refine' i_var ?q1 ?_); (case q1 => exact rfl)) | (with_reducible refine i_c ?_) | (with_reducible refine i_op ?_) | (with_reducible refine i_un ?_)
  | (with_reducible refine i_rI0 ?_) | (with_reducible refine i_cb ?_) | (with_reducible refine i_cons ?_) | (with_reducible refine i_nil ?_) | (with_reducible refine i_call ?_) | (with_reducible refine i_if ?_) | (with_reducible refine i_ifE ?_) | (with_reducible refine i_test ?_) | (with_reducible refine i_bl ?_)
  | (with_reducible refine i_and ?_) | (with_reducible refine i_or ?_) | (with_reducible refine i_not ?_) | (with_reducible refine i_lst ?_) | (with_reducible refine i_tup ?_) | (with_reducible refine i_next ?_) | (with_reducible refine i_drop ?_) | (with_reducible refine i_sub ?_)
  | (with_reducible refine i_bm ?_) | (with_reducible refine i_sl ?_) | (with_reducible refine i_part ?_) | (with_reducible refine i_nopart ?_) | (with_reducible refine i_exI ?_) | (with_reducible refine i_chain ?_) | ((with_reducible refine' i_aug ?q1 ?_); (case q1 => exact rfl)) | (with_reducible refine i_ip ?_)
  | (with_reducible refine i_par ?_) | (with_reducible refine i_pair ?_) | (with_reducible refine i_andV ?_) | (with_reducible refine i_orV ?_) | (with_reducible refine i_notV ?_) | (with_reducible refine i_m1 ?_) | (with_reducible refine i_str ?_)
  | (with_reducible refine iteF ?_) | (with_reducible refine iteT ?_) | (with_reducible refine iteNT ?_) | (with_reducible refine iteNF ?_) | (with_reducible refine i_tyS ?_) | (with_reducible refine i_tB ?_) | (with_reducible refine i_retN ?_) | (with_reducible refine i_par3 ?_) | (with_reducible refine i_trip ?_) | (with_reducible refine i_gCons ?_) | (with_reducible refine i_gNil ?_) | (with_reducible refine i_lstRg ?_) | (with_reducible refine i_rg1 ?_)
  | (with_reducible refine i_lc ?_) | (with_reducible refine i_for ?_) | (with_reducible refine i_iList ?_) | (with_reducible refine i_iTup ?_) | (with_reducible refine i_iStr ?_) | (with_reducible refine i_iRng1 ?_) | (with_reducible refine i_iEnS ?_)
  | ((with_reducible refine' i_ixTH ?q1 ?q2 ?_); (case q1 => walk_at "hp"); (case q2 => exact rfl))
  | ((with_reducible refine' i_ixLH ?q1 ?q2 ?_); (case q1 => walk_at "hp"); (case q2 => exact rfl))
  | ((with_reducible refine i_addS ?q1 ?_); (case q1 => walk_at "ln")) | ((with_reducible refine i_lenSS ?q1 ?_); (case q1 => walk_at "ln")) | ((with_reducible refine i_slFrom ?q1 ?q2 ?_); (case q1 => walk_at "ln"); (case q2 => walk_at "ln")) | ((with_reducible refine i_slTo ?q1 ?q2 ?_); (case q1 => walk_at "ln"); (case q2 => walk_at "ln"))
  | ((with_reducible refine' i_tyL ?q1 ?_); (case q1 => walk_at "hp"))
  | ((with_reducible refine' i_gTupH ?q1 ?q2 ?_); (case q1 => walk_at "hp"); (case q2 => exact rfl))
  | (with_reducible refine i_dnew ?_) | (with_reducible refine i_init ?_) | (with_reducible refine i_fst ?_) | (with_reducible refine i_mk ?_) | (with_reducible refine i_raise ?_) | (with_reducible refine i_callS ?_) | (with_reducible refine i_kwS ?_)
  | (with_reducible refine i_revT ?_) | (with_reducible refine i_kw ?_) | ((with_reducible refine' ⟨_, _, rfl, sqT_of ?q1, ?_⟩); (case q1 => walk_at "hp"))
  | (with_reducible refine i_revS ?_) | ((with_reducible refine i_revSS ?q1 ?_); (case q1 => walk_at "ln"))
  | (with_reducible refine i_startS ?_) | (with_reducible refine i_inSg ?_) | (with_reducible refine i_absN ?_) | (with_reducible refine i_min2 ?_) | (with_reducible refine i_max2 ?_) | (with_reducible refine i_min3 ?_) | (with_reducible refine i_intN ?_) | (with_reducible refine i_intNB ?_)
  | ((with_reducible refine' i_lenL ?q1 ?_); (case q1 => walk_at "hp")) | ((with_reducible refine' i_lenT ?q1 ?_); (case q1 => walk_at "hp"))
  | (with_reducible refine i_eqI ?_) | (with_reducible refine i_neI ?_) | (with_reducible refine i_eqS ?_) | (with_reducible refine i_neS ?_) | (with_reducible refine i_isNoI ?_) | (with_reducible refine i_isNoN ?_) | (with_reducible refine i_isNoR ?_)
  | ((with_reducible refine i_pow ?q1 ?q2 ?q3 ?_); (case q1 => decide); (case q2 => decide); (case q3 => (with_reducible omega)))
  | ((with_reducible refine i_rI ?q1 ?_); (case q1 => walk_at "ci"))
  | (with_reducible refine Or.inl ⟨_, rfl, ?_⟩) | (with_reducible refine Or.inr ⟨_, rfl, ?_⟩) | (with_reducible refine ⟨_, rfl, ?_⟩) | (with_reducible refine ⟨_, _, rfl, ?_⟩) | (with_reducible refine ⟨_, _, rfl, rfl, ?_⟩)
  | ((with_reducible refine' ⟨_, _, rfl, Or.inl (sqL_of ?q1), ?_⟩); (case q1 => walk_at "hp")) | ((with_reducible refine' ⟨_, _, rfl, Or.inr (sqT_of ?q1), ?_⟩); (case q1 => walk_at "hp")) | fail)
local macro_rules | `(tactic| walk_at "rd") => `(tactic| repeat' walk_at "rd1")

/-! ### calls within a comprehension: K told -/
theorem call_isiB {X : Cx} {K : PySem.W.Frag} (e : X.K = K) : CallR X (.builtin "isinstance") (rIsi K) := by
  subst e
  exact call_isi
def rListOf (K : PySem.W.Frag) : List V → Hp → VK → Prop := fun xs H Q => ∃ p ys, xs = [.ref p] ∧ (SqL K H p ys ∨ SqT K H p ys) ∧ ∀ l, H l = none → Q (.ref l) (upd H l (.lst ys))
theorem call_list_ofB {X : Cx} {K : PySem.W.Frag} (e : X.K = K) : CallR X (.type "list") (rListOf K) := by
  subst e
  exact call_list_of
/-- no list that can be copied -/
def NL (K : PySem.W.Frag) (H : Hp) (x : V) : Prop := ∃ t d, TyX K H x t ∧ PySem.W.kitOne K t (.type "list") = some false ∧ Dc 1 2002 K H x d
theorem NL.same {K : PySem.W.Frag} {H H' : Hp} {x : V} (s : Same H H') (h : NL K H x) : NL K H' x := by
  obtain ⟨t, d, h1, h2, h3⟩ := h
  exact ⟨t, d, TyX.same s h1, h2, h3.same s⟩
theorem nl_str {K : PySem.W.Frag} {H : Hp} {l : List Nat} (h : ∀ c ∈ l, c ≤ 1000) (hl : l.length ≤ 1000) : NL K H (.str (S l)) := ⟨_, _, .base (.str _), kit_ty (by decide +kernel), .inl ⟨.str _, (small_str h hl).mono (by omega) (by omega)⟩⟩
/-- a value of the rows -/
def El (K : PySem.W.Frag) (H : Hp) (x : V) (b : Bool) : Prop := IsT K H x b ∧ (b = true → ∀ l, x = .str (S l) → l.length ≤ 1000) ∧ (NL K H x ∨ ∃ (a : Addr) (l : List Nat), x = .ref a ∧ H a = some (.lst [.str (S l)]) ∧ (∀ c ∈ l, c ≤ 1000) ∧ l.length ≤ 1000)
theorem El.same {K : PySem.W.Frag} {H H' : Hp} {x : V} {b : Bool} (s : Same H H') (h : El K H x b) : El K H' x b := by
  obtain ⟨h1, h2, h3⟩ := h
  refine ⟨h1.same s, h2, ?_⟩
  rcases h3 with h3 | ⟨a, l, e, q, r⟩
  · exact .inl (h3.same s)
  · exact .inr ⟨a, l, e, s _ _ q, r⟩
theorem el_text {K : PySem.W.Frag} {H : Hp} {l : List Nat} (z : azB l = true) (hl : l.length ≤ 1000) : El K H (.str (S l)) true := by
  refine ⟨?_, fun _ l' e => ?_, .inl (nl_str (azB_le z) hl)⟩
  · have := isT_strK (K := K) (H := H) l (by omega)
    rwa [z] at this
  · cases S_inj.mp (V.str.inj e); exact hl
theorem el_bad {K : PySem.W.Frag} {H : Hp} {v : V} (h1 : IsT K H v false) (h2 : BadX 1 2002 K H v) : El K H v false := by
  refine ⟨h1, fun e => Bool.noConfusion e, ?_⟩
  rcases h2 with ⟨a, l, e, q, r⟩ | h2
  · exact .inr ⟨a, l, e, q, r⟩
  · exact .inl h2
/-- w is x, or a new list like x -/
def Cpy (K : PySem.W.Frag) (H0 H : Hp) (x w : V) : Prop := (w = x ∧ NL K H x) ∨ ∃ (a a' : Addr) (l : List Nat), x = .ref a ∧ w = .ref a' ∧ H a = some (.lst [.str (S l)]) ∧ H a' = some (.lst [.str (S l)]) ∧ (∀ c ∈ l, c ≤ 1000) ∧ l.length ≤ 1000 ∧ H0 a' = none
theorem Cpy.same {K : PySem.W.Frag} {H0 H H' : Hp} {x w : V} (s : Same H H') (h : Cpy K H0 H x w) : Cpy K H0 H' x w := by
  rcases h with ⟨e, h⟩ | ⟨a, a', l, e1, e2, q1, q2, r⟩
  · exact .inl ⟨e, h.same s⟩
  · exact .inr ⟨a, a', l, e1, e2, s _ _ q1, s _ _ q2, r⟩
theorem Cpy.isT {K : PySem.W.Frag} {H0 H : Hp} {x w : V} {b : Bool} (h : Cpy K H0 H x w) (t : IsT K H x b) : IsT K H w b := by
  rcases h with ⟨rfl, _⟩ | ⟨a, a', l, rfl, rfl, q1, q2, _⟩
  · exact t
  · rcases t with ⟨l, e, _⟩ | ⟨t, _, _, rfl⟩
    · cases e
    · exact .inr ⟨_, .base (.lst q2), kit_ty (by decide +kernel), rfl⟩
theorem Cpy.str {K : PySem.W.Frag} {H0 H : Hp} {x w : V} {l : List Nat} (h : Cpy K H0 H x w) (e : w = .str (S l)) : x = .str (S l) := by
  rcases h with ⟨rfl, _⟩ | ⟨a, a', l, rfl, rfl, _⟩
  · exact e
  · cases e
/-- the same while the copies are gathered at p -/
def CpyP (K : PySem.W.Frag) (p : Addr) (H0 H : Hp) (x w : V) : Prop := (w = x ∧ NL K H0 x) ∨ ∃ (a a' : Addr) (l : List Nat), x = .ref a ∧ w = .ref a' ∧ H0 a = some (.lst [.str (S l)]) ∧ H a' = some (.lst [.str (S l)]) ∧ (∀ c ∈ l, c ≤ 1000) ∧ l.length ≤ 1000 ∧ H0 a' = none ∧ a' ≠ p
theorem CpyP.next {K : PySem.W.Frag} {p : Addr} {H0 H H' : Hp} {x w : V} {o : HO} (s : Same H H') (h : CpyP K p H0 H x w) : CpyP K p H0 (L2.upd H' p o) x w := by
  rcases h with h | ⟨a, a', l, e1, e2, q1, q2, r1, r2, r3, r4⟩
  · exact .inl h
  · exact .inr ⟨a, a', l, e1, e2, q1, by rw [L2.upd_ne r4]; exact s _ _ q2, r1, r2, r3, r4⟩
theorem CpyP.done {K : PySem.W.Frag} {p : Addr} {H0 H : Hp} {x w : V} (s : Same H0 H) (h : CpyP K p H0 H x w) : Cpy K H0 H x w := by
  rcases h with ⟨e, h⟩ | ⟨a, a', l, e1, e2, q1, q2, r1, r2, r3, r4⟩
  · exact .inl ⟨e, h.same s⟩
  · exact .inr ⟨a, a', l, e1, e2, s _ _ q1, q2, r1, r2, r3⟩
theorem isT_bad {K : PySem.W.Frag} {H : Hp} {a : List Nat} (h : IsT K H (.str (S a)) false) : azB a = false := by
  rcases h with ⟨l, e, _, q⟩ | ⟨t, ty, kt, _⟩
  · cases S_inj.mp (V.str.inj e); exact q.symm
  · exfalso
    cases ty with
    | base b =>
      cases b
      have : PySem.W.kitOne K (.type "str") (.type "str") = some true := kit_ty (by decide +kernel)
      rw [this] at kt; cases kt
/-- a row: two values and the place of the first bad one -/
def RowOk (K : PySem.W.Frag) (H : Hp) (q : Addr) : Prop := ∃ (x y : V) (k : Nat) (bx by' : Bool), H q = some (.lst [x, y, .int (k : Int)]) ∧ El K H x bx ∧ El K H y by' ∧ ((k = 0 ∧ bx = false) ∨ (k = 1 ∧ bx = true ∧ by' = false))
theorem RowOk.same {K : PySem.W.Frag} {H H' : Hp} {q : Addr} (s : Same H H') (h : RowOk K H q) : RowOk K H' q := by
  obtain ⟨x, y, k, bx, by', e, h1, h2, h3⟩ := h
  exact ⟨x, y, k, bx, by', s _ _ e, h1.same s, h2.same s, h3⟩
/-- _law_refused_right(box, first, second) -/
def spRefused : Sp := fun vs H Q _ => ∃ (b : Addr) (l r : List Nat) (d : Int), vs = [.ref b, .str (S l), .str (S r)] ∧ azB l = true ∧ azB r = true ∧ l.length ≤ 500 ∧ r.length ≤ 500 ∧ BoxAt H b d ∧ d + 100 ≤ 1000000 ∧
  ∀ H', BoxAt H' b (d + 100) → SB b H H' → Q (.bl true) H'
section
variable {P : Program} {w : World} {K : PySem.W.Frag} {mg : Str → Option Value} {base : Heap} {f : Addr} {fd : FuncData}
theorem ok_refused (F : Fun K "_law_refused_right" "_law_refused_right" s__law_refused_right f fd) (z : Z mg) (c__law_take : Cal P w K mg base "_law_take" ["box", "many"] 1 spTake) (c__law_odd : Cal P w K mg base "_law_odd" ["box", "text"] 2 (spOdd K)) (c__law_met : Cal P w K mg base "_law_met" ["which", "first", "second", "value"] 5 (spMet K)) : FnG P w K mg base CX0 6 f fd ["box", "first", "second"] spRefused := by
  refine Sw.Fun.okG0 F sc__law_refused_right (fun vs H Q E h => ?_) (fun cdv A outer s H vs Q E hr quiet h => ?_)
  · obtain ⟨b, l, r, d, rfl, _⟩ := h; rfl
  · obtain ⟨b, l, r, d, rfl, zl, zr, ll, lr, B, hd, k⟩ := h
    refine ⟨_, (pss_cons (ps_par (i := 3) (j := 4) rfl sc__law_refused_right.nd rfl rfl (by decide) rfl rfl (pa_cons (pe_cal c__law_odd hr (pa_cons (pv 0) (pa_cons (pv 1) pa_nil))) (pa_cons (pe_cal c__law_odd hr (pa_cons (pv 0) (pa_cons (pv 2) pa_nil))) pa_nil)) (by rfl))
      (pss_cons (ps_for PassesOwn.never rfl (pi_range1 (by rfl) z.range (pa_cons pe_int pa_nil)) (pg_name (i := 5) sc__law_refused_right.nd rfl (.inl rfl))
        (pss_one (ps_for PassesOwn.never rfl (pi_list (pe_lst (pa_cons (pe_lst (pa_cons (pv 3) (pa_cons (pv 2) (pa_cons pe_int pa_nil)))) (pa_cons (pe_lst (pa_cons (pv 1) (pa_cons (pv 4) (pa_cons pe_int pa_nil)))) (pa_cons (pe_lst (pa_cons (pv 3) (pa_cons (pv 4) (pa_cons pe_int pa_nil)))) pa_nil))))) (pg_name (i := 6) sc__law_refused_right.nd rfl (.inl rfl))
          (pss_cons (ps_setLc (i := 7) (own := [("value", 8)]) (g := gName 8) (tt := tYes) rfl sc__law_refused_right.nd rfl rfl (sw_true rfl rfl rfl (by decide +kernel)) (pi_list (pe_slice sl_list (pv 6) po_none (po_some pe_int))) (blkOk_by (own := [("value", 8)]) (N := n__law_refused_right) (sc := defScope s__law_refused_right) (by decide +kernel)) (fun _ _ _ _ _ => (pg_name (i := 8) sc__law_refused_right.nd rfl (.inl rfl))) (fun _ _ _ _ _ => pts_nil) (fun _ _ _ _ _ => (pe_ifExp (pt_val (pe_callB (call_isiB (K := K) rfl) (by rfl) z.isinstance (by decide +kernel) (pa_cons (pv 8) (pa_cons (pe_bltn (v := .ty "list") (by rfl) z.list (by decide +kernel) rfl) pa_nil)))) (pe_callTy (call_list_ofB (K := K) rfl) (by rfl) z.list (by decide +kernel) (pa_cons (pv 8) pa_nil)) (pv 8))))
          (pss_cons (ps_set (i := 9) sc__law_refused_right.nd rfl (.inl rfl) (pe_cal c__law_met hr (pa_cons (pv 5) (pa_cons (pe_ix ix_list (pv 7) pe_int (fun _ _ => rfl)) (pa_cons (pe_ix ix_list (pv 7) pe_int (fun _ _ => rfl)) (pa_cons (pe_ix ix_list (pe_lst (pa_cons pe_non (pa_cons (pe_tup pa_nil) pa_nil))) (pe_cal c__law_take hr (pa_cons (pv 0) (pa_cons pe_int pa_nil))) (fun _ _ => rfl)) pa_nil))))))
          (pss_cons (ps_set (i := 10) sc__law_refused_right.nd rfl (.inl rfl) (pe_ix ix_list (pv 7) (pe_ix ix_list (pv 6) pe_int (fun _ _ => rfl)) (fun _ _ => rfl)))
          (pss_cons (ps_if (pt_val (pe_callB call_isi (by rfl) z.isinstance (by decide +kernel) (pa_cons (pv 10) (pa_cons (pe_bltn (v := .ty "list") (by rfl) z.list (by decide +kernel) rfl) pa_nil))))
            (pss_one (ps_expr (pe_bm PySem.F.plainAttrs_list PySem.F.slot_list_append PySem.F.type_list_append mt_append (pv 10) (pa_cons (pe_strS (l := [122]) (by decide +kernel)) pa_nil))))
            pss_nil)
          (pss_one (ps_if (PW.pt (pw_or (pt_cmpR op_ne (pe_ix ix_list (pv 9) pe_int (fun _ _ => rfl)) (pe_strS (l := [116, 101, 120, 116]) (by decide +kernel)) (nomark _)) (pw_or1 (pt_cmpR op_ne (pe_callB (call_repW quiet hr.units) (by rfl) z.repr (by decide +kernel) (pa_cons (pe_ix ix_list (pv 9) pe_int (fun _ _ => rfl)) pa_nil)) (pe_callB (call_repW quiet hr.units) (by rfl) z.repr (by decide +kernel) (pa_cons (pv 10) pa_nil)) (nomark _)))))
            (pss_one (ps_ret pe_bl))
            pss_nil)))))))))
      (pss_one (ps_ret pe_bl)))), ?_⟩
    walk_at "rd"
    refine ⟨b, l, d, rfl, zl, by omega, B, by omega, fun u H1 hu B1 s1 => ?_⟩
    walk_at "rd"
    refine ⟨b, r, d + 2, rfl, zr, by omega, B1, by omega, fun v H2 hv B2 s2 => ?_⟩
    have s12 := s1.trans s2
    have k1 : NewKept H H1 (L2.del H2 b) := fun a o na ha => by rw [L2.del_ne (B.ne_new na)]; exact s2 _ _ (B.ne_new na) ha
    have k2 : NewKept H1 H2 (L2.del H2 b) := fun a o na ha => by rw [L2.del_ne (B1.ne_new na)]; exact ha
    have eu := el_bad (hu _ k1).1 (hu _ k1).2
    have ev := el_bad (hv _ k2).1 (hv _ k2).2
    have el : El K (L2.del H2 b) (.str (S l)) true := el_text zl (by omega)
    have er : El K (L2.del H2 b) (.str (S r)) true := el_text zr (by omega)
    walk_at "rd"
    refine i_rng (by omega) (by omega) ?_
    refine go_for walk_rangeZ (fun i σ H3 => ∃ (u5 u6 u7 u8 u9 u10 : Option V), σ = [some (.ref b), some (.str (S l)), some (.str (S r)), some u, some v, u5, u6, u7, u8, u9, u10] ∧ SB b H2 H3 ∧ BoxAt H3 b (d + 10 + 3 * i)) ⟨_, _, _, _, _, _, rfl, SB.refl _, B2.mono (by omega)⟩ (fun _ _ _ _ _ => trivial) (fun i x σ H3 H4 hi h y => ?_) (fun σ H3 h => ?_)
    · obtain ⟨u5, u6, u7, u8, u9, u10, rfl, s3, B3⟩ := h
      obtain ⟨rfl, rfl⟩ := y
      walk_at "rd"
      refine ⟨Nat.le_of_ble_eq_true rfl, fun p1 n1 => ?_⟩
      walk_at "rd"
      refine ⟨Nat.le_of_ble_eq_true rfl, fun p2 n2 => ?_⟩
      walk_at "rd"
      refine ⟨Nat.le_of_ble_eq_true rfl, fun p3 n3 => ?_⟩
      walk_at "rd"
      refine ⟨Nat.le_of_ble_eq_true rfl, fun p4 n4 => ?_⟩
      walk_at "rd"
      have sA := Same.upd_new (o := .lst [.ref p1, .ref p2, .ref p3]) (Same.upd_new (o := .lst [u, v, .int 0]) (Same.upd_new (o := .lst [.str (S l), v, .int 1]) (same_upd (o := .lst [u, .str (S r), .int 0]) n1) n2) n3) n4
      have e1 := upd_old (o := .lst [.ref p1, .ref p2, .ref p3]) n4 (upd_old (o := .lst [u, v, .int 0]) n3 (upd_old (o := .lst [.str (S l), v, .int 1]) n2 (upd_same (H := H4) (a := p1) (o := .lst [u, .str (S r), .int 0]))))
      have e2 := upd_old (o := .lst [.ref p1, .ref p2, .ref p3]) n4 (upd_old (o := .lst [u, v, .int 0]) n3 (upd_same (H := upd H4 p1 (.lst [u, .str (S r), .int 0])) (a := p2) (o := .lst [.str (S l), v, .int 1])))
      have e3 := upd_old (o := .lst [.ref p1, .ref p2, .ref p3]) n4 (upd_same (H := upd (upd H4 p1 (.lst [u, .str (S r), .int 0])) p2 (.lst [.str (S l), v, .int 1])) (a := p3) (o := .lst [u, v, .int 0]))
      have e4 := upd_same (H := upd (upd (upd H4 p1 (.lst [u, .str (S r), .int 0])) p2 (.lst [.str (S l), v, .int 1])) p3 (.lst [u, v, .int 0])) (a := p4) (o := .lst [.ref p1, .ref p2, .ref p3])
      generalize upd (upd (upd (upd H4 p1 (.lst [u, .str (S r), .int 0])) p2 (.lst [.str (S l), v, .int 1])) p3 (.lst [u, v, .int 0])) p4 (.lst [.ref p1, .ref p2, .ref p3]) = H5 at *
      have pb1 : p1 ≠ b := B3.ne_new n1
      have pb2 : p2 ≠ b := B3.ne_new ((same_upd n1).free n2)
      have pb3 : p3 ≠ b := B3.ne_new ((Same.upd_new (same_upd n1) n2).free n3)
      have pb4 : p4 ≠ b := B3.ne_new ((Same.upd_new (Same.upd_new (same_upd n1) n2) n3).free n4)
      have B5 := B3.same sA
      have s5 := s3.trans (SB.of sA)
      have d5 := del_sb s5
      have R1 : RowOk K (L2.del H5 b) p1 := ⟨_, _, 0, _, _, (L2.del_ne pb1).trans e1, eu.same d5, er.same d5, .inl ⟨rfl, rfl⟩⟩
      have R2 : RowOk K (L2.del H5 b) p2 := ⟨_, _, 1, _, _, (L2.del_ne pb2).trans e2, el.same d5, ev.same d5, .inr ⟨rfl, rfl, rfl⟩⟩
      have R3 : RowOk K (L2.del H5 b) p3 := ⟨_, _, 0, _, _, (L2.del_ne pb3).trans e3, eu.same d5, ev.same d5, .inl ⟨rfl, rfl⟩⟩
      refine i_sqL (sqL_of e4) ?_
      refine go_for (walk_list (xs := [.ref p1, .ref p2, .ref p3])) (fun j σ H6 => ∃ (u6 u7 u8 u9 u10 : Option V), σ = [some (.ref b), some (.str (S l)), some (.str (S r)), some u, some v, some (.int (i : Int)), u6, u7, u8, u9, u10] ∧ SB b H5 H6 ∧ BoxAt H6 b (d + 10 + 3 * i + j)) ⟨_, _, _, _, _, rfl, SB.refl _, B5.mono (by omega)⟩ (fun j σ H6 _ h => ?_) (fun j x σ H6 H7 hj h y => ?_) (fun σ H6 h => ?_)
      · obtain ⟨_, _, _, _, _, _, s, _⟩ := h
        exact sqL_of (s _ _ pb4 e4)
      · obtain ⟨u6, u7, u8, u9, u10, rfl, s6, B6⟩ := h
        obtain ⟨rfl, hv'⟩ := y
        have hj3' : j < 3 := hj
        obtain ⟨q, rfl, R⟩ : ∃ q, x = .ref q ∧ RowOk K (L2.del H5 b) q := by
          have hj3 : j = 0 ∨ j = 1 ∨ j = 2 := by simp only [List.length_cons, List.length_nil] at hj; omega
          rcases hj3 with rfl | rfl | rfl
          · exact ⟨p1, (Option.some.inj hv').symm, R1⟩
          · exact ⟨p2, (Option.some.inj hv').symm, R2⟩
          · exact ⟨p3, (Option.some.inj hv').symm, R3⟩
        obtain ⟨x, y, kk, bx, by', eq', ex, ey, hk⟩ := R.same (del_sb s6)
        have eq := del_sub _ _ eq'
        walk_at "rd"
        refine ⟨q, _, rfl, sqL_of eq, fun ps nps => ?_⟩
        rw [show cutV [x, y, .int (kk : Int)] none (some 2) = [x, y] from rfl]
        have t1 := same_upd (o := .lst [x, y]) nps
        have es := upd_same (H := H7) (a := ps) (o := .lst [x, y])
        generalize upd H7 ps (.lst [x, y]) = H8 at *
        have s8 := s6.trans (SB.of t1)
        have B8 := B6.same t1
        have t1d := del_sb (b := b) (SB.of t1)
        walk_at "rd"
        refine i_sqL (sqL_of es) ?_
        refine go_lc (walk_list (xs := [x, y])) (fun p n H9 => Same H8 H9 ∧ ∃ ws : List V, ws.length = n ∧ H9 p = some (.lst ws) ∧ ∀ m x' w, m < n → ([x, y] : List V)[m]? = some x' → ws[m]? = some w → CpyP K p (L2.del H8 b) (L2.del H9 b) x' w)
          (fun p np => ⟨same_upd np, [], rfl, upd_same, fun m _ _ hm => by omega⟩) (fun p n H9 _ h => sqL_of (h.1 _ _ es)) (fun p np n x0 H9 HA hn h y0 => ?_) (fun p H9 np h => ?_)
        · obtain ⟨s9, ws, lw, ew, hw⟩ := h
          obtain ⟨rfl, hx0⟩ := y0
          obtain ⟨b0, ex0⟩ : ∃ b0, El K (L2.del H8 b) x0 b0 := by
            have hn2 : n = 0 ∨ n = 1 := by simp only [List.length_cons, List.length_nil] at hn; omega
            rcases hn2 with rfl | rfl
            · cases hx0; exact ⟨bx, ex.same t1d⟩
            · cases hx0; exact ⟨by', ey.same t1d⟩
          obtain ⟨_, _, ec⟩ := ex0
          have lw2 : ws.length < 2 := by simp only [List.length_cons, List.length_nil] at hn; omega
          have npb : p ≠ b := B8.ne_new np
          have fin : ∀ (w : V) (HB : Hp), Same HA HB → (∀ o, CpyP K p (L2.del H8 b) (upd (L2.del HB b) p o) x0 w) → HB p = some (.lst ws) ∧ ws.length < sizeLine ∧ Same H8 (upd HB p (.lst (ws ++ [w]))) ∧ ∃ ws' : List V, ws'.length = n + 1 ∧ upd HB p (.lst (ws ++ [w])) p = some (.lst ws') ∧ ∀ m x' w', m < n + 1 → ([x, y] : List V)[m]? = some x' → ws'[m]? = some w' → CpyP K p (L2.del H8 b) (L2.del (upd HB p (.lst (ws ++ [w]))) b) x' w' := by
            intro w HB sB cB
            rw [del_upd npb]
            refine ⟨sB _ _ ew, Nat.lt_of_lt_of_le lw2 (by decide), Same.set_new (s9.trans sB) np, ws ++ [w], by rw [List.length_append, lw]; rfl, upd_same, fun m x' w' hm hx' hw' => ?_⟩
            by_cases c : m = n
            · subst c
              rw [hx0] at hx'
              cases hx'
              rw [List.getElem?_append_right (by omega), lw, Nat.sub_self] at hw'
              cases hw'
              exact cB _
            · rw [List.getElem?_append_left (by omega)] at hw'
              exact (hw m x' w' (by omega) hx' hw').next (del_sb (SB.of sB))
          walk_at "rd"
          refine ⟨rfl, i_yes (iteT ?_)⟩
          walk_at "rd"
          rcases ec with ⟨ty, dd, h1, h2, h3⟩ | ⟨a, l0, rfl, ha, hl0, hl1⟩
          · refine i_isi false (TyX.same (Same.trans del_sub s9) h1) h2 ?_
            walk_at "rd"
            exact ⟨ws, fin x0 HA (Same.refl _) fun o => .inl ⟨rfl, ty, dd, h1, h2, h3⟩⟩
          · have haA := s9 _ _ (del_sub _ _ ha)
            refine i_isi true (.base (.lst haA)) (kit_ty (by decide +kernel)) ?_
            walk_at "rd"
            refine ⟨a, _, rfl, .inl (sqL_of haA), fun a' na' => ?_⟩
            have nap : a' ≠ p := Ne.symm (ne_of_none ew na')
            have nab : a' ≠ b := (B8.same s9).ne_new na'
            exact ⟨ws, fin (.ref a') _ (same_upd na') fun o => .inr ⟨a, a', l0, rfl, rfl, ha, by rw [L2.upd_ne nap, L2.del_ne nab]; exact upd_same, hl0, hl1, by rw [L2.del_ne nab]; exact s9.free na', nap⟩⟩
        · obtain ⟨s9, ws, lw, ew, hw⟩ := h
          obtain ⟨w1, w2, rfl⟩ : ∃ w1 w2, ws = [w1, w2] := by
            rcases ws with _ | ⟨a, _ | ⟨b, _ | ⟨c, ts⟩⟩⟩
            · cases lw
            · cases lw
            · exact ⟨a, b, rfl⟩
            · simp at lw
          have c1 := (hw 0 x w1 (by simp) rfl rfl).done (del_sb (SB.of s9))
          have c2 := (hw 1 y w2 (by simp) rfl rfl).done (del_sb (SB.of s9))
          have ex9 := (ex.same t1d).same (del_sb (SB.of s9))
          have ey9 := (ey.same t1d).same (del_sb (SB.of s9))
          have i1 := c1.isT ex9.1
          have i2 := c2.isT ey9.1
          have eq9 := s9 _ _ (t1 _ _ eq)
          have s59 := s8.trans (SB.of s9)
          have B9 := B8.same s9
          walk_at "rd"
          refine ⟨Nat.zero_le _, fun pt npt => ?_⟩
          walk_at "rd"
          refine ⟨Nat.le_of_ble_eq_true rfl, fun pm npm => ?_⟩
          have u1 := same_upd (o := .tup []) npt
          have u2 := same_upd (o := .lst [.non, .ref pt]) npm
          have em := upd_same (H := upd H9 pt (.tup [])) (a := pm) (o := .lst [.non, .ref pt])
          have B11 := (B9.same u1).same u2
          have pmb : pm ≠ b := (B9.same u1).ne_new npm
          have u12 := u1.trans u2
          generalize upd (upd H9 pt (.tup [])) pm (.lst [.non, .ref pt]) = H11 at *
          walk_at "rd"
          refine ⟨b, 2, _, rfl, B11, by omega, by omega, by omega, fun wq H12 wq0 wq1 B12 sQ => ?_⟩
          have em' := sQ _ _ pmb em
          obtain ⟨vv0, ev0⟩ : ∃ vv0, ([.non, .ref pt] : List V)[wq.toNat]? = some vv0 := by
            have hw : wq = 0 ∨ wq = 1 := by omega
            rcases hw with rfl | rfl
            · exact ⟨_, rfl⟩
            · exact ⟨_, rfl⟩
          refine i_ixLv em' wq0 ev0 ?_
          have sd12 : Same (L2.del H9 b) (L2.del H12 b) := Same.trans (del_sb (SB.of u12)) (del_sb sQ)
          have s912 : SB b H9 H12 := (SB.of u12).trans sQ
          have i1 := (i1.same sd12).same del_sub
          have i2 := (i2.same sd12).same del_sub
          have bad : ∀ a b', w1 = .str (S a) → w2 = .str (S b') → azB a = true → azB b' = true → False := fun a b' ea eb za zb => by
            subst ea eb
            rcases hk with ⟨_, e⟩ | ⟨_, _, e⟩
            · rw [e] at i1; rw [isT_bad i1] at za; cases za
            · rw [e] at i2; rw [isT_bad i2] at zb; cases zb
          walk_at "rd"
          refine ⟨i, w1, w2, vv0, bx, by', rfl, i1, i2, fun _ a b' ea eb za zb => (bad a b' ea eb za zb).elim, fun _ a b' ea eb za zb => (bad a b' ea eb za zb).elim, fun vv hv t HA sA nt lt et => ?_⟩
          obtain ⟨xk, hwk, ck⟩ : ∃ xk, ([w1, w2] : List V)[kk]? = some vv ∧ Cpy K (L2.del H8 b) (L2.del H9 b) xk vv := by
            rcases hk with ⟨rfl, e⟩ | ⟨rfl, e1, e2⟩
            · rcases hv with ⟨_, rfl⟩ | ⟨h, _⟩
              · exact ⟨x, rfl, c1⟩
              · rw [e] at h; cases h
            · rcases hv with ⟨h, _⟩ | ⟨_, _, rfl⟩
              · rw [e1] at h; cases h
              · exact ⟨y, rfl, c2⟩
          have qb : q ≠ b := fun e => by rw [e, L2.del_same] at eq'; cases eq'
          have eq9 := s912 _ _ qb eq9
          have pb : p ≠ b := B8.ne_new np
          have ew := s912 _ _ pb ew
          have ck := ck.same sd12
          have s59 := s59.trans s912
          have eqA := sA _ _ eq9
          have epA := sA _ _ ew
          have s5A := s59.trans (SB.of sA)
          have BA := B12.same sA
          have sAd := del_sb (b := b) (SB.of sA)
          walk_at "rd"
          refine i_ixLv epA (by omega) (by rw [Int.toNat_natCast]; exact hwk) ?_
          walk_at "rd"
          rcases ck.same sAd with ⟨rfl, ty, dd, h1, h2, h3⟩ | ⟨a, a', l0, _, rfl, _, q2d, r1, r2, r3⟩
          · have h1 := TyX.same del_sub h1
            have h3 := h3.same del_sub
            refine i_isi false h1 h2 ?_
            walk_at "rd"
            rw [show decide (text = [116, 101, 120, 116]) = true from rfl]
            walk_at "rd"
            refine i_repW h3 (by omega) (by omega) ?_
            walk_at "rd"
            refine i_repW h3 (by omega) (by omega) ?_
            walk_at "rd"
            refine ⟨rfl, ?_⟩
            rw [decide_eq_true rfl]
            walk_at "rd"
            exact ⟨_, _, _, _, _, rfl, s5A, BA.mono (by omega)⟩
          · have q2 := del_sub _ _ q2d
            have nab : a' ≠ b := fun e => by rw [e, L2.del_same] at q2d; cases q2d
            refine i_isi true (.base (.lst q2)) (kit_ty (by decide +kernel)) ?_
            walk_at "rd"
            refine i_append q2 (by show 1 < sizeLine; decide) ?_
            have nta : t ≠ a' := by
              rcases ck with ⟨rfl, ty, dd, h1, h2, h3⟩ | ⟨_, a2, _, _, e2, _, q9, _⟩
              · rintro rfl
                cases h1 with
                | base hb => cases hb <;> simp_all
                | _ => simp_all
              · cases e2
                exact Ne.symm (ne_of_none (del_sub _ _ q9) nt)
            have etB := upd_skip (o := .lst ([.str (S l0)] ++ [.str (S [122])])) nta et
            have eaB := upd_same (H := HA) (a := a') (o := .lst ([.str (S l0)] ++ [.str (S [122])]))
            have sB : SB b H5 (upd HA a' (.lst ([.str (S l0)] ++ [.str (S [122])]))) := SB.set_new s5A (s8.free B8 (by rw [L2.del_ne nab] at r3; exact r3))
            have BB := BA.upd_ne (o := .lst ([.str (S l0)] ++ [.str (S [122])])) nab
            generalize upd HA a' (.lst ([.str (S l0)] ++ [.str (S [122])])) = HB at *
            have dB : Dc 1 2002 K HB (.ref a') (.list [.str (S l0), .str (S [122])]) := .inl ⟨.lst (sqL_of eaB) (.cons (.str _) (.cons (.str _) .nil)), (small_lst (n := 0) (w := 1000) fun x hx => by
              simp only [List.mem_cons, List.not_mem_nil, or_false] at hx
              rcases hx with rfl | rfl
              · exact small_str r1 r2
              · exact small_str (by simp) (by simp)).mono (by omega) (by simp)⟩
            walk_at "rd"
            rw [show decide (text = [116, 101, 120, 116]) = true from rfl]
            walk_at "rd"
            refine i_repW dB (by omega) (by omega) ?_
            walk_at "rd"
            refine i_repW dB (by omega) (by omega) ?_
            walk_at "rd"
            refine ⟨rfl, ?_⟩
            rw [decide_eq_true rfl]
            walk_at "rd"
            exact ⟨_, _, _, _, _, rfl, sB, BB.mono (by omega)⟩
      · obtain ⟨u6, u7, u8, u9, u10, rfl, s6, B6⟩ := h
        exact ⟨_, _, _, _, _, _, rfl, s5.trans s6, B6.mono (by simp only [List.length_cons, List.length_nil]; omega)⟩
    · obtain ⟨u5, u6, u7, u8, u9, u10, rfl, s3, B3⟩ := h
      walk_at "rd"
      exact k _ (B3.mono (by omega)) (s12.trans s3)
end
end Sw
namespace Sw
open PySem PySem.Spec PyProof.Rows L2
local macro_rules | `(tactic| walk_at "hp") => `(tactic| first
  | (with_reducible assumption) | (with_reducible exact upd_same)
  | ((with_reducible refine' upd_old ?q1 ?q2); (case q1 => (with_reducible assumption)); (case q2 => walk_at "hp"))
  | ((with_reducible refine' Same.at ?q1 ?q2); (case q1 => (with_reducible assumption)); (case q2 => walk_at "hp"))
  | ((with_reducible refine' upd_skip ?q1 ?q2); (case q1 => walk_at "ne"); (case q2 => walk_at "hp"))
  | fail)
local macro_rules | `(tactic| walk_at "ne") => `(tactic| first
  | (with_reducible assumption) | (with_reducible exact Ne.symm (by assumption))
  | ((with_reducible refine' ne_of_none ?q1 ?q2); (case q2 => (with_reducible assumption)); (case q1 => walk_at "hp"))
  | fail)
local macro_rules | `(tactic| walk_at "ci") => `(tactic| first | assumption | (show (0 : Int) < _; first | decide | (with_reducible omega)) | exact ⟨by decide, by decide⟩ | exact .inl ⟨by decide, by decide⟩ | exact .inr ⟨by decide, by decide⟩)
local macro_rules | `(tactic| walk_at "ln") => `(tactic| first | (with_reducible assumption) | (with_reducible omega) | (simp only [List.length_append, List.length_take, List.length_drop, List.length_reverse, List.length_cons, List.length_nil]; with_reducible omega))
local macro_rules | `(tactic| walk_at "rd1") => `(tactic| first
  | (with_reducible refine i_seq ?_) | (with_reducible refine i_asg ?_) | (with_reducible refine i_ret ?_) | (with_reducible refine i_name ?_) | ((with_reducible refine' i_var ?q1 ?_); (case q1 => exact rfl)) | (with_reducible refine i_c ?_) | (with_reducible refine i_op ?_) | (with_reducible refine i_un ?_)
  | (with_reducible refine i_rI0 ?_) | (with_reducible refine i_cb ?_) | (with_reducible refine i_cons ?_) | (with_reducible refine i_nil ?_) | (with_reducible refine i_call ?_) | (with_reducible refine i_if ?_) | (with_reducible refine i_ifE ?_) | (with_reducible refine i_test ?_) | (with_reducible refine i_bl ?_)
  | (with_reducible refine i_and ?_) | (with_reducible refine i_or ?_) | (with_reducible refine i_not ?_) | (with_reducible refine i_lst ?_) | (with_reducible refine i_tup ?_) | (with_reducible refine i_next ?_) | (with_reducible refine i_drop ?_) | (with_reducible refine i_sub ?_)
  | (with_reducible refine i_bm ?_) | (with_reducible refine i_sl ?_) | (with_reducible refine i_part ?_) | (with_reducible refine i_nopart ?_) | (with_reducible refine i_exI ?_) | (with_reducible refine i_chain ?_) | ((with_reducible refine' i_aug ?q1 ?_); (case q1 => exact rfl)) | (with_reducible refine i_ip ?_)
  | (with_reducible refine i_par ?_) | (with_reducible refine i_pair ?_) | (with_reducible refine i_andV ?_) | (with_reducible refine i_orV ?_) | (with_reducible refine i_notV ?_) | (with_reducible refine i_m1 ?_) | (with_reducible refine i_str ?_)
  | (with_reducible refine iteF ?_) | (with_reducible refine iteT ?_) | (with_reducible refine iteNT ?_) | (with_reducible refine iteNF ?_) | (with_reducible refine i_tyS ?_) | (with_reducible refine i_tB ?_) | (with_reducible refine i_retN ?_) | (with_reducible refine i_par3 ?_) | (with_reducible refine i_trip ?_) | (with_reducible refine i_gCons ?_) | (with_reducible refine i_gNil ?_) | (with_reducible refine i_lstRg ?_) | (with_reducible refine i_rg1 ?_)
  | (with_reducible refine i_lc ?_) | (with_reducible refine i_for ?_) | (with_reducible refine i_iList ?_) | (with_reducible refine i_iTup ?_) | (with_reducible refine i_iStr ?_) | (with_reducible refine i_iRng1 ?_) | (with_reducible refine i_iEnS ?_)
  | ((with_reducible refine' i_ixTH ?q1 ?q2 ?_); (case q1 => walk_at "hp"); (case q2 => exact rfl))
  | ((with_reducible refine' i_ixLH ?q1 ?q2 ?_); (case q1 => walk_at "hp"); (case q2 => exact rfl))
  | ((with_reducible refine i_addS ?q1 ?_); (case q1 => walk_at "ln")) | ((with_reducible refine i_lenSS ?q1 ?_); (case q1 => walk_at "ln")) | ((with_reducible refine i_slFrom ?q1 ?q2 ?_); (case q1 => walk_at "ln"); (case q2 => walk_at "ln")) | ((with_reducible refine i_slTo ?q1 ?q2 ?_); (case q1 => walk_at "ln"); (case q2 => walk_at "ln"))
  | ((with_reducible refine' i_tyL ?q1 ?_); (case q1 => walk_at "hp"))
  | ((with_reducible refine' i_gTupH ?q1 ?q2 ?_); (case q1 => walk_at "hp"); (case q2 => exact rfl))
  | (with_reducible refine i_dnew ?_) | (with_reducible refine i_init ?_) | (with_reducible refine i_fst ?_) | (with_reducible refine i_mk ?_) | (with_reducible refine i_raise ?_) | (with_reducible refine i_callS ?_) | (with_reducible refine i_kwS ?_)
  | (with_reducible refine i_revT ?_) | (with_reducible refine i_kw ?_) | ((with_reducible refine' ⟨_, _, rfl, sqT_of ?q1, ?_⟩); (case q1 => walk_at "hp"))
  | (with_reducible refine i_revS ?_) | ((with_reducible refine i_revSS ?q1 ?_); (case q1 => walk_at "ln"))
  | (with_reducible refine i_startS ?_) | (with_reducible refine i_inSg ?_) | (with_reducible refine i_absN ?_) | (with_reducible refine i_min2 ?_) | (with_reducible refine i_max2 ?_) | (with_reducible refine i_min3 ?_) | (with_reducible refine i_intN ?_) | (with_reducible refine i_intNB ?_)
  | ((with_reducible refine' i_lenL ?q1 ?_); (case q1 => walk_at "hp")) | ((with_reducible refine' i_lenT ?q1 ?_); (case q1 => walk_at "hp"))
  | (with_reducible refine i_eqI ?_) | (with_reducible refine i_neI ?_) | (with_reducible refine i_eqS ?_) | (with_reducible refine i_neS ?_) | (with_reducible refine i_isNoI ?_) | (with_reducible refine i_isNoN ?_) | (with_reducible refine i_isNoR ?_)
  | ((with_reducible refine i_pow ?q1 ?q2 ?q3 ?_); (case q1 => decide); (case q2 => decide); (case q3 => (with_reducible omega)))
  | ((with_reducible refine i_rI ?q1 ?_); (case q1 => walk_at "ci"))
  | (with_reducible refine Or.inl ⟨_, rfl, ?_⟩) | (with_reducible refine Or.inr ⟨_, rfl, ?_⟩) | (with_reducible refine ⟨_, rfl, ?_⟩) | (with_reducible refine ⟨_, _, rfl, ?_⟩) | (with_reducible refine ⟨_, _, rfl, rfl, ?_⟩)
  | ((with_reducible refine' ⟨_, _, rfl, Or.inl (sqL_of ?q1), ?_⟩); (case q1 => walk_at "hp")) | ((with_reducible refine' ⟨_, _, rfl, Or.inr (sqT_of ?q1), ?_⟩); (case q1 => walk_at "hp")) | fail)
local macro_rules | `(tactic| walk_at "rd") => `(tactic| repeat' walk_at "rd1")

/-- law(script) -/
def spLaw (K : PySem.W.Frag) : Sp := fun vs H Q _ => ∃ (a : Addr) (ns : List Int), vs = [.ref a] ∧ SqL K H a (ns.map V.int) ∧ ∀ H', Same H H' → Q (.bl true) H'
section
variable {P : Program} {w : World} {K : PySem.W.Frag} {mg : Str → Option Value} {base : Heap} {f : Addr} {fd : FuncData}
theorem ok_law (F : Fun K "law" "law" s_law f fd) (z : Z mg) (c__law_texts : Cal P w K mg base "_law_texts" ["box"] 3 spTexts) (q__law_right : CalG P w K mg base "_law_right" ["box", "first", "second"] 6 spRight) (q__law_refused_right : CalG P w K mg base "_law_refused_right" ["box", "first", "second"] 6 spRefused) (c__law_long_right : Cal P w K mg base "_law_long_right" ["box"] 6 spLong)
    (c__law_box : Cal P w K mg base "_law_box" ["great"] 1 spBox) (c__law_cell : Cal P w K mg base "_law_cell" ["script", "k"] 1 (spCell K)) : FnG P w K mg base CX0 7 f fd ["script"] (spLaw K) := by
  refine Sw.Fun.okG0 F sc_law (fun vs H Q E h => ?_) (fun cdv A outer s H vs Q E hr quiet h => ?_)
  · obtain ⟨a, ns, rfl, _⟩ := h; rfl
  · obtain ⟨a, ns, rfl, L, k⟩ := h
    refine ⟨_, (pss_cons (ps_for PassesOwn.never rfl (pi_range1 (by rfl) z.range (pa_cons (pe_callB (call_max2N rfl) (by rfl) z.max_ (by decide +kernel) (pa_cons pe_int (pa_cons (pe_callB (call_min2N rfl) (by rfl) z.min_ (by decide +kernel) (pa_cons pe_int (pa_cons (pe_callB call_lenQ (by rfl) z.len PySem.boot_len (pa_cons (pv 0) pa_nil)) pa_nil))) pa_nil))) pa_nil)) (pg_name (i := 1) sc_law.nd rfl (.inl rfl))
        (pss_cons (ps_set (i := 2) sc_law.nd rfl (.inl rfl) (pe_cal c__law_box hr (pa_cons (pe_cal c__law_cell hr (pa_cons (pv 0) (pa_cons (pv 1) pa_nil))) pa_nil)))
        (pss_cons (ps_asg (pe_cal c__law_texts hr (pa_cons (pv 2) pa_nil)) (pg_lst rfl (pgs_cons (pg_name (i := 3) sc_law.nd rfl (.inl rfl)) (pgs_cons (pg_name (i := 4) sc_law.nd rfl (.inl rfl)) pgs_nil))))
        (pss_cons (ps_if (PW.pt (pw_or (pt_not (pt_val (pe_calG q__law_right hr quiet (pa_cons (pv 2) (pa_cons (pv 3) (pa_cons (pv 4) pa_nil)))))) (pw_or1 (pt_not (pt_val (pe_calG q__law_refused_right hr quiet (pa_cons (pv 2) (pa_cons (pv 3) (pa_cons (pv 4) pa_nil)))))))))
          (pss_one (ps_ret pe_bl))
          pss_nil)
        (pss_one (ps_if (PW.pt (pw_and (pt_cmpR op_eq (pv 1) pe_int (nomark _)) (pw_and1 (pt_not (pt_val (pe_cal c__law_long_right hr (pa_cons (pv 2) pa_nil)))))))
          (pss_one (ps_ret pe_bl))
          pss_nil))))))
      (pss_one (ps_ret pe_bl))), ?_⟩
    walk_at "rd"
    refine i_lenK L ?_
    walk_at "rd"
    rw [List.length_map]
    refine i_rng (by omega) (by omega) ?_
    refine go_for walk_rangeZ (fun i σ H2 => ∃ u1 u2 u3 u4, σ = [some (.ref a), u1, u2, u3, u4] ∧ Same H H2) ⟨none, none, none, none, rfl, Same.refl _⟩ (fun _ _ _ _ _ => trivial) (fun i v σ H2 H3 hi p y => ?_) (fun σ H2 p => ?_)
    · obtain ⟨u1, u2, u3, u4, rfl, s2⟩ := p
      obtain ⟨rfl, rfl⟩ := y
      walk_at "rd"
      refine ⟨a, ns, i, rfl, Same.sqL s2 L, by omega, by omega, fun v H4 s4 => ?_⟩
      walk_at "rd"
      refine ⟨v, rfl, fun b H5 nb s5 B5 => ?_⟩
      walk_at "rd"
      refine ⟨b, 0, rfl, B5, by omega, fun pp l r H6 np e6 ll lr zl zr B6 s6 => ?_⟩
      walk_at "rd"
      refine ⟨pp, _, rfl, sqL_of e6, rfl, ?_⟩
      walk_at "rd"
      refine ⟨b, l, r, _, rfl, zl, zr, ll, lr, B6, by omega, fun H7 B7 s7 => ?_⟩
      walk_at "rd"
      refine ⟨b, l, r, _, rfl, zl, zr, by omega, by omega, B7, by omega, fun H8 B8 s8 => ?_⟩
      have keep : ∀ {H9 : Hp}, SB b H8 H9 → Same H H9 := fun s9 x o e => by
        have e4 := s4 _ _ (s2 _ _ e)
        have nxb : x ≠ b := ne_of_none e4 nb
        exact s9 _ _ nxb (s8 _ _ nxb (s7 _ _ nxb (s6 _ _ nxb (s5 _ _ e4))))
      walk_at "rd"
      refine iteB (fun _ => ?_) (fun _ => ?_)
      · walk_at "rd"
        refine ⟨b, _, rfl, B8, by omega, fun H9 _ s9 => ?_⟩
        walk_at "rd"
        exact ⟨_, _, _, _, rfl, keep s9⟩
      · walk_at "rd"
        exact ⟨_, _, _, _, rfl, keep (SB.refl _)⟩
    · obtain ⟨u1, u2, u3, u4, rfl, s2⟩ := p
      walk_at "rd"
      exact k _ s2
end
end Sw
namespace Sw
open PySem PySem.Spec PyProof.Rows L2
theorem def_mk {K : PySem.W.Frag} {h : Heap} {mg : Str → Option Value} {x : Str} {st : Stmt} {f : Addr} {od an : Option Addr} {sl : Array (Option Value)} {oc kV dc pm cd ct : Value} (X : K.In h) (G : h.Ns mainGlobals mg)
    (a : PySem.W.nsIn K mainGlobals x = some (some (.ref f))) (l : K.lookup f = some ⟨oc, od, .func (PySem.W.fnOf x x (defArgs st) (defBody st) (defScope st) .none kV dc pm an cd ct), sl⟩) (c : PySem.W.codeIn K cd x = true) (k : PySem.W.keepIn K (.ref f) = true) : Def K mg x st :=
  ⟨f, _, fun_mk l c k, PySem.W.mg_of X G a⟩
theorem oex_mk {K : PySem.W.Frag} {C B N : Addr} {nm q : Str} {bs : List Value} {sn : List Str} {sub : List Value} {ab : Bool} {col : Option Bool} {dd : Option Addr} {k0 k1 k2 k3 k5 : Option Value}
    (h : K.lookup C = some (excClassObj nm q C N bs [.ref B, .type "Exception", .type "BaseException", .type "object"] true sn sub ab col dd k0 k1 k2 k3 k5 "Exception.__new__")) (sa : PySem.W.findIn K (.ref C) "__setattr__" = some (some (.builtin "object.__setattr__"))) (exC : PySem.W.subIn K (.ref C) (.type "BaseException") = some true)
    (tyC : PySem.W.typeIn K (.ref C) = some (.type "type")) (kC : PySem.W.keepIn K (.ref C) = true) : OexE K C := ⟨⟨nm, q, N, bs, [B], sn, sub, ab, col, dd, k0, k1, k2, k3, k5, h⟩, sa, exC, tyC, kC⟩
theorem exm_mk {K : PySem.W.Frag} {c : Value} (h1 : PySem.W.subIn K c (.type "BaseException") = some true) (h2 : PySem.W.kitCls K c c = some true) : PySem.W.exmOne K c c = some true := by
  unfold PySem.W.exmOne
  rw [h1]
  exact h2
/-- the class, its own __init__ apart -/
structure XC (K : PySem.W.Frag) (mg : Str → Option Value) (C B : Addr) : Prop where
  T : OexE K C
  xf : XfC K C
  no : PySem.W.findIn K (.ref C) "given" = some none
  hm : mg "InvalidText" = some (.ref C)
  me : PySem.W.exmOne K (.ref C) (.ref C) = some true
  ov : Over K mg B
  ini : ∃ (fI : Addr) (fd : FuncData), PySem.W.findIn K (.ref C) "__init__" = some (some (.ref fI)) ∧ PySem.W.typeIn K (.ref fI) = some (.type "function") ∧ Fun K "__init__" "InvalidText.__init__" s_init fI fd
theorem ini_mk {K : PySem.W.Frag} {C fI : Addr} {od an : Option Addr} {sl : Array (Option Value)} {oc kV dc pm cd ct : Value} (i : PySem.W.findIn K (.ref C) "__init__" = some (some (.ref fI))) (t : PySem.W.typeIn K (.ref fI) = some (.type "function"))
    (l : K.lookup fI = some ⟨oc, od, .func (PySem.W.fnOf "__init__" "InvalidText.__init__" (defArgs s_init) (defBody s_init) (defScope s_init) .none kV dc pm an cd ct), sl⟩) (c : PySem.W.codeIn K cd "InvalidText.__init__" = true) (k : PySem.W.keepIn K (.ref fI) = true) :
    ∃ (fI : Addr) (fd : FuncData), PySem.W.findIn K (.ref C) "__init__" = some (some (.ref fI)) ∧ PySem.W.typeIn K (.ref fI) = some (.type "function") ∧ Fun K "__init__" "InvalidText.__init__" s_init fI fd := ⟨fI, _, i, t, fun_mk l c k⟩
theorem all_mk {l : PySem.W.OpenLaw} {w : World} {K : PySem.W.Frag} {mg : Str → Option Value} {fa : Addr} (hfa : mg "law" = some (.ref fa)) (z : Z mg) {t_LETTERS : Tok} (g_LETTERS : mg "LETTERS" = some (.str (("abcdefghijklmnopqrstuvwxyz" : Str)) t_LETTERS)) {C B : Addr} (xc : XC K mg C B)
    (d_is_text : Def K mg "is_text" s_is_text) (d_check_text : Def K mg "check_text" s_check_text) (d_next_row : Def K mg "next_row" s_next_row) (d_table_of : Def K mg "table_of" s_table_of) (d_last_step : Def K mg "last_step" s_last_step) (d_alignment : Def K mg "alignment" s_alignment) (d_is_letter : Def K mg "is_letter" s_is_letter) (d_is_alignment_step : Def K mg "is_alignment_step" s_is_alignment_step) (d_is_alignment : Def K mg "is_alignment" s_is_alignment) (d__law_cell : Def K mg "_law_cell" s__law_cell) (d__law_box : Def K mg "_law_box" s__law_box) (d__law_take : Def K mg "_law_take" s__law_take) (d__law_changed : Def K mg "_law_changed" s__law_changed) (d__law_texts : Def K mg "_law_texts" s__law_texts) (d__law_table : Def K mg "_law_table" s__law_table) (d__law_drawn : Def K mg "_law_drawn" s__law_drawn) (d__law_is_letter : Def K mg "_law_is_letter" s__law_is_letter) (d__law_is_step : Def K mg "_law_is_step" s__law_is_step) (d__law_is : Def K mg "_law_is" s__law_is) (d__law_odd_step : Def K mg "_law_odd_step" s__law_odd_step) (d__law_bent : Def K mg "_law_bent" s__law_bent) (d__law_met : Def K mg "_law_met" s__law_met) (d__law_right : Def K mg "_law_right" s__law_right) (d__law_long_right : Def K mg "_law_long_right" s__law_long_right) (d__law_odd : Def K mg "_law_odd" s__law_odd) (d__law_refused_right : Def K mg "_law_refused_right" s__law_refused_right) (d_law : Def K mg "law" s_law) :
    ∃ fd : FuncData, (∀ (s : Shared) (v : Value), BindsTo s fd ⟨[v], []⟩ [("script", v)]) ∧ ∀ base : Heap, K.In base → base.Ns mainGlobals mg → FnG l.prog w K mg base CX0 7 fa fd ["script"] (spLaw K) := by
  obtain ⟨f, fd, F, e⟩ := d_law
  cases hfa.symm.trans e
  have F0 := F
  obtain ⟨oc, od, kV, doc, pm, an, cdv, ct, osl, rfl, lk, hcd⟩ := F.ex
  refine ⟨PySem.W.fnOf "law" "law" (defArgs s_law) (defBody s_law) (defScope s_law) .none kV doc pm an cdv ct, fun s v => .of_eq rfl, fun base _ _ => ?_⟩
  have xt : XT l.prog w K mg base C := by
    obtain ⟨fI, fdI, i1, i2, FI⟩ := xc.ini
    exact ⟨xc.T, xc.xf, xc.no, xc.hm, xc.me, fI, fdI, i1, i2, ok_init FI xc.ov, FI.binds fun _ _ _ _ _ _ us hl => match us, hl with | [_, _], _ => rfl⟩
  have c_it := Sw.Def.cal (P := l.prog) (w := w) (base := base) d_is_text (ps := ["value"]) (k := 1) (sp := (spIsText K)) (fun _ _ _ _ _ _ us hl => match us, hl with | [_], _ => rfl) fun f fd F => ok_is_text F z g_LETTERS
  have c_is_text := Sw.Def.cal (P := l.prog) (w := w) (base := base) d_is_text (ps := ["value"]) (k := 1) (sp := (spIsT K)) (fun _ _ _ _ _ _ us hl => match us, hl with | [_], _ => rfl) fun f fd F => ok_is_t (ok_is_text F z g_LETTERS)
  have x_ct := Sw.Def.calX (P := l.prog) (w := w) (base := base) d_check_text (ps := ["text"]) (k := 3) (sp := (spCheckX K C)) (fun _ _ _ _ _ _ us hl => match us, hl with | [_], _ => rfl) fun f fd F => ok_checkX F xt c_is_text
  have c_nr := Sw.Def.cal (P := l.prog) (w := w) (base := base) d_next_row (ps := ["row", "letter", "other"]) (k := 1) (sp := spNext) (fun _ _ _ _ _ _ us hl => match us, hl with | [_, _, _], _ => rfl) fun f fd F => ok_next F z
  have c_tab := Sw.Def.cal (P := l.prog) (w := w) (base := base) d_table_of (ps := ["one", "other"]) (k := 2) (sp := spTab) (fun _ _ _ _ _ _ us hl => match us, hl with | [_, _], _ => rfl) fun f fd F => ok_tab F z c_nr
  have c_ls := Sw.Def.cal (P := l.prog) (w := w) (base := base) d_last_step (ps := ["rows", "one", "other", "ends"]) (k := 1) (sp := (spStep K)) (fun _ _ _ _ _ _ us hl => match us, hl with | [_, _, _, _], _ => rfl) fun f fd F => ok_step F z
  have x_al := Sw.Def.calX (P := l.prog) (w := w) (base := base) d_alignment (ps := ["one", "other"]) (k := 4) (sp := (spAln K C)) (fun _ _ _ _ _ _ us hl => match us, hl with | [_, _], _ => rfl) fun f fd F => ok_alnX F z x_ct c_tab c_ls
  have kx_al := Sw.Def.calKX (P := l.prog) (w := w) (base := base) d_alignment (ps := ["one", "other"]) (ks := turnKs) (k := 4) (sp := (spAln K C)) (g := rev2) (gV := rev2)
    (fun kV doc pm an cdv ct us ws hl => by obtain ⟨rfl, b, a, rfl⟩ := rev2_inv hl; rfl) rev2_rel fun f fd F => ok_alnX F z x_ct c_tab c_ls
  have c_il := Sw.Def.cal (P := l.prog) (w := w) (base := base) d_is_letter (ps := ["value"]) (k := 2) (sp := (spIsLet K)) (fun _ _ _ _ _ _ us hl => match us, hl with | [_], _ => rfl) fun f fd F => ok_is_letter F z c_is_text
  have c_is := Sw.Def.cal (P := l.prog) (w := w) (base := base) d_is_alignment_step (ps := ["value"]) (k := 3) (sp := (spIsStep K)) (fun _ _ _ _ _ _ us hl => match us, hl with | [_], _ => rfl) fun f fd F => ok_is_alignment_step F z c_il
  have x_ia := Sw.Def.calX (P := l.prog) (w := w) (base := base) d_is_alignment (ps := ["one", "other", "value"]) (k := 4) (sp := (spIsAln K C)) (fun _ _ _ _ _ _ us hl => match us, hl with | [_, _, _], _ => rfl) fun f fd F => ok_isAlnX F z x_ct c_is
  have kx_ia := Sw.Def.calKX (P := l.prog) (w := w) (base := base) d_is_alignment (ps := ["one", "other", "value"]) (ks := turn3Ks) (k := 4) (sp := (spIsAln K C)) (g := rev3) (gV := rev3)
    (fun kV doc pm an cdv ct us ws hl => by obtain ⟨rfl, c, b, a, rfl⟩ := rev3_inv hl; rfl) rev3_rel fun f fd F => ok_isAlnX F z x_ct c_is
  have c_cell := Sw.Def.cal (P := l.prog) (w := w) (base := base) d__law_cell (ps := ["script", "k"]) (k := 1) (sp := (spCell K)) (fun _ _ _ _ _ _ us hl => match us, hl with | [_, _], _ => rfl) fun f fd F => ok__law_cell F z
  have c_box := Sw.Def.cal (P := l.prog) (w := w) (base := base) d__law_box (ps := ["great"]) (k := 1) (sp := spBox) (fun _ _ _ _ _ _ us hl => match us, hl with | [_], _ => rfl) fun f fd F => ok__law_box F z
  have c_take := Sw.Def.cal (P := l.prog) (w := w) (base := base) d__law_take (ps := ["box", "many"]) (k := 1) (sp := spTake) (fun _ _ _ _ _ _ us hl => match us, hl with | [_, _], _ => rfl) fun f fd F => ok__law_take F z
  have c_changed := Sw.Def.cal (P := l.prog) (w := w) (base := base) d__law_changed (ps := ["box", "letters", "text"]) (k := 2) (sp := spChanged) (fun _ _ _ _ _ _ us hl => match us, hl with | [_, _, _], _ => rfl) fun f fd F => ok_changed F z c_take
  have c_texts := Sw.Def.cal (P := l.prog) (w := w) (base := base) d__law_texts (ps := ["box"]) (k := 3) (sp := spTexts) (fun _ _ _ _ _ _ us hl => match us, hl with | [_], _ => rfl) fun f fd F => ok_texts F z c_take c_changed
  have c_table := Sw.Def.cal (P := l.prog) (w := w) (base := base) d__law_table (ps := ["first", "second"]) (k := 1) (sp := spTable) (fun _ _ _ _ _ _ us hl => match us, hl with | [_, _], _ => rfl) fun f fd F => ok_table F z
  have c_drawn := Sw.Def.cal (P := l.prog) (w := w) (base := base) d__law_drawn (ps := ["box", "first", "second"]) (k := 2) (sp := (spDrawn K)) (fun _ _ _ _ _ _ us hl => match us, hl with | [_, _, _], _ => rfl) fun f fd F => ok_drawn F z c_take
  have c_llet := Sw.Def.cal (P := l.prog) (w := w) (base := base) d__law_is_letter (ps := ["value"]) (k := 1) (sp := (spIsLet K)) (fun _ _ _ _ _ _ us hl => match us, hl with | [_], _ => rfl) fun f fd F => ok_lletter F z
  have c_lst := Sw.Def.cal (P := l.prog) (w := w) (base := base) d__law_is_step (ps := ["step"]) (k := 2) (sp := (spLstep K)) (fun _ _ _ _ _ _ us hl => match us, hl with | [_], _ => rfl) fun f fd F => ok_lstep F z c_llet
  have c_lis := Sw.Def.cal (P := l.prog) (w := w) (base := base) d__law_is (ps := ["first", "second", "value"]) (k := 3) (sp := (spLis K)) (fun _ _ _ _ _ _ us hl => match us, hl with | [_, _, _], _ => rfl) fun f fd F => ok_lis F z c_lst
  have c_os := Sw.Def.cal (P := l.prog) (w := w) (base := base) d__law_odd_step (ps := ["box"]) (k := 2) (sp := (spOddS K)) (fun _ _ _ _ _ _ us hl => match us, hl with | [_], _ => rfl) fun f fd F => ok_oddS F z c_take
  have c_bent := Sw.Def.cal (P := l.prog) (w := w) (base := base) d__law_bent (ps := ["box", "steps"]) (k := 3) (sp := (spBent K)) (fun _ _ _ _ _ _ us hl => match us, hl with | [_, _], _ => rfl) fun f fd F => ok_bent F z c_take c_os
  have c_met := Sw.Def.cal (P := l.prog) (w := w) (base := base) d__law_met (ps := ["which", "first", "second", "value"]) (k := 5) (sp := (spMet K)) (fun _ _ _ _ _ _ us hl => match us, hl with | [_, _, _, _], _ => rfl) fun f fd F => ok_met F xt x_al kx_al x_ia kx_ia
  have q_right := Sw.Def.calG (P := l.prog) (w := w) (base := base) d__law_right (ps := ["box", "first", "second"]) (k := 6) (sp := spRight) (fun _ _ _ _ _ _ us hl => match us, hl with | [_, _, _], _ => rfl) fun f fd F => ok_right F z c_take c_met c_lis c_table c_drawn c_bent
  have c_long := Sw.Def.cal (P := l.prog) (w := w) (base := base) d__law_long_right (ps := ["box"]) (k := 6) (sp := spLong) (fun _ _ _ _ _ _ us hl => match us, hl with | [_], _ => rfl) fun f fd F => ok_long F z c_take c_met c_lis
  have c_odd := Sw.Def.cal (P := l.prog) (w := w) (base := base) d__law_odd (ps := ["box", "text"]) (k := 2) (sp := (spOdd K)) (fun _ _ _ _ _ _ us hl => match us, hl with | [_, _], _ => rfl) fun f fd F => ok_odd F c_take z
  have q_refused := Sw.Def.calG (P := l.prog) (w := w) (base := base) d__law_refused_right (ps := ["box", "first", "second"]) (k := 6) (sp := spRefused) (fun _ _ _ _ _ _ us hl => match us, hl with | [_, _, _], _ => rfl) fun f fd F => ok_refused F z c_take c_odd c_met
  exact ok_law F0 z c_texts q_right q_refused c_long c_box c_cell
end Sw
open PySem PySem.W PyProof.Rows
set_option maxHeartbeats 0 in
theorem PySem.Challenge.cw_spoiltways_k08_alignments_holds : PySem.Challenge.rw_spoiltways_k08_alignments.Holds := by
  w_on; o_law; k_head; (case hw => w_witness2)
  k_fill
  refine Sw.walk_G (l := PySem.Challenge.rw_spoiltways_k08_alignments) (n := 63) (k := 7) (x := "script") (sp := Sw.spLaw) rfl (by decide) rfl ⟨rfl, by decide, by decide⟩ (fun w h Y => PySem.W.kIn_of Y) ?F (fun _ _ a ns hl _ hS => ⟨a, ns, rfl, hS, fun _ _ => rfl⟩)
  case F =>
    intro w mg fa h KX G hmg
    have z : Sw.Z mg := by
      refine' ⟨PySem.W.mg_none_of KX G ?z0, PySem.W.mg_none_of KX G ?z1, PySem.W.mg_none_of KX G ?z2, PySem.W.mg_none_of KX G ?z3, PySem.W.mg_none_of KX G ?z4, PySem.W.mg_none_of KX G ?z5, PySem.W.mg_none_of KX G ?z6, PySem.W.mg_none_of KX G ?z7, PySem.W.mg_none_of KX G ?z8, PySem.W.mg_none_of KX G ?z9, PySem.W.mg_none_of KX G ?z10, PySem.W.mg_none_of KX G ?z11, PySem.W.mg_none_of KX G ?z12, PySem.W.mg_none_of KX G ?z13, PySem.W.mg_none_of KX G ?z14⟩
      (case z0 => k_is)
      (case z1 => k_is)
      (case z2 => k_is)
      (case z3 => k_is)
      (case z4 => k_is)
      (case z5 => k_is)
      (case z6 => k_is)
      (case z7 => k_is)
      (case z8 => k_is)
      (case z9 => k_is)
      (case z10 => k_is)
      (case z11 => k_is)
      (case z12 => k_is)
      (case z13 => k_is)
      (case z14 => k_is)
    obtain ⟨v_LETTERS, gv_LETTERS, t_LETTERS, rfl⟩ : ∃ v, mg "LETTERS" = some v ∧ ∃ t, v = .str (("abcdefghijklmnopqrstuvwxyz" : Str)) t := by
      refine' ⟨_, PySem.W.mg_of KX G ?a, ?b⟩
      (case a => k_is)
      (case b => first | exact ⟨_, rfl⟩ | exact ⟨_, congrArg (fun y => PySem.Value.str y _) (by decide +kernel)⟩)
    refine' Sw.all_mk hmg z gv_LETTERS ?xc ?d_is_text ?d_check_text ?d_next_row ?d_table_of ?d_last_step ?d_alignment ?d_is_letter ?d_is_alignment_step ?d_is_alignment ?d__law_cell ?d__law_box ?d__law_take ?d__law_changed ?d__law_texts ?d__law_table ?d__law_drawn ?d__law_is_letter ?d__law_is_step ?d__law_is ?d__law_odd_step ?d__law_bent ?d__law_met ?d__law_right ?d__law_long_right ?d__law_odd ?d__law_refused_right ?d_law
    case xc =>
      refine' ⟨Sw.oex_mk ?h1 ?h2 ?h3 ?h4 ?h5, ⟨?f1, ?f2, ?f3, ?f4⟩, ?no, PySem.W.mg_of KX G ?hm, Sw.exm_mk ?me1 ?me2, ⟨PySem.W.mg_of KX G ?b1, ?b2, ?b3, ?b4, ?b5⟩, Sw.ini_mk ?i1 ?i2 ?i3 ?i4 ?i5⟩
      (case hm => k_is)
      (case b1 => k_is)
      (case h1 => k_is)
      (case h2 => k_is)
      (case h3 => k_is)
      (case h4 => k_is)
      (case h5 => k_is)
      (case f1 => k_is)
      (case f2 => k_is)
      (case f3 => k_is)
      (case f4 => k_is)
      (case no => k_is)
      (case me1 => k_is)
      (case me2 => first | k_is | rfl | decide +kernel)
      (case b2 => k_is)
      (case b3 => k_is)
      (case b4 => k_is)
      (case b5 => k_is)
      (case i1 => k_is)
      (case i2 => k_is)
      (case i3 => k_is)
      (case i4 => k_is)
      (case i5 => k_is)
    case d_is_text =>
      refine' Sw.def_mk KX G ?a ?l ?c ?k
      (case a => k_is)
      (case l => k_is)
      (case c => k_is)
      (case k => k_is)
    case d_check_text =>
      refine' Sw.def_mk KX G ?a ?l ?c ?k
      (case a => k_is)
      (case l => k_is)
      (case c => k_is)
      (case k => k_is)
    case d_next_row =>
      refine' Sw.def_mk KX G ?a ?l ?c ?k
      (case a => k_is)
      (case l => k_is)
      (case c => k_is)
      (case k => k_is)
    case d_table_of =>
      refine' Sw.def_mk KX G ?a ?l ?c ?k
      (case a => k_is)
      (case l => k_is)
      (case c => k_is)
      (case k => k_is)
    case d_last_step =>
      refine' Sw.def_mk KX G ?a ?l ?c ?k
      (case a => k_is)
      (case l => k_is)
      (case c => k_is)
      (case k => k_is)
    case d_alignment =>
      refine' Sw.def_mk KX G ?a ?l ?c ?k
      (case a => k_is)
      (case l => k_is)
      (case c => k_is)
      (case k => k_is)
    case d_is_letter =>
      refine' Sw.def_mk KX G ?a ?l ?c ?k
      (case a => k_is)
      (case l => k_is)
      (case c => k_is)
      (case k => k_is)
    case d_is_alignment_step =>
      refine' Sw.def_mk KX G ?a ?l ?c ?k
      (case a => k_is)
      (case l => k_is)
      (case c => k_is)
      (case k => k_is)
    case d_is_alignment =>
      refine' Sw.def_mk KX G ?a ?l ?c ?k
      (case a => k_is)
      (case l => k_is)
      (case c => k_is)
      (case k => k_is)
    case d__law_cell =>
      refine' Sw.def_mk KX G ?a ?l ?c ?k
      (case a => k_is)
      (case l => k_is)
      (case c => k_is)
      (case k => k_is)
    case d__law_box =>
      refine' Sw.def_mk KX G ?a ?l ?c ?k
      (case a => k_is)
      (case l => k_is)
      (case c => k_is)
      (case k => k_is)
    case d__law_take =>
      refine' Sw.def_mk KX G ?a ?l ?c ?k
      (case a => k_is)
      (case l => k_is)
      (case c => k_is)
      (case k => k_is)
    case d__law_changed =>
      refine' Sw.def_mk KX G ?a ?l ?c ?k
      (case a => k_is)
      (case l => k_is)
      (case c => k_is)
      (case k => k_is)
    case d__law_texts =>
      refine' Sw.def_mk KX G ?a ?l ?c ?k
      (case a => k_is)
      (case l => k_is)
      (case c => k_is)
      (case k => k_is)
    case d__law_table =>
      refine' Sw.def_mk KX G ?a ?l ?c ?k
      (case a => k_is)
      (case l => k_is)
      (case c => k_is)
      (case k => k_is)
    case d__law_drawn =>
      refine' Sw.def_mk KX G ?a ?l ?c ?k
      (case a => k_is)
      (case l => k_is)
      (case c => k_is)
      (case k => k_is)
    case d__law_is_letter =>
      refine' Sw.def_mk KX G ?a ?l ?c ?k
      (case a => k_is)
      (case l => k_is)
      (case c => k_is)
      (case k => k_is)
    case d__law_is_step =>
      refine' Sw.def_mk KX G ?a ?l ?c ?k
      (case a => k_is)
      (case l => k_is)
      (case c => k_is)
      (case k => k_is)
    case d__law_is =>
      refine' Sw.def_mk KX G ?a ?l ?c ?k
      (case a => k_is)
      (case l => k_is)
      (case c => k_is)
      (case k => k_is)
    case d__law_odd_step =>
      refine' Sw.def_mk KX G ?a ?l ?c ?k
      (case a => k_is)
      (case l => k_is)
      (case c => k_is)
      (case k => k_is)
    case d__law_bent =>
      refine' Sw.def_mk KX G ?a ?l ?c ?k
      (case a => k_is)
      (case l => k_is)
      (case c => k_is)
      (case k => k_is)
    case d__law_met =>
      refine' Sw.def_mk KX G ?a ?l ?c ?k
      (case a => k_is)
      (case l => k_is)
      (case c => k_is)
      (case k => k_is)
    case d__law_right =>
      refine' Sw.def_mk KX G ?a ?l ?c ?k
      (case a => k_is)
      (case l => k_is)
      (case c => k_is)
      (case k => k_is)
    case d__law_long_right =>
      refine' Sw.def_mk KX G ?a ?l ?c ?k
      (case a => k_is)
      (case l => k_is)
      (case c => k_is)
      (case k => k_is)
    case d__law_odd =>
      refine' Sw.def_mk KX G ?a ?l ?c ?k
      (case a => k_is)
      (case l => k_is)
      (case c => k_is)
      (case k => k_is)
    case d__law_refused_right =>
      refine' Sw.def_mk KX G ?a ?l ?c ?k
      (case a => k_is)
      (case l => k_is)
      (case c => k_is)
      (case k => k_is)
    case d_law =>
      refine' Sw.def_mk KX G ?a ?l ?c ?k
      (case a => k_is)
      (case l => k_is)
      (case c => k_is)
      (case k => k_is)
