import PyProof.Rows.All
import Wide.All
import OpenK.AllK
import Wide.FinOn
import HandS.ForMost
import HandS.Wide
import HandS.Style
import HandS.IsInst
import HandS.Conv
import HandS.Walk
import HandS.Codes
import HandS.TupAny
import HandS.RaiseMore
import HandS.Flt
import HandS.Flow
import KE.GoesMore
import HandS.Ends
import HandS.ExcInit
import HandS.ExcField
import HandS.ExcOwn
import HandS.Deep
import KE.KEqDict
import HandS.ListEq
import PyProof.NeKinds
import HandS.TryMany
import HandS.ExcIs
import KE.KExcIs
import HandS.TupMul
import HandS.DictComp
import HandS.Small
import HandS.SortKw
import PySem.Challenge.RW_spoiltways_k56_rows_of_numbers
set_option Elab.async false
set_option linter.all false
set_option maxRecDepth 100000
set_option maxHeartbeats 4000000
namespace Sw
open PySem PySem.Spec PyProof.Rows L2

/-! ### texts as lists of signs -/
def S (l : List Nat) : Str := ⟨l.toArray⟩
theorem S_len (l : List Nat) : (S l).length = l.length := by simp [S, Str.length]
theorem S_size (l : List Nat) : (S l).cps.size = l.length := by simp [S]
theorem S_list (l : List Nat) : (S l).cps.toList = l := by simp [S]
theorem S_app (a b : List Nat) : S a ++ S b = S (a ++ b) := by
  show Str.append _ _ = _
  simp [S, Str.append]
theorem S_get (l : List Nat) (i : Nat) : (S l).cps[i]? = l[i]? := by simp [S]
theorem S_inj {a b : List Nat} : S a = S b ↔ a = b := by
  constructor
  · intro h
    have e : (S a).cps.toList = (S b).cps.toList := by rw [h]
    rwa [S_list, S_list] at e
  · rintro rfl; rfl
theorem S_dec (a b : List Nat) : decide (V.str (S a) = V.str (S b)) = decide (a = b) := by
  by_cases h : a = b
  · subst h; simp
  · rw [decide_eq_false h, decide_eq_false]
    intro e
    exact h (S_inj.mp (V.str.inj e))

/-! ### calls of own defs -/
section
variable (P : Program) (w : World) (K : PySem.W.Frag) (mg : Str → Option Value) (base : Heap)
/-- the def x of the text st stands -/
def Def (x : Str) (st : Stmt) : Prop := ∃ (f : Addr) (fd : FuncData), Fun K x x st f fd ∧ mg x = some (.ref f)
/-- the def x keeps its promise -/
def Cal (x : Str) (ps : List Str) (k : Nat) (sp : Sp) : Prop := ∃ (f : Addr) (fd : FuncData), FnOk P w K mg base CX0 k f fd ps sp ∧ mg x = some (.ref f) ∧ PySem.W.keepIn K (.ref f) = true ∧ Binds K fd ps []
end
section
variable {P : Program} {w : World} {K : PySem.W.Frag} {mg : Str → Option Value} {base : Heap}
theorem Def.cal {x : Str} {st : Stmt} {ps : List Str} {k : Nat} {sp : Sp} (d : Def K mg x st)
    (b : ∀ (kV doc pm : Value) (an : Option Addr) (cdv ct : Value) (us : List Value), us.length = ps.length → bindArgs (PySem.W.fnOf x x (defArgs st) (defBody st) (defScope st) .none kV doc pm an cdv ct) ⟨us, []⟩ = pure (ps.zip us))
    (ok : ∀ (f : Addr) (fd : FuncData), Fun K x x st f fd → FnOk P w K mg base CX0 k f fd ps sp) : Cal P w K mg base x ps k sp := by
  obtain ⟨f, fd, F, m⟩ := d
  exact ⟨f, fd, ok f fd F, m, F.kp, F.binds b⟩
end
section
variable {X : Cx} {x : Str} {ps : List Str} {k n : Nat} {sp : Sp} {e : Expr} {es : List Expr} {t : TA} {p pos : Pos}
theorem pe_cal (c : Cal X.prog X.w X.K X.mg X.base x ps k sp) (hr : Room n X.A) (ha : PA X (e :: es) t) (hg : Gl X x := by rfl) (hk : k ≤ n := by decide)
    (hdb : (x == ("__debug__" : Str)) = false := by decide) (he : starEach (e :: es) X.env = (false, eval e X.env) :: starEach es X.env := by rfl) (hpl : (backTo pos (starEach es X.env)).any (·.1) = false := by rfl) :
    PE X (.Call (.Name x p) (e :: es) [] pos) (tCall sp [] E0 t) := by
  obtain ⟨f, fd, F, m, kp, b⟩ := c
  exact pe_call F (hr.mono hk) hg m kp b .nil pass0 ha hdb he hpl
end

/-! ### answers to readings -/
section
variable {σ : L2.St} {H : Hp} {Q : VK} {D : Ends}
theorem i_seq {t u : TS} (h : t { D with nx := u D } σ H) : tSeq t u D σ H := h
theorem i_asg {te : TE} {g : TG} (h : te σ H fun x H1 => g x σ H1 D.nx) : tAsg te g D σ H := h
theorem i_name {i : Nat} {v : V} {R : L2.St → Hp → Prop} (h : R (σ.set i (some v)) H) : gName i v σ H R := h
theorem i_ret {te : TE} (h : te σ H D.rt) : tRet te D σ H := h
theorem i_var {i : Nat} {v : V} (e : σ[i]? = some (some v)) (h : Q v H) : tVar i σ H Q := ⟨v, e, h⟩
theorem i_c {v : V} (h : Q v H) : tC v σ H Q := h
theorem i_op {r : R2} {ta tb : TE} (h : ta σ H fun x H1 => tb σ H1 fun y H2 => r x y H2 Q) : tOp r ta tb σ H Q := h
theorem i_un {r : V → Hp → VK → Prop} {ta : TE} (h : ta σ H fun x H1 => r x H1 Q) : tUn r ta σ H Q := h
theorem i_rI {C : Int → Int → Prop} {g : Int → Int → V} {a b : Int} (c : C a b) (h : Q (g a b) H) : rI C g (.int a) (.int b) H Q := ⟨a, b, rfl, rfl, c, h⟩
theorem i_rI0 {g : Int → Int → V} {a b : Int} (h : Q (g a b) H) : rI0 g (.int a) (.int b) H Q := ⟨a, b, rfl, rfl, h⟩
theorem i_cb {r : List V → Hp → VK → Prop} {t : TA} (h : t σ H fun vs H1 => r vs H1 Q) : tCB r t σ H Q := h
theorem i_cons {ta : TE} {tr : TA} {R : List V → Hp → Prop} (h : ta σ H fun x H1 => tr σ H1 fun xs H2 => R (x :: xs) H2) : tCons ta tr σ H R := h
theorem i_nil {R : List V → Hp → Prop} (h : R [] H) : tNil σ H R := h
theorem i_call {sp : Sp} {dvs : List V} {E : XK} {t : TA} (h : t σ H fun vs H1 => sp (vs ++ dvs) H1 Q E) : tCall sp dvs E t σ H Q := h
theorem i_if {c : TT} {t u : TS} (h : c σ H fun b H1 => if b = true then t D σ H1 else u D σ H1) : tIfS c t u D σ H := h
theorem i_ifE {c : TT} {t u : TE} (h : c σ H fun b H1 => if b = true then t σ H1 Q else u σ H1 Q) : tIf c t u σ H Q := h
theorem i_test {t : TE} {R : Bool → Hp → Prop} (h : t σ H fun x H1 => ∃ k, x = .bl k ∧ R k H1) : tTest t σ H R := h
theorem i_bl {k : Bool} {R : Bool → Prop} (h : R k) : ∃ k', V.bl k = .bl k' ∧ R k' := ⟨k, rfl, h⟩
theorem i_and {t u : TT} {R : Bool → Hp → Prop} (h : t σ H fun c H1 => if c = true then u σ H1 R else R false H1) : tAnd t u σ H R := h
theorem i_or {t u : TT} {R : Bool → Hp → Prop} (h : t σ H fun c H1 => if c = true then R true H1 else u σ H1 R) : tOr t u σ H R := h
theorem i_not {t : TT} {R : Bool → Hp → Prop} (h : t σ H fun c H1 => R (!c) H1) : tNot t σ H R := h
theorem i_lst {t : TA} (h : t σ H fun xs H1 => xs.length ≤ sizeLine ∧ ∀ p, H1 p = none → Q (.ref p) (upd H1 p (.lst xs))) : tLst t σ H Q := h
theorem i_tup {t : TA} (h : t σ H fun xs H1 => xs.length ≤ sizeLine ∧ ∀ p, H1 p = none → Q (.ref p) (upd H1 p (.tup xs))) : tTup t σ H Q := h
theorem iteB {p : Prop} [Decidable p] {A B : Prop} (h1 : p → A) (h2 : ¬ p → B) : if decide p = true then A else B := by
  by_cases h : p
  · rw [decide_eq_true h]; exact iteT (h1 h)
  · rw [decide_eq_false h]; exact iteF (h2 h)
theorem iteC {c : Bool} {A B : Prop} (h1 : c = true → A) (h2 : c = false → B) : if c = true then A else B := by
  cases c with
  | true => exact iteT (h1 rfl)
  | false => exact iteF (h2 rfl)
/-- xs[i], xs a list of which the item is known -/
theorem i_ixL {K : PySem.W.Frag} {p : Addr} {xs : List V} {i : Int} {v : V} (h1 : SqL K H p xs) (h2 : atI xs i = some v) (h : Q v H) : rIxL K (.ref p) (.int i) H Q := ⟨p, xs, i, v, rfl, rfl, h1, h2, h⟩
theorem i_ixT {K : PySem.W.Frag} {p : Addr} {xs : List V} {i : Int} {v : V} (h1 : SqT K H p xs) (h2 : atI xs i = some v) (h : Q v H) : rIxT K (.ref p) (.int i) H Q := ⟨p, xs, i, v, rfl, rfl, h1, h2, h⟩
end

/-! ### the box of draws -/
/-- the box at b: the rest n of a great cell, whether it is one, the seed c, the draws d so far -/
structure BoxAt (H : Hp) (b : Addr) (d : Int) : Prop where
  ex : ∃ (n : Int) (g : Bool) (c e : Int), H b = some (.lst [.int n, .bl g, .int c, .int e]) ∧ 0 ≤ n ∧ 0 ≤ c ∧ c < 2147483629 ∧ 0 ≤ e ∧ e ≤ d
/-- all but the object at b is as it was -/
def SB (b : Addr) (H H' : Hp) : Prop := ∀ a o, a ≠ b → H a = some o → H' a = some o
theorem SB.refl {b : Addr} (H : Hp) : SB b H H := fun _ _ _ h => h
theorem SB.trans {b : Addr} {H H1 H2 : Hp} (x : SB b H H1) (y : SB b H1 H2) : SB b H H2 := fun a o n h => y a o n (x a o n h)
theorem SB.of {b : Addr} {H H' : Hp} (s : Same H H') : SB b H H' := fun a o _ h => s a o h
theorem SB.upd {b : Addr} {H : Hp} {o : HO} : SB b H (upd H b o) := fun a u n h => by rw [upd_ne n]; exact h
theorem BoxAt.mono {H : Hp} {b : Addr} {d d' : Int} (x : BoxAt H b d) (h : d ≤ d') : BoxAt H b d' := by
  obtain ⟨n, g, c, e, h1, h2, h3, h4, h5, h6⟩ := x.ex
  exact ⟨n, g, c, e, h1, h2, h3, h4, h5, by omega⟩
theorem BoxAt.same {H H' : Hp} {b : Addr} {d : Int} (x : BoxAt H b d) (s : Same H H') : BoxAt H' b d := by
  obtain ⟨n, g, c, e, h1, h⟩ := x.ex
  exact ⟨n, g, c, e, s _ _ h1, h⟩
theorem same_upd {H : Hp} {p : Addr} {o : HO} (h : H p = none) : Same H (upd H p o) := fun b x e => by
  rw [upd_ne (ne_of_none e h)]
  exact e
/-- _law_take(box, many): a number below many; the box is one draw further at most -/
def spTake : Sp := fun vs H Q _ => ∃ (b : Addr) (m d : Int), vs = [.ref b, .int m] ∧ BoxAt H b d ∧ d ≤ 1000000 ∧ 0 < m ∧ m < 2 ^ 64 ∧
  ∀ (r : Int) (H' : Hp), 0 ≤ r → r < m → BoxAt H' b (d + 1) → SB b H H' → Q (.int r) H'
/-- _law_box(great) -/
def spBox : Sp := fun vs H Q _ => ∃ n : Int, vs = [.int n] ∧ ∀ (b : Addr) (H' : Hp), H b = none → Same H H' → BoxAt H' b 0 → Q (.ref b) H'
/-- _law_cell(script, k) -/
def spCell (K : PySem.W.Frag) : Sp := fun vs H Q _ => ∃ (a : Addr) (ns : List Int) (k : Int), vs = [.ref a, .int k] ∧ SqL K H a (ns.map V.int) ∧ 0 ≤ k ∧ k < 1000 ∧
  ∀ (n : Int) (H' : Hp), Same H H' → Q (.int n) H'
/-! ### more answers -/
section
variable {σ : L2.St} {H : Hp} {Q : VK} {D : Ends} {K : PySem.W.Frag}
theorem i_next (h : D.nx σ H) : tNext D σ H := h
theorem i_drop {te : TE} (h : te σ H fun _ H1 => D.nx σ H1) : tDrop te D σ H := h
theorem i_sub {to ti : TE} {t : TSet} {v : V} {R : L2.St → Hp → Prop} (h : to σ H fun o H1 => ti σ H1 fun i H2 => t o i v H2 fun H3 => R σ H3) : gSub to ti t v σ H R := h
theorem i_setL {p : Addr} {xs : List V} {k : Int} {j : Nat} {v : V} {R : Hp → Prop} (h1 : H p = some (.lst xs)) (h2 : ixN xs.length k = some j) (h : R (upd H p (.lst (xs.set j v)))) : rSetL (.ref p) (.int k) v H R := ⟨p, xs, k, j, rfl, rfl, h1, h2, h⟩
theorem i_int {i : Int} (h : Q (.int i) H) : (∃ j, [V.int i] = [.int j] ∧ Q (.int j) H) ∨ ∃ k, [V.int i] = [.bl k] ∧ Q (.int (if k = true then 1 else 0)) H := .inl ⟨i, rfl, h⟩
theorem i_intB {b : Bool} (h : Q (.int (if b = true then 1 else 0)) H) : (∃ j, [V.bl b] = [.int j] ∧ Q (.int j) H) ∨ ∃ k, [V.bl b] = [.bl k] ∧ Q (.int (if k = true then 1 else 0)) H := .inr ⟨b, rfl, h⟩
theorem i_ix1 {α : Type} {P : α → Prop} {x : α} {R : α → Prop} (h : R x) : ∃ y, x = y ∧ R y := ⟨x, rfl, h⟩
theorem i_abs {i : Int} (h : Q (.int (if i < 0 then -i else i)) H) : ∃ j, [V.int i] = [.int j] ∧ Q (.int (if j < 0 then -j else j)) H := ⟨i, rfl, h⟩
theorem i_two {R : Int → Int → Prop} {i j : Int} (h : R i j) : ∃ a b, [V.int i, V.int j] = [.int a, .int b] ∧ R a b := ⟨i, j, rfl, h⟩
theorem i_one {R : Int → Prop} {i : Int} (h : R i) : ∃ a, [V.int i] = [.int a] ∧ R a := ⟨i, rfl, h⟩
theorem i_cmod {i m : Int} (h : 0 < m) : (fun (_ j : Int) => 0 < j) i m := h
theorem i_bm {T : String} {r : V → List V → Hp → VK → Prop} {to : TE} {t : TA} (h : to σ H fun x H1 => tyV K T x H1 ∧ t σ H1 fun xs H2 => r x xs H2 Q) : tBM K T r to t σ H Q := h
theorem i_tyL {p : Addr} {xs : List V} {R : Prop} (h1 : H p = some (.lst xs)) (h : R) : tyV K "list" (.ref p) H ∧ R := ⟨.inl ⟨rfl, xs, .inl (.inl h1)⟩, h⟩
theorem i_tyS {z : Str} {R : Prop} (h : R) : tyV K "str" (.str z) H ∧ R := ⟨rfl, h⟩
theorem i_append {p : Addr} {xs : List V} {y : V} (h1 : H p = some (.lst xs)) (h2 : xs.length < sizeLine) (h : Q .non (upd H p (.lst (xs ++ [y])))) : rAppend (.ref p) [y] H Q := ⟨p, xs, y, rfl, rfl, h1, h2, h⟩
theorem i_sl {r : V → Option Int → Option Int → Hp → VK → Prop} {te : TE} {tl th : TO} (h : te σ H fun x H1 => tl σ H1 fun l H2 => th σ H2 fun u H3 => r x l u H3 Q) : L2.tSl r te tl th σ H Q := h
theorem i_part {t : TE} {R : Option Int → Hp → Prop} (h : t σ H fun x H1 => ∃ i, x = .int i ∧ R (some i) H1) : tPart t σ H R := h
theorem i_nopart {R : Option Int → Hp → Prop} (h : R none H) : tNoPart σ H R := h
theorem i_exI {R : Int → Prop} {i : Int} (h : R i) : ∃ j, V.int i = .int j ∧ R j := ⟨i, rfl, h⟩
theorem i_chain {r r' : R2} {ta tb tc : TE} (h : ta σ H fun x H1 => tb σ H1 fun y H2 => r x y H2 fun z H3 => ∃ k, z = .bl k ∧ (if k = true then tc σ H3 fun w' H4 => r' y w' H4 Q else Q (.bl false) H3)) : tChain r r' ta tb tc σ H Q := h
theorem i_aug {i : Nat} {te : TE} {ti : TIp} {x : V} (e : σ[i]? = some (some x)) (h : te σ H fun y H1 => ti x y H1 fun z H2 => D.nx (σ.set i (some z)) H2) : tAug i te ti D σ H := ⟨x, e, h⟩
theorem i_ip {g : Int → Int → Int} {a b : Int} (h : Q (.int (g a b)) H) : ipI g (.int a) (.int b) H Q := ⟨a, b, rfl, rfl, h⟩
theorem i_par {i j : Nat} {ta : TA} (h : ta σ H fun vs H1 => ∃ v w, vs = [v, w] ∧ D.nx ((σ.set i (some v)).set j (some w)) H1) : tPar i j ta D σ H := h
theorem i_pair {R : V → V → Prop} {a b : V} (h : R a b) : ∃ v w, [a, b] = [v, w] ∧ R v w := ⟨a, b, rfl, h⟩
theorem i_andV {ta tb : TE} (h : ta σ H fun x H1 => ∃ c, x = .bl c ∧ if c = true then tb σ H1 Q else Q (.bl false) H1) : tAndV ta tb σ H Q := h
theorem i_orV {ta tb : TE} (h : ta σ H fun x H1 => ∃ c, x = .bl c ∧ if c = true then Q (.bl true) H1 else tb σ H1 Q) : tOrV ta tb σ H Q := h
theorem i_notV {ta : TE} (h : ta σ H fun x H1 => ∃ c, x = .bl c ∧ Q (.bl (!c)) H1) : tNotV ta σ H Q := h
theorem i_m1 {r : V → List V → Hp → VK → Prop} {to te : TE} (h : to σ H fun x H1 => (∃ a, x = .str a) ∧ te σ H1 fun y H2 => r x [y] H2 Q) : tM1 r to te σ H Q := h
theorem i_str {z : Str} {R : Prop} (h : R) : (∃ a, V.str z = .str a) ∧ R := ⟨⟨z, rfl⟩, h⟩
theorem i_len {p : Addr} {ys : List V} (h1 : SqL K H p ys ∨ SqT K H p ys) (h : Q (.int ys.length) H) : ∃ q zs, [V.ref p] = [.ref q] ∧ (SqL K H q zs ∨ SqT K H q zs) ∧ Q (.int zs.length) H := ⟨p, ys, rfl, h1, h⟩
theorem i_lenS {l : List Nat} (h1 : l.length ≤ sizeLine) (h : Q (.int (l.length : Int)) H) : ∃ z, [V.str (S l)] = [.str z] ∧ z.length ≤ sizeLine ∧ Q (.int z.length) H := ⟨S l, rfl, by rw [S_len]; exact h1, by rw [S_len]; exact h⟩
end
theorem sqL_of {K : PySem.W.Frag} {H : Hp} {a : Addr} {xs : List V} (h : H a = some (.lst xs)) : SqL K H a xs := .inl (.inl h)
theorem sqT_of {K : PySem.W.Frag} {H : Hp} {a : Addr} {xs : List V} (h : H a = some (.tup xs)) : SqT K H a xs := .inl (.inl h)
/-- the part of a text between two places -/
def cut (l : List Nat) (lo hi : Option Int) : List Nat := (l.drop (HT.sIx l.length 0 lo)).take (HT.sIx l.length l.length hi - HT.sIx l.length 0 lo)
theorem cutS_S (l : List Nat) (lo hi : Option Int) : cutS (S l) lo hi = S (cut l lo hi) := by
  unfold cutS cut
  rw [S_list, S_len]; rfl
theorem cut_from (l : List Nat) (k : Nat) : cut l (some (k : Int)) none = l.drop k := by
  unfold cut
  rw [HT.sIx_nat, HT.sIx_none]
  rcases Nat.le_total k l.length with h | h
  · rw [Nat.min_eq_left h, List.take_of_length_le (by rw [List.length_drop]; omega)]
  · rw [Nat.min_eq_right h, List.drop_length, List.drop_of_length_le h, List.take_nil]
theorem cut_to (l : List Nat) (k : Nat) : cut l none (some (k : Int)) = l.take k := by
  unfold cut
  rw [HT.sIx_nat, HT.sIx_none, List.drop_zero, Nat.sub_zero]
  rcases Nat.le_total k l.length with h | h
  · rw [Nat.min_eq_left h]
  · rw [Nat.min_eq_right h, List.take_length, List.take_of_length_le h]
theorem i_slS {l : List Nat} {lo hi : Option Int} {H : Hp} {Q : VK} (h1 : l.length ≤ sizeLine) (h : Q (.str (S (cut l lo hi))) H) : rSlS (.str (S l)) lo hi H Q := ⟨S l, rfl, by rw [S_len]; exact h1, by rw [cutS_S]; exact h⟩
theorem i_tB {t : TE} {R : Bool → Hp → Prop} {σ : L2.St} {H : Hp} (h : t σ H fun x H1 => ∃ c, x = .bl c ∧ R c H1) : tB t σ H R := h
theorem i_retN {σ : L2.St} {H : Hp} {D : Ends} (h : D.rt .non H) : tRetN D σ H := h
theorem i_par3 {i j l : Nat} {ta : TA} {σ : L2.St} {H : Hp} {D : Ends} (h : ta σ H fun vs H1 => ∃ u v w, vs = [u, v, w] ∧ D.nx (((σ.set i (some u)).set j (some v)).set l (some w)) H1) : tPar3 i j l ta D σ H := h
theorem i_trip {R : V → V → V → Prop} {a b c : V} (h : R a b c) : ∃ u v w, [a, b, c] = [u, v, w] ∧ R u v w := ⟨a, b, c, rfl, h⟩
theorem i_gTup {K : PySem.W.Frag} {n : Nat} {t : TGs} {a : Addr} {xs : List V} {σ : L2.St} {H : Hp} {R : L2.St → Hp → Prop} (h1 : SqT K H a xs) (h2 : xs.length = n) (h : t xs σ H R) : gTup K n t (.ref a) σ H R := ⟨a, xs, rfl, h1, h2, h⟩
theorem i_gCons {t : TG} {u : TGs} {v : V} {r : List V} {σ : L2.St} {H : Hp} {R : L2.St → Hp → Prop} (h : t v σ H fun σ' H' => u r σ' H' R) : gCons t u (v :: r) σ H R := ⟨v, r, rfl, h⟩
theorem i_gNil {σ : L2.St} {H : Hp} {R : L2.St → Hp → Prop} (h : R σ H) : gNil [] σ H R := ⟨rfl, h⟩
theorem i_lstRg {te : L2.St → Hp → (Int → Int → Hp → Prop) → Prop} {σ : L2.St} {H : Hp} {Q : VK} (h : te σ H fun a b H1 => RgOk a b ∧ ∀ q, H1 q = none → Q (.ref q) (upd H1 q (.lst (rgV a b)))) : tLstRg te σ H Q := h
theorem i_rg1 {ta : TE} {σ : L2.St} {H : Hp} {R : Int → Int → Hp → Prop} (h : ta σ H fun x H1 => ∃ n, x = .int n ∧ R 0 n H1) : tRg1 ta σ H R := h
theorem i_pow {g : Int → Int → V} {a b : Int} {H : Hp} {Q : VK} (h1 : 0 ≤ b) (h2 : b ≤ 1000000) (h3 : a.natAbs < 2 ^ 64) (h : Q (g a b) H) : rI CPow g (.int a) (.int b) H Q := ⟨a, b, rfl, rfl, ⟨h1, h2, h3⟩, h⟩
theorem S_le {l : List Nat} (h : l.length ≤ 100000) : (S l).length ≤ sizeLine := Nat.le_trans h (by decide)
theorem ints_get {ns : List Int} {j : Nat} {v : V} (h : (ns.map V.int)[j]? = some v) : ∃ i, ns[j]? = some i ∧ v = .int i := by
  rw [List.getElem?_map] at h
  cases e : ns[j]? with
  | none => rw [e] at h; cases h
  | some i => rw [e] at h; exact ⟨i, rfl, (Option.some.inj h).symm⟩
theorem ints_at {ns : List Int} {j : Nat} (h : j < ns.length) : (ns.map V.int)[j]? = some (.int ns[j]) := by
  rw [List.getElem?_map, List.getElem?_eq_getElem h]; rfl
theorem atI_ints {ns : List Int} {i : Int} (h0 : 0 ≤ i) (h1 : i < ns.length) : atI (ns.map V.int) i = some (.int (ns[i.toNat]'(by omega))) := by
  have h := atI_nat (xs := ns.map V.int) (ints_at (ns := ns) (show i.toNat < ns.length by omega))
  rwa [show ((i.toNat : Nat) : Int) = i by omega] at h
end Sw
namespace Sw
open PySem PySem.Spec PyProof.Rows L2
/-! ### x[::-1] of a text -/
def tRevS (te : TE) : TE := fun σ H Q => te σ H fun x H1 => ∃ l, x = .str (S l) ∧ l.length ≤ sizeLine ∧ Q (.str (S l.reverse)) H1
theorem fmap_map {α β : Type} {f : α → Option β} {g : α → β} : ∀ {l : List α}, (∀ a ∈ l, f a = some (g a)) → l.filterMap f = l.map g
  | [], _ => rfl
  | a :: l, h => by
    rw [List.filterMap_cons, h a List.mem_cons_self, List.map_cons, fmap_map fun b hb => h b (List.mem_cons_of_mem _ hb)]
theorem rev_list (l : List Nat) : ((Builtin.Str.strSliceIndices none none (-1) l.length).filterMap (l.toArray[·]?)) = l.reverse := by
  rw [PyProof.Rows.picked_rev, List.filterMap_map]
  apply List.ext_getElem?
  intro k
  have hf : List.filterMap ((fun x => l.toArray[x]?) ∘ fun k => l.length - 1 - k) (List.range l.length) = (List.range l.length).map fun k => l.getD (l.length - 1 - k) 0 := by
    refine fmap_map fun a ha => ?_
    have ha' : a < l.length := List.mem_range.mp ha
    have hb : l.length - 1 - a < l.length := by omega
    show l.toArray[l.length - 1 - a]? = some (l.getD (l.length - 1 - a) 0)
    rw [List.getElem?_toArray, List.getD_eq_getElem?_getD, List.getElem?_eq_getElem hb]
    rfl
  rw [hf, List.getElem?_map]
  by_cases hk : k < l.length
  · have hb : l.length - 1 - k < l.length := by omega
    rw [List.getElem?_range hk, List.getElem?_reverse hk]
    show some (l.getD (l.length - 1 - k) 0) = _
    rw [List.getD_eq_getElem?_getD, List.getElem?_eq_getElem hb]
    rfl
  · rw [List.getElem?_eq_none (by rw [List.length_range]; omega), List.getElem?_eq_none (by rw [List.length_reverse]; omega)]
    rfl
theorem pe_revS {X : Cx} {e : Expr} {te : TE} {k : Nat} {p1 p2 p3 pos : Pos} (he : PE X e te) :
    PE X (.Subscript e (.Slice none none (some (.UnaryOp .USub (.Constant (.int 1) k p1) p2)) p3) pos) (tRevS te) := by
  constructor
  intro pins s σ H Q I h
  refine Subscript_ (thn (he.run pins s σ H _ I h) fun v s1 ⟨x, H1, I1, r1, l, ex, hl, q⟩ => ?_)
  subst ex
  obtain ⟨tk, rfl⟩ := r1
  have st : PO X (some (.UnaryOp .USub (.Constant (.int 1) k p1) p2)) (tPart (tUn (rU fun i => .int (-i)) (tC (.int 1)))) := po_some (pe_un un_neg pe_int)
  refine wpAny_Slice (thn (po_none.run pins s1 σ H1 (fun o G => o = none ∧ G = H1) I1 ⟨rfl, rfl⟩) fun w1 s2 ⟨o1, G1, J1, z1, a1, b1⟩ => ?_)
  subst a1 b1
  refine thn (po_none.run pins s2 σ G1 (fun o G => o = none ∧ G = G1) J1 ⟨rfl, rfl⟩) fun w2 s3 ⟨o2, G2, J2, z2, a2, b2⟩ => ?_
  subst a2 b2
  refine thn (st.run pins s3 σ G2 (fun o G => o = some (-1) ∧ G = G2) J2 ⟨1, rfl, -1, rfl, rfl, rfl⟩) fun w3 s4 ⟨o3, G3, J3, z3, a3, b3⟩ => ?_
  subst a3 b3
  have J4 : Inv X pins σ G3 { s4 with heap := s4.heap.push { cls := .type "slice", data := .fields #[w1, w2, w3] } } := J3.kept (t' := s4.toks) fun b ob q => Heap.get?_push_of_some _ q
  obtain ⟨y1, rfl, f1⟩ := IsPart.raw z1
  obtain ⟨y2, rfl, f2⟩ := IsPart.raw z2
  obtain ⟨y3, rfl, f3⟩ := IsPart.raw z3
  cases y1 with
  | some y => cases f1
  | none =>
  cases y2 with
  | some y => cases f2
  | none =>
  cases y3 with
  | none => cases f3
  | some y =>
  obtain ⟨m, u⟩ := y
  have em : m = -1 := Option.some.inj f3
  subst em
  refine tail_any (T := "str") (id := _) (ops := [.str (S l) tk, .ref s4.heap.objs.size]) (typeIs_str _ _ _) F.slot_str_getitem.lookup ?_ (by with_unfolding_all rfl)
  refine wpAny_getItem_str_slice (l := none) (u := none) (st := some (-1, u)) ⟨_, Heap.get?_push_size _ rfl, rfl, rfl⟩ rfl ?_
  show Made.post (if ((-1 : Int) == 1 && (Builtin.Str.strSliceIndices none none (-1) (S l).length).length == (S l).length) = true then Made.val (.str (S l) tk)
    else Made.str ⟨((Builtin.Str.strSliceIndices none none (-1) (S l).length).filterMap ((S l).cps[·]?)).toArray⟩) (EP X pins σ Q) _
  rw [if_neg (by rw [show ((-1 : Int) == 1) = false from rfl, Bool.false_and]; exact Bool.false_ne_true)]
  have e : ((Builtin.Str.strSliceIndices none none (-1) (S l).length).filterMap ((S l).cps[·]?)) = l.reverse := by
    rw [S_len]
    exact rev_list l
  rw [e]
  refine ⟨by show (S l.reverse).length ≤ sizeLine; rw [S_len, List.length_reverse]; exact hl, .str (S l.reverse), G3, J4.tok _, ⟨_, rfl⟩, q⟩
/-! ### enumerate(text) -/
/-- a text's signs, each in a new pair with its number -/
def ItE (x : Str) : It := ⟨fun i _ => i < x.cps.size, fun i H v H' => ∃ T c, v = .ref T ∧ H T = none ∧ x.cps[i]? = some c ∧ H' = upd H T (.tup [.int (i : Nat), .str ⟨#[c]⟩]), fun i _ => i = x.cps.size⟩
theorem turn_enumS {P : Program} {w : World} {K : PySem.W.Frag} {elts : List Expr} {kk : Nat} {tpos : Pos} (x : Str) (t : Tok) (e it : Addr) (hne : e ≠ it) :
    Turn P w K (.Tuple elts kk tpos) (ItE x) [e, it] e (fun i h => (∃ old, IsEnum h e it ((i : Nat) : Int) old) ∧ h.IsStrIter it (strIterType x) x t i) := by
  refine ⟨by simp, fun i h st b hb => ?_, fun i h h' st k => ?_, ?_, ?_, fun A i s Q E st h => ?_⟩
  · obtain ⟨⟨old, he⟩, o, ho, hc, hd⟩ := st
    have e' : b = e ∨ b = it := by simpa using hb
    rcases e' with rfl | rfl
    · exact ⟨_, he, fun v q => nomatch q⟩
    · exact ⟨o, ho, fun v q => by rw [hd] at q; cases q⟩
  · obtain ⟨⟨old, he⟩, o, ho, z⟩ := st
    exact ⟨⟨old, k e (by simp) _ he⟩, o, k it (by simp) o ho, z⟩
  · rintro X rfl rfl rfl hc i pins s σ H E I hf ⟨⟨old, he⟩, hit⟩ hg
    have hh : X.A.in1.handled = none := I.ok.hd hc
    have DD := Draws.text (prog := X.prog) (w := X.w) (A := X.A.in1) hh it x t
    have l1 : e < s.heap.objs.size := Heap.lt_size he
    have l2 : it < s.heap.objs.size := by obtain ⟨_, q, _⟩ := hit; exact Heap.lt_size q
    refine wpAny_pyNext_enum_itemD DD he hit hg hne (by simpa using hne) fun v h1 tk hv ho hit' hT hsz hk => ?_
    obtain ⟨c, u, hc', rfl⟩ := hv
    refine ⟨_, rfl, wpAny_letOwnedTupleGo_enum (s := { s with heap := h1, toks := tk + 1 }) ho fun h2 he' sb => ?_⟩
    have nT := Nat.ne_of_gt l1
    have gT : h2.get? s.heap.objs.size = some { cls := .type "tuple", data := .seq #[.int i tk, .str ⟨#[c]⟩ u] } := (sb.2 _ nT).trans hT
    have fresh : H s.heap.objs.size = none := I.hok.fresh (Nat.le_refl _)
    have new : ObjOk X.prog X.w (upd H s.heap.objs.size (.tup [.int (i : Nat), .str ⟨#[c]⟩])) h2 s.heap.objs.size (.tup [.int (i : Nat), .str ⟨#[c]⟩]) :=
      ⟨Nat.le_of_ble_eq_true rfl, [.int i tk, .str ⟨#[c]⟩ u], .cons ⟨_, rfl⟩ (.cons ⟨_, rfl⟩ .nil), _, gT, rfl, _, rfl⟩
    have J : Inv X pins σ (upd H s.heap.objs.size (.tup [.int (i : Nat), .str ⟨#[c]⟩])) { s with heap := h2, toks := tk + 1 } := by
      refine I.turnedNew (ch := [e, it]) (fun b ob hb q => ?_) hf (Nat.le_refl _) new
      have n1 : b ≠ e := fun z => hb (by simp [z])
      have n2 : b ≠ it := fun z => hb (by simp [z])
      exact (sb.2 b n1).trans (hk b ob n1 n2 q)
    refine ⟨.ref s.heap.objs.size, _, J, rfl, ⟨_, c, rfl, fresh, hc', rfl⟩, ⟨⟨.str ⟨#[c]⟩ u, ?_⟩, ?_⟩, fun b hb => ?_⟩
    · rw [show ((i + 1 : Nat) : Int) = (i : Int) + 1 by omega]
      exact he'
    · obtain ⟨o, g1, g2⟩ := hit'
      exact ⟨o, (sb.2 it (Ne.symm hne)).trans g1, g2⟩
    · have lb : b < s.heap.objs.size := by
        have e' : b = e ∨ b = it := by simpa using hb
        rcases e' with rfl | rfl <;> assumption
      rw [upd_ne (Nat.ne_of_lt lb)]
      exact (hf b hb).1
  · rintro X rfl rfl rfl hc i pins s σ H E I hf ⟨⟨old, he⟩, hit⟩ hg
    have hh : X.A.in1.handled = none := I.ok.hd hc
    have DD := Draws.text (prog := X.prog) (w := X.w) (A := X.A.in1) hh it x t
    have hi : i = x.cps.size := hg
    subst hi
    obtain ⟨f0, f1, f2, f3, f4, f5⟩ := hf it (by simp)
    exact wpAny_pyNext_enum_endD DD he hit fun h1 eb => ⟨rfl, I.turned (t' := s.toks) (fun b o hb q => eb b o hb q) f0 f1 f3 f4 f5⟩
  · obtain ⟨⟨old, he⟩, _⟩ := st
    exact wpAny_pyIter_enum he h
def iEnS (ta : TA) : TI := fun σ H R => ta σ H fun vs H1 => ∃ x, vs = [.str x] ∧ R (ItE x) H1
theorem pi_enumS {X : Cx} {e : Expr} {ta : TA} {p pos tpos : Pos} {elts : List Expr} {kk : Nat} (hg : Gl X "enumerate") (hm : X.mg "enumerate" = none) (ha : PA X [e] ta) (hs : starEach [e] X.env = [(false, eval e X.env)] := by rfl) :
    PI X (.Tuple elts kk tpos) (.Call (.Name "enumerate" p) [e] [] pos) (iEnS ta) := by
  constructor
  intro pins s σ H R I h
  refine Call_ (ld_blt I hg hm boot_enumerate (PyProof.Rows.callWith_type1 (thn (ha.run pos pins s σ H _ I h) fun us s1 q1 => ?_) hs rfl))
  obtain ⟨vs, H1, I1, r1, x, rfl, q⟩ := q1
  cases r1 with
  | cons r rr =>
    cases rr
    obtain ⟨t, rfl⟩ := r
    refine call_enumerate_str fun h1 he hit hsz hk => wpAny_pyIter_enum he ?_
    have J : Inv X pins σ H1 { s1 with heap := h1 } := I1.kept (t' := s1.toks) hk
    refine ⟨s1.heap.objs.size + 1, [s1.heap.objs.size + 1, s1.heap.objs.size], _, ItE x, H1, rfl, J, turn_enumS x t _ _ (Nat.succ_ne_self _), ⟨⟨.none, he⟩, hit⟩, fun b hb => ?_, q⟩
    have lb : s1.heap.objs.size ≤ b := by
      have e' : b = s1.heap.objs.size + 1 ∨ b = s1.heap.objs.size := by simpa using hb
      rcases e' with rfl | rfl
      · exact Nat.le_succ _
      · exact Nat.le_refl _
    exact I1.fpOk lb (I1.hok.fresh lb)
theorem walk_enumS {x : Str} : Walk (ItE x) x.cps.size (fun _ => True) (fun i H v H' => ∃ T c, v = .ref T ∧ H T = none ∧ x.cps[i]? = some c ∧ H' = upd H T (.tup [.int (i : Nat), .str ⟨#[c]⟩])) :=
  ⟨fun _ _ hi _ => hi, fun _ _ => rfl, fun _ _ _ _ _ _ y => y⟩
end Sw
namespace Sw
open PySem PySem.Spec PyProof.Rows L2
/-! ### comprehensions that leave all as it was -/
theorem lc_map {J : It} {n : Nat} {G : Hp → Prop} {Y : Nat → Hp → V → Hp → Prop} {g : TG} {te : TE} {vs : List Nat} {σ : L2.St} {H1 : Hp} {D : Addr} {Qd : Hp → Prop} (w : Walk J n G Y) (f : Nat → V)
    (hn : n ≤ 1000000) (nD : H1 D = none) (hG : ∀ H, Same H1 H → G H)
    (hs : ∀ i x H H', i < n → Same H1 H → Y i H x H' → ∀ R : V → Hp → Prop, (∀ H4, Same H H4 → R (f i) H4) → g x (wipe σ vs) H' fun σ2 H2 => wipe σ2 vs = wipe σ vs ∧ te σ2 H2 R)
    (hd : ∀ H, Same H1 H → H D = some (.lst ((List.range n).map f)) → Qd H)
    (hmono : ∀ x σ H (R R' : L2.St → Hp → Prop), (∀ σ' H', R σ' H' → R' σ' H') → g x σ H R → g x σ H R') :
    ∃ W : Nat → Nat → Hp → Prop, (∃ m, W 0 m (upd H1 D (.lst []))) ∧ ∀ i m H, W i m H →
      (J.stop i H ∧ Qd H) ∨ (J.go i H ∧ ∃ Nx : Hp → Prop, (∀ H', Nx H' → ∃ m', m' < m ∧ W (i + 1) m' H') ∧ ∀ x H', J.yld i H x H' → g x (wipe σ vs) H' fun σ2 H2 => wipe σ2 vs = wipe σ vs ∧ tYes σ2 H2 fun b H3 =>
        if b = true then te σ2 H3 fun y H4 => ∃ acc, H4 D = some (.lst acc) ∧ acc.length < sizeLine ∧ Nx (upd H4 D (.lst (acc ++ [y]))) else Nx H3) := by
  refine lc_it w (fun i H => Same H1 H ∧ H D = some (.lst ((List.range i).map f))) ⟨same_upd nD, upd_same⟩ (fun i H _ p => hG H p.1) (fun i x H H' hi p y => ?_) (fun H p => hd H p.1 p.2)
  refine hmono _ _ _ _ _ (fun σ2 H2 q => ?_) (hs i x H H' hi p.1 y (fun y H4 => ∃ acc, H4 D = some (.lst acc) ∧ acc.length < sizeLine ∧ (Same H1 (upd H4 D (.lst (acc ++ [y]))) ∧ (upd H4 D (.lst (acc ++ [y]))) D = some (.lst ((List.range (i + 1)).map f)))) (fun H4 s4 => ?_))
  · refine ⟨q.1, ?_⟩
    unfold tYes
    dsimp only
    rw [if_pos rfl]
    exact q.2
  · refine ⟨_, s4 _ _ p.2, ?_, fun b o e => ?_, ?_⟩
    · rw [List.length_map, List.length_range]
      exact Nat.lt_of_lt_of_le hi (Nat.le_trans hn (by decide))
    · rw [upd_ne (ne_of_none e nD)]
      exact s4 _ _ (p.1 _ _ e)
    · rw [upd_same, List.range_succ, List.map_append]
      rfl
theorem mono_name {i : Nat} (x : V) (σ : L2.St) (H : Hp) (R R' : L2.St → Hp → Prop) (h : ∀ σ' H', R σ' H' → R' σ' H') (q : gName i x σ H R) : gName i x σ H R' := h _ _ q
theorem range_map_get {α β : Type} (l : List α) (F : Nat → β) (g : α → β) (h : ∀ i x, l[i]? = some x → F i = g x) : (List.range l.length).map F = l.map g := by
  apply List.ext_getElem?
  intro i
  rw [List.getElem?_map, List.getElem?_map]
  by_cases hi : i < l.length
  · rw [List.getElem?_range hi, List.getElem?_eq_getElem hi]
    show some (F i) = some (g l[i])
    rw [h i _ (List.getElem?_eq_getElem hi)]
  · rw [List.getElem?_eq_none (by rw [List.length_range]; omega), List.getElem?_eq_none (by omega)]; rfl
/-! ### isinstance -/
theorem i_isi {K : PySem.W.Frag} {H : Hp} {Q : VK} {x : V} {t : Value} {n : String} (b : Bool) (h1 : TyX K H x t) (h2 : PySem.W.kitOne K t (.type n) = some b) (h : Q (.bl b) H) : rIsi K [x, .ty n] H Q := ⟨x, .ty n, t, .type n, b, rfl, .ty n, h1, h2, h⟩
/-! ### texts of letters -/
def azB (l : List Nat) : Bool := l.all fun c => decide (97 ≤ c ∧ c ≤ 122)
theorem azB_app (a b : List Nat) : azB (a ++ b) = (azB a && azB b) := by simp [azB, List.all_append]
theorem azB_take {l : List Nat} (h : azB l = true) (n : Nat) : azB (l.take n) = true := by
  unfold azB at *
  rw [List.all_eq_true] at *
  exact fun x hx => h x (List.mem_of_mem_take hx)
theorem azB_drop {l : List Nat} (h : azB l = true) (n : Nat) : azB (l.drop n) = true := by
  unfold azB at *
  rw [List.all_eq_true] at *
  exact fun x hx => h x (List.mem_of_mem_drop hx)
theorem az_letters : (("abcdefghijklmnopqrstuvwxyz" : Str)).cps.toList = List.range' 97 26 := by decide +kernel
theorem az_in (c : Nat) : decide (c ∈ (("abcdefghijklmnopqrstuvwxyz" : Str)).cps.toList) = decide (97 ≤ c ∧ c ≤ 122) := by
  rw [az_letters]
  by_cases h : 97 ≤ c ∧ c ≤ 122
  · rw [decide_eq_true h, decide_eq_true]
    exact List.mem_range'_1.mpr ⟨h.1, by omega⟩
  · rw [decide_eq_false h, decide_eq_false]
    intro q
    have := List.mem_range'_1.mp q
    omega
theorem e_empty : (("" : Str)) = S [] := by decide +kernel
theorem starts_S (a b : List Nat) : Txt.startswith (S a) (S b) = decide (a.take b.length = b) := by
  unfold Txt.startswith Builtin.Str.subAt
  rw [S_len, S_len]
  show (decide (0 + b.length ≤ a.length) && ((a.toArray.extract 0 (0 + b.length)) == b.toArray)) = _
  rw [Nat.zero_add]
  have e : (a.toArray.extract 0 b.length) = (a.take b.length).toArray := by
    rw [List.extract_toArray, List.extract_eq_take_drop]
    simp
  rw [e]
  by_cases h : a.take b.length = b
  · rw [h, decide_eq_true rfl, beq_self_eq_true, Bool.and_true, decide_eq_true]
    have := congrArg List.length h
    rw [List.length_take] at this
    omega
  · rw [decide_eq_false h]
    have : ((a.take b.length).toArray == b.toArray) = false := by
      rw [beq_eq_false_iff_ne]
      intro q
      exact h (by simpa using q)
    rw [this, Bool.and_false]
/-! ### what is known of a heap stays -/
theorem Same.at {H H' : Hp} {a : Addr} {o : HO} (s : Same H H') (h : H a = some o) : H' a = some o := s a o h
theorem Same.sqT {K : PySem.W.Frag} {H H' : Hp} {a : Addr} {xs : List V} (e : Same H H') (h : SqT K H a xs) : SqT K H' a xs := by
  rcases h with (h | ⟨o, h⟩) | h
  · exact .inl (.inl (e _ _ h))
  · exact .inl (.inr ⟨o, e _ _ h⟩)
  · exact .inr h
theorem Same.sqL {K : PySem.W.Frag} {H H' : Hp} {a : Addr} {xs : List V} (e : Same H H') (h : SqL K H a xs) : SqL K H' a xs := e.seq h
theorem Same.upd_new {H H1 : Hp} {p : Addr} {o : HO} (s : Same H H1) (n : H1 p = none) : Same H (upd H1 p o) := s.trans (same_upd n)
/-- an object that is new since H is written: what was tracked at H stays -/
theorem Same.set_new {H H1 : Hp} {p : Addr} {o : HO} (s : Same H H1) (n : H p = none) : Same H (upd H1 p o) := fun b x e => by
  rw [upd_ne (ne_of_none e n)]
  exact s _ _ e
/-! ### loops and comprehensions, their source apart -/
def LcGo (J : It) (g : TG) (tt : TT) (te : TE) (vs : List Nat) (σ : L2.St) (H : Hp) (Q : VK) : Prop := tLc (fun _ H R => R J H) g tt te vs σ H Q
def ForGo (J : It) (g : TG) (tb : TS) (D : Ends) (σ : L2.St) (H : Hp) : Prop := tFor (fun _ H R => R J H) g tb D σ H
theorem i_lc {wi : TI} {g : TG} {tt : TT} {te : TE} {vs : List Nat} {σ : L2.St} {H : Hp} {Q : VK} (h : wi σ H fun J H1 => LcGo J g tt te vs σ H1 Q) : tLc wi g tt te vs σ H Q := h
theorem i_for {wi : TI} {g : TG} {tb : TS} {D : Ends} {σ : L2.St} {H : Hp} (h : wi σ H fun J H1 => ForGo J g tb D σ H1) : tFor wi g tb D σ H := h
theorem i_iList {K : PySem.W.Frag} {tl : TE} {R : It → Hp → Prop} {σ : L2.St} {H : Hp} (h : tl σ H fun x H1 => ∃ a, x = .ref a ∧ (∃ xs, SqL K H1 a xs) ∧ R (Itl K a) H1) : iList K tl σ H R := h
theorem i_iTup {K : PySem.W.Frag} {tl : TE} {R : It → Hp → Prop} {σ : L2.St} {H : Hp} (h : tl σ H fun x H1 => ∃ a, x = .ref a ∧ (∃ xs, SqT K H1 a xs) ∧ R (Itt K a) H1) : iTup K tl σ H R := h
theorem i_iStr {te : TE} {R : It → Hp → Prop} {σ : L2.St} {H : Hp} (h : te σ H fun v H1 => ∃ x, v = .str x ∧ R (Its x) H1) : iStr te σ H R := h
theorem i_iRng1 {ta : TA} {R : It → Hp → Prop} {σ : L2.St} {H : Hp} (h : ta σ H fun vs H1 => ∃ j : Int, vs = [.int j] ∧ -(2 ^ 62) ≤ j ∧ j < 2 ^ 62 ∧ R (Itr 0 j.toNat) H1) : iRng1 ta σ H R := h
theorem i_iEnS {ta : TA} {R : It → Hp → Prop} {σ : L2.St} {H : Hp} (h : ta σ H fun vs H1 => ∃ x, vs = [.str x] ∧ R (ItE x) H1) : iEnS ta σ H R := h
theorem i_rng {j : Int} {A : Prop} (h0 : 0 ≤ j) (h1 : j ≤ 1000000) (h : A) : -(2 ^ 62) ≤ j ∧ j < 2 ^ 62 ∧ A := ⟨by omega, by omega, h⟩
theorem i_sqL {K : PySem.W.Frag} {H : Hp} {a : Addr} {xs : List V} {A : Prop} (h1 : SqL K H a xs) (h : A) : (∃ xs, SqL K H a xs) ∧ A := ⟨⟨xs, h1⟩, h⟩
section
variable {J : It} {n : Nat} {G : Hp → Prop} {Y : Nat → Hp → V → Hp → Prop} {g : TG} {tt : TT} {te : TE} {tb : TS} {vs : List Nat} {σ : L2.St} {H1 : Hp} {D : Ends} {Q : VK}
theorem go_map (w : Walk J n G Y) (f : Nat → V) (hn : n ≤ 1000000) (hG : ∀ H, Same H1 H → G H)
    (hs : ∀ i x H H', i < n → Same H1 H → Y i H x H' → ∀ R : V → Hp → Prop, (∀ H4, Same H H4 → R (f i) H4) → g x (wipe σ vs) H' fun σ2 H2 => wipe σ2 vs = wipe σ vs ∧ te σ2 H2 R)
    (hmono : ∀ x σ H (R R' : L2.St → Hp → Prop), (∀ σ' H', R σ' H' → R' σ' H') → g x σ H R → g x σ H R')
    (hd : ∀ p H, H1 p = none → Same H1 H → H p = some (.lst ((List.range n).map f)) → Q (.ref p) H) : LcGo J g tYes te vs σ H1 Q :=
  fun p np => lc_map w f hn np hG hs (fun H s e => hd p H np s e) hmono
theorem go_lc (w : Walk J n G Y) (Pv : Addr → Nat → Hp → Prop) (h0 : ∀ p, H1 p = none → Pv p 0 (upd H1 p (.lst []))) (hG : ∀ p i H, i ≤ n → Pv p i H → G H)
    (hs : ∀ p, H1 p = none → ∀ i x H H', i < n → Pv p i H → Y i H x H' → g x (wipe σ vs) H' fun σ2 H2 => wipe σ2 vs = wipe σ vs ∧ tt σ2 H2 fun b H3 =>
      if b = true then te σ2 H3 fun y H4 => ∃ acc, H4 p = some (.lst acc) ∧ acc.length < sizeLine ∧ Pv p (i + 1) (upd H4 p (.lst (acc ++ [y]))) else Pv p (i + 1) H3)
    (hd : ∀ p H, H1 p = none → Pv p n H → Q (.ref p) H) : LcGo J g tt te vs σ H1 Q :=
  fun p np => lc_it w (Pv p) (h0 p np) (hG p) (hs p np) fun H q => hd p H np q
theorem go_for (w : Walk J n G Y) (Pv : Nat → L2.St → Hp → Prop) (h0 : Pv 0 σ H1) (hG : ∀ i σ H, i ≤ n → Pv i σ H → G H)
    (hs : ∀ i x σ H H', i < n → Pv i σ H → Y i H x H' → g x σ H' fun σ2 H2 => tb { D with nx := Pv (i + 1), ct := Pv (i + 1), bk := D.nx } σ2 H2) (hd : ∀ σ H, Pv n σ H → D.nx σ H) : ForGo J g tb D σ H1 :=
  for_it w Pv h0 hG hs hd
end
theorem i_all {K : PySem.W.Frag} {p : Addr} {bs : List Bool} {H : Hp} {Q : VK} (h1 : H p = some (.lst (bs.map V.bl))) (h : Q (.bl (bs.all id)) H) : rAll K [.ref p] H Q := ⟨p, bs, rfl, sqL_of h1, h⟩
theorem i_inSeq {K : PySem.W.Frag} {p : Addr} {xs : List V} {x : V} {H : Hp} {Q : VK} (h1 : SqL K H p xs ∨ SqT K H p xs) (h2 : flatV x = true) (h3 : xs.all flatV = true) (h : Q (.bl (inV x xs)) H) : rIn K false x (.ref p) H Q := ⟨p, xs, rfl, h1, h2, h3, h⟩
theorem i_ixLH {K : PySem.W.Frag} {p : Addr} {xs : List V} {i : Int} {v : V} {H : Hp} {Q : VK} (h1 : H p = some (.lst xs)) (h2 : atI xs i = some v) (h : Q v H) : rIxL K (.ref p) (.int i) H Q := i_ixL (sqL_of h1) h2 h
theorem i_ixTH {K : PySem.W.Frag} {p : Addr} {xs : List V} {i : Int} {v : V} {H : Hp} {Q : VK} (h1 : H p = some (.tup xs)) (h2 : atI xs i = some v) (h : Q v H) : rIxT K (.ref p) (.int i) H Q := i_ixT (sqT_of h1) h2 h
theorem upd_old {H : Hp} {p a : Addr} {o u : HO} (n : H p = none) (h : H a = some u) : upd H p o a = some u := by rw [upd_ne (ne_of_none h n)]; exact h
theorem upd_skip {H : Hp} {p a : Addr} {o u : HO} (n : a ≠ p) (h : H a = some u) : upd H p o a = some u := by rw [upd_ne n]; exact h
theorem iteNT {A B : Prop} (h : B) : if (!true) = true then A else B := iteF h
theorem iteNF {A B : Prop} (h : A) : if (!false) = true then A else B := iteT h
theorem iteNB {p : Prop} [Decidable p] {A B : Prop} (h1 : ¬ p → A) (h2 : p → B) : if (!decide p) = true then A else B := by
  by_cases h : p
  · rw [decide_eq_true h]; exact iteF (h2 h)
  · rw [decide_eq_false h]; exact iteT (h1 h)
theorem iteNC {c : Bool} {A B : Prop} (h1 : c = false → A) (h2 : c = true → B) : if (!c) = true then A else B := by
  cases c with
  | true => exact iteF (h2 rfl)
  | false => exact iteT (h1 rfl)
/-! ### rules whose readings have names, over texts S l -/
section
variable {X : Cx} {H : Hp} {Q : VK} {K : PySem.W.Frag}
theorem pe_strS {x : Str} {j pos} {l : List Nat} (e : x = S l) : PE X (.Constant (.str x) j pos) (tC (.str (S l))) := by rw [e]; exact pe_str
def rAddS : R2 := fun x y H Q => ∃ a b, x = .str (S a) ∧ y = .str (S b) ∧ a.length + b.length ≤ 1000000 ∧ Q (.str (S (a ++ b))) H
theorem op_addS : OpR X (binaryOp .Add) rAddS := fun pins s σ H x y v u Q I rx ry h => by
  obtain ⟨a, b, e1, e2, hz, q⟩ := h
  exact op_add_str pins s σ H x y v u Q I rx ry ⟨S a, S b, e1, e2, by rw [S_len, S_len]; exact Nat.le_trans hz (by decide), by rw [S_app]; exact q⟩
theorem i_addS {a b : List Nat} (h1 : a.length + b.length ≤ 1000000) (h : Q (.str (S (a ++ b))) H) : rAddS (.str (S a)) (.str (S b)) H Q := ⟨a, b, rfl, rfl, h1, h⟩
def rIxSS : V → V → Hp → VK → Prop := fun x y H Q => ∃ l i c, x = .str (S l) ∧ y = .int i ∧ l.length ≤ 1000000 ∧ atI l i = some c ∧ Q (.str (S [c])) H
theorem ix_S : IxR X rIxSS := fun pins s σ H x y v u b Q I rx ry hb h => by
  obtain ⟨l, i, c, e1, e2, hz, hc, q⟩ := h
  exact ix_str pins s σ H x y v u b Q I rx ry hb ⟨S l, i, c, e1, e2, by rw [S_len]; exact Nat.le_trans hz (by decide), by rw [S_list]; exact hc, q⟩
theorem i_ixSS {l : List Nat} {i : Int} {c : Nat} (h1 : l.length ≤ 1000000) (h2 : atI l i = some c) (h : Q (.str (S [c])) H) : rIxSS (.str (S l)) (.int i) H Q := ⟨l, i, c, rfl, rfl, h1, h2, h⟩
def rSlSS : V → Option Int → Option Int → Hp → VK → Prop := fun x lo hi H Q => ∃ l, x = .str (S l) ∧ l.length ≤ 1000000 ∧ Q (.str (S (cut l lo hi))) H
theorem sl_S : SlR X rSlSS := fun pins s σ H x v vl vu lo hi sl Q I rx hs pl pu h => by
  obtain ⟨l, e1, hz, q⟩ := h
  exact sl_str pins s σ H x v vl vu lo hi sl Q I rx hs pl pu ⟨S l, e1, by rw [S_len]; exact Nat.le_trans hz (by decide), by rw [cutS_S]; exact q⟩
theorem i_slFrom {l : List Nat} {k : Int} (h0 : 0 ≤ k) (h1 : l.length ≤ 1000000) (h : Q (.str (S (l.drop k.toNat))) H) : rSlSS (.str (S l)) (some k) none H Q :=
  ⟨l, rfl, h1, by rw [show k = ((k.toNat : Nat) : Int) by omega, cut_from]; exact h⟩
theorem i_slTo {l : List Nat} {k : Int} (h0 : 0 ≤ k) (h1 : l.length ≤ 1000000) (h : Q (.str (S (l.take k.toNat))) H) : rSlSS (.str (S l)) none (some k) H Q :=
  ⟨l, rfl, h1, by rw [show k = ((k.toNat : Nat) : Int) by omega, cut_to]; exact h⟩
def rLenSS : List V → Hp → VK → Prop := fun xs H Q => ∃ l, xs = [.str (S l)] ∧ l.length ≤ 1000000 ∧ Q (.int (l.length : Int)) H
theorem call_lenS : CallR X (.builtin "len") rLenSS := fun pins s σ H xs us Q I r h => by
  obtain ⟨l, e1, hz, q⟩ := h
  exact call_len_str pins s σ H xs us Q I r ⟨S l, e1, by rw [S_len]; exact Nat.le_trans hz (by decide), by rw [S_len]; exact q⟩
theorem i_lenSS {l : List Nat} (h1 : l.length ≤ 1000000) (h : Q (.int (l.length : Int)) H) : rLenSS [.str (S l)] H Q := ⟨l, rfl, h1, h⟩
def rStartS : V → List V → Hp → VK → Prop := fun x xs H Q => ∃ a b, x = .str (S a) ∧ xs = [.str (S b)] ∧ Q (.bl (decide (a.take b.length = b))) H
theorem mt_startsS : MtR X "str.startswith" rStartS := fun pins s σ H x xs v us Q I rx rv h => by
  obtain ⟨a, b, e1, e2, q⟩ := h
  exact mt_startswith pins s σ H x xs v us Q I rx rv ⟨S a, S b, e1, e2, by rw [starts_S]; exact q⟩
theorem i_startS {a b : List Nat} (h : Q (.bl (decide (a.take b.length = b))) H) : rStartS (.str (S a)) [.str (S b)] H Q := ⟨a, b, rfl, rfl, h⟩
def rInSg : R2 := fun x y H Q => ∃ (c : Nat) (z : Str), x = .str (S [c]) ∧ y = .str z ∧ Q (.bl (decide (c ∈ z.cps.toList))) H
theorem op_inSg : OpR X (compareOp .In) rInSg := op_in_sign
theorem i_inSg {c : Nat} {z : Str} (h : Q (.bl (decide (c ∈ z.cps.toList))) H) : rInSg (.str (S [c])) (.str z) H Q := ⟨c, z, rfl, rfl, h⟩
def rAbs : List V → Hp → VK → Prop := fun xs H Q => ∃ i, xs = [.int i] ∧ Q (.int (if i < 0 then -i else i)) H
theorem call_absN : CallR X (.builtin "abs") rAbs := call_abs
theorem i_absN {i : Int} (h : Q (.int (if i < 0 then -i else i)) H) : rAbs [.int i] H Q := ⟨i, rfl, h⟩
def rMin2 : List V → Hp → VK → Prop := fun xs H Q => ∃ i j, xs = [.int i, .int j] ∧ Q (.int (if j < i then j else i)) H
theorem call_min2N (hc : X.calm = true) : CallR X (.builtin "min") rMin2 := call_min2 hc
theorem i_min2 {i j : Int} (h : Q (.int (min i j)) H) : rMin2 [.int i, .int j] H Q := ⟨i, j, rfl, by
  by_cases c : j < i
  · rw [if_pos c]; rw [show min i j = j by omega] at h; exact h
  · rw [if_neg c]; rw [show min i j = i by omega] at h; exact h⟩
def rMax2 : List V → Hp → VK → Prop := fun xs H Q => ∃ i j, xs = [.int i, .int j] ∧ Q (.int (if j > i then j else i)) H
theorem call_max2N (hc : X.calm = true) : CallR X (.builtin "max") rMax2 := call_max2 hc
theorem i_max2 {i j : Int} (h : Q (.int (max i j)) H) : rMax2 [.int i, .int j] H Q := ⟨i, j, rfl, by
  by_cases c : j > i
  · rw [if_pos c]; rw [show max i j = j by omega] at h; exact h
  · rw [if_neg c]; rw [show max i j = i by omega] at h; exact h⟩
def rMin3 : List V → Hp → VK → Prop := fun xs H Q => ∃ i j k, xs = [.int i, .int j, .int k] ∧ Q (.int (min (min i j) k)) H
theorem nuMin2_int (i j : Int) : nuMin2 (.int i) (.int j) = some (.int (min i j)) := by
  show some (if decide (j < i) = true then V.int j else V.int i) = some (.int (min i j))
  by_cases c : j < i
  · rw [decide_eq_true c, if_pos rfl, show min i j = j by omega]
  · rw [decide_eq_false c, if_neg Bool.false_ne_true, show min i j = i by omega]
theorem call_min3N (hc : X.calm = true) : CallR X (.builtin "min") rMin3 := fun pins s σ H xs us Q I r h => by
  obtain ⟨i, j, k, e1, q⟩ := h
  exact call_min3Nu hc pins s σ H xs us Q I r ⟨_, _, _, _, e1, by unfold nuMin3; rw [nuMin2_int]; show nuMin2 (.int (min i j)) (.int k) = _; rw [nuMin2_int], q⟩
theorem i_min3 {i j k : Int} (h : Q (.int (min (min i j) k)) H) : rMin3 [.int i, .int j, .int k] H Q := ⟨i, j, k, rfl, h⟩
def rInt : List V → Hp → VK → Prop := fun xs H Q => (∃ i, xs = [.int i] ∧ Q (.int i) H) ∨ ∃ k, xs = [.bl k] ∧ Q (.int (if k then 1 else 0)) H
theorem call_intN : CallR X (.type "int") rInt := call_int1
theorem i_intN {i : Int} (h : Q (.int i) H) : rInt [.int i] H Q := .inl ⟨i, rfl, h⟩
theorem i_intNB {k : Bool} (h : Q (.int (if k then 1 else 0)) H) : rInt [.bl k] H Q := .inr ⟨k, rfl, h⟩
def rLenQ (K : PySem.W.Frag) : List V → Hp → VK → Prop := fun xs H Q => ∃ p ys, xs = [.ref p] ∧ (SqL K H p ys ∨ SqT K H p ys) ∧ Q (.int ys.length) H
theorem call_lenQ : CallR X (.builtin "len") (rLenQ X.K) := call_len_seq
theorem i_lenL {p : Addr} {ys : List V} (h1 : H p = some (.lst ys)) (h : Q (.int ys.length) H) : rLenQ K [.ref p] H Q := ⟨p, ys, rfl, .inl (sqL_of h1), h⟩
theorem i_lenT {p : Addr} {ys : List V} (h1 : H p = some (.tup ys)) (h : Q (.int ys.length) H) : rLenQ K [.ref p] H Q := ⟨p, ys, rfl, .inr (sqT_of h1), h⟩
theorem i_lenK {p : Addr} {ys : List V} (h1 : SqL K H p ys) (h : Q (.int ys.length) H) : rLenQ K [.ref p] H Q := ⟨p, ys, rfl, .inl h1, h⟩
theorem dec_inj {α β : Type} [DecidableEq α] [DecidableEq β] {f : α → β} (hf : ∀ a b, f a = f b → a = b) (a b : α) : decide (f a = f b) = decide (a = b) := by
  by_cases h : a = b
  · subst h; simp
  · rw [decide_eq_false h, decide_eq_false (fun e => h (hf a b e))]
theorem dec_I (a b : Int) : decide (V.int a = V.int b) = decide (a = b) := dec_inj (fun _ _ e => V.int.inj e) a b
theorem i_eqI {a b : Int} (h : Q (.bl (decide (a = b))) H) : rEq (.int a) (.int b) H Q := ⟨rfl, by rw [dec_I]; exact h⟩
theorem i_neI {a b : Int} (h : Q (.bl (!decide (a = b))) H) : rNe (.int a) (.int b) H Q := ⟨rfl, by rw [dec_I]; exact h⟩
theorem i_eqS {a b : List Nat} (h : Q (.bl (decide (a = b))) H) : rEq (.str (S a)) (.str (S b)) H Q := ⟨rfl, by rw [S_dec]; exact h⟩
theorem i_neS {a b : List Nat} (h : Q (.bl (!decide (a = b))) H) : rNe (.str (S a)) (.str (S b)) H Q := ⟨rfl, by rw [S_dec]; exact h⟩
def rIsNo : R2 := fun x y H Q => y = .non ∧ Q (.bl (decide (x = .non))) H
theorem op_isNo : OpR X (compareOp .Is) rIsNo := op_isN
theorem i_isNoI {i : Int} (h : Q (.bl false) H) : rIsNo (.int i) .non H Q := ⟨rfl, h⟩
theorem i_isNoN (h : Q (.bl true) H) : rIsNo .non .non H Q := ⟨rfl, h⟩
theorem i_isNoR {a : Addr} (h : Q (.bl false) H) : rIsNo (.ref a) .non H Q := ⟨rfl, h⟩
def rRepI : List V → Hp → VK → Prop := fun xs H Q => ∃ i, xs = [.int i] ∧ i.natAbs.log2 < 1920 ∧ Q (.str (toString i)) H
theorem call_repI : CallR X (.builtin "repr") rRepI := SkE.call_repr_int
end
theorem walk_S {l : List Nat} : Walk (Its (S l)) l.length (fun _ => True) (fun i H v H' => H' = H ∧ ∃ c, l[i]? = some c ∧ v = .str (S [c])) := by
  have w := walk_str (z := S l)
  rw [S_size] at w
  exact w.mono (fun _ _ => trivial) fun i H x H' _ _ y => by
    obtain ⟨e, c, hc, ev⟩ := y
    rw [S_get] at hc
    exact ⟨e, c, hc, ev⟩
theorem walk_eS {l : List Nat} : Walk (ItE (S l)) l.length (fun _ => True) (fun i H v H' => ∃ T c, v = .ref T ∧ H T = none ∧ l[i]? = some c ∧ H' = upd H T (.tup [.int (i : Nat), .str (S [c])])) := by
  have w := walk_enumS (x := S l)
  rw [S_size] at w
  exact w.mono (fun _ _ => trivial) fun i H x H' _ _ y => by
    obtain ⟨T, c, e, n, hc, eh⟩ := y
    rw [S_get] at hc
    exact ⟨T, c, e, n, hc, eh⟩
theorem go_while {c : TT} {tb : TS} {D : Ends} {σ : L2.St} {H : Hp} (Pv : Nat → L2.St → Hp → Prop) (m0 : Nat) (h0 : Pv m0 σ H)
    (hs : ∀ m σ H, Pv m σ H → c σ H fun b H1 => if b = true then ∃ N : L2.St → Hp → Prop, (∀ σ' H', N σ' H' → ∃ m', m' < m ∧ Pv m' σ' H') ∧ tb { D with nx := N, ct := N, bk := D.nx } σ H1 else D.nx σ H1) : tWhile c tb D σ H :=
  ⟨Pv, ⟨m0, h0⟩, hs⟩
theorem next_turn {m : Nat} {Pv : Nat → L2.St → Hp → Prop} {A : (L2.St → Hp → Prop) → Prop} (h : A fun σ' H' => ∃ m', m' < m ∧ Pv m' σ' H') : ∃ N : L2.St → Hp → Prop, (∀ σ' H', N σ' H' → ∃ m', m' < m ∧ Pv m' σ' H') ∧ A N := ⟨_, fun _ _ q => q, h⟩
def rRevS : V → Hp → VK → Prop := fun x H Q => ∃ l, x = .str (S l) ∧ l.length ≤ sizeLine ∧ Q (.str (S l.reverse)) H
theorem i_revS {te : TE} {σ : L2.St} {H : Hp} {Q : VK} (h : te σ H fun x H1 => rRevS x H1 Q) : tRevS te σ H Q := h
theorem i_revSS {l : List Nat} {H : Hp} {Q : VK} (h1 : l.length ≤ 1000000) (h : Q (.str (S l.reverse)) H) : rRevS (.str (S l)) H Q := ⟨l, rfl, Nat.le_trans h1 (by decide), h⟩
theorem i_cut {t u : TS} {D : Ends} {σ : L2.St} {H : Hp} (Mid : L2.St → Hp → Prop) (h1 : t { D with nx := Mid } σ H) (h2 : ∀ σ' H', Mid σ' H' → u D σ' H') : C8.tCut t u D σ H := ⟨Mid, h1, h2⟩
theorem i_minL {K : PySem.W.Frag} {p : Addr} {ns : List Int} {H : Hp} {Q : VK} (h1 : H p = some (.lst (ns.map V.int))) (h2 : 0 < ns.length) (h : ∀ m, m ∈ ns → (∀ y, y ∈ ns → m ≤ y) → Q (.int m) H) : rMin K [.ref p] H Q := ⟨p, ns, rfl, sqL_of h1, h2, h⟩
/-- one half of an if: what is appended, or nothing -/
theorem i_chainLL {g : Int → Int → Bool} {g' : Int → Int → Bool} {σ : L2.St} {H : Hp} {R : Bool → Hp → Prop} {i j k : Int}
    (h : R (g i j && g' j k) H) : rI0 (fun a b => .bl (g a b)) (.int i) (.int j) H fun z H3 => ∃ c, z = .bl c ∧ (if c = true then rI0 (fun a b => .bl (g' a b)) (.int j) (.int k) H3 fun x H4 => ∃ d, x = .bl d ∧ R d H4 else ∃ d, V.bl false = .bl d ∧ R d H3) := by
  refine ⟨i, j, rfl, rfl, g i j, rfl, ?_⟩
  cases e : g i j with
  | true => rw [e] at h; exact iteT ⟨j, k, rfl, rfl, g' j k, rfl, h⟩
  | false => rw [e] at h; exact iteF ⟨false, rfl, h⟩
theorem walk_rangeZ {n : Nat} : Walk (Itr 0 n) n (fun _ => True) (YFn fun i => .int (i : Int)) :=
  (walk_range (lo := 0) (n := n)).mono (fun _ h => h) fun i H x H' _ _ y => ⟨y.1, by rw [y.2]; show V.int (0 + (i : Int)) = V.int (i : Int); rw [Int.zero_add]⟩
theorem i_ixLI {K : PySem.W.Frag} {p : Addr} {ns : List Int} {i v : Int} {H : Hp} {Q : VK} (h1 : H p = some (.lst (ns.map V.int))) (h0 : 0 ≤ i) (h2 : ns[i.toNat]? = some v) (h : Q (.int v) H) : rIxL K (.ref p) (.int i) H Q := by
  refine i_ixLH h1 ?_ h
  have e := atI_nat (xs := ns.map V.int) (j := i.toNat) (v := .int v) (by rw [List.getElem?_map, h2]; rfl)
  rwa [show ((i.toNat : Nat) : Int) = i by omega] at e
theorem i_ixSI {l : List Nat} {i : Int} {c : Nat} {H : Hp} {Q : VK} (h0 : 0 ≤ i) (h2 : l[i.toNat]? = some c) (h1 : l.length ≤ 1000000) (h : Q (.str (S [c])) H) : rIxSS (.str (S l)) (.int i) H Q := by
  refine i_ixSS h1 ?_ h
  have e := atI_nat (xs := l) (j := i.toNat) (v := c) h2
  rwa [show ((i.toNat : Nat) : Int) = i by omega] at e
theorem i_appI {p : Addr} {ns : List Int} {v : Int} {H : Hp} {Q : VK} (h1 : H p = some (.lst (ns.map V.int))) (h2 : ns.length ≤ 1000000) (h : Q .non (upd H p (.lst ((ns ++ [v]).map V.int)))) : rAppend (.ref p) [.int v] H Q := by
  refine i_append h1 (by rw [List.length_map]; exact Nat.lt_of_le_of_lt h2 (by decide)) ?_
  rw [List.map_append] at h
  exact h
theorem i_gTupH {K : PySem.W.Frag} {n : Nat} {t : TGs} {a : Addr} {xs : List V} {σ : L2.St} {H : Hp} {R : L2.St → Hp → Prop} (h1 : H a = some (.tup xs)) (h2 : xs.length = n) (h : t xs σ H R) : gTup K n t (.ref a) σ H R := ⟨a, xs, rfl, sqT_of h1, h2, h⟩
theorem join_S (ws : List (List Nat)) : Txt.join (S []) (ws.map S) = S ws.flatten := by
  unfold Txt.join
  rw [StrLaws.glued_eq_join]
  induction ws with
  | nil => rfl
  | cons w ws ih =>
    cases ws with
    | nil => simp [Str.join]
    | cons v ws =>
      show S w ++ S [] ++ Str.join (S []) ((v :: ws).map S) = _
      rw [ih, S_app, S_app, List.append_nil]
      rfl
theorem sum_lens (ws : List (List Nat)) : ((ws.map S).map (·.length)).sum = ws.flatten.length := by
  induction ws with
  | nil => rfl
  | cons w ws ih =>
    rw [List.map_cons, List.map_cons, List.sum_cons, ih, List.flatten_cons, List.length_append, S_len]
def rJoinS (K : PySem.W.Frag) : V → List V → Hp → VK → Prop := fun x xs H Q => ∃ p, ∃ ws : List (List Nat), x = .str (S []) ∧ xs = [.ref p] ∧ (SqL K H p (ws.map fun l => .str (S l)) ∨ SqT K H p (ws.map fun l => .str (S l))) ∧ ws.flatten.length ≤ 1000000 ∧ Q (.str (S ws.flatten)) H
theorem mt_joinS {X : Cx} : MtR X "str.join" (rJoinS X.K) := fun pins s σ H x xs v us Q I rx rv h => by
  obtain ⟨p, ws, e1, e2, hp, hl, q⟩ := h
  have e3 : (ws.map fun l => V.str (S l)) = (ws.map S).map V.str := by rw [List.map_map]; rfl
  rw [e3] at hp
  refine mt_join pins s σ H x xs v us Q I rx rv ⟨S [], p, ws.map S, e1, e2, hp, ?_, by rw [join_S]; exact q⟩
  rw [sum_lens, show (S []).length = 0 from rfl, Nat.mul_zero, Nat.add_zero]
  omega
theorem i_joinS {K : PySem.W.Frag} {p : Addr} {ws : List (List Nat)} {H : Hp} {Q : VK} (h1 : H p = some (.lst (ws.map fun l => .str (S l)))) (h2 : ws.flatten.length ≤ 1000000) (h : Q (.str (S ws.flatten)) H) : rJoinS K (.str (S [])) [.ref p] H Q :=
  ⟨p, ws, rfl, rfl, .inl (sqL_of h1), h2, h⟩
theorem atI_neg1 {α : Type} {xs : List α} {v : α} {n : Nat} (h : xs.length = n + 1) (h2 : xs[n]? = some v) : atI xs (-1) = some v := by
  have e : xs = xs.dropLast ++ [v] := by
    have hne : xs ≠ [] := by intro z; rw [z] at h; cases h
    have := List.dropLast_concat_getLast hne
    have e2 : xs.getLast hne = v := by
      rw [List.getLast_eq_getElem]
      have := List.getElem?_eq_some_iff.mp h2
      obtain ⟨_, q⟩ := this
      simpa [h] using q
    rw [e2] at this
    exact this.symm
  rw [e]
  exact atI_last _ _
theorem i_ixLv {K : PySem.W.Frag} {p : Addr} {xs : List V} {i : Int} {v : V} {H : Hp} {Q : VK} (h1 : H p = some (.lst xs)) (h0 : 0 ≤ i) (h2 : xs[i.toNat]? = some v) (h : Q v H) : rIxL K (.ref p) (.int i) H Q := by
  refine i_ixLH h1 ?_ h
  have e := atI_nat (xs := xs) (j := i.toNat) (v := v) h2
  rwa [show ((i.toNat : Nat) : Int) = i by omega] at e
theorem i_rU {g : Int → V} {i : Int} {H : Hp} {Q : VK} (h : Q (g i) H) : rU g (.int i) H Q := ⟨i, rfl, h⟩
end Sw
namespace Sw
open PySem PySem.Spec PyProof.Rows L2
/-! ### t[::-1] of a tuple -/
theorem back_adjust (n : Nat) : Builtin.Slice.sliceAdjust none none (-1) (n : Int) = ((n : Int) - 1, -1) := by
  unfold Builtin.Slice.sliceAdjust
  simp
theorem back_places (n : Nat) : Builtin.Slice.slicePlaces ((n : Int) - 1) (-1) (-1) = n := by
  unfold Builtin.Slice.slicePlaces
  simp only [show ¬ ((-1 : Int) > 0) by decide, if_false]
  split <;> simp <;> omega
theorem fm_congr {α β : Type} {f g : α → Option β} : ∀ {l : List α}, (∀ a ∈ l, f a = g a) → l.filterMap f = l.filterMap g
  | [], _ => rfl
  | a :: l, h => by
    rw [List.filterMap_cons, List.filterMap_cons, h a List.mem_cons_self, fm_congr fun b hb => h b (List.mem_cons_of_mem _ hb)]
theorem back_pick {α : Type} (l : List α) : ((List.range l.length).filterMap fun (k : Nat) => l.toArray[(((l.length : Int) - 1) + (k : Int) * (-1)).toNat]?) = l.reverse := by
  have e : ∀ k ∈ List.range l.length, l.toArray[(((l.length : Int) - 1) + (k : Int) * (-1)).toNat]? = l.reverse[k]? := by
    intro k hk
    have hk := List.mem_range.mp hk
    rw [List.getElem?_reverse hk, List.getElem?_toArray]
    congr 1
    omega
  rw [fm_congr e]
  have h2 : ∀ m : List α, (List.range m.length).filterMap (fun k => m[k]?) = m := by
    intro m
    induction m with
    | nil => rfl
    | cons a m ih =>
      rw [List.length_cons, List.range_succ_eq_map, List.filterMap_cons, List.filterMap_map]
      show a :: List.filterMap ((fun k => (a :: m)[k]?) ∘ Nat.succ) (List.range m.length) = a :: m
      congr 1
  have := h2 l.reverse
  rwa [List.length_reverse] at this
theorem getItem_tuple_back {prog : Program} {w : World} {A : Around} {E : Value → Shared → Prop} {s : Shared} {t sl : Addr} {ys : List Value} {u : Tok} {Q : Value → Shared → Prop} (ht : IsTup s.heap t ys.toArray)
    (hs : ∃ os, s.heap.get? sl = some os ∧ os.cls = .type "slice" ∧ os.data = .fields #[.none, .none, .int (-1) u])
    (h : Q (.ref s.heap.objs.size) { s with heap := s.heap.push { cls := .type "tuple", data := .seq ys.reverse.toArray } }) (hz : ys.length ≤ sizeLine) : wpAny (model prog w) A (getItem (.ref t) (.ref sl)) Q E s := by
  have hno' : sizeOk (.seq ys.reverse.toArray) := by
    show ys.reverse.toArray.size ≤ sizeLine
    rw [List.size_toArray, List.length_reverse]
    exact hz
  obtain ⟨os, hos, hcs, hds⟩ := hs
  have hTs : s.TypeIs (.ref sl) "slice" := ⟨os, hos, hcs⟩
  unfold getItem
  try with_reducible refine wpAny_holding ?_
  first | refine wpAny_bind (wpAny_pure ?_) | skip
  refine wpAny_bind (wpAny_sequenceKey ht.typeIs (by decide) ?_)
  refine wpAny_bind (wpAny_callSpecial?_slot (name := Str.ofString "__getitem__") ht.typeIs PyProof.Rows.slot_tuple_getitem (wpAny_call_entry PyProof.Rows.slot_tuple_getitem ht.typeIs entry_tuple_getitem ?_ (args_tuple_getitem _ _)))
  show wpAny _ _ (Builtin.Tuple.tupleItemsOf (.ref t) >>= _) _ _ s
  refine wpAny_bind (tupleItemsOf_ ht ?_)
  refine wpAny_bind (wpAny_typeOf hTs ?_)
  rw [if_pos (by decide)]
  have ap : ∀ {R : Int × Int × Nat → Shared → Prop}, R (((ys.toArray.size : Nat) : Int) - 1, -1, ys.toArray.size) s → wpAny (model prog w) A.in1 (Builtin.Slice.sliceApplied (.ref sl) (pure ((ys.toArray.size : Nat) : Int))) R E s := by
    intro R hR
    unfold Builtin.Slice.sliceApplied Builtin.Slice.sliceFields
    refine wpAny_bind (wpAny_bind (wpAny_field hos hds (x := .none) rfl (wpAny_bind (wpAny_field hos hds (x := .none) rfl (wpAny_bind (wpAny_field hos hds (x := .int (-1) u) rfl (wpAny_pure ?_)))))))
    refine wpAny_bind (slicePart_int ?_)
    show wpAny _ _ (if ((-1 : Int) == 0) = true then _ else _) _ _ s
    rw [if_neg (by decide)]
    refine wpAny_bind (slicePart_none (wpAny_bind (slicePart_none (wpAny_bind (wpAny_pure ?_)))))
    show wpAny _ _ (match Builtin.Slice.sliceAdjust none none (-1) ((ys.toArray.size : Nat) : Int) with | (lo, hi) => pure (lo, (-1 : Int), Builtin.Slice.slicePlaces lo hi (-1))) _ _ s
    rw [back_adjust]
    show wpAny _ _ (pure (((ys.toArray.size : Nat) : Int) - 1, (-1 : Int), Builtin.Slice.slicePlaces (((ys.toArray.size : Nat) : Int) - 1) (-1) (-1))) _ _ s
    rw [back_places]
    exact wpAny_pure hR
  refine wpAny_bind (ap ?_)
  show wpAny _ _ (if (((ys.toArray.size : Nat) : Int) - 1 == 0 && (-1 : Int) == 1 && ys.toArray.size == ys.toArray.size) = true then _ else _) _ _ s
  rw [if_neg (by simp)]
  have e := back_pick ys
  rw [show ys.length = ys.toArray.size from List.size_toArray.symm] at e
  rw [e]
  first
    | exact wpAny_bind (m := Builtin.Tuple.tupleExact _) (wpAny_newObj_type (wpAny_pure ⟨_, rfl, wpAny_pure h⟩) hno')
    | exact wpAny_bind (m := Builtin.Tuple.tupleExact _) (wpAny_newObj_type (wpAny_bind (wpAny_pure (wpAny_pure ⟨_, rfl, wpAny_pure h⟩))) hno')
    | exact wpAny_bind (wpAny_bind (m := Builtin.Tuple.tupleExact _) (wpAny_newObj_type (wpAny_pure (wpAny_pure ⟨_, rfl, wpAny_pure h⟩)) hno'))
def tRevT (K : PySem.W.Frag) (te : TE) : TE := fun σ H Q => te σ H fun x H1 => ∃ a xs, x = .ref a ∧ SqT K H1 a xs ∧ ∀ p, H1 p = none → Q (.ref p) (upd H1 p (.tup xs.reverse))
theorem Vals.back {xs : List V} {us : List Value} (r : Vals xs us) : Vals xs.reverse us.reverse := by
  induction r with
  | nil => exact .nil
  | cons r1 _ ih =>
    rw [List.reverse_cons, List.reverse_cons]
    exact ih.append (.cons r1 .nil)
theorem pe_revT {X : Cx} {e : Expr} {te : TE} {k : Nat} {p1 p2 p3 pos : Pos} (he : PE X e te) :
    PE X (.Subscript e (.Slice none none (some (.UnaryOp .USub (.Constant (.int 1) k p1) p2)) p3) pos) (tRevT X.K te) := by
  constructor
  intro pins s σ H Q I h
  refine Subscript_ (thn (he.run pins s σ H _ I h) fun v s1 ⟨x, H1, I1, r1, a, xs, ex, hx, q⟩ => ?_)
  subst ex
  cases r1
  have st : PO X (some (.UnaryOp .USub (.Constant (.int 1) k p1) p2)) (tPart (tUn (rU fun i => .int (-i)) (tC (.int 1)))) := po_some (pe_un un_neg pe_int)
  refine wpAny_Slice (thn (po_none.run pins s1 σ H1 (fun o G => o = none ∧ G = H1) I1 ⟨rfl, rfl⟩) fun w1 s2 ⟨o1, G1, J1, z1, a1, b1⟩ => ?_)
  subst a1 b1
  refine thn (po_none.run pins s2 σ G1 (fun o G => o = none ∧ G = G1) J1 ⟨rfl, rfl⟩) fun w2 s3 ⟨o2, G2, J2, z2, a2, b2⟩ => ?_
  subst a2 b2
  refine thn (st.run pins s3 σ G2 (fun o G => o = some (-1) ∧ G = G2) J2 ⟨1, rfl, -1, rfl, rfl, rfl⟩) fun w3 s4 ⟨o3, G3, J3, z3, a3, b3⟩ => ?_
  subst a3 b3
  have J4 : Inv X pins σ G3 { s4 with heap := s4.heap.push { cls := .type "slice", data := .fields #[w1, w2, w3] } } := J3.kept (t' := s4.toks) fun b ob q => Heap.get?_push_of_some _ q
  obtain ⟨y1, rfl, f1⟩ := IsPart.raw z1
  obtain ⟨y2, rfl, f2⟩ := IsPart.raw z2
  obtain ⟨y3, rfl, f3⟩ := IsPart.raw z3
  cases y1 with
  | some y => cases f1
  | none =>
  cases y2 with
  | some y => cases f2
  | none =>
  cases y3 with
  | none => cases f3
  | some y =>
  obtain ⟨m, u⟩ := y
  have em : m = -1 := Option.some.inj f3
  subst em
  obtain ⟨its, r, ht, hz⟩ := J4.tuple hx
  refine tail_any (T := "tuple") (id := _) (ops := [.ref a, .ref s4.heap.objs.size]) ht.typeIs PyProof.Rows.slot_tuple_getitem.lookup ?_ (by with_unfolding_all rfl)
  have hz' : its.length ≤ sizeLine := by rw [← r.length]; exact hz
  refine getItem_tuple_back (u := u) ht ⟨_, Heap.get?_push_size _ rfl, rfl, rfl⟩ ?_ hz'
  refine ⟨.ref _, _, J4.laid (t' := s4.toks) (o := .tup xs.reverse) (fun b ob q => Heap.get?_push_of_some _ q) (Nat.le_refl _) ?_, rfl, q _ (J4.hok.fresh (Nat.le_refl _))⟩
  exact ⟨by rw [List.length_reverse]; exact hz, _, Vals.back r, IsTup.new _ _⟩
theorem i_revT {K : PySem.W.Frag} {te : TE} {σ : L2.St} {H : Hp} {Q : VK} (h : te σ H fun x H1 => ∃ a xs, x = .ref a ∧ SqT K H1 a xs ∧ ∀ p, H1 p = none → Q (.ref p) (upd H1 p (.tup xs.reverse))) : tRevT K te σ H Q := h
/-! ### text * int -/
def rMulS : R2 := fun x y H Q => ∃ (l : List Nat) (n : Nat), x = .str (S l) ∧ y = .int (n : Int) ∧ l.length ≤ 1000 ∧ n ≤ 1000 ∧ Q (.str (S (List.replicate n l).flatten)) H
theorem mul_S (l : List Nat) (n : Nat) : Txt.mul (S l) (n : Int) = S (List.replicate n l).flatten := by
  unfold Txt.mul
  by_cases h0 : n = 0
  · subst h0; simp [S, Str.empty]
  · rw [if_neg (by omega)]
    by_cases h1 : (((n : Int) == 1 || (S l).length == 0) = true)
    · rw [if_pos h1]
      rcases Bool.or_eq_true_iff.mp h1 with h1 | h1
      · have : n = 1 := by have := eq_of_beq h1; omega
        subst this; simp
      · have e : l = [] := by have := eq_of_beq h1; rw [S_len] at this; exact List.length_eq_zero_iff.mp this
        subst e
        simp
    · rw [if_neg h1]
      show (⟨(List.replicate n l.toArray).foldl (· ++ ·) #[]⟩ : Str) = ⟨(List.replicate n l).flatten.toArray⟩
      congr 1
      have : ∀ (m : Nat) (b : Array Nat), (List.replicate m l.toArray).foldl (· ++ ·) b = b ++ (List.replicate m l).flatten.toArray := by
        intro m
        induction m with
        | zero => intro b; simp
        | succ m ih =>
          intro b
          rw [List.replicate_succ, List.foldl_cons, ih, List.replicate_succ, List.flatten_cons]
          simp
      rw [this]
      simp
theorem op_mulS {X : Cx} : OpR X (binaryOp .Mult) rMulS := fun pins s σ H x y v u Q I rx ry h => by
  obtain ⟨l, n, rfl, rfl, h1, h2, q⟩ := h
  obtain ⟨t, rfl⟩ := rx
  obtain ⟨t', rfl⟩ := ry
  refine SB.mul ⟨?_, ?_, ?_⟩ fun t' tk => ⟨.str (S (List.replicate n l).flatten), H, I.tok _, ⟨_, by rw [mul_S]⟩, q⟩
  · rw [Bool.or_eq_false_iff]; exact ⟨decide_eq_false (by omega), decide_eq_false (by omega)⟩
  · intro hn _
    rw [S_len]
    have : (n : Int) * (l.length : Int) ≤ 2 ^ 63 - 1 := by
      have := Nat.mul_le_mul h2 h1
      have e : (n : Int) * (l.length : Int) = ((n * l.length : Nat) : Int) := by simp
      rw [e]; omega
    have := (Int.le_ediv_iff_mul_le (a := (l.length : Int)) (b := 2 ^ 63 - 1) (c := (n : Int)) (by omega)).mpr (by rw [Int.mul_comm]; exact this)
    omega
  · intro _ _
    rw [S_len, Int.toNat_natCast]
    have := Nat.mul_le_mul h1 h2
    unfold Builtin.Str.tooLong
    exact decide_eq_false (by rw [show sizeLine = 16777216 from rfl]; omega)
theorem i_mulS {l : List Nat} {n : Nat} {H : Hp} {Q : VK} (h1 : l.length ≤ 1000) (h2 : n ≤ 1000) (h : Q (.str (S (List.replicate n l).flatten)) H) : rMulS (.str (S l)) (.int (n : Int)) H Q := ⟨l, n, rfl, rfl, h1, h2, h⟩
/-! ### a def called by names alone -/
def tKw (sp : Sp) (gV : List V → List V → List V) (tk : TA) : TE := fun σ H Q => tk σ H fun zs H1 => sp (gV [] zs) H1 Q E0
section
variable (P : Program) (w : World) (K : PySem.W.Frag) (mg : Str → Option Value) (base : Heap)
def CalK (x : Str) (ps : List Str) (k : Nat) (sp : Sp) (ks : List Str) (g : List Value → List Value → List Value) (gV : List V → List V → List V) : Prop := ∃ (f : Addr) (fd : FuncData), FnOk P w K mg base CX0 k f fd ps sp ∧ mg x = some (.ref f) ∧ PySem.W.keepIn K (.ref f) = true ∧ KBinds K fd ps ks g gV
end
theorem Def.calK {P : Program} {w : World} {K : PySem.W.Frag} {mg : Str → Option Value} {base : Heap} {x : Str} {st : Stmt} {ps ks : List Str} {k : Nat} {sp : Sp} {g : List Value → List Value → List Value} {gV : List V → List V → List V} (d : Def K mg x st)
    (b : ∀ (kV doc pm : Value) (an : Option Addr) (cdv ct : Value) (us ws : List Value), (g us ws).length = ps.length → bindArgs (PySem.W.fnOf x x (defArgs st) (defBody st) (defScope st) .none kV doc pm an cdv ct) ⟨us, ks.zip ws⟩ = pure (ps.zip (g us ws)))
    (rel : ∀ {vs : List V} {us : List Value} {zs : List V} {ws : List Value}, Vals vs us → Vals zs ws → Vals (gV vs zs) (g us ws))
    (ok : ∀ (f : Addr) (fd : FuncData), Fun K x x st f fd → FnOk P w K mg base CX0 k f fd ps sp) : CalK P w K mg base x ps k sp ks g gV := by
  obtain ⟨f, fd, F, m⟩ := d
  have O := ok f fd F
  have kp := F.kp
  obtain ⟨oc, od, kV, doc, pm, an, cdv, ct, osl, rfl, lk, hcd⟩ := F.ex
  exact ⟨f, _, O, m, kp, fun s us ws _ hl => .of_eq (b kV doc pm an cdv ct us ws hl), rel⟩
section
variable {X : Cx} {x : Str} {ps ks : List Str} {k n : Nat} {sp : Sp} {g : List Value → List Value → List Value} {gV : List V → List V → List V} {kws : List Keyword} {tk : TA} {p pos : Pos}
theorem pe_calK (c : CalK X.prog X.w X.K X.mg X.base x ps k sp ks g gV) (hr : Room n X.A) (hkw : PK X kws tk) (hg : Gl X x := by rfl) (hk : k ≤ n := by decide)
    (hall : (backToKw pos (keywordEach kws X.env)).all (·.1.isSome) = true := by rfl) (hks : (backToKw pos (keywordEach kws X.env)).filterMap (·.1) = ks := by rfl) (hdb : (x == ("__debug__" : Str)) = false := by decide)
    (hpl : ((backTo pos (starEach [] X.env)).any (·.1) || (backToKw pos (keywordEach kws X.env)).any (·.1.isNone)) = false := by rfl) :
    PE X (.Call (.Name x p) [] kws pos) (tKw sp gV tk) := by
  obtain ⟨f, fd, F, m, kp, b⟩ := c
  refine ⟨fun pins s σ H Q I h => ?_⟩
  refine wpAny_Call_Name_kw (ld_glob I hg m ?_ hdb)
  refine PySem.W.callWith_KW0 (h₀ := X.base) I.ok.mod.kin kp hall (thn (hkw.run pos pins s σ H _ I h) fun ws s2 ⟨zs, H2, I2, rz, q2⟩ => ⟨I2.kIn, ?_⟩) hpl
  rw [hks]
  exact run_fnk F (hr.mono hk) b pass0 I2 .nil rz q2
theorem i_kw {σ : L2.St} {H : Hp} {Q : VK} (h : tk σ H fun zs H1 => sp (gV [] zs) H1 Q E0) : tKw sp gV tk σ H Q := h
end
end Sw
namespace Sw
open PySem PySem.Spec PyProof.Rows L2
/-! ### promises of defs that are called where nothing is being shown (repr) -/
structure FnG (P : Program) (w : World) (K : PySem.W.Frag) (mg : Str → Option Value) (base : Heap) (CX : CXT) (k : Nat) (f : Addr) (fd : FuncData) (ps : List Str) (sp : Sp) : Prop where
  len : ∀ xs M R X, sp xs M R X → xs.length = ps.length
  go : ∀ (A : Around) (out : List Env) (t : Shared) (M : Hp) (args : Args) (us : List Value) (xs : List V) (R : VK) (X : XK), Room k A → A.guards = some [] → Env0 P w K mg base A out t M → BindsTo t fd args (ps.zip us) → Vals xs us → sp xs M R X →
    codeAny (model P w) A (.call (.ref f) args) (CR CX out P w M t R X) t
section
variable {P : Program} {w : World} {K : PySem.W.Frag} {mg : Str → Option Value} {base : Heap} {CX : CXT} {k : Nat} {f : Addr} {fd : FuncData} {ps : List Str} {sp : Sp}
theorem FnG.of (F : FnOk P w K mg base CX k f fd ps sp) : FnG P w K mg base CX k f fd ps sp := ⟨F.len, fun A out t M args us xs R X room _ => F.run A out t M args us xs R X room⟩
theorem FnG.low {j : Nat} (F : FnG P w K mg base CX j f fd ps sp) (h : j ≤ k) : FnG P w K mg base CX k f fd ps sp := ⟨F.len, fun A out t M args us xs R X room => F.go A out t M args us xs R X (room.mono h)⟩
theorem Fun.okG {x qual : Str} {st : Stmt} {N : List Str} (F : Fun K x qual st f fd) (S : FnScope N ps (defScope st)) (len : ∀ xs M R X, sp xs M R X → xs.length = ps.length)
    (body : ∀ (cdv : Value) (A : Around) (out : List Env) (t : Shared) (M : Hp) (xs : List V) (R : VK) (X : XK), Room k (A.deeper (envOfC qual (defScope st) t.heap.objs.size f cdv)) → A.guards = some [] → sp xs M R X →
      ∃ r, PSs (cxOf CX P w K mg base N qual (defScope st) f cdv A out t M X) (defBody st) r ∧ r { nx := fun _ M' => R .non M', rt := R } (start N xs) M) : FnG P w K mg base CX (k + 1) f fd ps sp := by
  obtain ⟨oc, od, kV, doc, pm, an, cdv, ct, osl, rfl, found, coded⟩ := F.ex
  constructor
  · exact len
  intro A out t M args us xs R X room quiet env bind rel prom
  have count := len xs M R X prom
  have inHeap := env.mod.kin.keeps fun b o e => (env.bs b o e).1
  have quota := env.mod.nolimit.keeps fun b o e => (env.bs b o e).1
  have kinds : ∀ z ∈ ps.zip us, (defScope st).names.lookup z.1 = some .local ∨ ((defScope st).names.lookup z.1 = some .cell ∧ ((cellsFrom (t.heap.objs.size + 1) (defScope st).names []).lookup z.1).isSome = true) := by
    rintro ⟨n, v⟩ hz
    have hn := (List.of_mem_zip hz).1
    rcases S.par n hn with l | c
    · left; exact l
    · right; exact ⟨c, PySem.W.cellsFrom_some _ _ _ (.inl c)⟩
  apply codeAny_call_function room.depth (inHeap _ _ found) rfl S.co S.gen rfl (PySem.W.codeRec_of inHeap coded) (bind _ _ _ _ ?_)
  apply wpAny_newFunctionEnv_cells S.kind kinds
  intro env2 e2 t1 entry
  subst e2
  refine ⟨quota.keeps entry.toInCall.keep, codeAny_func ?_⟩
  obtain ⟨r, hr, runs⟩ := body cdv A out t M xs R X (room.deeper _) quiet prom
  have I := inv_start (CX := CX) (E := X) S room.hd env count rel entry
  apply wpAny_mono (hr.run [] t1 (start N xs) M _ I runs)
  · intro fl t' leaves
    cases fl with
    | ret u =>
      obtain ⟨v, σ', M', J, rv, q⟩ := leaves
      exact ⟨v, M', J.os, J.bare, J.base, J.hok, rv, q⟩
    | next =>
      obtain ⟨σ', M', J, q⟩ := leaves
      exact ⟨V.non, M', J.os, J.bare, J.base, J.hok, rfl, q⟩
    | brk => obtain ⟨_, _, _, q⟩ := leaves; exact q.elim
    | cont => obtain ⟨_, _, _, q⟩ := leaves; exact q.elim
  · exact fun _ _ z => z
end
section
variable {X : Cx} {ps : List Str} {k : Nat} {f : Addr} {fd : FuncData} {sp : Sp} {ds : List Value} {dvs : List V} {CX : CXT} {E : XK}
theorem run_G {pins : List (Addr × Obj)} {σ : L2.St} {M : Hp} {t : Shared} {R : VK} {us : List Value} {xs : List V} (F : FnG X.prog X.w X.K X.mg X.base CX k f fd ps sp) (room : Room k X.A) (quiet : X.A.guards = some []) (b : Binds X.K fd ps ds) (hd : Vals dvs ds) (px : Passes CX X E)
    (I : Inv X pins σ M t) (r : Vals xs us) (h : sp (xs ++ dvs) M R E) : wpAny (model X.prog X.w) X.A (call (.ref f) us) (EP X pins σ R) X.xe t := by
  have both := r.append hd
  have count : (us ++ ds).length = ps.length := both.length.symm.trans (F.len _ _ _ _ h)
  apply wpAny_call
  apply codeAny_mono (F.go X.A X.stack t M ⟨us, []⟩ (us ++ ds) (xs ++ dvs) R E room quiet I.env0 (b t us I.kIn count) both h)
  intro o t' q
  rcases o with e | fl
  · exact px pins σ M t e t' I q
  · cases fl with
    | ret u => exact I.after q
    | next => exact q.elim
    | brk => exact q.elim
    | cont => exact q.elim
end
section
variable (P : Program) (w : World) (K : PySem.W.Frag) (mg : Str → Option Value) (base : Heap)
def CalG (x : Str) (ps : List Str) (k : Nat) (sp : Sp) : Prop := ∃ (f : Addr) (fd : FuncData), FnG P w K mg base CX0 k f fd ps sp ∧ mg x = some (.ref f) ∧ PySem.W.keepIn K (.ref f) = true ∧ Binds K fd ps []
end
theorem Def.calG {P : Program} {w : World} {K : PySem.W.Frag} {mg : Str → Option Value} {base : Heap} {x : Str} {st : Stmt} {ps : List Str} {k : Nat} {sp : Sp} (d : Def K mg x st)
    (b : ∀ (kV doc pm : Value) (an : Option Addr) (cdv ct : Value) (us : List Value), us.length = ps.length → bindArgs (PySem.W.fnOf x x (defArgs st) (defBody st) (defScope st) .none kV doc pm an cdv ct) ⟨us, []⟩ = pure (ps.zip us))
    (ok : ∀ (f : Addr) (fd : FuncData), Fun K x x st f fd → FnG P w K mg base CX0 k f fd ps sp) : CalG P w K mg base x ps k sp := by
  obtain ⟨f, fd, F, m⟩ := d
  exact ⟨f, fd, ok f fd F, m, F.kp, F.binds b⟩
theorem pe_calG {X : Cx} {x : Str} {ps : List Str} {k n : Nat} {sp : Sp} {e : Expr} {es : List Expr} {t : TA} {p pos : Pos} (c : CalG X.prog X.w X.K X.mg X.base x ps k sp) (hr : Room n X.A) (quiet : X.A.guards = some []) (ha : PA X (e :: es) t) (hg : Gl X x := by rfl) (hk : k ≤ n := by decide)
    (hdb : (x == ("__debug__" : Str)) = false := by decide) (he : starEach (e :: es) X.env = (false, eval e X.env) :: starEach es X.env := by rfl) (hpl : (backTo pos (starEach es X.env)).any (·.1) = false := by rfl) :
    PE X (.Call (.Name x p) (e :: es) [] pos) (tCall sp [] E0 t) := by
  obtain ⟨f, fd, F, m, kp, b⟩ := c
  constructor
  intro pins s σ M R I h
  apply wpAny_Call_Name_kw (ld_glob I hg m ?_ hdb)
  exact PySem.W.callWith_K (h₀ := X.base) I.ok.mod.kin kp (thn (ha.run pos pins s σ M _ I h) fun us s1 ⟨xs, M1, I1, r, q⟩ => ⟨I1.kIn, run_G F (hr.mono hk) quiet b .nil pass0 I1 r q⟩) he hpl
/-! ### repr of data -/
def rRepD (K : PySem.W.Frag) : List V → Hp → VK → Prop := fun xs M R => ∃ x d, xs = [x] ∧ Dp K M x d ∧ d.showable = true ∧ d.hasDict = false ∧ d.depth ≤ 60 ∧ d.shown.length ≤ sizeLine ∧ R (.str d.shown) M
theorem call_repD {X : Cx} (quiet : X.A.guards = some []) (hu : X.A.units + 64 < cLine) : CallR X (.builtin "repr") (rRepD X.K) := by
  intro pins s σ M xs us R I r h
  obtain ⟨x, d, rfl, hd, sh, nd, dp, sz, q⟩ := h
  obtain ⟨u, rfl, ru⟩ := vals1 r
  obtain ⟨as, rd⟩ := Dp.reads I d x u hd ru
  cases hd with
  | non =>
    cases ru
    exact PySem.P.repr_of_none ⟨.str (PyData.shown .none), M, I.tok _, ⟨_, by simp only [PyData.shown]; rfl⟩, q⟩
  | bl b =>
    cases ru
    exact PySem.P.repr_of_bool ⟨.str (PyData.shown (.bool b)), M, I.tok _, ⟨_, by simp only [PyData.shown]; rfl⟩, q⟩
  | int i =>
    obtain ⟨t, rfl⟩ := ru
    exact PySem.P.repr_of_int (of_decide_eq_true (by simpa only [PyData.showable] using sh)) ⟨.str (PyData.shown (.int i)), M, I.tok _, ⟨_, by simp only [PyData.shown]; rfl⟩, q⟩
  | str z =>
    obtain ⟨t, rfl⟩ := ru
    exact PySem.P.repr_of_str ⟨.str (PyData.shown (.str z)), M, I.tok _, ⟨_, by simp only [PyData.shown]; rfl⟩, q⟩ (by simpa only [PyData.shown] using sz)
  | lst h1 h2 =>
    cases ru
    exact repr_of_reads' rd sh (PyData.noDict_hsm nd) quiet (by omega) (fun _ _ e => e) (fun h' t tk keep => ⟨.str _, M, I.kept (t' := tk) keep, ⟨t, rfl⟩, q⟩) sz
  | tup h1 h2 =>
    cases ru
    exact repr_of_reads' rd sh (PyData.noDict_hsm nd) quiet (by omega) (fun _ _ e => e) (fun h' t tk keep => ⟨.str _, M, I.kept (t' := tk) keep, ⟨t, rfl⟩, q⟩) sz
end Sw
namespace Sw
open PySem PySem.Spec PyProof.Rows L2
/-! ### the end of a law whose def is called where nothing is being shown -/
theorem law_G {P : Program} {w : World} {K : PySem.W.Frag} {mg mb : Str → Option Value} {k : Nat} {fa a : Addr} {fd : FuncData} {x : Str} {sp : Sp} {t : Shared} {vs : List Value} {ns : List Int}
    (inK : K.In t.heap) (gl : t.heap.Ns mainGlobals mg) (bl : t.heap.Ns builtinsNs mb) (bb : ∀ y : Str, y ≠ "__name__" → mb y = bootBuiltins y) (lim : t.heap.NoLimit) (quietGens : t.gens = #[])
    (script : t.heap.get? a = some { cls := .type "list", data := .seq vs.toArray }) (nums : IntsAre vs ns) (short : ns.length ≤ sizeLine) (room : Room k callerA)
    (F : ∀ base : Heap, K.In base → base.Ns mainGlobals mg → FnG P w K mg base CX0 k fa fd [x] sp) (bind : ∀ (s : Shared) (u : Value), BindsTo s fd ⟨[u], []⟩ [(x, u)])
    (prom : ∀ M : Hp, Only M → SqL K M a (ns.map V.int) → sp [.ref a] M (fun v _ => v = .bl true) E0) :
    codeAny (model P w) callerA (.call (.ref fa) ⟨[.ref a], []⟩) (fun r s' => r = .ok (.ret (.bool true)) ∧ OldK t.heap s'.heap ∧ s'.os = t.os ∧ AllBare s'.gens) t := by
  have vals := vals_ints nums
  have sameLen := nums.length
  -- tracked: the script alone, and only if the module does not hold it already
  let M : Hp := fun b => if b = a ∧ K.lookup a = none then some (.frz { cls := .type "list", data := .seq vs.toArray } (.lst (ns.map V.int))) else none
  have at_a : ∀ {b : Addr} {o : HO}, M b = some o → b = a ∧ K.lookup a = none ∧ o = .frz { cls := .type "list", data := .seq vs.toArray } (.lst (ns.map V.int)) := by
    intro b o q
    by_cases c : b = a ∧ K.lookup a = none
    · have q' := (if_pos c).symm.trans q
      exact ⟨c.1, c.2, (Option.some.inj q').symm⟩
    · have q' := (if_neg c).symm.trans q
      cases q'
  have only : Only M := by
    intro b
    by_cases c : b = a ∧ K.lookup a = none
    · right; exact ⟨_, _, if_pos c⟩
    · left; exact if_neg c
  have ok : HOk P w M t.heap := by
    intro b o q
    obtain ⟨rfl, _, rfl⟩ := at_a q
    exact ⟨script, by rw [List.length_map]; exact short, vs, _, vals, script⟩
  have known : SqL K M a (ns.map V.int) := by
    cases hk : K.lookup a with
    | none => exact .inl (.inr ⟨_, if_pos ⟨rfl, hk⟩⟩)
    | some o =>
      have e := inK a o hk
      rw [script] at e
      cases e
      exact .inr ⟨_, vs.toArray, _, hk, rfl, rfl, rfl, by rw [List.size_toArray, sameLen]; exact short, by simpa using vals⟩
  have under : ∀ {b : Addr} {o : Obj}, t.heap.get? b = some o → M b = none → (hidT t.heap M).get? b = some o := fun e n => hidT_get e n
  have dictFree : ∀ {b : Addr} {o : Obj} {es : Array DictEntry} {n : Nat}, t.heap.get? b = some o → o.data = .dict es n → M b = none := by
    intro b o es n e hd
    rcases q : M b with _ | u
    · rfl
    · obtain ⟨rfl, _, _⟩ := at_a q
      rw [script] at e
      cases e
      cases hd
  have names : ∀ {b : Addr} {m : Str → Option Value}, t.heap.Ns b m → (hidT t.heap M).Ns b m := by
    rintro b m ⟨o, es, n, e, hd, r⟩
    exact ⟨o, es, n, under e (dictFree e hd), hd, r⟩
  have baseIn : K.In (hidT t.heap M) := by
    intro b o e
    apply under (inK b o e)
    rcases q : M b with _ | u
    · rfl
    · obtain ⟨rfl, no, _⟩ := at_a q
      rw [no] at e
      cases e
  obtain ⟨mc, lim1, lim2⟩ := lim
  have env : Env0 P w K mg (hidT t.heap M) callerA [] t M :=
    ⟨rfl, ⟨baseIn, names gl, ⟨mb, names bl, bb⟩, ⟨mc, names lim1, lim2⟩⟩, fun b o e => of_hidT e, Nat.le_of_eq (hidT_size _ _), trivial, (fun b z => by have y : b ∈ ([] : List Addr) := z; simp at y), ok, .of_eq quietGens⟩
  apply codeAny_mono ((F _ baseIn (names gl)).go callerA [] t M ⟨[.ref a], []⟩ [.ref a] [.ref a] _ _ room rfl env (bind t (.ref a)) (.cons rfl .nil) (prom M only known))
  intro r s' q
  rcases r with e | fl
  · exact q.elim
  · cases fl with
    | next => exact q.elim
    | brk => exact q.elim
    | cont => exact q.elim
    | ret u =>
      obtain ⟨v, M', os, bare, un, ok', rel, said⟩ := q
      have said' : v = .bl true := said
      subst said'
      have isTrue : u = Value.bool true := rel
      subst isTrue
      refine ⟨rfl, OldK.of_keep ?_, os, bare⟩
      intro b o e
      rcases q : M b with _ | u
      · exact un.keep b o e q (fun z => by have y : b ∈ ([] : List Addr) := z; simp at y) (by simp)
      · obtain ⟨rfl, _, rfl⟩ := at_a q
        obtain ⟨e1, _⟩ := ok _ _ q
        obtain ⟨e2, _⟩ := ok' _ _ (un.frzs _ _ _ q)
        rw [e] at e1
        cases e1
        exact e2
theorem walk_G {l : PySem.W.OpenLaw} {n k : Nat} {q : Program} {loose : List Str} {XP : (Str → Option Value) → Heap → Prop} {YP : World → Heap → Prop} {d : DefRec} {K : Params → PySem.W.Frag} {sp : PySem.W.Frag → Sp} {x : Str}
    (many : l.most = some n) (few : n ≤ sizeLine) (plain : d.params.defaults = []) (room : Room k callerA) (inK : ∀ (w : World) (h : Heap), YP w h → (K w.params).In h)
    (F : ∀ (w : World) (mg : Str → Option Value) (fa : Addr) (h : Heap), (K w.params).In h → h.Ns mainGlobals mg → mg d.name = some (.ref fa) →
      ∃ fd : FuncData, (∀ (s : Shared) (u : Value), BindsTo s fd ⟨[u], []⟩ [(x, u)]) ∧ ∀ base : Heap, (K w.params).In base → base.Ns mainGlobals mg → FnG l.prog w (K w.params) mg base CX0 k fa fd [x] (sp (K w.params)))
    (prom : ∀ (K : PySem.W.Frag) (M : Hp) (a : Addr) (ns : List Int), ns.length ≤ n → Only M → SqL K M a (ns.map V.int) → sp K [.ref a] M (fun v _ => v = .bl true) E0) :
    PySem.W.WalkO q loose XP YP l.row.toRowW d [] (fun f vs => PySem.call f vs) := by
  apply Att.attach_call many plain
  intro w s₀ t mg mb fa o pm cd doc a vs ns G Y _ _ _ named script nums short gens
  have kin := inK w _ Y
  obtain ⟨fd, bind, hF⟩ := F w mg fa _ kin G.T.g named
  exact law_G kin G.T.g G.T.b G.T.builtins G.T.nolimit gens script nums (Nat.le_trans short few) room hF bind fun M o s => prom _ M a ns short o s
end Sw
/-! own exceptions over Exception, by own classes between, with own fields -/
namespace PySem
namespace SwE
open PySem.W PySem.Calls PyProof.Rows PySem.HandSPX
abbrev exT : List Value := [.type "Exception", .type "BaseException", .type "object"]
def over (rs : List Addr) : List Value := rs.map Value.ref ++ exT
theorem over_pass (self : Value) : ∀ rs : List Addr, refuseLoop self "__setattr__" (over rs) = pure ()
  | [] => F.store_Exception.passes self
  | r :: rs => by
    show refuseLoop self "__setattr__" (.ref r :: over rs) = pure ()
    rw [refuseLoop_ref]
    exact over_pass self rs
theorem over_has (T : String) : ∀ rs : List Addr, (over rs).contains (.type T) = exT.contains (.type T)
  | [] => rfl
  | r :: rs => by
    show (Value.ref r :: over rs).contains (.type T) = exT.contains (.type T)
    rw [List.contains_cons, over_has T rs]
    rfl
theorem over_cons (r : Addr) (rs : List Addr) : Value.ref r :: over rs = over (r :: rs) := rfl
section
open Builtin Builtin.ObjectAttr
variable {prog : Program} {w : World} {A : Around} {E : Value → Shared → Prop} {R : Result → Shared → Prop} {hp : Heap} {g : Array GenState} {d : Drawn} {t : Nat} {os : OsState}
/-- the first field of such an exception -/
theorem first_field {K : W.Frag} {name : Str} {tk : Tok} {v : Value} {x C : Addr} {fv : Array Value} {cd : ClassData} {rs : List Addr}
    (inK : K.In hp) (here : hp.get? x = some { cls := .ref C, data := .fields fv }) (cls : W.clsIn K C = some cd) (mro : cd.mro = over rs) (dict : cd.hasDict = true) (none' : W.findIn K (.ref C) name = some none)
    (hq : ∀ h' tk' dx, (∀ b o, b ≠ x → hp.get? b = some o → h'.get? b = some o) → hp.objs.size ≤ dx → dx ≠ x → h'.get? x = some { cls := .ref C, dict := some dx, data := .fields fv } →
      h'.Ns1 dx (fun y => if y = name then some v else none) → R (.ok (.ret .none)) ⟨h', g, d, tk', os⟩) :
    codeAny (model prog w) A (.call (.builtin "object.__setattr__") ⟨[.ref x, .str name tk, v], []⟩) R ⟨hp, g, d, t, os⟩ := by
  have inst : W.InstAt hp x { cls := .ref C, data := .fields fv } C none := ⟨here, rfl, rfl, trivial⟩
  have facts := F.store_object
  have isObj : cd.mro.contains (.type "object") = true := by rw [mro, over_has]; decide +kernel
  have notEmpty : cd.mro.isEmpty = false := by rw [mro]; cases rs <;> rfl
  have apart : x ≠ hp.objs.size := Nat.ne_of_lt (Heap.lt_size here)
  have sub : W.Looks (model prog w) hp (isInstance (.ref x) (.type "object")) true := inst.type.andThen (W.looks_mroIn inK (by unfold W.mroIn; rw [cls, Option.bind_some, if_neg (by rw [notEmpty]; decide), isObj]))
  apply codeAny_call_builtin facts.slot.plain facts.entry (@W.check_slot (model prog w) _ _ ⟨hp, g, d, t, os⟩ "object.__setattr__" "object" "__setattr__" (.ref x) [.str name tk, v] [] _ facts.kind facts.split sub (facts.args (.ref x) (.str name tk) v) ?_)
  have looksMro : W.Looks (model prog w) hp (mroOf (.ref C)) cd.mro := (W.looks_clsIn inK cls).andThen .now
  have noTaker : W.Looks (model prog w) hp (storeTaker? none) none := .now
  have looksCls : W.Looks (model prog w) hp (classData C) cd := W.looks_clsIn inK cls
  rw [W.osa_eq, refuse_eq]
  refine wpAny_bind (wpAny_bind (inst.type.at (wpAny_bind (looksMro.at ?_))))
  rw [mro, over_pass]
  refine wpAny_pure (wpAny_bind (inst.type.at (wpAny_bind ((W.looks_findIn inK none').at (wpAny_bind (noTaker.at ?_))))))
  show wpAny _ _ (storeInOwnDict (.ref x) (.ref C) (.str name tk) name v false) _ _ _
  obtain ⟨nm, bs, mr, ns, qn, hd, sn, sb, ab, col, del⟩ := cd
  dsimp only at dict
  subst dict
  unfold storeInOwnDict ownDictForStores
  repeat (first | with_reducible refine store_in_new ?_ ?_ | with_reducible refine wpAny_loadPart_at here ?_ | with_reducible refine looksCls.at ?_ | wp_step)
  · exact ⟨_, #[], _, (Heap.get?_update_ne _ _ _ _ apart.symm).trans (Heap.get?_push_at rfl rfl), rfl, fun e he => absurd he (by simp), fun _ => rfl⟩
  · intro h' tk' named same
    have still : (hp.push { cls := .type "dict", data := .dict #[] }).get? x = some { cls := .ref C, data := .fields fv } := Heap.get?_push_of_some _ here
    apply hq h' tk' hp.objs.size ?_ (Nat.le_refl _) apart.symm ?_ named
    · intro b o hb ho
      exact (same.2 b (Nat.ne_of_lt (Heap.lt_size ho))).trans ((Heap.get?_update_ne _ _ _ _ hb).trans (Heap.get?_push_of_some _ ho))
    · exact (same.2 x apart).trans (Heap.get?_update_self _ still rfl)
end
end SwE
end PySem
namespace Sw
open PySem PySem.Spec PyProof.Rows L2 PySem.SwE
/-- what the written part says of an own exception class over Exception -/
structure OexE (K : PySem.W.Frag) (C : Addr) : Prop where
  cls : ∃ nm q N bs rs sn sub ab col dd k0 k1 k2 k3 k5, K.lookup C = some (excClassObj nm q C N bs (over rs) true sn sub ab col dd k0 k1 k2 k3 k5 "Exception.__new__")
  sa : PySem.W.findIn K (.ref C) "__setattr__" = some (some (.builtin "object.__setattr__"))
  exC : PySem.W.subIn K (.ref C) (.type "BaseException") = some true
  tyC : PySem.W.typeIn K (.ref C) = some (.type "type")
  kC : PySem.W.keepIn K (.ref C) = true
section
variable {X : Cx} {pins : List (Addr × Obj)} {σ : L2.St} {H : Hp} {s : Shared} {a C dx : Addr} {f : Str} {y : V} {u : Value} {fs : List (Str × V)} {Q : Unit → Shared → Prop} {E : Value → Shared → Prop} {A : Around}
theorem field_new (T : OexE X.K C) (I : Inv X pins σ H s) (e : H a = some (exo a C none)) (no : PySem.W.findIn X.K (.ref C) f = some none) (ry : RelV y u)
    (h : ∀ dx s', H dx = none → dx ≠ a → Inv X pins σ (upd (upd H dx (exd dx [(f, y)])) a (exo a C (some dx))) s' → Q () s') : wpAny (model X.prog X.w) A (setAttr (.ref a) f u) Q E s := by
  obtain ⟨nm, q, N, bs, rs, sn, sub, ab, col, dd, k0, k1, k2, k3, k5, hC⟩ := T.cls
  have data : PySem.W.clsIn X.K C = some { name := nm, bases := bs, mro := .ref C :: over rs, ns := N, qualname := q, hasDict := true, slotNames := sn, subclasses := sub, abstract := ab, collection := col, hasDel := false } := by
    unfold PySem.W.clsIn
    rw [hC] <;> rfl
  obtain ⟨t1, there⟩ := exo_at I.hok e
  obtain ⟨hp, g, d, t, os⟩ := s
  apply PySem.W.set_plain I.kIn (ox := { cls := .ref C, dict := none, data := .fields #[.ref t1, .none, .none, .none, .bool false, .none] }) (od := none) ⟨there, rfl, rfl, trivial⟩ T.sa
  apply first_field I.kIn there data (over_cons C rs) rfl no
  intro h' tk' dx keep new apart now named
  have free : H dx = none := I.hok.fresh new
  have notNew : ∀ {b : Addr} {o : Obj}, hp.get? b = some o → b ≠ dx := fun z => Nat.ne_of_lt (Nat.lt_of_lt_of_le (Heap.lt_size z) new)
  have notIt : ∀ {b : Addr}, H b = none → b ≠ a := by
    rintro b n rfl
    rw [e] at n
    cases n
  have un : Un X.fs [] H (upd (upd H dx (exd dx [(f, y)])) a (exo a C (some dx))) hp h' := by
    constructor
    · exact fun b o z n _ _ => keep b o (notIt n) z
    · exact fun b o z n _ _ => ⟨o.slots, keep b o (notIt n) z⟩
    · intro b o z n _
      rw [upd_ne (notIt n), upd_ne (notNew z)]
      exact n
    · intro b o z _
      by_cases c : b = a
      · exact ⟨_, by rw [c]; exact now⟩
      · exact ⟨o, keep b o c z⟩
    · intro b xs z
      rw [upd_ne (at_ne e z exo_tup), upd_ne (ne_of_none z free)]
      exact z
    · intro b o v z
      rw [upd_ne (at_ne e z exo_frz), upd_ne (ne_of_none z free)]
      exact z
    · exact fun b ps z => ⟨#[], by rw [upd_ne (at_ne e z exo_tbl), upd_ne (ne_of_none z free), z]; simp⟩
  apply h dx _ free apart
  apply I.un (t' := tk') un
  intro b o z
  by_cases c : b = a
  · subst c
    rw [upd_same] at z
    cases z
    exact exo_ok now
  · rw [upd_ne c] at z
    by_cases c2 : b = dx
    · subst c2
      rw [upd_same] at z
      cases z
      exact exd_ok named (relO_put (fs := []) ry fun g => True.intro)
    · rw [upd_ne c2] at z
      apply (I.hok b o z).stay
      · intro cc v hc zz
        apply keep cc v _ zz
        rcases hc with hc | hc
        · rw [hc]; exact c
        · exact at_ne e hc exo_own
      · intro cc hc
        rw [upd_ne (at_ne e hc exo_own), upd_ne (ne_of_none hc free)]
        exact hc
      · intro cc xs hc
        rw [upd_ne (at_ne e hc exo_tup), upd_ne (ne_of_none hc free)]
        exact hc
/-- Exception.__init__(self, ..): nothing of it is told -/
theorem init_plain {us : List Value} {R : Value → Shared → Prop} (T : OexE X.K C) (I : Inv X pins σ H s) (e : H a = some (exo a C none)) (few : us.length ≤ sizeLine) (h : ∀ s', Inv X pins σ H s' → R .none s') :
    wpAny (model X.prog X.w) A (call (.builtin "Exception.__init__") (.ref a :: us)) R E s := by
  obtain ⟨nm, q, N, bs, rs, sn, sub, ab, col, dd, k0, k1, k2, k3, k5, hC⟩ := T.cls
  obtain ⟨t1, there⟩ := exo_at I.hok e
  obtain ⟨hp, g, d, t, os⟩ := s
  apply wpAny_call (PySem.HandSPX.init_base F.excBase_Exception (fun Y => over_has Y rs) (I.kIn _ _ hC) there few ?_)
  intro h' t2 keep now
  have J := I.write (t' := t) (x := a) (e := a) (o := exo a C none) (by rw [e]; exact True.intro) (.inl rfl) keep ⟨_, now⟩ (exo_ok now)
  have same : upd H a (exo a C none) = H := by
    funext b
    by_cases c : b = a
    · rw [c, upd_same, e]
    · rw [upd_ne c]
  rw [same] at J
  exact h _ J
end
/-- B.__init__(self, ..), B's own one being Exception's -/
def tInit (K : PySem.W.Frag) (ta : TA) : TE := fun σ H Q => ta σ H fun vs H1 => ∃ (a C : Addr) (ws : List V), vs = .ref a :: ws ∧ ws.length ≤ 1000 ∧ OexE K C ∧ H1 a = some (exo a C none) ∧ Q .non H1
/-- self.f = e, the first field -/
def tFst (K : PySem.W.Frag) (f : Str) (to te : TE) : TS := fun D σ H => te σ H fun y H1 => to σ H1 fun x H2 => ∃ a C : Addr, x = .ref a ∧ OexE K C ∧ PySem.W.findIn K (.ref C) f = some none ∧
  H2 a = some (exo a C none) ∧ ∀ dx, H2 dx = none → dx ≠ a → D.nx σ (upd (upd H2 dx (exd dx [(f, y)])) a (exo a C (some dx)))
section
variable {X : Cx} {o e : Expr} {es : List Expr} {to te : TE} {ta : TA} {f : Str} {p p' p1 p2 pos : Pos}
theorem ps_fst (ho : PE X o to) (he : PE X e te) (hs : swapsWith e (some (.Attribute o f p')) pos.line X.env = pure false := by rfl) : PS X (.Assign [.Attribute o f p'] e pos) (tFst X.K f to te) := by
  constructor
  intro pins s σ H D I h
  apply plainObj_wpAny_Assign_Attribute (thn (he.run pins s σ H _ I h) fun v s1 ⟨y, H1, I1, r1, q1⟩ => thn (ho.run pins s1 σ H1 _ I1 q1) fun u s2 ⟨x, H2, I2, r2, a, C, ex, T, no, ea, q⟩ => ?_) hs
  subst ex
  obtain rfl : u = Value.ref a := r2
  exact field_new T I2 ea no r1 fun dx s' n ne J => ⟨σ, _, J, q dx n ne⟩
theorem ps_init {x : Str} {B : Addr} {pl : Sem Bool} (hg : Gl X x) (hm : X.mg x = some (.ref B)) (ga : PySem.W.specialIn X.K (.ref B) "__getattribute__" = some (some (.builtin "type.__getattribute__"))) (tyB : PySem.W.typeIn X.K (.ref B) = some (.type "type"))
    (rd : PySem.W.readsIn X.K B (.type "type") = true) (fi : PySem.W.findCls X.K (.ref B) (.type "type") "__init__" = some (.val (.builtin "Exception.__init__"))) (ha : PA X (e :: es) ta)
    (hc : eval (.Call (.Attribute (.Name x p1) "__init__" p2) (e :: es) [] pos) X.env = (do
      let ov ← eval (.Name x p1) X.env
      standAt p2.atName
      let (f, first) ← holding [ov] (getMethod ov "__init__" pl)
      callWith pos f first (backTo pos (starEach (e :: es) X.env)) (backToKw pos (keywordEach [] X.env))) := by rfl)
    (hdb : (x == ("__debug__" : Str)) = false := by decide)
    (he : starEach (e :: es) X.env = (false, eval e X.env) :: starEach es X.env := by rfl) (hpl : (backTo pos (starEach es X.env)).any (·.1) = false := by rfl) :
    PE X (.Call (.Attribute (.Name x p1) "__init__" p2) (e :: es) [] pos) (tInit X.K ta) := by
  constructor
  intro pins s σ H Q I h
  apply PySem.W.methodCall_KW (ld_glob I hg hm ?_ hdb) hc
  apply PySem.W.method_cls I.kIn ga
  apply PySem.W.cls_value I.kIn rd fi (by decide +kernel)
  show wpAny _ _ (callWith pos (Value.builtin "Exception.__init__") [] (backTo pos (starEach (e :: es) X.env)) []) _ _ _
  apply PyProof.Rows.callWith_method1 (thn (ha.run pos pins _ σ H _ (I.tok _) h) fun us s1 ⟨vs, H1, I1, r1, a, C, ws, ev, hl, T, ea, q⟩ => ?_) he hpl
  subst ev
  cases r1 with
  | @cons _ u0 _ ur ra rest =>
    obtain rfl : u0 = Value.ref a := ra
    have few : ur.length ≤ sizeLine := by
      rw [← Paired.length rest, sizeLine_eq]
      omega
    exact init_plain T I1 ea few fun s' J => ⟨.non, H1, J, rfl, q⟩
end
end Sw
namespace Sw
open PySem PySem.Spec PyProof.Rows L2 PySem.SwE
section
variable {X : Cx} {e : Expr} {es : List Expr} {ta : TA} {p pos : Pos} {CX : CXT} {x : Str} {C fI : Addr} {k : Nat} {fd : FuncData} {ps : List Str} {sp : Sp}
/-- C(e, ..), C an own exception class over Exception whose __init__ keeps sp -/
theorem pmk_E (T : OexE X.K C) (iC : PySem.W.findIn X.K (.ref C) "__init__" = some (some (.ref fI))) (tI : PySem.W.typeIn X.K (.ref fI) = some (.type "function")) (F1 : FnOk X.prog X.w X.K X.mg X.base CX k fI fd ps sp) (room : Room (k + 1) X.A) (bd : Binds X.K fd ps [])
    (px : Passes CX X E0) (hm : X.mg x = some (.ref C)) (ha : PA X (e :: es) ta) (hg : Gl X x := by rfl)
    (hdb : (x == ("__debug__" : Str)) = false := by decide) (he : starEach (e :: es) X.env = (false, eval e X.env) :: starEach es X.env := by rfl) (hpl : (backTo pos (starEach es X.env)).any (·.1) = false := by rfl) :
    PMk X (.Call (.Name x p) (e :: es) [] pos) (tMkO C sp [] ta) := by
  intro pins s σ H Q I h
  obtain ⟨nm, q, N, bs, rs, sn, sub, ab, col, dd, k0, k1, k2, k3, k5, hC⟩ := T.cls
  refine wpAny_Call_Name_kw (ld_glob I hg hm ?_ hdb)
  refine PySem.W.callWith_K (h₀ := X.base) I.ok.mod.kin T.kC (thn (ha.run pos pins s σ H _ I h) fun us s1 ⟨vs, H1, I1, r1, few, q1⟩ => ⟨I1.kIn, ?_⟩) he hpl
  show wpAny _ _ (call (.ref C) us) _ _ _
  obtain ⟨hp, g, dr, tk, os⟩ := s1
  have le : hp.objs.size ≤ hp.objs.size + 1 := Nat.le_succ _
  have free : H1 (hp.objs.size + 1) = none := I1.hok.fresh le
  have said := q1 (hp.objs.size + 1) free
  have keep : ∀ b o, hp.get? b = some o → ((hp.push (PySem.W.kdv_tup us)).push (PySem.HandSPX.excO C hp.objs.size)).get? b = some o := fun b o z => Heap.get?_push_of_some _ (Heap.get?_push_of_some _ z)
  have made : ((hp.push (PySem.W.kdv_tup us)).push (PySem.HandSPX.excO C hp.objs.size)).get? (hp.objs.size + 1) = some (PySem.HandSPX.excO C hp.objs.size) := by heap_get
  have I2 : Inv X pins σ (upd H1 (hp.objs.size + 1) (exo (hp.objs.size + 1) C none)) ⟨(hp.push (PySem.W.kdv_tup us)).push (PySem.HandSPX.excO C hp.objs.size), g, dr, tk, os⟩ :=
    I1.laid (t' := tk) (a := hp.objs.size + 1) (o := exo (hp.objs.size + 1) C none) (h' := (hp.push (PySem.W.kdv_tup us)).push (PySem.HandSPX.excO C hp.objs.size)) keep le (exo_ok made)
  have both : Vals (V.ref (hp.objs.size + 1) :: (vs ++ [])) (Value.ref (hp.objs.size + 1) :: (us ++ [])) := .cons rfl (r1.append .nil)
  have count : (Value.ref (hp.objs.size + 1) :: us ++ []).length = ps.length := by
    have z := both.length
    rw [F1.len _ _ _ _ said] at z
    exact z.symm
  have bound := bd _ (Value.ref (hp.objs.size + 1) :: us) I2.kIn count
  rw [List.cons_append] at bound
  have few' : us.length ≤ sizeLine := by
    rw [← Paired.length r1, sizeLine_eq]
    omega
  refine wpAny_call (PySem.HandSPX.call_own F.excBase_Exception (fun Y => over_has Y rs) (I1.kIn _ _ hC) (PySem.W.looks_findIn I1.kIn iC) (fun self => PySem.W.bind_fn I1.kIn self tI) few' (codeAny_mono (F1.run _ X.stack _ _ ⟨Value.ref (hp.objs.size + 1) :: us, []⟩ (Value.ref (hp.objs.size + 1) :: (us ++ [])) _ _ E0
    (room.make C us []) (I2.env0.make C us []) bound both said) fun r s' z => ?_))
  rcases r with er | fl
  · exact px pins σ _ _ er s' I2 z
  · cases fl with
    | next => exact z.elim
    | brk => exact z.elim
    | cont => exact z.elim
    | ret u =>
      obtain ⟨v, H2, os2, bare, un, ok, rv, ev, d, fs, ea, ed, hd1, q2⟩ := z
      subst ev
      obtain ⟨h2, g2, d2, t2, os'⟩ := s'
      exact ⟨rv, mk_end (raises_own T.exC T.tyC) I1 le keep un ok os2 bare ea ed hd1 q2⟩
end
end Sw
namespace Sw
open PySem PySem.Spec PyProof.Rows L2 PySem.SwE
/-! ### defs that may let out an exception -/
theorem Fun.okX {P : Program} {w : World} {K : PySem.W.Frag} {mg : Str → Option Value} {base : Heap} {k : Nat} {f : Addr} {fd : FuncData} {ps : List Str} {sp : Sp} {x qual : Str} {st : Stmt} {N : List Str} (F : Fun K x qual st f fd) (S : FnScope N ps (defScope st)) (len : ∀ xs M R X, sp xs M R X → xs.length = ps.length)
    (body : ∀ (cdv : Value) (A : Around) (out : List Env) (t : Shared) (M : Hp) (xs : List V) (R : VK) (E : XK), Room k (A.deeper (envOfC qual (defScope st) t.heap.objs.size f cdv)) → sp xs M R E →
      Takes (cxOf (L2.CX P w) P w K mg base N qual (defScope st) f cdv A out t M E) (fun cls d _ M' => E cls d M') →
      ∃ r, PSs (cxOf (L2.CX P w) P w K mg base N qual (defScope st) f cdv A out t M E) (defBody st) r ∧ r { nx := fun _ M' => R .non M', rt := R } (start N xs) M) : FnOk P w K mg base (L2.CX P w) (k + 1) f fd ps sp := by
  obtain ⟨oc, od, kV, doc, pm, an, cdv, ct, osl, rfl, found, coded⟩ := F.ex
  exact fn_of found coded S len fun A out t M xs R E room prom => body cdv A out t M xs R E room prom (takes_of rfl rfl rfl rfl)
section
variable (P : Program) (w : World) (K : PySem.W.Frag) (mg : Str → Option Value) (base : Heap)
def CalX (x : Str) (ps : List Str) (k : Nat) (sp : Sp) : Prop := ∃ (f : Addr) (fd : FuncData), FnOk P w K mg base (L2.CX P w) k f fd ps sp ∧ mg x = some (.ref f) ∧ PySem.W.keepIn K (.ref f) = true ∧ Binds K fd ps []
def CalKX (x : Str) (ps : List Str) (k : Nat) (sp : Sp) (ks : List Str) (g : List Value → List Value → List Value) (gV : List V → List V → List V) : Prop := ∃ (f : Addr) (fd : FuncData), FnOk P w K mg base (L2.CX P w) k f fd ps sp ∧ mg x = some (.ref f) ∧ PySem.W.keepIn K (.ref f) = true ∧ KBinds K fd ps ks g gV
end
section
variable {P : Program} {w : World} {K : PySem.W.Frag} {mg : Str → Option Value} {base : Heap} {x : Str} {st : Stmt} {ps ks : List Str} {k : Nat} {sp : Sp}
theorem Def.calX (d : Def K mg x st)
    (b : ∀ (kV doc pm : Value) (an : Option Addr) (cdv ct : Value) (us : List Value), us.length = ps.length → bindArgs (PySem.W.fnOf x x (defArgs st) (defBody st) (defScope st) .none kV doc pm an cdv ct) ⟨us, []⟩ = pure (ps.zip us))
    (ok : ∀ (f : Addr) (fd : FuncData), Fun K x x st f fd → FnOk P w K mg base (L2.CX P w) k f fd ps sp) : CalX P w K mg base x ps k sp := by
  obtain ⟨f, fd, F, m⟩ := d
  exact ⟨f, fd, ok f fd F, m, F.kp, F.binds b⟩
theorem Def.calKX {g : List Value → List Value → List Value} {gV : List V → List V → List V} (d : Def K mg x st)
    (b : ∀ (kV doc pm : Value) (an : Option Addr) (cdv ct : Value) (us ws : List Value), (g us ws).length = ps.length → bindArgs (PySem.W.fnOf x x (defArgs st) (defBody st) (defScope st) .none kV doc pm an cdv ct) ⟨us, ks.zip ws⟩ = pure (ps.zip (g us ws)))
    (rel : ∀ {vs : List V} {us : List Value} {zs : List V} {ws : List Value}, Vals vs us → Vals zs ws → Vals (gV vs zs) (g us ws))
    (ok : ∀ (f : Addr) (fd : FuncData), Fun K x x st f fd → FnOk P w K mg base (L2.CX P w) k f fd ps sp) : CalKX P w K mg base x ps k sp ks g gV := by
  obtain ⟨f, fd, F, m⟩ := d
  have O := ok f fd F
  have kp := F.kp
  obtain ⟨oc, od, kV, doc, pm, an, cdv, ct, osl, rfl, lk, hcd⟩ := F.ex
  exact ⟨f, _, O, m, kp, fun s us ws _ hl => .of_eq (b kV doc pm an cdv ct us ws hl), rel⟩
end
def tKwS (sp : Sp) (gV : List V → List V → List V) (E : L2.St → XK) (tk : TA) : TE := fun σ H Q => tk σ H fun zs H1 => sp (gV [] zs) H1 Q (E σ)
section
variable {X : Cx} {x : Str} {ps ks : List Str} {k n : Nat} {sp : Sp} {e : Expr} {es : List Expr} {t : TA} {p pos : Pos} {W : WX} {g : List Value → List Value → List Value} {gV : List V → List V → List V} {kws : List Keyword}
theorem pe_calX (c : CalX X.prog X.w X.K X.mg X.base x ps k sp) (hr : Room n X.A) (tk : Takes X W) (ha : PA X (e :: es) t) (hg : Gl X x := by rfl) (hk : k ≤ n := by decide)
    (hdb : (x == ("__debug__" : Str)) = false := by decide) (he : starEach (e :: es) X.env = (false, eval e X.env) :: starEach es X.env := by rfl) (hpl : (backTo pos (starEach es X.env)).any (·.1) = false := by rfl) :
    PE X (.Call (.Name x p) (e :: es) [] pos) (tCallS sp (WE W) t) := by
  obtain ⟨f, fd, F, m, kp, b⟩ := c
  exact pe_callS F (hr.mono hk) hg m kp b (passAt tk) ha hdb he hpl
theorem i_callS {σ : L2.St} {H : Hp} {Q : VK} {E : L2.St → XK} (h : t σ H fun vs H1 => sp vs H1 Q (E σ)) : tCallS sp E t σ H Q := h
theorem pe_calKX (c : CalKX X.prog X.w X.K X.mg X.base x ps k sp ks g gV) (hr : Room n X.A) (tk : Takes X W) (hkw : PK X kws t) (hg : Gl X x := by rfl) (hk : k ≤ n := by decide)
    (hall : (backToKw pos (keywordEach kws X.env)).all (·.1.isSome) = true := by rfl) (hks : (backToKw pos (keywordEach kws X.env)).filterMap (·.1) = ks := by rfl) (hdb : (x == ("__debug__" : Str)) = false := by decide)
    (hpl : ((backTo pos (starEach [] X.env)).any (·.1) || (backToKw pos (keywordEach kws X.env)).any (·.1.isNone)) = false := by rfl) :
    PE X (.Call (.Name x p) [] kws pos) (tKwS sp gV (WE W) t) := by
  obtain ⟨f, fd, F, m, kp, b⟩ := c
  constructor
  intro pins s σ H Q I h
  apply wpAny_Call_Name_kw (ld_glob I hg m ?_ hdb)
  refine PySem.W.callWith_KW0 (h₀ := X.base) I.ok.mod.kin kp hall (thn (hkw.run pos pins s σ H _ I h) fun ws s2 ⟨zs, H2, I2, rz, q⟩ => ⟨I2.kIn, ?_⟩) hpl
  rw [hks]
  have rel := b.rel (vs := []) (us := []) .nil rz
  have count : (g [] ws).length = ps.length := by rw [← rel.length]; exact F.len _ _ _ _ q
  apply wpAny_call
  apply codeAny_mono (F.run X.A X.stack s2 H2 ⟨[], ks.zip ws⟩ (g [] ws) (gV [] zs) Q (WE W σ) (hr.mono hk) I2.env0 (b.to s2 [] ws I2.kIn count) rel q)
  intro o s' z
  rcases o with er | fl
  · exact passAt tk σ pins H2 s2 er s' I2 z
  · cases fl with
    | ret u => exact I2.after z
    | next => exact z.elim
    | brk => exact z.elim
    | cont => exact z.elim
theorem i_kwS {σ : L2.St} {H : Hp} {Q : VK} {E : L2.St → XK} (h : t σ H fun zs H1 => sp (gV [] zs) H1 Q (E σ)) : tKwS sp gV E t σ H Q := h
end
theorem takes_none {X : Cx} : Takes X (fun _ _ _ _ => False) := fun u s' z => by
  obtain ⟨a, B, sI, pins, σ, H, cls, d, e, I, nb, up, sky, na, os, ag, w⟩ := z
  exact w.elim
end Sw
namespace Sw
open PySem PySem.Spec PyProof.Rows L2
/-! ### data with dicts in it -/
def keyD : Key → PyData
  | .inl i => .int i
  | .inr x => .str x
mutual
inductive De (K : PySem.W.Frag) (H : Hp) : V → PyData → Prop
  | non : De K H .non .none
  | bl (b : Bool) : De K H (.bl b) (.bool b)
  | int (i : Int) : De K H (.int i) (.int i)
  | str (x : Str) : De K H (.str x) (.str x)
  | lst {a : Addr} {xs : List V} {ds : List PyData} : H a = some (.lst xs) → sysModules < a → DeAll K H xs ds → De K H (.ref a) (.list ds)
  | tup {a : Addr} {xs : List V} {ds : List PyData} : SqT K H a xs → DeAll K H xs ds → De K H (.ref a) (.tuple ds)
  | dict {a : Addr} {kvs : List (Key × V)} {ds : List (PyData × PyData)} : H a = some (.dK kvs) → DeKv K H kvs ds → De K H (.ref a) (.dict ds)
inductive DeAll (K : PySem.W.Frag) (H : Hp) : List V → List PyData → Prop
  | nil : DeAll K H [] []
  | cons {v : V} {vs : List V} {d : PyData} {ds : List PyData} : De K H v d → DeAll K H vs ds → DeAll K H (v :: vs) (d :: ds)
inductive DeKv (K : PySem.W.Frag) (H : Hp) : List (Key × V) → List (PyData × PyData) → Prop
  | nil : DeKv K H [] []
  | cons {k : Key} {v : V} {vs : List (Key × V)} {d : PyData} {ds : List (PyData × PyData)} : De K H v d → DeKv K H vs ds → DeKv K H ((k, v) :: vs) ((keyD k, d) :: ds)
end
theorem key_reads {h : Heap} {k : Key} {u : Value} (e : keyIs k u = true) : Reads h u (keyD k) [] := by
  rcases keyIs_shape e with ⟨i, t, rfl, rfl⟩ | ⟨x, t, rfl, rfl⟩
  · exact .int i t
  · exact .str x t
section
variable {X : Cx} {pins : List (Addr × Obj)} {σ : L2.St} {H : Hp} {s : Shared}
mutual
theorem De.reads (I : Inv X pins σ H s) : ∀ (d : PyData) (v : V) (u : Value), De X.K H v d → RelV v u → ∃ as, Reads s.heap u d as ∧ sysModules ∉ as
  | .none, _, _, h, r => by
    cases h
    cases r
    exact ⟨_, Reads.none, by simp⟩
  | .bool b, _, _, h, r => by
    cases h
    cases r
    exact ⟨_, Reads.bool b, by simp⟩
  | .int i, _, _, h, r => by
    cases h
    obtain ⟨t, rfl⟩ := r
    exact ⟨_, Reads.int i t, by simp⟩
  | .str x, _, _, h, r => by
    cases h
    obtain ⟨t, rfl⟩ := r
    exact ⟨_, Reads.str x t, by simp⟩
  | .list ds, _, _, h, r => by
    cases h with
    | lst hs hlt ha =>
      cases r
      obtain ⟨its, rv, ⟨o, n, ho, hc, _, hd⟩, _⟩ := I.list (.inl (.inl hs))
      obtain ⟨as, hr, hn⟩ := De.readsAll I ds _ its ha rv
      exact ⟨_, Reads.list ho hc hd hr, by
        intro z
        rcases List.mem_cons.mp z with z | z
        · exact Nat.lt_irrefl _ (z ▸ hlt)
        · exact hn z⟩
  | .tuple ds, _, _, h, r => by
    cases h with
    | tup hs ha =>
      cases r
      obtain ⟨its, rv, ⟨o, ho, hc, n, hd⟩, _⟩ := I.tuple hs
      obtain ⟨as, hr, hn⟩ := De.readsAll I ds _ its ha rv
      exact ⟨_, Reads.tuple ho hc hd hr, hn⟩
  | .dict ds, _, _, h, r => by
    cases h with
    | dict hs ha =>
      cases r
      obtain ⟨_, notSys, vs, kv, o, es, ep, ho, ex, hd, _, pr, _⟩ : ObjOk X.prog X.w H s.heap _ (.dK _) := I.hok _ _ hs
      obtain ⟨as, bs, hr1, hr2, hn1, hn2⟩ := De.readsKv I ds _ vs es.toList ha kv pr
      exact ⟨_, Reads.dict ho ex.1 hd hr1 hr2, by
        intro z
        rcases List.mem_append.mp z with z | z
        · rcases List.mem_cons.mp z with z | z
          · rw [← z] at notSys
            exact absurd notSys (by decide)
          · exact hn1 z
        · exact hn2 z⟩
theorem De.readsAll (I : Inv X pins σ H s) : ∀ (ds : List PyData) (vs : List V) (us : List Value), DeAll X.K H vs ds → Vals vs us → ∃ as, ReadsAll s.heap us ds as ∧ sysModules ∉ as
  | [], _, _, h, r => by
    cases h
    cases r
    exact ⟨_, ReadsAll.nil, by simp⟩
  | d :: ds, _, _, h, r => by
    cases h with
    | cons h1 h2 =>
      cases r with
      | cons r1 r2 =>
        obtain ⟨as, q1, n1⟩ := De.reads I d _ _ h1 r1
        obtain ⟨bs, q2, n2⟩ := De.readsAll I ds _ _ h2 r2
        exact ⟨_, ReadsAll.cons q1 q2, fun z => (List.mem_append.mp z).elim n1 n2⟩
theorem De.readsKv (I : Inv X pins σ H s) : ∀ (ds : List (PyData × PyData)) (kvs : List (Key × V)) (vs : List (Key × Value)) (es : List DictEntry), DeKv X.K H kvs ds → KV kvs vs → Pairs (mixKind X.prog X.w) es vs →
    ∃ as bs, ReadsAll s.heap (es.map (·.key)) (ds.map (·.1)) as ∧ ReadsAll s.heap (es.map (·.val)) (ds.map (·.2)) bs ∧ sysModules ∉ as ∧ sysModules ∉ bs
  | [], _, _, _, h, r, p => by
    cases h
    cases r
    cases p
    exact ⟨_, _, ReadsAll.nil, ReadsAll.nil, by simp, by simp⟩
  | d :: ds, _, _, _, h, r, p => by
    cases h with
    | cons h1 h2 =>
      cases r with
      | cons r1 r2 =>
        cases p with
        | cons p1 p2 p3 =>
          obtain ⟨as, q1, n1⟩ := De.reads I _ _ _ h1 r1.2
          obtain ⟨bs, cs, q2, q3, n2, n3⟩ := De.readsKv I _ _ _ _ h2 r2 p3
          refine ⟨[] ++ bs, as ++ cs, ?_, ?_, by simpa using n2, fun z => (List.mem_append.mp z).elim n1 n3⟩
          · rw [List.map_cons, List.map_cons]
            refine .cons (key_reads ?_) q2
            have e := r1.1
            dsimp only at e
            rw [e]
            exact p1
          · rw [List.map_cons, List.map_cons]
            refine .cons ?_ q3
            rw [p2]
            exact q1
end
/-! ### small data -/
mutual
def sok : PyData → Bool
  | .str z => PyData.strOk z
  | .list xs => sokAll xs
  | .tuple xs => sokAll xs
  | _ => true
def sokAll : List PyData → Bool
  | [] => true
  | x :: xs => sok x && sokAll xs
end
mutual
theorem sok_lay : ∀ {d : PyData}, sok d = true → d.hasDict = false → d.canLay0 = true
  | .none, _, _ => by simp only [PyData.canLay0]
  | .bool _, _, _ => by simp only [PyData.canLay0]
  | .int _, _, _ => by simp only [PyData.canLay0]
  | .str z, h, _ => by simp only [PyData.canLay0]; simpa only [sok] using h
  | .list xs, h, z => by
    simp only [PyData.canLay0]
    exact sokAll_lay (by simpa only [sok] using h) (by simpa only [PyData.hasDict] using z)
  | .tuple xs, h, z => by
    simp only [PyData.canLay0]
    exact sokAll_lay (by simpa only [sok] using h) (by simpa only [PyData.hasDict] using z)
  | .dict _, _, z => by simp only [PyData.hasDict] at z; cases z
theorem sokAll_lay : ∀ {ds : List PyData}, sokAll ds = true → PyData.hasDictAll ds = false → PyData.canLayAll0 ds = true
  | [], _, _ => by simp only [PyData.canLayAll0]
  | d :: ds, h, z => by
    simp only [sokAll, Bool.and_eq_true] at h
    simp only [PyData.hasDictAll, Bool.or_eq_false_iff] at z
    simp only [PyData.canLayAll0, sok_lay h.1 z.1, sokAll_lay h.2 z.2, Bool.and_self]
end
structure Sd (n w : Nat) (d : PyData) : Prop where
  dep : d.depth ≤ n
  wei : d.weight ≤ w
  sh : d.showable = true
  ls : d.leavesShort 60 = true
  ok : sok d = true
structure SdAll (n w : Nat) (ds : List PyData) : Prop where
  dep : PyData.depthAll ds ≤ n
  wei : PyData.weightAll ds ≤ w
  sh : PyData.showableAll ds = true
  ls : PyData.leavesShortAll 60 ds = true
  ok : sokAll ds = true
theorem Sd.mono {n w n' w' : Nat} {d : PyData} (s : Sd n w d) (h1 : n ≤ n') (h2 : w ≤ w') : Sd n' w' d := ⟨Nat.le_trans s.dep h1, Nat.le_trans s.wei h2, s.sh, s.ls, s.ok⟩
theorem SdAll.mono {n w n' w' : Nat} {d : List PyData} (s : SdAll n w d) (h1 : n ≤ n') (h2 : w ≤ w') : SdAll n' w' d := ⟨Nat.le_trans s.dep h1, Nat.le_trans s.wei h2, s.sh, s.ls, s.ok⟩
theorem SdAll.nil {n : Nat} : SdAll n 0 [] := ⟨by simp only [PyData.depthAll]; omega, by simp only [PyData.weightAll]; omega, by simp only [PyData.showableAll], by simp only [PyData.leavesShortAll], by simp only [sokAll]⟩
theorem SdAll.cons {n w v : Nat} {d : PyData} {ds : List PyData} (h : Sd n w d) (k : SdAll n v ds) : SdAll n (w + 1 + v) (d :: ds) := by
  obtain ⟨a1, a2, a3, a4, a5⟩ := h
  obtain ⟨b1, b2, b3, b4, b5⟩ := k
  exact ⟨by simp only [PyData.depthAll]; omega, by simp only [PyData.weightAll]; omega, by simp only [PyData.showableAll, a3, b3, Bool.and_self], by simp only [PyData.leavesShortAll, a4, b4, Bool.and_self], by simp only [sokAll, a5, b5, Bool.and_self]⟩
theorem SdAll.inv {n w : Nat} {d : PyData} {ds : List PyData} (h : SdAll n w (d :: ds)) : ∃ u v, u + 1 + v ≤ w ∧ Sd n u d ∧ SdAll n v ds := by
  obtain ⟨a1, a2, a3, a4, a5⟩ := h
  simp only [PyData.depthAll] at a1
  simp only [PyData.weightAll] at a2
  simp only [PyData.showableAll, Bool.and_eq_true] at a3
  simp only [PyData.leavesShortAll, Bool.and_eq_true] at a4
  simp only [sokAll, Bool.and_eq_true] at a5
  exact ⟨d.weight, PyData.weightAll ds, by omega, ⟨by omega, Nat.le_refl _, a3.1, a4.1, a5.1⟩, ⟨by omega, Nat.le_refl _, a3.2, a4.2, a5.2⟩⟩
theorem SdAll.app {n : Nat} : ∀ {w v : Nat} {ds es : List PyData}, SdAll n w ds → SdAll n v es → SdAll n (w + v) (ds ++ es)
  | _, _, [], _, _, k => k.mono (Nat.le_refl _) (by omega)
  | _, _, d :: ds, es, h, k => by
    obtain ⟨a, b, hab, h1, h2⟩ := h.inv
    exact (SdAll.cons h1 (h2.app k)).mono (Nat.le_refl _) (by omega)
theorem SdAll.take {n : Nat} : ∀ {w : Nat} {ds : List PyData} (k : Nat), SdAll n w ds → SdAll n w (ds.take k)
  | _, ds, 0, _ => by rw [List.take_zero]; exact SdAll.nil.mono (Nat.le_refl _) (by omega)
  | _, [], k + 1, h => by rw [List.take_nil]; exact h
  | _, d :: ds, k + 1, h => by
    obtain ⟨a, b, hab, h1, h2⟩ := h.inv
    rw [List.take_succ_cons]
    exact (SdAll.cons h1 (h2.take k)).mono (Nat.le_refl _) (by omega)
theorem SdAll.drop {n : Nat} : ∀ {w : Nat} {ds : List PyData} (k : Nat), SdAll n w ds → SdAll n w (ds.drop k)
  | _, ds, 0, h => h
  | _, [], k + 1, h => by rw [List.drop_nil]; exact h
  | _, d :: ds, k + 1, h => by
    obtain ⟨a, b, hab, h1, h2⟩ := h.inv
    rw [List.drop_succ_cons]
    exact (h2.drop k).mono (Nat.le_refl _) (by omega)
theorem SdAll.get {n : Nat} : ∀ {w : Nat} {ds : List PyData} {d : PyData}, SdAll n w ds → d ∈ ds → Sd n w d
  | _, d :: ds, e, h, hm => by
    obtain ⟨a, b, hab, h1, h2⟩ := h.inv
    rcases List.mem_cons.mp hm with rfl | hm
    · exact h1.mono (Nat.le_refl _) (by omega)
    · exact (h2.get hm).mono (Nat.le_refl _) (by omega)
theorem sd_all {n w : Nat} : ∀ {ds : List PyData}, (∀ d ∈ ds, Sd n w d) → SdAll n (ds.length * (w + 1)) ds
  | [], _ => SdAll.nil.mono (Nat.le_refl _) (by omega)
  | d :: ds, h => (SdAll.cons (h d List.mem_cons_self) (sd_all (ds := ds) fun x hx => h x (List.mem_cons_of_mem _ hx))).mono (Nat.le_refl _) (by rw [List.length_cons, Nat.succ_mul]; omega)
theorem sd_lst' {n w : Nat} {ds : List PyData} (h : SdAll n w ds) : Sd (n + 1) w (.list ds) := by
  obtain ⟨b1, b2, b3, b4, b5⟩ := h
  exact ⟨by simp only [PyData.depth]; omega, by simp only [PyData.weight]; exact b2, by simp only [PyData.showable, b3], by simp only [PyData.leavesShort, b4], by simp only [sok, b5]⟩
theorem sd_tup' {n w : Nat} {ds : List PyData} (h : SdAll n w ds) : Sd (n + 1) w (.tuple ds) := by
  obtain ⟨b1, b2, b3, b4, b5⟩ := h
  exact ⟨by simp only [PyData.depth]; omega, by simp only [PyData.weight]; exact b2, by simp only [PyData.showable, b3], by simp only [PyData.leavesShort, b4], by simp only [sok, b5]⟩
theorem sd_lst {n w : Nat} {ds : List PyData} (h : ∀ d ∈ ds, Sd n w d) : Sd (n + 1) (ds.length * (w + 1)) (.list ds) := sd_lst' (sd_all h)
theorem sd_tup {n w : Nat} {ds : List PyData} (h : ∀ d ∈ ds, Sd n w d) : Sd (n + 1) (ds.length * (w + 1)) (.tuple ds) := sd_tup' (sd_all h)
theorem Sd.tupI {n w : Nat} {ds : List PyData} (s : Sd (n + 1) w (.tuple ds)) : SdAll n w ds := by
  obtain ⟨b1, b2, b3, b4, b5⟩ := s
  simp only [PyData.depth] at b1
  exact ⟨by omega, by simpa only [PyData.weight] using b2, by simpa only [PyData.showable] using b3, by simpa only [PyData.leavesShort] using b4, by simpa only [sok] using b5⟩
theorem Sd.lstI {n w : Nat} {ds : List PyData} (s : Sd (n + 1) w (.list ds)) : SdAll n w ds := by
  obtain ⟨b1, b2, b3, b4, b5⟩ := s
  simp only [PyData.depth] at b1
  exact ⟨by omega, by simpa only [PyData.weight] using b2, by simpa only [PyData.showable] using b3, by simpa only [PyData.leavesShort] using b4, by simpa only [sok] using b5⟩
theorem sd_non : Sd 0 0 .none := ⟨by simp only [PyData.depth]; omega, by simp only [PyData.weight]; omega, by simp only [PyData.showable], by simp only [PyData.leavesShort], by simp only [sok]⟩
theorem sd_bl (b : Bool) : Sd 0 0 (.bool b) := ⟨by simp only [PyData.depth]; omega, by simp only [PyData.weight]; omega, by simp only [PyData.showable], by simp only [PyData.leavesShort], by simp only [sok]⟩
theorem sd_emp : Sd 1 0 (.dict []) := ⟨by simp only [PyData.depth, PyData.depthKv]; omega, by simp only [PyData.weight, PyData.weightKv]; omega, by simp only [PyData.showable, PyData.showableKv], by simp only [PyData.leavesShort, PyData.leavesShortKv], by simp only [sok]⟩
theorem strOk_lt' {l : List Nat} (h : ∀ c ∈ l, c ≤ 1000) : PyData.strOk (S l) = true := by
  unfold PyData.strOk
  rw [Array.all_eq_true]
  intro i hi
  have q := h (l[i]'(by simpa [S] using hi)) (List.getElem_mem _)
  have e : (S l).cps[i] = l[i]'(by simpa [S] using hi) := by simp [S]
  rw [e]
  exact decide_eq_true (by omega)
theorem sd_str {l : List Nat} (h : ∀ c ∈ l, c ≤ 1000) : Sd 0 l.length (.str (S l)) := by
  refine ⟨by simp only [PyData.depth]; omega, by simp only [PyData.weight, S_size]; omega, by simp only [PyData.showable], ?_, by simp only [sok]; exact strOk_lt' h⟩
  simp only [PyData.leavesShort]
  rw [List.all_eq_true]
  intro c hc
  have : c ∈ l := by simpa [S] using hc
  exact decide_eq_true (by have := h c this; omega)
theorem sd_intW {i : Int} {n k : Nat} (h : i.natAbs < 10 ^ 40) (h2 : i.natAbs < 2 ^ k) : Sd 0 k (.int i) := by
  refine ⟨by simp only [PyData.depth]; omega, ?_, ?_, ?_, by simp only [sok]⟩
  · simp only [PyData.weight]
    split
    · omega
    · rename_i z
      have z' : i.natAbs ≠ 0 := by
        intro e
        have : i = 0 := by omega
        rw [this] at z
        exact z rfl
      have := (Nat.log2_lt z' (k := k)).mpr h2
      omega
  · simp only [PyData.showable]
    refine decide_eq_true ?_
    by_cases z : i.natAbs = 0
    · rw [z]; decide
    · have := (Nat.log2_lt z (k := 139)).mpr (Nat.lt_of_lt_of_le h (by decide))
      omega
  · simp only [PyData.leavesShort]
    have e := int_text_length_le10 (k := 40) (by decide) h
    refine decide_eq_true ?_
    show (Str.ofString (toString i)).length ≤ 60
    rw [PySem.ofString_length]
    omega
theorem sd_int {i : Int} (h : i.natAbs < 10 ^ 40) : Sd 0 140 (.int i) := sd_intW (n := 0) h (Nat.lt_of_lt_of_le h (by decide))
/-- an int of a few digits -/
theorem sd_int9 {i : Int} (h : i.natAbs < 512) : Sd 0 9 (.int i) := sd_intW (n := 0) (Nat.lt_of_lt_of_le h (by decide)) (by omega)
theorem Sd.len {n w : Nat} {d : PyData} (s : Sd n w d) (hw : w ≤ 270000) : d.shown.length ≤ sizeLine := by
  have := PyData.shown_le 60 (by omega) d s.ls
  have h2 := s.wei
  have : d.shown.length ≤ 62 * 270000 + 60 := Nat.le_trans this (by omega)
  exact Nat.le_trans this (by decide)
end
def rRepE (K : PySem.W.Frag) : List V → Hp → VK → Prop := fun xs M R => ∃ x d n w, xs = [x] ∧ (De K M x d ∨ (Dp K M x d ∧ d.hasDict = false)) ∧ Sd n w d ∧ n ≤ 60 ∧ w ≤ 270000 ∧ R (.str d.shown) M
theorem call_repE {X : Cx} (quiet : X.A.guards = some []) (hu : X.A.units + 64 < cLine) : CallR X (.builtin "repr") (rRepE X.K) := by
  intro pins s σ M xs us R I r h
  obtain ⟨x, d, n, w, rfl, hd, sd, hn, hw, q⟩ := h
  obtain ⟨u, rfl, ru⟩ := vals1 r
  have sz := sd.len hw
  have dp := sd.dep
  rcases hd with hd | ⟨hd, nd⟩
  rotate_left
  · obtain ⟨as, rd⟩ := Dp.reads I d x u hd ru
    cases hd with
    | non =>
      cases ru
      exact PySem.P.repr_of_none ⟨.str (PyData.shown .none), M, I.tok _, ⟨_, by simp only [PyData.shown]; rfl⟩, q⟩
    | bl b =>
      cases ru
      exact PySem.P.repr_of_bool ⟨.str (PyData.shown (.bool b)), M, I.tok _, ⟨_, by simp only [PyData.shown]; rfl⟩, q⟩
    | int i =>
      obtain ⟨t, rfl⟩ := ru
      exact PySem.P.repr_of_int (of_decide_eq_true (by simpa only [PyData.showable] using sd.sh)) ⟨.str (PyData.shown (.int i)), M, I.tok _, ⟨_, by simp only [PyData.shown]; rfl⟩, q⟩
    | str z =>
      obtain ⟨t, rfl⟩ := ru
      exact PySem.P.repr_of_str ⟨.str (PyData.shown (.str z)), M, I.tok _, ⟨_, by simp only [PyData.shown]; rfl⟩, q⟩ (by simpa only [PyData.shown] using sz)
    | lst h1 h2 =>
      cases ru
      exact repr_of_reads' rd sd.sh (PyData.noDict_hsm nd) quiet (by omega) (fun _ _ e => e) (fun h' t tk keep => ⟨.str _, M, I.kept (t' := tk) keep, ⟨t, rfl⟩, q⟩) sz
    | tup h1 h2 =>
      cases ru
      exact repr_of_reads' rd sd.sh (PyData.noDict_hsm nd) quiet (by omega) (fun _ _ e => e) (fun h' t tk keep => ⟨.str _, M, I.kept (t' := tk) keep, ⟨t, rfl⟩, q⟩) sz
  obtain ⟨as, rd, nn⟩ := De.reads I d x u hd ru
  cases hd with
  | non =>
    cases ru
    exact PySem.P.repr_of_none ⟨.str (PyData.shown .none), M, I.tok _, ⟨_, by simp only [PyData.shown]; rfl⟩, q⟩
  | bl b =>
    cases ru
    exact PySem.P.repr_of_bool ⟨.str (PyData.shown (.bool b)), M, I.tok _, ⟨_, by simp only [PyData.shown]; rfl⟩, q⟩
  | int i =>
    obtain ⟨t, rfl⟩ := ru
    exact PySem.P.repr_of_int (of_decide_eq_true (by simpa only [PyData.showable] using sd.sh)) ⟨.str (PyData.shown (.int i)), M, I.tok _, ⟨_, by simp only [PyData.shown]; rfl⟩, q⟩
  | str z =>
    obtain ⟨t, rfl⟩ := ru
    exact PySem.P.repr_of_str ⟨.str (PyData.shown (.str z)), M, I.tok _, ⟨_, by simp only [PyData.shown]; rfl⟩, q⟩ (by simpa only [PyData.shown] using sz)
  | lst h1 h0 h2 =>
    cases ru
    exact repr_of_reads' rd sd.sh (fun _ => nn) quiet (by omega) (fun _ _ e => e) (fun h' t tk keep => ⟨.str _, M, I.kept (t' := tk) keep, ⟨t, rfl⟩, q⟩) sz
  | tup h1 h2 =>
    cases ru
    exact repr_of_reads' rd sd.sh (fun _ => nn) quiet (by omega) (fun _ _ e => e) (fun h' t tk keep => ⟨.str _, M, I.kept (t' := tk) keep, ⟨t, rfl⟩, q⟩) sz
  | dict h1 h2 =>
    cases ru
    exact repr_of_reads' rd sd.sh (fun _ => nn) quiet (by omega) (fun _ _ e => e) (fun h' t tk keep => ⟨.str _, M, I.kept (t' := tk) keep, ⟨t, rfl⟩, q⟩) sz
theorem i_repE {K : PySem.W.Frag} {M : Hp} {x : V} {d : PyData} {n w : Nat} {R : VK} (h : De K M x d) (s : Sd n w d) (hn : n ≤ 60 := by omega) (hw : w ≤ 270000 := by omega) (k : R (.str d.shown) M) : rRepE K [x] M R := ⟨x, d, n, w, rfl, .inl h, s, hn, hw, k⟩
theorem i_repP {K : PySem.W.Frag} {M : Hp} {x : V} {d : PyData} {n w : Nat} {R : VK} (h : Dp K M x d) (z : d.hasDict = false) (s : Sd n w d) (hn : n ≤ 60 := by omega) (hw : w ≤ 270000 := by omega) (k : R (.str d.shown) M) : rRepE K [x] M R := ⟨x, d, n, w, rfl, .inr ⟨h, z⟩, s, hn, hw, k⟩
/-! ### what is kept -/
mutual
theorem De.same {K : PySem.W.Frag} {H H' : Hp} (s : Same H H') : ∀ {v : V} {d : PyData}, De K H v d → De K H' v d
  | _, _, .non => .non
  | _, _, .bl b => .bl b
  | _, _, .int i => .int i
  | _, _, .str x => .str x
  | _, _, .lst h1 h0 h2 => .lst (s _ _ h1) h0 (DeAll.same s h2)
  | _, _, .tup h1 h2 => .tup (Same.sqT s h1) (DeAll.same s h2)
  | _, _, .dict h1 h2 => .dict (s _ _ h1) (DeKv.same s h2)
theorem DeAll.same {K : PySem.W.Frag} {H H' : Hp} (s : Same H H') : ∀ {vs : List V} {ds : List PyData}, DeAll K H vs ds → DeAll K H' vs ds
  | _, _, .nil => .nil
  | _, _, .cons h1 h2 => .cons (De.same s h1) (DeAll.same s h2)
theorem DeKv.same {K : PySem.W.Frag} {H H' : Hp} (s : Same H H') : ∀ {vs : List (Key × V)} {ds : List (PyData × PyData)}, DeKv K H vs ds → DeKv K H' vs ds
  | _, _, .nil => .nil
  | _, _, .cons h1 h2 => .cons (De.same s h1) (DeKv.same s h2)
end
theorem DeAll.len {K : PySem.W.Frag} {H : Hp} : ∀ {vs : List V} {ds : List PyData}, DeAll K H vs ds → vs.length = ds.length
  | _, _, .nil => rfl
  | _, _, .cons _ h2 => by rw [List.length_cons, List.length_cons, h2.len]
theorem DeAll.get {K : PySem.W.Frag} {H : Hp} : ∀ {vs : List V} {ds : List PyData} {i : Nat} {v : V}, DeAll K H vs ds → vs[i]? = some v → ∃ d, ds[i]? = some d ∧ De K H v d
  | _, _, _, _, .nil, e => by simp at e
  | _, _, 0, _, .cons h1 _, e => by simp at e; subst e; exact ⟨_, rfl, h1⟩
  | _, _, i + 1, v, .cons _ h2, e => by
    obtain ⟨d, h1, h3⟩ := h2.get (i := i) (v := v) (by simpa using e)
    exact ⟨d, by simpa using h1, h3⟩
theorem DeAll.app {K : PySem.W.Frag} {H : Hp} : ∀ {vs ws : List V} {ds es : List PyData}, DeAll K H vs ds → DeAll K H ws es → DeAll K H (vs ++ ws) (ds ++ es)
  | _, _, _, _, .nil, h => h
  | _, _, _, _, .cons h1 h2, h => .cons h1 (h2.app h)
theorem DeAll.take {K : PySem.W.Frag} {H : Hp} : ∀ {vs : List V} {ds : List PyData} (n : Nat), DeAll K H vs ds → DeAll K H (vs.take n) (ds.take n)
  | _, _, 0, _ => by rw [List.take_zero, List.take_zero]; exact .nil
  | _, _, n + 1, .nil => by rw [List.take_nil, List.take_nil]; exact .nil
  | _, _, n + 1, .cons h1 h2 => .cons h1 (h2.take n)
theorem DeAll.drop {K : PySem.W.Frag} {H : Hp} : ∀ {vs : List V} {ds : List PyData} (n : Nat), DeAll K H vs ds → DeAll K H (vs.drop n) (ds.drop n)
  | _, _, 0, h => h
  | _, _, n + 1, .nil => by rw [List.drop_nil, List.drop_nil]; exact .nil
  | _, _, n + 1, .cons _ h2 => h2.drop n
mutual
theorem De.dp {K : PySem.W.Frag} {H : Hp} : ∀ {v : V} {d : PyData}, De K H v d → d.hasDict = false → Dp K H v d
  | _, _, .non, _ => .non
  | _, _, .bl b, _ => .bl b
  | _, _, .int i, _ => .int i
  | _, _, .str x, _ => .str x
  | _, _, .lst h1 _ h2, z => .lst (.inl (.inl h1)) (h2.dp (by simpa only [PyData.hasDict] using z))
  | _, _, .tup h1 h2, z => .tup h1 (h2.dp (by simpa only [PyData.hasDict] using z))
  | _, _, .dict _ _, z => by simp only [PyData.hasDict] at z; cases z
theorem DeAll.dp {K : PySem.W.Frag} {H : Hp} : ∀ {vs : List V} {ds : List PyData}, DeAll K H vs ds → PyData.hasDictAll ds = false → DpAll K H vs ds
  | _, _, .nil, _ => .nil
  | _, _, .cons h1 h2, z => by
    simp only [PyData.hasDictAll, Bool.or_eq_false_iff] at z
    exact .cons (h1.dp z.1) (h2.dp z.2)
end
theorem Sd.shaped {n w : Nat} {d : PyData} (s : Sd n w d) (h : n ≤ 60) (z : d.hasDict = false) : SeqAt.shaped d = true := by
  show (PyData.canLay0 d && decide (PyData.depth d ≤ 64)) = true
  rw [sok_lay s.ok z, Bool.true_and]
  exact decide_eq_true (Nat.le_trans s.dep (by omega))
theorem i_eqE {K : PySem.W.Frag} {H : Hp} {x y : V} {d e : PyData} {Q : VK} {n w m u : Nat} (h1 : De K H x d) (h2 : De K H y e) (s1 : Sd n w d) (s2 : Sd m u e) (z1 : d.hasDict = false) (z2 : e.hasDict = false) (k : Q (.bl (PyData.eqv d e)) H) (hn : n ≤ 60 := by omega) (hm : m ≤ 60 := by omega) : rEqD K x y H Q :=
  ⟨d, e, h1.dp z1, h2.dp z2, s1.shaped hn z1, s2.shaped hm z2, k⟩
theorem i_neE {K : PySem.W.Frag} {H : Hp} {x y : V} {d e : PyData} {Q : VK} {n w m u : Nat} (h1 : De K H x d) (h2 : De K H y e) (s1 : Sd n w d) (s2 : Sd m u e) (z1 : d.hasDict = false) (z2 : e.hasDict = false) (k : Q (.bl (!PyData.eqv d e)) H) (hn : n ≤ 60 := by omega) (hm : m ≤ 60 := by omega) : rNeD K x y H Q :=
  ⟨d, e, h1.dp z1, h2.dp z2, s1.shaped hn z1, s2.shaped hm z2, k⟩
/-! ### isinstance of data -/
def tyB : String → PyData → Bool
  | "int", .int _ => true
  | "int", .bool _ => true
  | "bool", .bool _ => true
  | "str", .str _ => true
  | "list", .list _ => true
  | "tuple", .tuple _ => true
  | _, _ => false
theorem tyx_tup {K : PySem.W.Frag} {H : Hp} {a : Addr} {xs : List V} (h : SqT K H a xs) : TyX K H (.ref a) (.type "tuple") := by
  rcases h with (h | ⟨o, h⟩) | ⟨o, its, n, h, c, _⟩
  · exact .base (.tup h)
  · exact .fTuple h
  · exact .kTuple h c
theorem De.isi {K : PySem.W.Frag} {H : Hp} {v : V} {d : PyData} {Q : VK} {n : String} (h : De K H v d) (hn : n = "int" ∨ n = "bool" ∨ n = "str" ∨ n = "list" ∨ n = "tuple") (k : Q (.bl (tyB n d)) H) : rIsi K [v, .ty n] H Q := by
  cases h with
  | non => rcases hn with rfl | rfl | rfl | rfl | rfl <;> exact i_isi _ (.base .non) (kit_ty (by first | (show _ = some true; decide +kernel) | (show _ = some false; decide +kernel))) k
  | bl b => rcases hn with rfl | rfl | rfl | rfl | rfl <;> exact i_isi _ (.base (.bl _)) (kit_ty (by first | (show _ = some true; decide +kernel) | (show _ = some false; decide +kernel))) k
  | int i => rcases hn with rfl | rfl | rfl | rfl | rfl <;> exact i_isi _ (.base (.int _)) (kit_ty (by first | (show _ = some true; decide +kernel) | (show _ = some false; decide +kernel))) k
  | str x => rcases hn with rfl | rfl | rfl | rfl | rfl <;> exact i_isi _ (.base (.str _)) (kit_ty (by first | (show _ = some true; decide +kernel) | (show _ = some false; decide +kernel))) k
  | lst h1 _ h2 => rcases hn with rfl | rfl | rfl | rfl | rfl <;> exact i_isi _ (.base (.lst h1)) (kit_ty (by first | (show _ = some true; decide +kernel) | (show _ = some false; decide +kernel))) k
  | tup h1 h2 => rcases hn with rfl | rfl | rfl | rfl | rfl <;> exact i_isi _ (tyx_tup h1) (kit_ty (by first | (show _ = some true; decide +kernel) | (show _ = some false; decide +kernel))) k
  | dict h1 h2 => rcases hn with rfl | rfl | rfl | rfl | rfl <;> exact i_isi _ (.base (.dK h1)) (kit_ty (by first | (show _ = some true; decide +kernel) | (show _ = some false; decide +kernel))) k
theorem De.tupI {K : PySem.W.Frag} {H : Hp} {v : V} {ds : List PyData} (h : De K H v (.tuple ds)) : ∃ a xs, v = .ref a ∧ SqT K H a xs ∧ DeAll K H xs ds := by
  cases h with | tup h1 h2 => exact ⟨_, _, rfl, h1, h2⟩
theorem De.lstI {K : PySem.W.Frag} {H : Hp} {v : V} {ds : List PyData} (h : De K H v (.list ds)) : ∃ a xs, v = .ref a ∧ H a = some (.lst xs) ∧ sysModules < a ∧ DeAll K H xs ds := by
  cases h with | lst h1 h0 h2 => exact ⟨_, _, rfl, h1, h0, h2⟩
theorem De.intI {K : PySem.W.Frag} {H : Hp} {v : V} {i : Int} (h : De K H v (.int i)) : v = .int i := by cases h; rfl
section
variable {X : Cx} {es : List Expr} {t : TA} {pos : Pos}
def tLstL (t : TA) : TE := fun σ H Q => t σ H fun xs H1 => xs.length ≤ sizeLine ∧ ∀ p, H1 p = none → sysModules < p → Q (.ref p) (upd H1 p (.lst xs))
theorem pe_lstL (h : PA X es t) : PE X (.List es pos) (tLstL t) := by
  refine ⟨fun pins s σ H Q I hq => ?_⟩
  refine wpAny_List_spliced (thn (h.run pos pins s σ H _ I hq) fun us s1 ⟨xs, H1, I1, r, z, q⟩ => ⟨by rw [← r.length]; exact z, ?_⟩)
  have hf : H1 s1.heap.objs.size = none := I1.hok.fresh (Nat.le_refl _)
  refine ⟨.ref s1.heap.objs.size, upd H1 s1.heap.objs.size (.lst xs), I1.laid (t' := s1.toks) (fun b u e => Heap.get?_push_of_some _ e) (Nat.le_refl _) ?_, rfl, q _ hf I1.big⟩
  exact ⟨z, us, 0, r, Heap.get?_push_size _ rfl⟩
theorem i_lstL {σ : L2.St} {H : Hp} {Q : VK} (h : t σ H fun xs H1 => xs.length ≤ sizeLine ∧ ∀ p, H1 p = none → sysModules < p → Q (.ref p) (upd H1 p (.lst xs))) : tLstL t σ H Q := h
def rListL (K : PySem.W.Frag) : List V → Hp → VK → Prop := fun xs H Q => ∃ p ys, xs = [.ref p] ∧ (SqL K H p ys ∨ SqT K H p ys) ∧ ∀ l, H l = none → sysModules < l → Q (.ref l) (upd H l (.lst ys))
theorem call_listL : CallR X (.type "list") (rListL X.K) := by
  intro pins s σ H xs us Q I r h
  obtain ⟨p, ys, rfl, hq, q⟩ := h
  obtain ⟨u, rfl, rx⟩ := vals1 r
  cases rx
  have fin : ∀ (its : List Value), Vals ys its → ys.length ≤ sizeLine → ∀ (h' : Heap) (c' : Nat), (∀ b o', s.heap.get? b = some o' → h'.get? b = some o') →
      h'.get? s.heap.objs.size = some { cls := .type "list", dict := none, data := .seq its.toArray c', slots := #[] } → EP X pins σ Q (.ref s.heap.objs.size) { s with heap := h' } := fun its r' hz h' c' kp e =>
    ⟨.ref s.heap.objs.size, _, I.laid (t' := s.toks) kp (Nat.le_refl _) (show ObjOk X.prog X.w _ h' _ (.lst ys) from ⟨hz, its, c', r', e⟩), rfl, q _ (I.hok.fresh (Nat.le_refl _)) I.big⟩
  rcases hq with hq | hq
  · obtain ⟨its, r', pl, hz⟩ := I.list hq
    have hlen := r'.length
    obtain ⟨o, ho, hc, n, hd⟩ := pl.isList
    exact call_list_seq p (.inl rfl) ho hc hd (fun h' c' kp e => fin its r' hz h' c' kp e) (by simp only [List.size_toArray] <;> omega)
  · obtain ⟨its, r', pl, hz⟩ := I.tuple hq
    have hlen := r'.length
    obtain ⟨o, ho, hc, n, hd⟩ := pl
    exact call_list_seq p (.inr rfl) ho hc hd (fun h' c' kp e => fin its r' hz h' c' kp e) (by simp only [List.size_toArray] <;> omega)
theorem i_listL {K : PySem.W.Frag} {p : Addr} {ys : List V} {H : Hp} {Q : VK} (h : SqL K H p ys ∨ SqT K H p ys) (k : ∀ l, H l = none → sysModules < l → Q (.ref l) (upd H l (.lst ys))) : rListL K [.ref p] H Q := ⟨p, ys, rfl, h, k⟩
end
end Sw
namespace PySem.SeqAt
open MeetsSeq PySem
theorem dict_eq_declines_str (l : Addr) (es : Array DictEntry) (n : Nat) (dd : Option Addr) (sl : Array (Option Value)) (b : Str) (u : Tok) :
    Meets (Builtin.«dict.__eq__» ⟨[.ref l, .str b u], []⟩) (fun _ R s => s.heap.get? l = some { cls := .type "dict", dict := dd, data := .dict es n, slots := sl } ∧ R (.ok (.ret .notImplemented)) s) :=
  .of_wp fun prog w A R s h => by obtain ⟨hp, g, d, tk, os⟩ := s; obtain ⟨hl, h⟩ := h; have f1 := F.sub_str_dict; wp_walk using wpAny_loadPart' hl, wpAny_load hl; exact ⟨_, rfl, h⟩
theorem str_eq_declines_dict (b : Str) (u : Tok) (l : Addr) (c : Value) (es : Array DictEntry) (n : Nat) (dd : Option Addr) (sl : Array (Option Value)) :
    Meets (Builtin.«str.__eq__» ⟨[.str b u, .ref l], []⟩) (fun _ R s => s.heap.get? l = some { cls := c, dict := dd, data := .dict es n, slots := sl } ∧ R (.ok (.ret .notImplemented)) s) :=
  .of_wp fun prog w A R s h => by obtain ⟨hp, g, d, tk, os⟩ := s; obtain ⟨hl, h⟩ := h; wp_walk using wpAny_loadPart' hl, wpAny_load hl; exact ⟨_, rfl, h⟩
theorem dict_ne_declines_str (l : Addr) (es : Array DictEntry) (n : Nat) (dd : Option Addr) (sl : Array (Option Value)) (b : Str) (u : Tok) :
    Meets (Builtin.«dict.__ne__» ⟨[.ref l, .str b u], []⟩) (fun _ R s => s.heap.get? l = some { cls := .type "dict", dict := dd, data := .dict es n, slots := sl } ∧ R (.ok (.ret .notImplemented)) s) :=
  .of_wp fun prog w A R s h => by obtain ⟨hp, g, d, tk, os⟩ := s; obtain ⟨hl, h⟩ := h; have f1 := F.sub_str_dict; wp_walk using wpAny_loadPart' hl, wpAny_load hl; exact ⟨_, rfl, h⟩
theorem str_ne_declines_dict (b : Str) (u : Tok) (l : Addr) (c : Value) (es : Array DictEntry) (n : Nat) (dd : Option Addr) (sl : Array (Option Value)) :
    Meets (Builtin.«str.__ne__» ⟨[.str b u, .ref l], []⟩) (fun _ R s => s.heap.get? l = some { cls := c, dict := dd, data := .dict es n, slots := sl } ∧ R (.ok (.ret .notImplemented)) s) :=
  .of_wp fun prog w A R s h => by obtain ⟨hp, g, d, tk, os⟩ := s; obtain ⟨hl, h⟩ := h; wp_walk using wpAny_loadPart' hl, wpAny_load hl; exact ⟨_, rfl, h⟩
section
variable {A : Around} {s : Shared}
theorem RcAt.dict_str {l : Addr} {es : Array DictEntry} {n : Nat} {o : Obj} (b : Str) (u : Tok) (ho : s.heap.get? l = some o) (hc : o.cls = .type "dict") (hd : o.data = .dict es n) (hu : A.units < cLine) : RcAt A s (.ref l) (.str b u) false := fun prog w E Q h => by
  obtain ⟨cls, dd, data, sl⟩ := o
  simp only at hc hd
  subst hc hd
  exact rc_eq_decline_or (k := false) ⟨_, ho, rfl⟩ (typeIs_str s b u) (by decide) F.sub_str_dict F.slot_dict_eq F.slot_str_eq_refl
    (fun _ hq => call_meets F.slot_dict_eq ⟨_, ho, rfl⟩ F.entry_dict_eq (F.args_dict_eq_2 _ _) (dict_eq_declines_str l es n dd sl b u) ⟨ho, hq⟩)
    (fun _ hq => call_meets F.slot_str_eq_refl (typeIs_str s b u) F.entry_str_eq (F.args_str_eq_2 _ _) (str_eq_declines_dict b u l (.type "dict") es n dd sl) ⟨ho, hq⟩)
    (fun _ hq => wpAny_of_eq (rfl : isSame (.ref l) (.str b u) = pure false) hq) (.inr hu) h
theorem RcNeAt.dict_str {l : Addr} {es : Array DictEntry} {n : Nat} {o : Obj} (b : Str) (u : Tok) (ho : s.heap.get? l = some o) (hc : o.cls = .type "dict") (hd : o.data = .dict es n) (hu : A.units < cLine) : RcNeAt A s (.ref l) (.str b u) true := fun prog w E Q h => by
  obtain ⟨cls, dd, data, sl⟩ := o
  simp only at hc hd
  subst hc hd
  exact rc_ne_decline_or (k := false) ⟨_, ho, rfl⟩ (typeIs_str s b u) (by decide) F.sub_str_dict F.slot_dict_ne F.slot_str_ne_refl
    (fun _ hq => call_meets F.slot_dict_ne ⟨_, ho, rfl⟩ F.entry_dict_ne (F.args_dict_ne_2 _ _) (dict_ne_declines_str l es n dd sl b u) ⟨ho, hq⟩)
    (fun _ hq => call_meets F.slot_str_ne_refl (typeIs_str s b u) F.entry_str_ne (F.args_str_ne_2 _ _) (str_ne_declines_dict b u l (.type "dict") es n dd sl) ⟨ho, hq⟩)
    (fun _ hq => wpAny_of_eq (rfl : isSame (.ref l) (.str b u) = pure false) hq) (.inr hu) h
end
end PySem.SeqAt
namespace Sw
open PySem PySem.Spec PyProof.Rows L2
section
variable {X : Cx}
/-- x == y, x data, y data; a dict and a text are unlike -/
def rEqX (K : PySem.W.Frag) : R2 := fun x y H Q => rEqD K x y H Q ∨ ∃ a kvs z, x = .ref a ∧ H a = some (.dK kvs) ∧ y = .str z ∧ Q (.bl false) H
def rNeX (K : PySem.W.Frag) : R2 := fun x y H Q => rNeD K x y H Q ∨ ∃ a kvs z, x = .ref a ∧ H a = some (.dK kvs) ∧ y = .str z ∧ Q (.bl true) H
theorem op_eqX (hu : X.A.units + 64 < cLine) : OpR X (compareOp .Eq) (rEqX X.K) := by
  intro pins s σ H x y v u Q I rx ry h
  rcases h with h | ⟨a, kvs, z, rfl, ha, rfl, q⟩
  · exact op_eqD hu pins s σ H x y v u Q I rx ry h
  · cases rx
    obtain ⟨t, rfl⟩ := ry
    obtain ⟨_, notSys, vs, kv, o, es, ep, ho, ex, hd, _, pr, _⟩ : ObjOk X.prog X.w H s.heap _ (.dK _) := I.hok _ _ ha
    exact SeqAt.RcAt.dict_str z t ho ex.1 hd (by omega) _ _ _ _ ⟨.bl _, H, I, rfl, q⟩
theorem op_neX (hu : X.A.units + 64 < cLine) : OpR X (compareOp .NotEq) (rNeX X.K) := by
  intro pins s σ H x y v u Q I rx ry h
  rcases h with h | ⟨a, kvs, z, rfl, ha, rfl, q⟩
  · exact op_neD hu pins s σ H x y v u Q I rx ry h
  · cases rx
    obtain ⟨t, rfl⟩ := ry
    obtain ⟨_, notSys, vs, kv, o, es, ep, ho, ex, hd, _, pr, _⟩ : ObjOk X.prog X.w H s.heap _ (.dK _) := I.hok _ _ ha
    exact SeqAt.RcNeAt.dict_str z t ho ex.1 hd (by omega) _ _ _ _ ⟨.bl _, H, I, rfl, q⟩
/-- x in y, y a tuple of data -/
def rInT (K : PySem.W.Frag) : R2 := fun x y H Q => ∃ d ds, Dp K H x d ∧ Dp K H y (.tuple ds) ∧ SeqAt.shaped d = true ∧ SeqAt.shaped (.tuple ds) = true ∧ PyData.depthAll ds ≤ 10 ∧ Q (.bl (ds.any fun z => PyData.eqv z d)) H
theorem op_inT (hu : X.A.units + 64 < cLine) : OpR X (compareOp .In) (rInT X.K) := by
  intro pins s σ H x y v u Q I rx ry h
  obtain ⟨d, ds, hd, he, sd, se, dp, q⟩ := h
  obtain ⟨as, r1⟩ := Dp.reads I d x v hd rx
  obtain ⟨bs, r2⟩ := Dp.reads I (.tuple ds) y u he ry
  exact SeqAt.in_tuple_reads r2 r1 (SeqAt.canLay_of_shaped se) (SeqAt.canLay_of_shaped sd) (by have := Nat.min_le_left (PyData.depthAll ds) d.depth; omega) ⟨.bl _, H, I, rfl, q⟩
end
/-- whether data is the text l -/
def isS (l : List Nat) : PyData → Bool
  | .str z => decide (z = S l)
  | _ => false
theorem eqv_str_r (d : PyData) (l : List Nat) : PyData.eqv d (.str (S l)) = isS l d := by
  cases d <;> simp [PyData.eqv, isS] <;> rfl
theorem eqv_str_l (d : PyData) (l : List Nat) : PyData.eqv (.str (S l)) d = isS l d := by
  cases d with
  | str z =>
    simp only [PyData.eqv, isS]
    by_cases h : z = S l
    · rw [h, decide_eq_true rfl]; exact beq_self_eq_true _
    · rw [decide_eq_false h]; exact beq_eq_false_iff_ne.mpr (Ne.symm h)
  | _ => simp [PyData.eqv, isS]
theorem dp_strs' {K : PySem.W.Frag} {H : Hp} : ∀ ws : List (List Nat), DpAll K H (ws.map fun l => V.str (S l)) (ws.map fun l => PyData.str (S l))
  | [] => .nil
  | l :: ws => .cons (.str _) (dp_strs' ws)
/-- data without a dict inside, or an empty dict -/
def Ok1 (d : PyData) : Prop := d = .dict [] ∨ d.hasDict = false
theorem i_eqS1 {K : PySem.W.Frag} {H : Hp} {x : V} {d : PyData} {l : List Nat} {Q : VK} {n w : Nat} (h : De K H x d) (s : Sd n w d) (o : Ok1 d) (hl : ∀ c ∈ l, c ≤ 1000) (k : Q (.bl (isS l d)) H) (hn : n ≤ 60 := by omega) : rEqX K x (.str (S l)) H Q := by
  rcases o with rfl | z
  · cases h with | dict h1 h2 => exact .inr ⟨_, _, _, rfl, h1, rfl, k⟩
  · refine .inl (i_eqE h (.str _) s (sd_str hl) z (by simp only [PyData.hasDict]) ?_ hn)
    rw [eqv_str_r]
    exact k
theorem i_neS1 {K : PySem.W.Frag} {H : Hp} {x : V} {d : PyData} {l : List Nat} {Q : VK} {n w : Nat} (h : De K H x d) (s : Sd n w d) (o : Ok1 d) (hl : ∀ c ∈ l, c ≤ 1000) (k : Q (.bl (!isS l d)) H) (hn : n ≤ 60 := by omega) : rNeX K x (.str (S l)) H Q := by
  rcases o with rfl | z
  · cases h with | dict h1 h2 => exact .inr ⟨_, _, _, rfl, h1, rfl, k⟩
  · refine .inl (i_neE h (.str _) s (sd_str hl) z (by simp only [PyData.hasDict]) ?_ hn)
    rw [eqv_str_r]
    exact k
theorem i_inT {K : PySem.W.Frag} {H : Hp} {x : V} {d : PyData} {Q : VK} {n w : Nat} {a : Addr} (ls : List (List Nat)) (h : De K H x d) (s : Sd n w d) (z : d.hasDict = false) (hl : ∀ l ∈ ls, ∀ c ∈ l, c ≤ 1000) (ha : H a = some (.tup (ls.map fun l => .str (S l)))) (k : Q (.bl (ls.any fun l => isS l d)) H) (hn : n ≤ 60 := by omega) : rInT K x (.ref a) H Q := by
  refine ⟨d, ls.map fun l => .str (S l), h.dp z, .tup (sqT_of ha) (dp_strs' ls), s.shaped hn z, ?_, ?_, ?_⟩
  · have s2 : Sd 1 _ (.tuple (ls.map fun l => .str (S l))) := sd_tup (n := 0) (w := (ls.map List.length).foldr max 0) fun d hd => by
      obtain ⟨l, hl2, rfl⟩ := List.mem_map.mp hd
      refine (sd_str (hl l hl2)).mono (by omega) ?_
      clear hd hl k ha
      induction ls with
      | nil => cases hl2
      | cons y ys ih =>
        rw [List.map_cons, List.foldr_cons]
        rcases List.mem_cons.mp hl2 with rfl | hl2
        · exact Nat.le_max_left _ _
        · exact Nat.le_trans (ih hl2) (Nat.le_max_right _ _)
    refine s2.shaped (by omega) ?_
    simp only [PyData.hasDict]
    clear s2 hl k ha
    induction ls with
    | nil => rfl
    | cons y ys ih => simp only [List.map_cons, PyData.hasDictAll, PyData.hasDict, ih, Bool.or_self]
  · have : ∀ ks : List (List Nat), PyData.depthAll (ks.map fun l => PyData.str (S l)) = 0 := by
      intro ks
      induction ks with
      | nil => simp only [List.map_nil, PyData.depthAll]
      | cons y ys ih => simp only [List.map_cons, PyData.depthAll, PyData.depth, ih]; omega
    rw [this]; omega
  · rw [List.any_map]
    simp only [Function.comp_def, eqv_str_l]
    exact k
end Sw
namespace Sw
open PySem PySem.Spec PyProof.Rows L2 PySem.SwE
/-- InvalidText.__init__(self, given) -/
def spInit (K : PySem.W.Frag) : Sp := fun vs H Q _ => ∃ (a C : Addr) (v : V), vs = [.ref a, v] ∧ H a = some (exo a C none) ∧ OexE K C ∧ PySem.W.findIn K (.ref C) "given" = some none ∧
  ∀ dx, H dx = none → dx ≠ a → Q .non (upd (upd H dx (exd dx [("given", v)])) a (exo a C (some dx)))
/-- what the written part says of the class that is called over -/
structure Over (K : PySem.W.Frag) (mg : Str → Option Value) (B : Addr) : Prop where
  hm : mg "CodecError" = some (.ref B)
  ga : PySem.W.specialIn K (.ref B) "__getattribute__" = some (some (.builtin "type.__getattribute__"))
  ty : PySem.W.typeIn K (.ref B) = some (.type "type")
  rd : PySem.W.readsIn K B (.type "type") = true
  fi : PySem.W.findCls K (.ref B) (.type "type") "__init__" = some (.val (.builtin "Exception.__init__"))
theorem i_init {K : PySem.W.Frag} {ta : TA} {σ : L2.St} {H : Hp} {Q : VK} (h : ta σ H fun vs H1 => ∃ (a C : Addr) (ws : List V), vs = .ref a :: ws ∧ ws.length ≤ 1000 ∧ OexE K C ∧ H1 a = some (exo a C none) ∧ Q .non H1) : tInit K ta σ H Q := h
theorem i_fst {K : PySem.W.Frag} {f : Str} {to te : TE} {D : Ends} {σ : L2.St} {H : Hp} (h : te σ H fun y H1 => to σ H1 fun x H2 => ∃ a C : Addr, x = .ref a ∧ OexE K C ∧ PySem.W.findIn K (.ref C) f = some none ∧
  H2 a = some (exo a C none) ∧ ∀ dx, H2 dx = none → dx ≠ a → D.nx σ (upd (upd H2 dx (exd dx [(f, y)])) a (exo a C (some dx)))) : tFst K f to te D σ H := h
/-- the class InvalidText, as it stands behind the top -/
structure XT (P : Program) (w : World) (K : PySem.W.Frag) (mg : Str → Option Value) (base : Heap) (C : Addr) : Prop where
  T : OexE K C
  xf : XfC K C
  no : PySem.W.findIn K (.ref C) "given" = some none
  hm : mg "InvalidText" = some (.ref C)
  me : PySem.W.exmOne K (.ref C) (.ref C) = some true
  ini : ∃ (fI : Addr) (fd : FuncData), PySem.W.findIn K (.ref C) "__init__" = some (some (.ref fI)) ∧ PySem.W.typeIn K (.ref fI) = some (.type "function") ∧ FnOk P w K mg base CX0 1 fI fd ["self", "given"] (spInit K) ∧ Binds K fd ["self", "given"] []
theorem pmk_T {X : Cx} {C : Addr} {n : Nat} {e : Expr} {te : TE} {p pos : Pos} (xt : XT X.prog X.w X.K X.mg X.base C) (hr : Room n X.A) (he : PE X e te) (hn : 2 ≤ n := by decide) (hg : Gl X "InvalidText" := by rfl)
    (he2 : starEach [e] X.env = (false, eval e X.env) :: starEach [] X.env := by rfl) : PMk X (.Call (.Name "InvalidText" p) [e] [] pos) (tMkO C (spInit X.K) [] (tCons te tNil)) := by
  obtain ⟨fI, fd, h1, h2, h3, h4⟩ := xt.ini
  exact pmk_E xt.T h1 h2 h3 (hr.mono hn) h4 pass0 xt.hm (pa_cons he pa_nil he2) hg (by decide) he2 (by rfl)
def Thrown (K : PySem.W.Frag) (C : Addr) (vs : List V) (H1 : Hp) (Q : XK) : Prop := vs.length ≤ 1000 ∧ ∀ a, H1 a = none → spInit K (.ref a :: (vs ++ [])) (upd H1 a (exo a C none))
  (fun v H2 => v = .non ∧ ∃ (d : Addr) (fs : List (Str × V)), H2 a = some (exo a C (some d)) ∧ H2 d = some (exd d fs) ∧ H1 d = none ∧ Q (.ref C) (some d) (upd (del H2 a) d (.xd fs))) (fun _ _ _ => False)
theorem i_mk {K : PySem.W.Frag} {C : Addr} {ta : TA} {σ : L2.St} {H : Hp} {Q : XK} (h : ta σ H fun vs H1 => Thrown K C vs H1 Q) : tMkO C (spInit K) [] ta σ H Q := h
def tRs (t : L2.St → Hp → XK → Prop) (W : WX) : TS := fun _ σ H => t σ H fun cls d H' => W cls d σ H'
theorem ps_rs {X : Cx} {W : WX} {e : Expr} {t : L2.St → Hp → XK → Prop} {pos : Pos} (hc : X.calm = true) (tk : Takes X W) (he : PMk X e t) : PS X (.Raise (some e) none pos) (tRs t W) := L2.ps_raise hc tk he
theorem i_raise {t : L2.St → Hp → XK → Prop} {W : WX} {D : Ends} {σ : L2.St} {H : Hp} (h : t σ H fun cls d H' => W cls d σ H') : tRs t W D σ H := h
theorem i_thrown {K : PySem.W.Frag} {C : Addr} {v : V} {H1 : Hp} {Q : XK} (T : OexE K C) (no : PySem.W.findIn K (.ref C) "given" = some none) (h : ∀ dx, H1 dx = none → Q (.ref C) (some dx) (upd H1 dx (.xd [("given", v)]))) : Thrown K C [v] H1 Q := by
  refine ⟨by simp, fun a na => ⟨a, C, v, rfl, upd_same, T, no, fun dx nx ne => ⟨rfl, dx, [("given", v)], upd_same, ?_, ?_, ?_⟩⟩⟩
  · rw [upd_ne ne, upd_same]
  · rw [upd_ne ne] at nx; exact nx
  · rw [upd_ne ne] at nx
    have e : upd (del (upd (upd (upd H1 a (exo a C none)) dx (exd dx [("given", v)])) a (exo a C (some dx))) a) dx (.xd [("given", v)]) = upd H1 dx (.xd [("given", v)]) := by
      funext b
      by_cases c : b = dx
      · rw [c, upd_same, upd_same]
      · rw [upd_ne c, upd_ne c]
        by_cases c2 : b = a
        · rw [c2, del_same, na]
        · rw [del_ne c2, upd_ne c2, upd_ne c, upd_ne c2]
    rw [e]
    exact h dx nx
theorem i_dnew {σ : L2.St} {H : Hp} {Q : VK} (h : ∀ p, H p = none → Q (.ref p) (upd H p (.dK []))) : tDNewK σ H Q := h
end Sw
namespace Sw
open PySem PySem.Spec PyProof.Rows L2
/-! ### try with several clauses that name the error -/
inductive AsOk (X : Cx) (Wo : WX) : List ExceptHandler → (Ends → WX) → Prop
  | nil : AsOk X Wo [] fun _ => Wo
  | cons {x n : Str} {c : Value} {i : Nat} {ts : Addr → Value → Option Addr → TS} {st : Stmt} {more : List Stmt} {p1 p2 : Pos} {hds : List ExceptHandler} {W : Ends → WX}
      (hi : X.N[i]? = some n) (hl : X.env.kindOf n = some .local) (hc : Names X x c)
      (su : ∀ (a : Addr) (o : Obj) (cls : Value) (d : Option Addr) (pn : List (Addr × Obj)), Zc cls d o → (∃ vs, o.data = .fields vs) → PSs (X.suite a ((a, o) :: pn)) (st :: more) (ts a cls d))
      (rest : AsOk X Wo hds W) : AsOk X Wo (.ExceptHandler (some (.Name x p1)) (some n) (st :: more) p2 :: hds) fun D => wAs X.K c i ts (W D) D
theorem ps_tries {X : Cx} {Wo : WX} {W : Ends → WX} {body : List Stmt} {h₀ : ExceptHandler} {hds : List ExceptHandler} {pos : Pos} {tb : WX → TS} (hs : X.stack = X.env :: X.outer) (hf : X.env.frame = some X.env.locals) (nd : X.N.Nodup) (tk : Takes X Wo)
    (hb : ∀ (V : WX) (pn : List (Addr × Obj)) (xe : Value → Shared → Prop), Takes (X.tr pn xe) V → PassesOwn (model X.prog X.w) X.A X.env xe → PSs (X.tr pn xe) body (tb V))
    (hh : AsOk X Wo (h₀ :: hds) W) : PS X (.Try body (h₀ :: hds) [] [] pos) fun D σ H => tb (W D) D σ H := by
  constructor
  intro pins s σ H D I h
  have ok := I.ok
  have fr : X.A.frames = some (X.env :: X.outer) := by rw [← hs]; exact ok.frames
  let after : Value → Shared → Prop := fun e s₁ => wpAny (model X.prog X.w) X.A (noteFrame e X.env) (fun _ s₂ => wpAny (model X.prog X.w) X.A (setFlight e none) (fun _ s₃ => wpAny (model X.prog X.w) X.A (handleBy e X.env (h₀ :: hds)) (SP X pins D) X.xe s₃) X.xe s₂) X.xe s₁
  have run := (hb (W D) (X.pn ++ pins) after (fun u s' air => ?_) PassesOwn.looking).run [] s σ H D (I.toTry _) h
  · refine wpAny_Try_except (wpAny_mono run (fun f s1 z => ?_) fun _ _ z => z)
    cases f <;> obtain ⟨_, _, z⟩ := z
    · exact wpAny_execs_nil ⟨_, _, z.1.ofTry ok, z.2⟩
    · exact ⟨_, _, z.1.ofTry ok, z.2⟩
    · exact ⟨_, _, z.1.ofTry ok, z.2⟩
    · obtain ⟨H', J, r, q⟩ := z
      exact ⟨_, _, _, J.ofTry ok, r, q⟩
  · obtain ⟨a, B, sI, pins', σ', H', cls, d, rfl, J0, nb, up, sky, na, os, ag, w⟩ := air
    have J := J0.ofTry ok
    show wpAny (model X.prog X.w) X.A (noteFrame (.ref a) X.env) _ _ _
    refine Sky.land Zc.steady fr hf (by rw [← hs]; exact sky) fun h3 fl3 up3 => ?_
    have J3 : Inv X pins σ' H' { s' with heap := h3 } := J.landed nb fl3.1 (up.trans up3) os ag
    obtain ⟨o3, vs3, ho3, z3, d3⟩ := fl3.there
    have out : a ∉ frs (X.env :: X.outer) := fun hm => by
      obtain ⟨_, o', e', hn⟩ := fl3.2.2.1.mem hm
      cases ho3.symm.trans e'
      exact hn _ d3
    have nL : a ≠ X.env.locals := fun z => out (List.mem_filterMap.mpr ⟨_, List.mem_cons_self, by rw [hf, z]⟩)
    have nF : a ∉ X.fs := fun hm => by
      obtain ⟨e, he, q⟩ := List.mem_filterMap.mp hm
      exact out (List.mem_filterMap.mpr ⟨e, List.mem_cons_of_mem _ he, q⟩)
    have S3 := J3.suite ho3 d3 na nL nF
    clear h
    revert w
    generalize h₀ :: hds = all at hh
    intro w
    induction hh with
    | nil =>
      refine wpAny_handleBy_nil ?_
      obtain ⟨_, _, _, o, vs, T, _, _, g1, _, g2, g3, _⟩ := id fl3
      unfold PySem.passOn
      refine wpAny_bind (wpAny_field g1 g2 g3 ?_)
      rw [if_neg (by simp : ¬ (Value.ref T == Value.none) = true)]
      have away : wpAny (model X.prog X.w) X.A (setFlight (.ref a) X.env.frame) (fun _ s4 => wpAny (model X.prog X.w) X.A (throw (.ref a) : Sem Flow) (SP X pins D) X.xe s4) X.xe { s' with heap := h3 } := by
        rw [hf]
        exact HandSPX.setFlight_upZ fl3 fun h4 hh4 up4 => wpAny_throw (tk _ _ ⟨a, B, sI, pins, σ', H', cls, d, rfl, J, nb, (up.trans up3).trans up4, .inr (.inr (by rw [hs]; exact hh4)), na, os, ag, w⟩)
      first | exact wpAny_bind (wpAny_pure (wpAny_bind away)) | exact wpAny_bind away
    | @cons x n c i ts st more p1 p2 hds W hi hl hc su rest ih =>
      obtain ⟨b, hb1, yes, no⟩ := w
      refine wpAny_handleBy_cons (codeAny_handlers_test ?_) (by intro q; cases q)
      have ty : PySem.W.Looks (model X.prog X.w) h3 (typeOf (.ref a)) cls := fun _ _ _ s k q => wpAny_typeOf_ref (k _ _ ho3) (by rw [z3.1]; exact q)
      have hit := PySem.W.exm_one (M := model X.prog X.w) J3.kIn ty hb1
      have name : ∀ {Q E : Value → Shared → Prop}, Q c { s' with heap := h3 } → wpAny (model X.prog X.w) (X.A.mark (some (.ref a))) (eval (.Name x p1) X.env) Q E { s' with heap := h3 } := fun q => by
        obtain ⟨hg, hd, ⟨hm⟩ | ⟨hm, hv, hn⟩⟩ := hc
        · exact ld_glob (X := X.suite a ((a, o3) :: (X.pn ++ pins))) S3 hg (by assumption) q hd
        · exact ld_blt (X := X.suite a ((a, o3) :: (X.pn ++ pins))) S3 hg hm hv q hn hd
      refine name (hit.here ?_)
      cases b with
      | false => exact ih (no rfl)
      | true =>
        refine codeAny_handlers_suite_as (HandSPX.lands_againZ fl3 fun h4 fl4 up4 => ?_)
        obtain ⟨o4, vs4, ho4, z4, d4⟩ := fl4.there
        have J4 : Inv X pins σ' H' { s' with heap := h4 } := J.landed nb fl4.1 ((up.trans up3).trans up4) os ag
        refine store_ok (X := X.suite a ((a, o4) :: (X.pn ++ pins))) (v := .ref a) (J4.suite ho4 d4 na nL nF) nd hi (.inl hl) rfl (fun s5 S5 => ?_) (.inr hl)
        refine wpAny_mono ((su a o4 cls d (X.pn ++ pins) z4 ⟨_, d4⟩).run [] s5 _ H' _ S5 (yes rfl a na)) (fun f s6 z => ?_) fun _ _ z => z.elim
        have bye : ∀ {σ6 : L2.St} {H6 : Hp} {Q : Shared → Prop}, Inv (X.suite a ((a, o4) :: (X.pn ++ pins))) [] σ6 H6 s6 → (∀ s7, Inv X pins (σ6.set i none) H6 s7 → Q s7) →
            wpAny (model X.prog X.w) X.A (do bindName X.env n .none; unbindBehindTheSuite X.env n p2) (fun _ s7 => Q s7) X.xe s6 := fun S6 hq => gone_ok (S6.unsuite ok) nd hi hl hq
        cases f <;> obtain ⟨_, _, z⟩ := z
        · exact bye z.1 fun s7 J7 => ⟨_, _, J7, z.2⟩
        · exact bye z.1 fun s7 J7 => ⟨_, _, J7, z.2⟩
        · exact bye z.1 fun s7 J7 => ⟨_, _, J7, z.2⟩
        · obtain ⟨H6, S6, r6, q6⟩ := z
          exact bye S6 fun s7 J7 => ⟨_, _, _, J7, r6, q6⟩
end Sw
namespace Sw
open PySem PySem.Spec PyProof.Rows L2
/-- isinstance(e, c), e the caught error, its fields at d -/
def rIsEd (K : PySem.W.Frag) (a : Addr) (cls : Value) (d : Option Addr) : List V → Hp → VK → Prop := fun xs H Q => ∃ (D c dd : Addr) (fs : List (Str × V)) (b : Bool), xs = [.ref a, .ref c] ∧ cls = .ref D ∧ ExcC K D ∧ d = some dd ∧ H dd = some (.xd fs) ∧ PySem.W.kitOne K (.ref D) (.ref c) = some b ∧ Q (.bl b) H
theorem call_isEd {X : Cx} {a : Addr} {oe : Obj} {cls : Value} {d : Option Addr} {pn : List (Addr × Obj)} (hz : Zc cls d oe) (hf : ∃ vs, oe.data = .fields vs) : CallR (X.suite a ((a, oe) :: pn)) (.builtin "isinstance") (rIsEd X.K a cls d) := by
  intro pins s σ H xs us Q I r h
  obtain ⟨D, c, dd, fs, b, rfl, rfl, C, rfl, ea, e, q⟩ := h
  cases r with
  | cons rx rr =>
    cases rr with
    | cons rt rr =>
      cases rr
      cases rx
      cases rt
      obtain ⟨hget, _⟩ := I.pin (a, oe) (List.mem_append.mpr (.inl List.mem_cons_self))
      obtain ⟨vs, hv⟩ := hf
      have hx : ObjOk X.prog X.w H s.heap dd (.xd fs) := I.hok dd _ ea
      obtain ⟨mA, hns, hr⟩ := hx
      obtain ⟨od, ho, hl⟩ := lookIn_ns hns
      have J : PySem.W.InstAt s.heap a oe D (some od) := ⟨hget, hz.1, by unfold PySem.W.notCls; rw [hv] <;> rfl, by rw [hz.2]; exact ho⟩
      exact PySem.W.kia_one (PySem.W.kitx_exc (by obtain ⟨cd, hc, _⟩ := PySem.W.any_some C.hd; rw [hc]; rfl) C.hg C.hk C.hs C.ha C.hn C.ht C.hm) I.kIn J e (fun z => nomatch z) fun tk => ⟨.bl b, H, I.kept (t' := tk) fun _ _ z => z, rfl, q⟩
end Sw
namespace Sw
open PySem PySem.Spec PyProof.Rows L2
/-! ### kinds and passings as data -/
abbrev tLost : List Nat := [108, 111, 115, 116]
abbrev tPut : List Nat := [112, 117, 116]
abbrev tTurned : List Nat := [116, 117, 114, 110, 101, 100]
abbrev tSame : List Nat := [115, 97, 109, 101]
def isI : PyData → Bool
  | .int _ => true
  | _ => false
def isX (m : Int) : PyData → Bool
  | .int i => decide (0 ≤ i) && decide (i < m)
  | _ => false
def isG : PyData → Bool
  | .int i => decide (1 ≤ i) && decide (i ≤ 5)
  | _ => false
def kindB (m : Int) : PyData → Bool
  | .tuple [a, b] => isX m b && (isS tLost a || isS tPut a)
  | .tuple [a, b, c] => isX m b && isX m c && (isS tTurned a && !PyData.eqv b c)
  | _ => false
def sameB (m : Int) : PyData → Bool
  | .tuple [a, b] => isS tSame a && isX m b
  | _ => false
def passB (m : Int) : PyData → Bool
  | .tuple ds => ds.all fun s => sameB m s || kindB m s
  | _ => false
/-- the number of signs, if the data is one -/
def sgn (e : PyData) : Option Int := match e with
  | .int m => if 1 ≤ m ∧ m ≤ 5 then some m else none
  | _ => none
def onG (e : PyData) (b : Int → Bool) : Bool := match sgn e with
  | some m => b m
  | none => false
theorem sgn_some {e : PyData} {m : Int} (h : sgn e = some m) : e = .int m ∧ 1 ≤ m ∧ m ≤ 5 := by
  unfold sgn at h
  split at h
  · split at h
    · cases h; exact ⟨rfl, by assumption⟩
    · cases h
  · cases h
theorem isG_sgn (e : PyData) : isG e = (sgn e).isSome := by
  cases e <;> simp only [isG, sgn, Option.isSome]
  rename_i i
  by_cases h : 1 ≤ i ∧ i ≤ 5
  · rw [if_pos h, decide_eq_true h.1, decide_eq_true h.2]; rfl
  · rw [if_neg h, Bool.and_eq_false_iff]
    by_cases h1 : 1 ≤ i
    · exact .inr (decide_eq_false fun q => h ⟨h1, q⟩)
    · exact .inl (decide_eq_false h1)
/-- a step or what is told in its place: each part is without a dict, or is an empty one; a word ahead of one number has no dict -/
structure StOk (d : PyData) : Prop where
  parts : ∀ ds, d = .tuple ds → ∀ y ∈ ds, Ok1 y
  two : ∀ a b, d = .tuple [a, b] → isI b = true → a.hasDict = false
structure PsOk (d : PyData) : Prop where
  st : StOk d
  all : ∀ ds, d = .tuple ds → ∀ y ∈ ds, StOk y
theorem StOk.flat {d : PyData} (h : d.hasDict = false) : StOk d := by
  have p : ∀ ds, d = .tuple ds → ∀ y ∈ ds, y.hasDict = false := by
    rintro ds rfl y hy
    simp only [PyData.hasDict] at h
    induction ds with
    | nil => cases hy
    | cons z zs ih =>
      simp only [PyData.hasDictAll, Bool.or_eq_false_iff] at h
      rcases List.mem_cons.mp hy with rfl | hy
      · exact h.1
      · exact ih h.2 hy
  exact ⟨fun ds e y hy => .inr (p ds e y hy), fun a b e _ => p _ e _ List.mem_cons_self⟩
theorem hasDict_tup {ds : List PyData} : (PyData.tuple ds).hasDict = false ↔ ∀ y ∈ ds, y.hasDict = false := by
  simp only [PyData.hasDict]
  induction ds with
  | nil => simp [PyData.hasDictAll]
  | cons z zs ih => simp only [PyData.hasDictAll, Bool.or_eq_false_iff, ih, List.mem_cons, forall_eq_or_imp]
theorem PsOk.flat {d : PyData} (h : d.hasDict = false) : PsOk d := by
  refine ⟨.flat h, ?_⟩
  rintro ds rfl y hy
  exact .flat (hasDict_tup.mp h y hy)
theorem StOk.emp : StOk (.dict []) := ⟨fun ds e => by (cases e), fun a b e => by (cases e)⟩
theorem PsOk.emp : PsOk (.dict []) := ⟨.emp, fun ds e => by (cases e)⟩
end Sw
namespace Sw
open PySem PySem.Spec PyProof.Rows L2
theorem Sd.tupI' {n w : Nat} {ds : List PyData} (s : Sd n w (.tuple ds)) : SdAll n w ds := (Sd.tupI (n := n) (s.mono (by omega) (Nat.le_refl _)))
theorem Sd.lstI' {n w : Nat} {ds : List PyData} (s : Sd n w (.list ds)) : SdAll n w ds := (Sd.lstI (n := n) (s.mono (by omega) (Nat.le_refl _)))
theorem i_yes {σ : L2.St} {H : Hp} {R : Bool → Hp → Prop} (h : R true H) : tYes σ H R := h
/-! ### parts of tuples -/
theorem i_slTF {K : PySem.W.Frag} {a : Addr} {xs : List V} {k : Nat} {H : Hp} {Q : VK} (h : SqT K H a xs) (q : ∀ b H', Same H H' → SqT K H' b (xs.drop k) → Q (.ref b) H') : rSlA K (.ref a) (some (k : Int)) none H Q := by
  refine ⟨a, xs, rfl, h, fun e => ?_, fun e p np => ?_⟩
  · rw [HT.sIx_nat] at e
    refine q _ _ (Same.refl _) ?_
    by_cases hk : k = 0
    · rw [hk, List.drop_zero]; exact h
    · have : xs = [] := List.eq_nil_of_length_eq_zero (by omega)
      rw [this, List.drop_nil]; rw [this] at h; exact h
  · have : cutV xs (some (k : Int)) none = xs.drop k := by
      unfold cutV
      rw [HT.sIx_nat, HT.sIx_none]
      by_cases hk : k ≤ xs.length
      · rw [Nat.min_eq_left hk, List.take_of_length_le (by rw [List.length_drop]; omega)]
      · rw [Nat.min_eq_right (by omega), List.drop_of_length_le (by omega), List.drop_of_length_le (by omega), List.take_nil]
    rw [this]
    exact q _ _ (same_upd np) (sqT_of upd_same)
theorem i_slTT {K : PySem.W.Frag} {a : Addr} {xs : List V} {k : Nat} {H : Hp} {Q : VK} (h : SqT K H a xs) (q : ∀ b H', Same H H' → SqT K H' b (xs.take k) → Q (.ref b) H') : rSlA K (.ref a) none (some (k : Int)) H Q := by
  refine ⟨a, xs, rfl, h, fun e => ?_, fun e p np => ?_⟩
  · rw [HT.sIx_nat, HT.sIx_none] at e
    refine q _ _ (Same.refl _) ?_
    rw [List.take_of_length_le (by omega)]; exact h
  · have : cutV xs none (some (k : Int)) = xs.take k := by
      unfold cutV
      rw [HT.sIx_nat, HT.sIx_none, List.drop_zero, Nat.sub_zero]
      by_cases hk : k ≤ xs.length
      · rw [Nat.min_eq_left hk]
      · rw [Nat.min_eq_right (by omega), List.take_length, List.take_of_length_le (by omega)]
    rw [this]
    exact q _ _ (same_upd np) (sqT_of upd_same)
theorem i_catT {K : PySem.W.Frag} {a b : Addr} {xs ys : List V} {H : Hp} {Q : VK} (h : SqT K H a xs) (h2 : SqT K H b ys) (l : xs.length + ys.length ≤ sizeLine) (q : ∀ c H', Same H H' → SqT K H' c (xs ++ ys) → Q (.ref c) H') : rCatA K (.ref a) (.ref b) H Q := by
  refine ⟨a, b, xs, ys, rfl, rfl, h, h2, l, fun e => ?_, fun e1 e2 => ?_, fun e1 e2 p np => ?_⟩
  · rw [e] at q; exact q _ _ (Same.refl _) h2
  · rw [e2, List.append_nil] at q; exact q _ _ (Same.refl _) h
  · exact q _ _ (same_upd np) (sqT_of upd_same)
theorem inV_two (n i j : Int) : inV (.int n) [.int i, .int j] = (decide (n = i) || decide (n = j)) := by
  show (i == n || (j == n || false)) = _
  rw [Bool.or_false]
  congr 1
  · by_cases h : n = i
    · rw [h, decide_eq_true rfl]; exact beq_self_eq_true _
    · rw [decide_eq_false h]; exact beq_eq_false_iff_ne.mpr (Ne.symm h)
  · by_cases h : n = j
    · rw [h, decide_eq_true rfl]; exact beq_self_eq_true _
    · rw [decide_eq_false h]; exact beq_eq_false_iff_ne.mpr (Ne.symm h)
theorem i_ixTn {K : PySem.W.Frag} {p : Addr} {xs : List V} {k : Nat} {v : V} {H : Hp} {Q : VK} (h1 : SqT K H p xs) (h2 : xs[k]? = some v) (h : Q v H) : rIxT K (.ref p) (.int (k : Int)) H Q := by
  refine i_ixT h1 ?_ h
  have : k < xs.length := by
    rcases Nat.lt_or_ge k xs.length with q | q
    · exact q
    · rw [List.getElem?_eq_none q] at h2; cases h2
  unfold atI ixN
  rw [if_pos (by omega), if_pos (by omega), Int.toNat_natCast]
  exact h2
theorem i_lenSqT {K : PySem.W.Frag} {p : Addr} {xs : List V} {H : Hp} {Q : VK} (h1 : SqT K H p xs) (h : Q (.int xs.length) H) : rLenQ K [.ref p] H Q := ⟨p, xs, rfl, .inr h1, h⟩
theorem DeAll.getD {K : PySem.W.Frag} {H : Hp} {vs : List V} {ds : List PyData} {i : Nat} {v : V} (h : DeAll K H vs ds) (e : vs[i]? = some v) : De K H v (ds.getD i .none) := by
  obtain ⟨d, h1, h2⟩ := h.get e
  rw [List.getD_eq_getElem?_getD, h1]; exact h2
theorem map_getD {α : Type} (ds : List PyData) (g : PyData → α) : (List.range ds.length).map (fun i => g (ds.getD i .none)) = ds.map g := range_map_get ds _ g fun i x hx => by rw [List.getD_eq_getElem?_getD, hx]; rfl
end Sw
namespace Sw
open PySem PySem.Spec PyProof.Rows L2
/-! ### data without lists stays while a list changes -/
mutual
def noL : PyData → Bool
  | .list _ => false
  | .tuple xs => noLAll xs
  | .dict [] => true
  | .dict _ => false
  | _ => true
def noLAll : List PyData → Bool
  | [] => true
  | x :: xs => noL x && noLAll xs
end
/-- all is kept but the list at p -/
def KeepP (p : Addr) (H H' : Hp) : Prop := ∀ a o, (a ≠ p ∨ ∀ xs, o ≠ .lst xs) → H a = some o → H' a = some o
theorem keepP_upd {H : Hp} {p : Addr} {xs ys : List V} (h : H p = some (.lst xs)) : KeepP p H (upd H p (.lst ys)) := fun a o q e => by
  by_cases c : a = p
  · subst c
    rw [h] at e
    cases e
    exact (q.elim (fun q => q rfl) fun q => q _ rfl).elim
  · rw [L2.upd_ne c]; exact e
theorem Same.keepP {H H' : Hp} {p : Addr} (s : Same H H') : KeepP p H H' := fun a o _ e => s a o e
theorem KeepP.trans {H1 H2 H3 : Hp} {p : Addr} (s : KeepP p H1 H2) (t : KeepP p H2 H3) : KeepP p H1 H3 := fun a o q e => t a o q (s a o q e)
theorem KeepP.sqT {K : PySem.W.Frag} {H H' : Hp} {p a : Addr} {xs : List V} (k : KeepP p H H') (h : SqT K H a xs) : SqT K H' a xs := by
  rcases h with (h | ⟨o, h⟩) | h
  · exact .inl (.inl (k _ _ (.inr fun _ => HO.noConfusion) h))
  · exact .inl (.inr ⟨o, k _ _ (.inr fun _ => HO.noConfusion) h⟩)
  · exact .inr h
mutual
theorem De.keep {K : PySem.W.Frag} {H H' : Hp} {p : Addr} (s : KeepP p H H') : ∀ {v : V} {d : PyData}, De K H v d → noL d = true → De K H' v d
  | _, _, .non, _ => .non
  | _, _, .bl b, _ => .bl b
  | _, _, .int i, _ => .int i
  | _, _, .str x, _ => .str x
  | _, _, .lst h1 h0 h2, n => by simp [noL] at n
  | _, _, .tup h1 h2, n => .tup (s.sqT h1) (DeAll.keep s h2 (by simpa only [noL] using n))
  | _, _, .dict h1 (.nil), n => .dict (s _ _ (.inr fun _ => HO.noConfusion) h1) .nil
  | _, _, .dict h1 (.cons _ _), n => by simp [noL] at n
theorem DeAll.keep {K : PySem.W.Frag} {H H' : Hp} {p : Addr} (s : KeepP p H H') : ∀ {vs : List V} {ds : List PyData}, DeAll K H vs ds → noLAll ds = true → DeAll K H' vs ds
  | _, _, .nil, _ => .nil
  | _, _, .cons h1 h2, n => by
    simp only [noLAll, Bool.and_eq_true] at n
    exact .cons (De.keep s h1 n.1) (DeAll.keep s h2 n.2)
end
theorem noLAll_iff {ds : List PyData} : noLAll ds = true ↔ ∀ d ∈ ds, noL d = true := by
  induction ds with
  | nil => simp [noLAll]
  | cons d ds ih => simp only [noLAll, Bool.and_eq_true, ih, List.mem_cons, forall_eq_or_imp]
theorem push_de {K : PySem.W.Frag} {H : Hp} {t p : Addr} {vs : List V} {ds : List PyData} {o : HO} {d : PyData} (hp : H p = some (.lst vs)) (hd : DeAll K H vs ds) (nl : noLAll ds = true) (nt : H t = none) (new : De K (upd H t o) (.ref t) d) (nd : noL d = true) :
    DeAll K (upd (upd H t o) p (.lst (vs ++ [.ref t]))) (vs ++ [.ref t]) (ds ++ [d]) := by
  have hp2 := upd_old (o := o) nt hp
  have k := keepP_upd (ys := vs ++ [.ref t]) hp2
  exact ((hd.same (same_upd nt)).keep k nl).app (.cons (new.keep k nd) .nil)
theorem push_val {K : PySem.W.Frag} {H : Hp} {p : Addr} {vs : List V} {ds : List PyData} {v : V} {d : PyData} (hp : H p = some (.lst vs)) (hd : DeAll K H vs ds) (nl : noLAll ds = true) (new : De K H v d) (nd : noL d = true) :
    DeAll K (upd H p (.lst (vs ++ [v]))) (vs ++ [v]) (ds ++ [d]) := by
  have k := keepP_upd (ys := vs ++ [v]) hp
  exact (hd.keep k nl).app (.cons (new.keep k nd) .nil)
end Sw
namespace Sw
open PySem PySem.Spec PyProof.Rows L2
/-! ### heaps beside the box of draws -/
theorem del_sb {b : Addr} {H H' : Hp} (s : SB b H H') : Same (L2.del H b) (L2.del H' b) := fun a o e => by
  by_cases c : a = b
  · subst c; rw [L2.del_same] at e; cases e
  · rw [L2.del_ne c] at e ⊢; exact s a o c e
theorem del_sub {b : Addr} {H : Hp} : Same (L2.del H b) H := fun a o e => by
  by_cases c : a = b
  · subst c; rw [L2.del_same] at e; cases e
  · rw [L2.del_ne c] at e; exact e
theorem box_some {H : Hp} {b : Addr} {d : Int} (B : BoxAt H b d) : ∃ o, H b = some o := by obtain ⟨_, _, _, _, e, _⟩ := B.ex; exact ⟨_, e⟩
theorem box_ne {H : Hp} {b p : Addr} {d : Int} (B : BoxAt H b d) (n : H p = none) : p ≠ b := by
  rintro rfl
  obtain ⟨o, e⟩ := box_some B
  rw [n] at e; cases e
theorem del_new {H : Hp} {b p : Addr} {d : Int} {o : HO} (B : BoxAt H b d) (n : H p = none) : L2.del (upd H p o) b p = some o := by rw [L2.del_ne (box_ne B n)]; exact upd_same
theorem BoxAt.upd_ne' {H : Hp} {b p : Addr} {d : Int} {o : HO} (B : BoxAt H b d) (h : p ≠ b) : BoxAt (upd H p o) b d := by
  obtain ⟨n, g, c, e, hb, hr⟩ := B.ex
  exact ⟨n, g, c, e, by rw [L2.upd_ne (Ne.symm h)]; exact hb, hr⟩
/-- a new thing is made and told -/
def NewT (xs : List V) (H : Hp) (Q : VK) : Prop := xs.length ≤ sizeLine ∧ ∀ p, H p = none → Q (.ref p) (upd H p (.tup xs))
def NewL (xs : List V) (H : Hp) (Q : VK) : Prop := xs.length ≤ sizeLine ∧ ∀ p, H p = none → Q (.ref p) (upd H p (.lst xs))
def NewLL (xs : List V) (H : Hp) (Q : VK) : Prop := xs.length ≤ sizeLine ∧ ∀ p, H p = none → sysModules < p → Q (.ref p) (upd H p (.lst xs))
def NewD (H : Hp) (Q : VK) : Prop := ∀ p, H p = none → Q (.ref p) (upd H p (.dK []))
section
variable {σ : L2.St} {H : Hp} {Q : VK} {b : Addr} {d : Int} {t : TA} {xs : List V}
theorem i_tupM (h : t σ H fun xs H1 => NewT xs H1 Q) : tTup t σ H Q := h
theorem i_lstM (h : t σ H fun xs H1 => NewL xs H1 Q) : tLst t σ H Q := h
theorem i_lstLM (h : t σ H fun xs H1 => NewLL xs H1 Q) : tLstL t σ H Q := h
theorem i_dnewM (h : NewD H Q) : tDNewK σ H Q := h
theorem newT (B : BoxAt H b d) (l : xs.length ≤ sizeLine) (k : ∀ p H', BoxAt H' b d → Same (L2.del H b) (L2.del H' b) → L2.del H' b p = some (.tup xs) → Same H H' → Q (.ref p) H') : NewT xs H Q :=
  ⟨l, fun p n => k p _ (B.same (same_upd n)) (del_sb (SB.of (same_upd n))) (del_new B n) (same_upd n)⟩
theorem newL (B : BoxAt H b d) (l : xs.length ≤ sizeLine) (k : ∀ p H', BoxAt H' b d → Same (L2.del H b) (L2.del H' b) → L2.del H' b p = some (.lst xs) → Same H H' → Q (.ref p) H') : NewL xs H Q :=
  ⟨l, fun p n => k p _ (B.same (same_upd n)) (del_sb (SB.of (same_upd n))) (del_new B n) (same_upd n)⟩
theorem newLL (B : BoxAt H b d) (l : xs.length ≤ sizeLine) (k : ∀ p H', sysModules < p → H p = none → BoxAt H' b d → Same (L2.del H b) (L2.del H' b) → L2.del H' b p = some (.lst xs) → Same H H' → Q (.ref p) H') : NewLL xs H Q :=
  ⟨l, fun p n lt => k p _ lt n (B.same (same_upd n)) (del_sb (SB.of (same_upd n))) (del_new B n) (same_upd n)⟩
theorem newD (B : BoxAt H b d) (k : ∀ p H', BoxAt H' b d → Same (L2.del H b) (L2.del H' b) → L2.del H' b p = some (.dK []) → Same H H' → Q (.ref p) H') : NewD H Q :=
  fun p n => k p _ (B.same (same_upd n)) (del_sb (SB.of (same_upd n))) (del_new B n) (same_upd n)
/-- without a box -/
theorem newT0 (l : xs.length ≤ sizeLine) (k : ∀ p H', H p = none → Same H H' → H' p = some (.tup xs) → Q (.ref p) H') : NewT xs H Q := ⟨l, fun p n => k p _ n (same_upd n) upd_same⟩
theorem newL0 (l : xs.length ≤ sizeLine) (k : ∀ p H', H p = none → Same H H' → H' p = some (.lst xs) → Q (.ref p) H') : NewL xs H Q := ⟨l, fun p n => k p _ n (same_upd n) upd_same⟩
theorem newLL0 (l : xs.length ≤ sizeLine) (k : ∀ p H', H p = none → sysModules < p → Same H H' → H' p = some (.lst xs) → Q (.ref p) H') : NewLL xs H Q := ⟨l, fun p n lt => k p _ n lt (same_upd n) upd_same⟩
theorem newD0 (k : ∀ p H', H p = none → Same H H' → H' p = some (.dK []) → Q (.ref p) H') : NewD H Q := fun p n => k p _ n (same_upd n) upd_same
end
/-! ### odd values -/
/-- H' has all of G but the lists that lie in H0 -/
def Kept (H0 G H' : Hp) : Prop := ∀ a o, G a = some o → ((∀ xs, o ≠ .lst xs) ∨ H0 a = none) → H' a = some o
theorem Kept.refl (H0 G : Hp) : Kept H0 G G := fun _ _ e _ => e
theorem Kept.same {H0 G G' H' : Hp} (k : Kept H0 G' H') (s : Same G G') : Kept H0 G H' := fun a o e q => k a o (s a o e) q
theorem Kept.sqT {K : PySem.W.Frag} {H0 H H' : Hp} {a : Addr} {xs : List V} (k : Kept H0 H H') (h : SqT K H a xs) : SqT K H' a xs := by
  rcases h with (h | ⟨o, h⟩) | h
  · exact .inl (.inl (k _ _ h (.inl fun _ => HO.noConfusion)))
  · exact .inl (.inr ⟨o, k _ _ h (.inl fun _ => HO.noConfusion)⟩)
  · exact .inr h
mutual
theorem De.kept {K : PySem.W.Frag} {H0 H H' : Hp} (s : Kept H0 H H') : ∀ {v : V} {d : PyData}, De K H v d → noL d = true → De K H' v d
  | _, _, .non, _ => .non
  | _, _, .bl b, _ => .bl b
  | _, _, .int i, _ => .int i
  | _, _, .str x, _ => .str x
  | _, _, .lst h1 h0 h2, n => by simp [noL] at n
  | _, _, .tup h1 h2, n => .tup (s.sqT h1) (DeAll.kept s h2 (by simpa only [noL] using n))
  | _, _, .dict h1 (.nil), n => .dict (s _ _ h1 (.inl fun _ => HO.noConfusion)) .nil
  | _, _, .dict h1 (.cons _ _), n => by simp [noL] at n
theorem DeAll.kept {K : PySem.W.Frag} {H0 H H' : Hp} (s : Kept H0 H H') : ∀ {vs : List V} {ds : List PyData}, DeAll K H vs ds → noLAll ds = true → DeAll K H' vs ds
  | _, _, .nil, _ => .nil
  | _, _, .cons h1 h2, n => by
    simp only [noLAll, Bool.and_eq_true] at n
    exact .cons (De.kept s h1 n.1) (DeAll.kept s h2 n.2)
end
section
variable {K : PySem.W.Frag} {H0 G G' : Hp} {v x : V} {p : Addr} {xs : List V}
/-- what may lie in a told tuple: data of little size without a dict, its lists not in H0 -/
def AtomV (K : PySem.W.Frag) (H0 G : Hp) (v : V) : Prop := ∃ d, (∀ H', Kept H0 G H' → De K H' v d) ∧ d.hasDict = false ∧ Sd 3 170 d
/-- the same without lists -/
def AtomN (K : PySem.W.Frag) (H0 G : Hp) (v : V) : Prop := ∃ d, (∀ H', Kept H0 G H' → De K H' v d) ∧ d.hasDict = false ∧ Sd 3 170 d ∧ noL d = true
def AllA (K : PySem.W.Frag) (H0 G : Hp) : List V → Prop
  | [] => True
  | x :: xs => AtomV K H0 G x ∧ AllA K H0 G xs
def AllN (K : PySem.W.Frag) (H0 G : Hp) : List V → Prop
  | [] => True
  | x :: xs => AtomN K H0 G x ∧ AllN K H0 G xs
theorem AtomV.same (h : AtomV K H0 G v) (s : Same G G') : AtomV K H0 G' v := by
  obtain ⟨d, h1, h2, h3⟩ := h
  exact ⟨d, fun H' k => h1 H' (k.same s), h2, h3⟩
theorem AtomN.same (h : AtomN K H0 G v) (s : Same G G') : AtomN K H0 G' v := by
  obtain ⟨d, h1, h2, h3, h4⟩ := h
  exact ⟨d, fun H' k => h1 H' (k.same s), h2, h3, h4⟩
theorem AtomN.va (h : AtomN K H0 G v) : AtomV K H0 G v := by
  obtain ⟨d, h1, h2, h3, _⟩ := h
  exact ⟨d, h1, h2, h3⟩
theorem AllN.va : ∀ {vs : List V}, AllN K H0 G vs → AllA K H0 G vs
  | [], _ => trivial
  | _ :: _, h => ⟨h.1.va, AllN.va h.2⟩
theorem AllN.same (s : Same G G') : ∀ {vs : List V}, AllN K H0 G vs → AllN K H0 G' vs
  | [], _ => trivial
  | _ :: _, h => ⟨h.1.same s, AllN.same s h.2⟩
theorem AtomV.str {l : List Nat} (h : ∀ c ∈ l, c ≤ 1000) (n : l.length ≤ 20) : AtomV K H0 G (.str (S l)) := ⟨_, fun _ _ => .str _, by simp only [PyData.hasDict], (sd_str h).mono (by omega) (by omega)⟩
theorem AtomV.int {i : Int} (h : i.natAbs < 10 ^ 40) : AtomV K H0 G (.int i) := ⟨_, fun _ _ => .int _, by simp only [PyData.hasDict], (sd_int h).mono (by omega) (by omega)⟩
theorem AtomV.bl (c : Bool) : AtomV K H0 G (.bl c) := ⟨_, fun _ _ => .bl _, by simp only [PyData.hasDict], (sd_bl c).mono (by omega) (by omega)⟩
theorem AtomV.non : AtomV K H0 G .non := ⟨_, fun _ _ => .non, by simp only [PyData.hasDict], sd_non.mono (by omega) (by omega)⟩
theorem AtomN.str {l : List Nat} (h : ∀ c ∈ l, c ≤ 1000) (n : l.length ≤ 20) : AtomN K H0 G (.str (S l)) := ⟨_, fun _ _ => .str _, by simp only [PyData.hasDict], (sd_str h).mono (by omega) (by omega), rfl⟩
theorem AtomN.int {i : Int} (h : i.natAbs < 10 ^ 40) : AtomN K H0 G (.int i) := ⟨_, fun _ _ => .int _, by simp only [PyData.hasDict], (sd_int h).mono (by omega) (by omega), rfl⟩
theorem AtomN.deD {d : PyData} (h : De K G v d) (z : d.hasDict = false) (s : Sd 3 170 d) (n : noL d = true) : AtomN K H0 G v := ⟨d, fun _ k => h.kept k n, z, s, n⟩
theorem AtomN.tupD {ds : List PyData} (h : G p = some (.tup xs)) (a : DeAll K G xs ds) (z : (PyData.tuple ds).hasDict = false) (s : Sd 3 170 (.tuple ds)) (n : noLAll ds = true) : AtomN K H0 G (.ref p) := .deD (.tup (sqT_of h) a) z s (by simpa only [noL] using n)
theorem AtomV.lst {i : Int} (h : G p = some (.lst [.int i])) (lt : sysModules < p) (n : H0 p = none) (hi : i.natAbs < 10 ^ 20) : AtomV K H0 G (.ref p) := by
  have si : Sd 2 140 (.int i) := (sd_int (Nat.lt_of_lt_of_le hi (by decide))).mono (by omega) (by omega)
  exact ⟨.list [.int i], fun H' k => .lst (k _ _ h (.inr n)) lt (.cons (.int _) .nil), by simp only [PyData.hasDict, PyData.hasDictAll, Bool.or_self], (sd_lst' (.cons si .nil)).mono (by omega) (by omega)⟩
theorem AtomV.tup {i : Int} (h : G p = some (.tup [.int i])) (hi : i.natAbs < 10 ^ 20) : AtomV K H0 G (.ref p) := by
  have si : Sd 2 140 (.int i) := (sd_int (Nat.lt_of_lt_of_le hi (by decide))).mono (by omega) (by omega)
  exact (AtomN.tupD h (.cons (.int _) .nil) (by simp only [PyData.hasDict, PyData.hasDictAll, Bool.or_self]) ((sd_tup' (.cons si .nil)).mono (by omega) (by omega)) rfl).va
theorem AtomV.tupS {l : List Nat} (h : G p = some (.tup [.str (S l)])) (h1 : ∀ c ∈ l, c ≤ 1000) (h2 : l.length ≤ 20) : AtomV K H0 G (.ref p) :=
  (AtomN.tupD h (.cons (.str _) .nil) (by simp only [PyData.hasDict, PyData.hasDictAll, Bool.or_self]) ((sd_tup' (n := 2) (.cons ((sd_str h1).mono (by omega) (Nat.le_refl _)) .nil)).mono (by omega) (by omega)) rfl).va
theorem AllA.data : ∀ {vs : List V}, AllA K H0 G vs → ∃ ds, (∀ H', Kept H0 G H' → DeAll K H' vs ds) ∧ ds.length = vs.length ∧ (∀ d ∈ ds, d.hasDict = false ∧ Sd 3 170 d)
  | [], _ => ⟨[], fun _ _ => .nil, rfl, fun d h => by cases h⟩
  | v :: vs, h => by
    obtain ⟨d, h1, h2, h3⟩ := h.1
    obtain ⟨ds, k1, kl, k2⟩ := AllA.data h.2
    exact ⟨d :: ds, fun H' k => .cons (h1 H' k) (k1 H' k), by rw [List.length_cons, List.length_cons, kl], fun x hx => (List.mem_cons.mp hx).elim (fun e => e ▸ ⟨h2, h3⟩) (k2 x)⟩
theorem AllN.data : ∀ {vs : List V}, AllN K H0 G vs → ∃ ds, (∀ H', Kept H0 G H' → DeAll K H' vs ds) ∧ ds.length = vs.length ∧ (∀ d ∈ ds, d.hasDict = false ∧ Sd 3 170 d ∧ noL d = true)
  | [], _ => ⟨[], fun _ _ => .nil, rfl, fun d h => by cases h⟩
  | v :: vs, h => by
    obtain ⟨d, h1, h2, h3, h4⟩ := h.1
    obtain ⟨ds, k1, kl, k2⟩ := AllN.data h.2
    exact ⟨d :: ds, fun H' k => .cons (h1 H' k) (k1 H' k), by rw [List.length_cons, List.length_cons, kl], fun x hx => (List.mem_cons.mp hx).elim (fun e => e ▸ ⟨h2, h3, h4⟩) (k2 x)⟩
/-- what may lie in a told list -/
def LsOk (d : PyData) : Prop := ∀ ds, d = .list ds → noLAll ds = true
/-- a value that may be told for a step -/
def OddV (K : PySem.W.Frag) (H0 G : Hp) (v : V) : Prop := ∃ d, (∀ H', Kept H0 G H' → De K H' v d) ∧ Ok1 d ∧ Sd 4 1000 d ∧ LsOk d
theorem OddV.same (h : OddV K H0 G v) (s : Same G G') : OddV K H0 G' v := by
  obtain ⟨d, h1, h2, h3, h4⟩ := h
  exact ⟨d, fun H' k => h1 H' (k.same s), h2, h3, h4⟩
theorem OddV.atom (h : AtomN K H0 G v) : OddV K H0 G v := by
  obtain ⟨d, h1, h2, h3, h4⟩ := h
  exact ⟨d, h1, .inr h2, h3.mono (by omega) (by omega), fun ds e => by rw [e] at h4; simp [noL] at h4⟩
theorem OddV.non : OddV K H0 G .non := ⟨_, fun _ _ => .non, .inr (by simp only [PyData.hasDict]), sd_non.mono (by omega) (by omega), fun ds e => by cases e⟩
theorem OddV.bl (c : Bool) : OddV K H0 G (.bl c) := ⟨_, fun _ _ => .bl c, .inr (by simp only [PyData.hasDict]), (sd_bl c).mono (by omega) (by omega), fun ds e => by cases e⟩
theorem OddV.emp (h : G p = some (.dK [])) : OddV K H0 G (.ref p) := ⟨_, fun _ k => .dict (k _ _ h (.inl fun _ => HO.noConfusion)) .nil, .inl rfl, sd_emp.mono (by omega) (by omega), fun ds e => by cases e⟩
theorem OddV.tupS (h : SqT K G p xs) (l : xs.length ≤ 5) (a : AllA K H0 G xs) : OddV K H0 G (.ref p) := by
  obtain ⟨ds, h1, hl, h2⟩ := a.data
  refine ⟨_, fun H' k => .tup (k.sqT h) (h1 H' k), .inr (hasDict_tup.mpr fun y hy => (h2 y hy).1), (sd_tup fun d hd => (h2 d hd).2).mono (by omega) ?_, fun ds e => by cases e⟩
  rw [hl]
  exact Nat.le_trans (Nat.mul_le_mul_right _ l) (by decide)
theorem OddV.tup (h : G p = some (.tup xs)) (l : xs.length ≤ 5) (a : AllA K H0 G xs) : OddV K H0 G (.ref p) := .tupS (sqT_of h) l a
theorem OddV.lst (h : G p = some (.lst xs)) (lt : sysModules < p) (n : H0 p = none) (l : xs.length ≤ 5) (a : AllN K H0 G xs) : OddV K H0 G (.ref p) := by
  obtain ⟨ds, h1, hl, h2⟩ := a.data
  have z : ∀ y ∈ ds, y.hasDict = false := fun y hy => (h2 y hy).1
  refine ⟨_, fun H' k => .lst (k _ _ h (.inr n)) lt (h1 H' k), .inr ?_, (sd_lst fun d hd => (h2 d hd).2.1).mono (by omega) ?_, fun es e => ?_⟩
  · have := hasDict_tup.mpr z
    simpa only [PyData.hasDict] using this
  · rw [hl]
    exact Nat.le_trans (Nat.mul_le_mul_right _ l) (by decide)
  · cases e; exact noLAll_iff.mpr fun y hy => (h2 y hy).2.2
def Odds (K : PySem.W.Frag) (H0 G : Hp) (vs : List V) : Prop := ∀ v ∈ vs, OddV K H0 G v
theorem Odds.nil : Odds K H0 G [] := fun v h => by cases h
theorem Odds.same {vs : List V} (h : Odds K H0 G vs) (s : Same G G') : Odds K H0 G' vs := fun v hv => (h v hv).same s
theorem Odds.snoc {vs : List V} (h : Odds K H0 G vs) (o : OddV K H0 G v) : Odds K H0 G (vs ++ [v]) := fun x hx => (List.mem_append.mp hx).elim (h x) fun q => by rw [List.mem_singleton.mp q]; exact o
theorem Odds.app {vs ws : List V} (h : Odds K H0 G vs) (o : Odds K H0 G ws) : Odds K H0 G (vs ++ ws) := fun x hx => (List.mem_append.mp hx).elim (h x) (o x)
end
theorem fresh0 {b p : Addr} {d : Int} {H0 H : Hp} (s : SB b H0 H) (B : BoxAt H b d) (n : H p = none) : H0 p = none := by
  have npb := box_ne B n
  rcases e : H0 p with _ | o
  · rfl
  · rw [s _ _ npb e] at n; cases n
section
variable {K : PySem.W.Frag} {H : Hp} {Q : VK} {b : Addr} {d : Int}
theorem i_listB {p : Addr} {ys : List V} (B : BoxAt H b d) (h : SqL K H p ys ∨ SqT K H p ys) (k : ∀ l H', sysModules < l → H l = none → BoxAt H' b d → Same (L2.del H b) (L2.del H' b) → L2.del H' b l = some (.lst ys) → Same H H' → Q (.ref l) H') : rListL K [.ref p] H Q :=
  i_listL h fun l n lt => k l _ lt n (B.same (same_upd n)) (del_sb (SB.of (same_upd n))) (del_new B n) (same_upd n)
theorem i_catB {a c : Addr} {xs ys : List V} (B : BoxAt H b d) (h : SqT K (L2.del H b) a xs) (h2 : SqT K (L2.del H b) c ys) (l : xs.length + ys.length ≤ sizeLine) (k : ∀ t H', BoxAt H' b d → Same (L2.del H b) (L2.del H' b) → SqT K (L2.del H' b) t (xs ++ ys) → Same H H' → Q (.ref t) H') : rCatA K (.ref a) (.ref c) H Q := by
  refine ⟨a, c, xs, ys, rfl, rfl, Same.sqT del_sub h, Same.sqT del_sub h2, l, fun e => ?_, fun e1 e2 => ?_, fun e1 e2 p np => ?_⟩
  · rw [e] at k; exact k _ _ B (Same.refl _) h2 (Same.refl _)
  · rw [e2, List.append_nil] at k; exact k _ _ B (Same.refl _) h (Same.refl _)
  · exact k _ _ (B.same (same_upd np)) (del_sb (SB.of (same_upd np))) (sqT_of (del_new B np)) (same_upd np)
theorem i_sl1B {a : Addr} {xs : List V} (B : BoxAt H b d) (h : SqT K H a xs) (l : 2 ≤ xs.length) (k : ∀ t H', BoxAt H' b d → Same (L2.del H b) (L2.del H' b) → L2.del H' b t = some (.tup (xs.take 1)) → Same H H' → Q (.ref t) H') : rSlA K (.ref a) none (some 1) H Q := by
  refine ⟨a, xs, rfl, h, fun e => ?_, fun e p np => ?_⟩
  · rw [show (some (1 : Int)) = some ((1 : Nat) : Int) from rfl, HT.sIx_nat] at e
    omega
  · have : cutV xs none (some 1) = xs.take 1 := by
      unfold cutV
      rw [show (some (1 : Int)) = some ((1 : Nat) : Int) from rfl, HT.sIx_nat, HT.sIx_none, List.drop_zero, Nat.sub_zero, Nat.min_eq_left (by omega)]
    rw [this]
    exact k _ _ (B.same (same_upd np)) (del_sb (SB.of (same_upd np))) (del_new B np) (same_upd np)
theorem i_slTB {a : Addr} {xs : List V} {n : Nat} (B : BoxAt H b d) (h : SqT K (L2.del H b) a xs) (k : ∀ t H', BoxAt H' b d → Same (L2.del H b) (L2.del H' b) → SqT K (L2.del H' b) t (xs.take n) → Same H H' → Q (.ref t) H') : rSlA K (.ref a) none (some (n : Int)) H Q := by
  refine ⟨a, xs, rfl, Same.sqT del_sub h, fun e => ?_, fun e p np => ?_⟩
  · rw [HT.sIx_nat, HT.sIx_none] at e
    refine k _ _ B (Same.refl _) ?_ (Same.refl _)
    rw [List.take_of_length_le (by omega)]; exact h
  · have : cutV xs none (some (n : Int)) = xs.take n := by
      unfold cutV
      rw [HT.sIx_nat, HT.sIx_none, List.drop_zero, Nat.sub_zero]
      by_cases hk : n ≤ xs.length
      · rw [Nat.min_eq_left hk]
      · rw [Nat.min_eq_right (by omega), List.take_length, List.take_of_length_le (by omega)]
    rw [this]
    exact k _ _ (B.same (same_upd np)) (del_sb (SB.of (same_upd np))) (sqT_of (del_new B np)) (same_upd np)
theorem i_slFB {a : Addr} {xs : List V} {n : Nat} (B : BoxAt H b d) (h : SqT K (L2.del H b) a xs) (k : ∀ t H', BoxAt H' b d → Same (L2.del H b) (L2.del H' b) → SqT K (L2.del H' b) t (xs.drop n) → Same H H' → Q (.ref t) H') : rSlA K (.ref a) (some (n : Int)) none H Q := by
  refine ⟨a, xs, rfl, Same.sqT del_sub h, fun e => ?_, fun e p np => ?_⟩
  · rw [HT.sIx_nat] at e
    refine k _ _ B (Same.refl _) ?_ (Same.refl _)
    by_cases hk : n = 0
    · rw [hk, List.drop_zero]; exact h
    · have : xs = [] := List.eq_nil_of_length_eq_zero (by omega)
      rw [this, List.drop_nil]; rw [this] at h; exact h
  · have : cutV xs (some (n : Int)) none = xs.drop n := by
      unfold cutV
      rw [HT.sIx_nat, HT.sIx_none]
      by_cases hk : n ≤ xs.length
      · rw [Nat.min_eq_left hk, List.take_of_length_le (by rw [List.length_drop]; omega)]
      · rw [Nat.min_eq_right (by omega), List.drop_of_length_le (by omega), List.drop_of_length_le (by omega), List.take_nil]
    rw [this]
    exact k _ _ (B.same (same_upd np)) (del_sb (SB.of (same_upd np))) (sqT_of (del_new B np)) (same_upd np)
theorem i_catLB {a c : Addr} {xs ys : List V} (B : BoxAt H b d) (h : L2.del H b a = some (.lst xs)) (h2 : L2.del H b c = some (.lst ys)) (l : xs.length + ys.length ≤ sizeLine) (k : ∀ t H', BoxAt H' b d → Same (L2.del H b) (L2.del H' b) → L2.del H' b t = some (.lst (xs ++ ys)) → Same H H' → Q (.ref t) H') : rCat (.ref a) (.ref c) H Q :=
  ⟨a, c, xs, ys, rfl, rfl, del_sub _ _ h, del_sub _ _ h2, l, fun p np => k _ _ (B.same (same_upd np)) (del_sb (SB.of (same_upd np))) (del_new B np) (same_upd np)⟩
end
end Sw
namespace Sw
open PySem PySem.Spec PyProof.Rows L2
/-! ### lists told with their place: a sum, a list turned about -/
def rCatL : R2 := fun x y H Q => ∃ l b xs zs, x = .ref l ∧ y = .ref b ∧ H l = some (.lst xs) ∧ H b = some (.lst zs) ∧ xs.length + zs.length ≤ sizeLine ∧ ∀ p, H p = none → sysModules < p → Q (.ref p) (upd H p (.lst (xs ++ zs)))
section
variable {X : Cx}
theorem op_catL : OpR X (binaryOp .Add) rCatL := by
  intro pins s σ H x y v u Q I rx ry h
  obtain ⟨l, b, xs, zs, rfl, rfl, hH, hB, hz, q⟩ := h
  cases rx
  cases ry
  obtain ⟨z, its, n, r, hl, e⟩ := I.lstM hH
  obtain ⟨z2, its2, n2, r2, hl2, e2⟩ := I.lstM hB
  refine PySem.P.add_list e e2 ?_ (by rw [List.size_toArray, List.size_toArray]; omega)
  rw [show its.toArray ++ its2.toArray = (its ++ its2).toArray by simp]
  exact ⟨.ref _, _, I.lnew (t' := s.toks) (r.append r2) (by rw [List.length_append]; omega), rfl, q _ I.fresh I.big⟩
def tRevLL (K : PySem.W.Frag) (te : TE) : TE := fun σ H Q => te σ H fun x H1 => ∃ a xs, x = .ref a ∧ SqL K H1 a xs ∧ ∀ p, H1 p = none → sysModules < p → Q (.ref p) (upd H1 p (.lst xs.reverse))
theorem i_revLL {K : PySem.W.Frag} {te : TE} {σ : L2.St} {H : Hp} {Q : VK} (h : te σ H fun x H1 => ∃ a xs, x = .ref a ∧ SqL K H1 a xs ∧ ∀ p, H1 p = none → sysModules < p → Q (.ref p) (upd H1 p (.lst xs.reverse))) : tRevLL K te σ H Q := h
theorem pe_revLL {e : Expr} {te : TE} {k : Nat} {p1 p2 p3 pos : Pos} (he : PE X e te) : PE X (.Subscript e (.Slice none none (some (.UnaryOp .USub (.Constant (.int 1) k p1) p2)) p3) pos) (tRevLL X.K te) := by
  refine ⟨fun pins s σ H Q I h => ?_⟩
  refine Subscript_ (thn (he.run pins s σ H _ I h) fun v s1 ⟨x, H1, I1, r1, q1⟩ => ?_)
  obtain ⟨a, xs, ex, hx, q⟩ := q1
  subst ex
  cases r1
  have hst : PO X (some (.UnaryOp .USub (.Constant (.int 1) k p1) p2)) (tPart (tUn (rU fun i => .int (-i)) (tC (.int 1)))) := po_some (pe_un un_neg pe_int)
  refine wpAny_Slice (thn (po_none.run pins s1 σ H1 (fun o H2 => o = none ∧ H2 = H1) I1 ⟨rfl, rfl⟩) fun vl s2 ⟨l, H2, I2, pl, el, e2⟩ => ?_)
  subst el e2
  refine thn (po_none.run pins s2 σ H2 (fun o H3 => o = none ∧ H3 = H2) I2 ⟨rfl, rfl⟩) fun vu s3 ⟨u, H3, I3, pu, eu, e3⟩ => ?_
  subst eu e3
  refine thn (hst.run pins s3 σ H3 (fun o H4 => o = some (-1) ∧ H4 = H3) I3 ⟨1, rfl, -1, rfl, rfl, rfl⟩) fun vs s4 ⟨o, H4, I4, ps, eo, e4⟩ => ?_
  subst eo e4
  have I5 : Inv X pins σ H4 { s4 with heap := s4.heap.push { cls := .type "slice", data := .fields #[vl, vu, vs] } } := I4.kept (t' := s4.toks) fun b ob q => Heap.get?_push_of_some _ q
  obtain ⟨its, r, ht, hz⟩ := I5.list hx
  have hlen := r.length
  show wpAny (model X.prog X.w) X.A (subscriptTail e (.Slice none none (some (.UnaryOp .USub (.Constant (.int 1) k p1) p2)) p3) (.ref a) (.ref s4.heap.objs.size)) (EP X pins σ Q) X.xe { s4 with heap := s4.heap.push { cls := .type "slice", data := .fields #[vl, vu, vs] } }
  refine tail_any (ops := [.ref a, .ref s4.heap.objs.size]) ht.isList.typeIs (PySem.slot_list_getitem.lookup) ?_ (by with_unfolding_all rfl)
  refine wpAny_getItem_list_slice ht.isList (Heap.IsSliceOf.new _ vl vu vs) pl pu ps (by decide) ?_ (by rw [List.size_toArray]; omega)
  rw [PySem.W.krv_pick]
  refine ⟨.ref _, _, I5.laid (t' := s4.toks) (o := .lst xs.reverse) (fun b ob q => Heap.get?_push_of_some _ q) (Nat.le_refl _) ?_, rfl, q _ (I5.hok.fresh (Nat.le_refl _)) I5.big⟩
  exact ⟨by rw [List.length_reverse]; exact hz, _, 0, r.reverse, Heap.get?_push_size _ rfl⟩
end
section
variable {H : Hp} {b : Addr} {d : Int} {Q : VK}
theorem i_catLLB {a c : Addr} {xs ys : List V} (B : BoxAt H b d) (h : L2.del H b a = some (.lst xs)) (h2 : L2.del H b c = some (.lst ys)) (l : xs.length + ys.length ≤ sizeLine) (k : ∀ t H', sysModules < t → H t = none → BoxAt H' b d → Same (L2.del H b) (L2.del H' b) → L2.del H' b t = some (.lst (xs ++ ys)) → Same H H' → Q (.ref t) H') : rCatL (.ref a) (.ref c) H Q :=
  ⟨a, c, xs, ys, rfl, rfl, del_sub _ _ h, del_sub _ _ h2, l, fun p np lp => k _ _ lp np (B.same (same_upd np)) (del_sb (SB.of (same_upd np))) (del_new B np) (same_upd np)⟩
theorem i_slB {K : PySem.W.Frag} {a : Addr} {xs : List V} {lo hi : Option Int} (B : BoxAt H b d) (e : L2.del H b a = some (.lst xs)) (k : ∀ p H', H p = none → p ≠ b → BoxAt H' b d → Same (L2.del H b) (L2.del H' b) → L2.del H' b p = some (.lst (cutV xs lo hi)) → Same H H' → Q (.ref p) H') : rSlL K (.ref a) lo hi H Q :=
  ⟨a, xs, rfl, sqL_of (del_sub _ _ e), fun p n => k p _ n (box_ne B n) (B.same (same_upd n)) (del_sb (SB.of (same_upd n))) (del_new B n) (same_upd n)⟩
end
end Sw
namespace Sw
open PySem PySem.Spec PyProof.Rows L2
/-! ### calls by names -/
def rev2 {α : Type} : List α → List α → List α
  | [], [b, a] => [a, b]
  | _, _ => []
theorem rev2_inv {α : Type} {us ws : List α} (h : (rev2 us ws).length = 2) : us = [] ∧ ∃ b a, ws = [b, a] := by
  unfold rev2 at h
  split at h
  · exact ⟨rfl, _, _, rfl⟩
  · cases h
theorem rev2_rel {vs : List V} {us : List Value} {zs : List V} {ws : List Value} (r : Vals vs us) (r2 : Vals zs ws) : Vals (rev2 vs zs) (rev2 us ws) := by
  unfold rev2
  cases r with
  | cons _ _ => exact .nil
  | nil =>
    cases r2 with
    | nil => exact .nil
    | cons a r2 =>
      cases r2 with
      | nil => exact .nil
      | cons b r2 =>
        cases r2 with
        | nil => exact .cons b (.cons a .nil)
        | cons _ _ => exact .nil
def one1 {α : Type} : List α → List α → List α
  | [], [a] => [a]
  | _, _ => []
theorem one1_inv {α : Type} {us ws : List α} (h : (one1 us ws).length = 1) : us = [] ∧ ∃ a, ws = [a] := by
  unfold one1 at h
  split at h
  · exact ⟨rfl, _, rfl⟩
  · cases h
theorem one1_rel {vs : List V} {us : List Value} {zs : List V} {ws : List Value} (r : Vals vs us) (r2 : Vals zs ws) : Vals (one1 vs zs) (one1 us ws) := by
  unfold one1
  cases r with
  | cons _ _ => exact .nil
  | nil =>
    cases r2 with
    | nil => exact .nil
    | cons a r2 =>
      cases r2 with
      | nil => exact .cons a .nil
      | cons _ _ => exact .nil
end Sw
namespace Sw
open PySem PySem.Spec PyProof.Rows L2
theorem Fun.okG0 {P : Program} {w : World} {K : PySem.W.Frag} {mg : Str → Option Value} {base : Heap} {k : Nat} {f : Addr} {fd : FuncData} {ps : List Str} {sp : Sp} {x qual : Str} {st : Stmt} {N : List Str} (F : Fun K x qual st f fd) (S : FnScope N ps (defScope st)) (len : ∀ xs M R X, sp xs M R X → xs.length = ps.length)
    (body : ∀ (cdv : Value) (A : Around) (out : List Env) (t : Shared) (M : Hp) (xs : List V) (R : VK) (X : XK), Room k (A.deeper (envOfC qual (defScope st) t.heap.objs.size f cdv)) → A.guards = some [] → sp xs M R X →
      ∃ r, PSs (cxOf CX0 P w K mg base N qual (defScope st) f cdv A out t M X).nox (defBody st) r ∧ r { nx := fun _ M' => R .non M', rt := R } (start N xs) M) : FnG P w K mg base CX0 (k + 1) f fd ps sp :=
  Sw.Fun.okG F S len fun cdv A out t M xs R X room quiet prom => by
    obtain ⟨r, h, q⟩ := body cdv A out t M xs R X room quiet prom
    exact ⟨r, h.nox, q⟩
end Sw
namespace Sw
open PySem PySem.Spec PyProof.Rows L2 PySem.SwE
/-- an own exception class with the one attribute given, named x, as it stands behind the top -/
structure XQ (x : Str) (P : Program) (w : World) (K : PySem.W.Frag) (mg : Str → Option Value) (base : Heap) (C : Addr) : Prop where
  T : OexE K C
  xf : XfC K C
  no : PySem.W.findIn K (.ref C) "given" = some none
  hm : mg x = some (.ref C)
  me : PySem.W.exmOne K (.ref C) (.ref C) = some true
  ini : ∃ (fI : Addr) (fd : FuncData), PySem.W.findIn K (.ref C) "__init__" = some (some (.ref fI)) ∧ PySem.W.typeIn K (.ref fI) = some (.type "function") ∧ FnOk P w K mg base CX0 1 fI fd ["self", "given"] (spInit K) ∧ Binds K fd ["self", "given"] []
theorem pmk_Q {X : Cx} {x : Str} {C : Addr} {n : Nat} {e : Expr} {te : TE} {p pos : Pos} (xt : XQ x X.prog X.w X.K X.mg X.base C) (hr : Room n X.A) (he : PE X e te) (hn : 2 ≤ n := by decide) (hg : Gl X x := by rfl)
    (hdb : (x == ("__debug__" : Str)) = false := by decide) (he2 : starEach [e] X.env = (false, eval e X.env) :: starEach [] X.env := by rfl) : PMk X (.Call (.Name x p) [e] [] pos) (tMkO C (spInit X.K) [] (tCons te tNil)) := by
  obtain ⟨fI, fd, h1, h2, h3, h4⟩ := xt.ini
  exact pmk_E xt.T h1 h2 h3 (hr.mono hn) h4 pass0 xt.hm (pa_cons he pa_nil he2) hg hdb he2 (by rfl)
theorem names_Q {x : Str} {P : Program} {w : World} {K : PySem.W.Frag} {mg : Str → Option Value} {base : Heap} {X : Cx} {C : Addr} (xt : XQ x P w K mg base C) (hm : X.mg = mg := by rfl) (hg : Gl X x := by rfl) (hd : (x == ("__debug__" : Str)) = false := by decide) : Names X x (.ref C) := ⟨hg, hd, .inl (by rw [hm]; exact xt.hm)⟩
end Sw
namespace Sw
open PySem PySem.Spec PyProof.Rows L2
/-! ### [e for a in xs for b in ys if c] -/
def Lc2Go (J : It) (g : TG) (tt : TT) (wi1 : TI) (g1 : TG) (tt1 : TT) (te : TE) (vs vs1 : List Nat) (σ : L2.St) (H1 : Hp) (Q : VK) : Prop := ∀ D, H1 D = none → ∃ W : Nat → Nat → Hp → Prop, (∃ m, W 0 m (upd H1 D (.lst []))) ∧ ∀ i m H, W i m H →
  (J.stop i H ∧ Q (.ref D) H) ∨ (J.go i H ∧ ∃ Nx : Hp → Prop, (∀ H', Nx H' → ∃ m', m' < m ∧ W (i + 1) m' H') ∧ ∀ x H', J.yld i H x H' → g x (wipe σ vs) H' fun σ2 H2 => wipe σ2 vs = wipe σ vs ∧ tt σ2 H2 fun b H3 =>
    if b = true then wi1 σ2 H3 fun J1 H4 => ∃ W1 : Nat → Nat → Hp → Prop, (∃ m, W1 0 m H4) ∧ ∀ j k H, W1 j k H →
      (J1.stop j H ∧ Nx H) ∨ (J1.go j H ∧ ∃ Nx1 : Hp → Prop, (∀ H', Nx1 H' → ∃ k', k' < k ∧ W1 (j + 1) k' H') ∧ ∀ x H', J1.yld j H x H' → g1 x (wipe σ2 vs1) H' fun σ3 H5 => wipe σ3 vs1 = wipe σ2 vs1 ∧ tt1 σ3 H5 fun b H6 =>
        if b = true then te σ3 H6 fun y H7 => ∃ acc, H7 D = some (.lst acc) ∧ acc.length < sizeLine ∧ Nx1 (upd H7 D (.lst (acc ++ [y]))) else Nx1 H6)
    else Nx H3)
theorem i_lc2 {wi wi1 : TI} {g g1 : TG} {tt tt1 : TT} {te : TE} {vs vs1 : List Nat} {σ : L2.St} {H : Hp} {Q : VK} (h : wi σ H fun J H1 => Lc2Go J g tt wi1 g1 tt1 te vs vs1 σ H1 Q) : tLc2 wi g tt wi1 g1 tt1 te vs vs1 σ H Q := h
/-- the inner walk -/
structure In2Go (J1 : It) (n1 : Nat) (G1 : Hp → Prop) (Y1 : Nat → Hp → V → Hp → Prop) (g1 : TG) (tt1 : TT) (te : TE) (vs1 : List Nat) (σ2 : L2.St) (p : Addr) (H4 : Hp) (Pw : Nat → Hp → Prop) (Nx : Hp → Prop) : Prop where
  w : Walk J1 n1 G1 Y1
  h0 : Pw 0 H4
  hG : ∀ j H, j ≤ n1 → Pw j H → G1 H
  hs : ∀ j x H H', j < n1 → Pw j H → Y1 j H x H' → g1 x (wipe σ2 vs1) H' fun σ3 H5 => wipe σ3 vs1 = wipe σ2 vs1 ∧ tt1 σ3 H5 fun b H6 =>
    if b = true then te σ3 H6 fun y H7 => ∃ acc, H7 p = some (.lst acc) ∧ acc.length < sizeLine ∧ Pw (j + 1) (upd H7 p (.lst (acc ++ [y]))) else Pw (j + 1) H6
  hd : ∀ H, Pw n1 H → Nx H
theorem go_lc2 {J : It} {n : Nat} {G : Hp → Prop} {Y : Nat → Hp → V → Hp → Prop} {g : TG} {tt : TT} {wi1 : TI} {g1 : TG} {tt1 : TT} {te : TE} {vs vs1 : List Nat} {σ : L2.St} {H1 : Hp} {Q : VK} (w : Walk J n G Y) (Pv : Addr → Nat → Hp → Prop) (h0 : ∀ p, H1 p = none → Pv p 0 (upd H1 p (.lst []))) (hG : ∀ p i H, i ≤ n → Pv p i H → G H)
    (hs : ∀ p, H1 p = none → ∀ i x H H', i < n → Pv p i H → Y i H x H' → g x (wipe σ vs) H' fun σ2 H2 => wipe σ2 vs = wipe σ vs ∧ tt σ2 H2 fun b H3 =>
      if b = true then wi1 σ2 H3 fun J1 H4 => ∃ n1 G1 Y1 Pw, In2Go J1 n1 G1 Y1 g1 tt1 te vs1 σ2 p H4 Pw (Pv p (i + 1)) else Pv p (i + 1) H3)
    (hd : ∀ p H, H1 p = none → Pv p n H → Q (.ref p) H) (monoI : ∀ σ2 H3 (R R' : It → Hp → Prop), (∀ J1 H4, R J1 H4 → R' J1 H4) → wi1 σ2 H3 R → wi1 σ2 H3 R')
    (mono1 : ∀ x σ H (R R' : L2.St → Hp → Prop), (∀ σ' H', R σ' H' → R' σ' H') → g x σ H R → g x σ H R') (mono2 : ∀ σ H (R R' : Bool → Hp → Prop), (∀ b H', R b H' → R' b H') → tt σ H R → tt σ H R') : Lc2Go J g tt wi1 g1 tt1 te vs vs1 σ H1 Q := by
  intro p np
  refine ⟨fun i m H => m = n - i ∧ i ≤ n ∧ Pv p i H, ⟨n, by simp, Nat.zero_le _, h0 p np⟩, ?_⟩
  rintro i m H ⟨rfl, hi, pv⟩
  have q := hG p i H hi pv
  by_cases hlt : i < n
  · refine .inr ⟨w.goes i H hlt q, Pv p (i + 1), fun H' p' => ⟨n - (i + 1), by omega, rfl, hlt, p'⟩, fun x H' y => ?_⟩
    refine mono1 _ _ _ _ _ (fun σ2 H2 h => ⟨h.1, mono2 _ _ _ _ (fun b H3 h => ?_) h.2⟩) (hs p np i x H H' hlt pv (w.yields i H x H' hlt q y))
    by_cases hb : b = true
    · rw [if_pos hb] at h ⊢
      refine monoI _ _ _ _ (fun J1 H4 h => ?_) h
      obtain ⟨n1, G1, Y1, Pw, I⟩ := h
      refine ⟨fun j m H => m = n1 - j ∧ j ≤ n1 ∧ Pw j H, ⟨n1, by simp, Nat.zero_le _, I.h0⟩, ?_⟩
      rintro j m H ⟨rfl, hj, pw⟩
      have q := I.hG j H hj pw
      by_cases hlt : j < n1
      · exact .inr ⟨I.w.goes j H hlt q, Pw (j + 1), fun H' p' => ⟨n1 - (j + 1), by omega, rfl, hlt, p'⟩, fun x H' y => I.hs j x H H' hlt pw (I.w.yields j H x H' hlt q y)⟩
      · have e : j = n1 := by omega
        subst e
        exact .inl ⟨I.w.stops H q, I.hd H pw⟩
    · rw [if_neg hb] at h ⊢
      exact h
  · have e : i = n := by omega
    subst e
    exact .inl ⟨w.stops H q, hd p H np pv⟩
theorem mono_yes (σ : L2.St) (H : Hp) (R R' : Bool → Hp → Prop) (h : ∀ b H', R b H' → R' b H') (q : tYes σ H R) : tYes σ H R' := h _ _ q
end Sw
namespace Sw
open PySem PySem.Spec PyProof.Rows L2
/-! ### a tuple once, or more often -/
theorem tuple_mul1 (l : Addr) (items : Array Value) (n : Nat) (dd : Option Addr) (sl : Array (Option Value)) (u : Tok) :
    Meets (Builtin.«tuple.__mul__» ⟨[.ref l, .int 1 u], []⟩) (fun _ R s => s.heap.get? l = some { cls := .type "tuple", dict := dd, data := .seq items n, slots := sl } ∧
      R (.ok (.ret (Value.ref l))) s) :=
  .of_wp fun prog w A R s h => by
    obtain ⟨hp, g, d, tk, os⟩ := s
    obtain ⟨hl, h⟩ := h
    have f1 := AutoSeq1.idx_int
    have c1 : (items.isEmpty || ((1 : Int) == 1)) = true := by rw [show ((1 : Int) == 1) = true from rfl, Bool.or_true]
    wp_walk using wpAny_loadPart' hl, wpAny_load hl
    repeat (first
      | (refine wpAny_ite_true c1 ?_; wp_walk using wpAny_loadPart' hl, wpAny_load hl)
      | (refine wpAny_ite_true (decide_eq_true c1) ?_; wp_walk using wpAny_loadPart' hl, wpAny_load hl))
    exact ⟨_, rfl, h⟩
/-- a tuple once is itself -/
def rRepU (K : PySem.W.Frag) : R2 := fun x y H Q => (∃ l xs, x = .ref l ∧ y = .int 1 ∧ SqT K H l xs ∧ Q (.ref l) H) ∨ rRepT K x y H Q
theorem op_repU {X : Cx} : OpR X (binaryOp .Mult) (rRepU X.K) := by
  intro pins s σ H x y v u Q I rx ry h
  rcases h with ⟨l, xs, rfl, rfl, hT, q⟩ | h
  · cases rx
    obtain ⟨t, rfl⟩ := ry
    obtain ⟨its, r, ⟨⟨cls, dd, data, sl⟩, ho, hc, n, hd⟩, hs⟩ := I.tuple hT
    simp only at hc hd
    subst hc hd
    refine wpAny_binaryOp_repeat_ref (T := "tuple") (U := "int") (by decide) ⟨_, ho, rfl⟩ (fun s' => typeIs_int s' 1 t) noFill_tuple_mul F.fills_int_mul F.slot_int_rmul repeat_tuple F.slot_int_index.lookup
      (call_meets F.slot_int_rmul (typeIs_int s 1 t) F.entry_int_rmul (F.args_int_rmul_2 _ _) (int_rmul_tuple 1 t l its.toArray n dd sl)
        ⟨ho, rfl, ⟨_, ho, rfl⟩, call_meets F.slot_tuple_mul ⟨_, ho, rfl⟩ F.entry_tuple_mul (F.args_tuple_mul_2 _ _) (tuple_mul1 l its.toArray n dd sl t) ⟨ho, ?_⟩⟩)
    exact ⟨.ref l, H, I, rfl, q⟩
  · exact op_repT pins s σ H x y v u Q I rx ry h
theorem i_rep1 {K : PySem.W.Frag} {l : Addr} {xs : List V} {H : Hp} {Q : VK} (h : SqT K H l xs) (q : Q (.ref l) H) : rRepU K (.ref l) (.int 1) H Q := .inl ⟨l, xs, rfl, rfl, h, q⟩
theorem i_repN {K : PySem.W.Frag} {l : Addr} {xs : List V} {k : Nat} {H : Hp} {Q : VK} (h : SqT K H l xs) (ne : xs ≠ []) (h2 : 2 ≤ k) (h3 : k ≤ 1000) (h4 : xs.length ≤ 1000) (q : ∀ p H', H p = none → Same H H' → H' p = some (.tup (List.replicate k xs).flatten) → Q (.ref p) H') : rRepU K (.ref l) (.int (k : Int)) H Q :=
  .inr ⟨l, k, xs, rfl, rfl, h, ne, by omega, by omega, h4, fun p n => by
    rw [Int.toNat_natCast]; exact q p _ n (same_upd n) upd_same⟩
end Sw
namespace Sw
open PySem PySem.Spec PyProof.Rows L2
/-! ### a call by three names, turned -/
def rev3 {α : Type} : List α → List α → List α
  | [], [c, b, a] => [a, b, c]
  | _, _ => []
theorem rev3_inv {α : Type} {us ws : List α} (h : (rev3 us ws).length = 3) : us = [] ∧ ∃ c b a, ws = [c, b, a] := by
  unfold rev3 at h
  split at h
  · exact ⟨rfl, _, _, _, rfl⟩
  · cases h
theorem rev3_rel {vs : List V} {us : List Value} {zs : List V} {ws : List Value} (r : Vals vs us) (r2 : Vals zs ws) : Vals (rev3 vs zs) (rev3 us ws) := by
  unfold rev3
  cases r with
  | cons _ _ => exact .nil
  | nil =>
    cases r2 with
    | nil => exact .nil
    | cons a r2 =>
      cases r2 with
      | nil => exact .nil
      | cons b r2 =>
        cases r2 with
        | nil => exact .nil
        | cons c r2 =>
          cases r2 with
          | nil => exact .cons c (.cons b (.cons a .nil))
          | cons _ _ => exact .nil
end Sw
namespace Sw
open PySem PySem.Spec PyProof.Rows L2
/-! ### dicts whose keys are tuples: a store, a display of one pair, a comprehension -/
section
variable {X : Cx}
/-- the store of a display and of a comprehension -/
theorem put_tup {pins : List (Addr × Obj)} {σ : L2.St} {H : Hp} {s : Shared} {E : Value → Shared → Prop} {d b : Addr} {kvs : List (List Key × V)} {ks : List Key} {z : V} {r : Value} {Q : Unit → Shared → Prop}
    (room : X.A.units + 1 < cLine) (I : Inv X pins σ H s) (ed : H d = some (.dT kvs)) (eb : H b = some (.tup (ks.map kV))) (few : kvs.length < sizeLine) (rz : RelV z r)
    (go : ∀ s', Inv X pins σ (upd H d (.dT (putK kvs ks z))) s' → Q () s') : wpAny (model X.prog X.w) X.A (dictSet d (.ref b) r) Q E s := by
  have facts := dt_of I.hok ed
  obtain ⟨small, plain, xs, paired, laid⟩ := facts
  have lx : xs.length ≤ sizeLine := Nat.le_trans (Nat.le_of_eq (Paired.length paired).symm) small
  have lp : (putK kvs ks z).length ≤ sizeLine := Nat.le_trans (length_putK kvs ks z) few
  apply wpAny_dictSet_heap (knd := tupleKind (mixKind X.prog X.w)) (hsz := lx) (show X.A.units < cLine from Nat.lt_of_succ_lt room) (key_of I.hok eb) laid
  rintro h2 ⟨o, es, ep, ho, g1, g2, g3, _, g4⟩ only
  have stays : ∀ c ys, H c = some (.tup ys) → upd H d (.dT (putK kvs ks z)) c = some (.tup ys) := by
    intro c ys ec
    have : c ≠ d := fun q => by rw [q, ed] at ec; cases ec
    rw [upd_ne this]; exact ec
  apply go
  exact d_write I (by rw [ed]; trivial) only ⟨o, ho⟩ ⟨lp, plain, _, (paired.put ks eb rz).keeps stays, o, es, ep, ho, g1, g2, g3, g4⟩
/-- {k: v}, k a tuple of ints and texts -/
def tDisp1T (tk tv : TE) : TE := fun σ H Q => ∀ p, H p = none → tk σ (upd H p (.dT [])) fun x H1 => tv σ H1 fun y H2 => ∃ b ks, x = .ref b ∧ H2 p = some (.dT []) ∧ H2 b = some (.tup (ks.map kV)) ∧ Q (.ref p) (upd H2 p (.dT [(ks, y)]))
theorem pe_disp1T {k v : Expr} {pos : Pos} {tk tv : TE} (room : X.A.units + 1 < cLine) (hk : PE X k tk) (hv : PE X v tv) : PE X (.Dict [some k] [v] pos) (tDisp1T tk tv) := by
  constructor
  intro pins s σ H Q I h
  have new := I.hok.fresh (Nat.le_refl s.heap.objs.size)
  have I1 := I.laid (a := s.heap.objs.size) (o := .dT []) (t' := s.toks) (h' := s.heap.push { cls := .type "dict", data := .dict #[] }) (fun _ _ q => Heap.get?_push_of_some _ q) (Nat.le_refl _) (dt_empty s.heap I.big)
  apply wpAny_Dict_any rfl rfl (by simp) (by simp)
  let R : List (V × V) → Hp → Prop := fun ps H2 => match ps with
    | [(x, y)] => ∃ b ks, x = .ref b ∧ H2 s.heap.objs.size = some (.dT []) ∧ H2 b = some (.tup (ks.map kV)) ∧ Q (.ref s.heap.objs.size) (upd H2 s.heap.objs.size (.dT [(ks, y)]))
    | _ => False
  apply thn ((pps_cons (pos := pos) hk hv pps_nil).run pins _ σ _ R I1 (h _ new))
  rintro vs s1 ⟨ps, H2, I2, rel, q⟩
  obtain ⟨x, y, rfl⟩ : ∃ x y, ps = [(x, y)] := by
    rcases ps with _ | ⟨⟨x, y⟩, _ | ⟨_, _⟩⟩
    · exact q.elim
    · exact ⟨x, y, rfl⟩
    · exact q.elim
  obtain ⟨b, ks, rfl, ed, eb, q⟩ : ∃ b ks, x = .ref b ∧ H2 s.heap.objs.size = some (.dT []) ∧ H2 b = some (.tup (ks.map kV)) ∧ Q (.ref s.heap.objs.size) (upd H2 s.heap.objs.size (.dT [(ks, y)])) := q
  obtain ⟨u, r, rfl, ru, rr⟩ : ∃ u r, vs = [(u, r)] ∧ RelV (.ref b) u ∧ RelV y r := by
    cases rel with
    | cons h t =>
      cases t
      exact ⟨_, _, rfl, h.1, h.2⟩
  cases (show u = Value.ref b from ru)
  show wpAny _ _ (forIn [(Value.ref b, r)] PUnit.unit _) _ _ _
  rw [List.forIn_cons]
  refine wpAny_bind (wpAny_bind (put_tup room I2 ed eb (Nat.lt_of_lt_of_le (by decide : 0 < 100000) (Nat.le_of_ble_eq_true rfl)) rr fun s2 I3 => wpAny_pure ?_))
  show wpAny _ _ (forIn [] PUnit.unit _) _ _ _
  rw [List.forIn_nil]
  exact wpAny_pure ⟨.ref s.heap.objs.size, _, I3, rfl, q⟩
/-- {k: v for target in iter}, the keys tuples; D the new dict -/
def tDcT (wi : TI) (g : TG) (tk tv : TE) (vs : List Nat) : TE := fun σ H Q => wi σ H fun J H1 => ∀ D, H1 D = none → ∃ W : Nat → Nat → Hp → Prop, (∃ m, W 0 m (upd H1 D (.dT []))) ∧ ∀ i m H, W i m H →
  (J.stop i H ∧ Q (.ref D) H) ∨ (J.go i H ∧ ∃ Nx : Hp → Prop, (∀ H', Nx H' → ∃ m', m' < m ∧ W (i + 1) m' H') ∧ ∀ x H', J.yld i H x H' → g x (wipe σ vs) H' fun σ2 H2 => wipe σ2 vs = wipe σ vs ∧
    tk σ2 H2 fun y H4 => tv σ2 H4 fun z H5 => ∃ kvs ks b, y = .ref b ∧ H5 b = some (.tup (ks.map kV)) ∧ H5 D = some (.dT kvs) ∧ kvs.length < sizeLine ∧ Nx (upd H5 D (.dT (putK kvs ks z))))
theorem pe_dcT {kx vx tg iter : Expr} {scope : Scope} {own : List (Str × Nat)} {pos : Pos} {wi : TI} {g : TG} {tk tv : TE} (room : X.A.units + 1 < cLine) (calm : X.calm = true) (nd : X.N.Nodup) (src : PI X tg iter wi) (ok : BlkOk X.N X.env.scope scope own)
    (pg : ∀ (s : Shared) (H : Hp) (C : Addr) (cl : List (Str × Addr)) (fp : List Addr), PG (X.blk s H scope (compEnvC scope cl C X.env) fp) tg g)
    (pk : ∀ (s : Shared) (H : Hp) (C : Addr) (cl : List (Str × Addr)) (fp : List Addr), PE (X.blk s H scope (compEnvC scope cl C X.env) fp) kx tk)
    (pv : ∀ (s : Shared) (H : Hp) (C : Addr) (cl : List (Str × Addr)) (fp : List Addr), PE (X.blk s H scope (compEnvC scope cl C X.env) fp) vx tv) (plain : ∀ x, foldedSetIterable iter X.env x = pure x := by intro _; rfl) :
    PE X (.DictComp kx vx [⟨tg, iter, [], 0⟩] scope pos) (tDcT wi g tk tv (own.map (·.2))) := by
  constructor
  intro pins s σ H Q I h
  rw [arm_eval_DictComp]
  have cells : ∀ y ∈ scope.names, y.2 = .free → ∃ c, X.env.cells.lookup y.1 = some c := by
    intro y hy e
    apply I.ok.has
    rcases ok.free y hy e with q | q
    · exact .inl q
    · exact .inr q
  apply wpAny_comprehension_free rfl plain (closure_ok cells) ok.kind (fun y hy e => by rw [ok.uniq y hy, e])
  apply thn (src.run pins s σ H _ I h)
  intro xv s1 hx
  apply thn hx
  rintro itv s2 ⟨it, fp, tn, J, H2, rfl, I2, T, st2, f2, q⟩
  refine wpAny_newObj_type (newEnv_comp ?_)
  obtain ⟨D, eD⟩ : ∃ D, D = s2.heap.objs.size := ⟨_, rfl⟩
  rw [← eD]
  have noD : H2 D = none := I2.hok.fresh (Nat.le_of_eq eD.symm)
  obtain ⟨W, ⟨m0, w0⟩, turn⟩ := q D noD
  obtain ⟨H3, eH3⟩ : ∃ H3, H3 = upd H2 D (.dT []) := ⟨_, rfl⟩
  obtain ⟨s3, e3⟩ : ∃ s3 : Shared, s3 = { s2 with heap := s2.heap.push { cls := .type "dict", data := .dict #[] } } := ⟨_, rfl⟩
  rw [← eH3] at w0
  have heap3 : s3.heap = s2.heap.push { cls := .type "dict", data := .dict #[] } := by rw [e3]
  have I3 : Inv X pins σ H3 s3 := by
    rw [e3, eH3, eD]
    exact I2.laid (t' := s2.toks) (fun b o e => Heap.get?_push_of_some _ e) (Nat.le_refl _) (dt_empty s2.heap I2.big)
  have fp3 : ∀ b ∈ fp, FpOk X pins H3 b ∧ b < s3.heap.objs.size := by
    intro b hb
    obtain ⟨o, e, _⟩ := T.obj _ _ st2 b hb
    have lt := Heap.lt_size e
    constructor
    · refine ⟨?_, (f2 b hb).2⟩
      rw [eH3, upd_ne (by rw [eD]; exact Nat.ne_of_lt lt)]
      exact (f2 b hb).1
    · rw [heap3, Heap.size_push]; exact Nat.lt_succ_of_lt lt
  have out3 : ∀ b ∈ fp, H3 b = none := fun b hb => (fp3 b hb).1.1
  have I4 := block_start I3 ok nd fp3
  have pg := pg s3 H3 s3.heap.objs.size (cellsFrom (s3.heap.objs.size + 1) scope.names (cloFrom X.env.cells scope.names [])) fp
  have pk := pk s3 H3 s3.heap.objs.size (cellsFrom (s3.heap.objs.size + 1) scope.names (cloFrom X.env.cells scope.names [])) fp
  have pv := pv s3 H3 s3.heap.objs.size (cellsFrom (s3.heap.objs.size + 1) scope.names (cloFrom X.env.cells scope.names [])) fp
  obtain ⟨ce, ece⟩ : ∃ ce, ce = compEnvC scope (cellsFrom (s3.heap.objs.size + 1) scope.names (cloFrom X.env.cells scope.names [])) s3.heap.objs.size X.env := ⟨_, rfl⟩
  obtain ⟨s4, e4⟩ : ∃ s4 : Shared, s4 = { s3 with heap := pushCells (s3.heap.push { cls := .type "dict", data := .dict #[] }) scope.names } := ⟨_, rfl⟩
  rw [← ece] at I4 pg pk pv
  rw [← e4] at I4
  have ceL : ce.locals = s3.heap.objs.size := by rw [ece]; rfl
  have st4 : tn 0 s4.heap := by
    apply T.keep _ _ _ st2
    intro b _ o e
    rw [e4]
    refine pushCells_keeps _ _ _ _ (Heap.get?_push_of_some _ ?_)
    rw [heap3]
    exact Heap.get?_push_of_some _ e
  have gate : ∀ {σ' : L2.St} {H' : Hp} {s' : Shared}, Inv (X.blk s3 H3 scope ce fp) [] σ' H' s' → (∀ b ∈ fp, H' b = none) → ∀ b ∈ fp, FpOk (X.blk s3 H3 scope ce fp) [] H' b := by
    intro σ' H' s' I' out b hb
    have z := I'.ok.exf b hb
    exact ⟨out b hb, z.1, I'.ok.exfs b hb, .inl hb, fun x c e => z.2 x c e, fun p hp => absurd (show p ∈ ([] : List (Addr × Obj)) ++ [] from hp) (by simp)⟩
  have key : codeAny (model X.prog X.w) X.A (.compLoop (.DictComp kx vx [⟨tg, iter, [], 0⟩] scope pos) 0 (.ref it) (.ref D) ce) (compPost (model X.prog X.w) X.A X.xe none (EP X pins σ Q) (.ref D) s3.heap.objs.size) s4 := by
    apply compLoop_anyD (fun n s' => ∃ i H', Inv (X.blk s3 H3 scope ce fp) [] (wipe σ (own.map (·.2))) H' s' ∧ tn i s'.heap ∧ (∀ b ∈ fp, H' b = none) ∧ W i n H') ?_ m0 ⟨0, H3, I4, st4, out3, w0⟩
    rintro n s5 ⟨i, H5, I5, st5, out5, w5⟩
    rcases turn i n H5 w5 with ⟨stop, done⟩ | ⟨go, Nx, nxt, step⟩
    · apply thnF (T.done (X.blk s3 H3 scope ce fp) rfl rfl rfl calm i [] s5 _ H5 (fun _ _ => False) I5 (gate I5 out5) st5 stop)
      rintro r s6 ⟨rfl, I6⟩
      have I7 : Inv X pins σ H5 s6 := by
        apply I3.call' (ch := fp) I6.os I6.base I6.hok I6.bare
        intro b hb
        have z := (fp3 b hb).1.2
        exact ⟨z.2.2.1, z.1, z.2.2.2.1, z.2.2.2.2⟩
      have noC : H5 s3.heap.objs.size = none := by
        have z : H5 ce.locals = none := I6.free
        rwa [ceL] at z
      obtain ⟨m, ns, _⟩ := I6.loc
      have ns : s6.heap.Ns ce.locals m := ns
      rw [ceL] at ns
      refine ⟨m, ns, fun h'' sb => ?_⟩
      obtain ⟨f0, f1, _, f3, f4, f5⟩ := I3.fpOk (Nat.le_refl _) noC
      exact ⟨.ref D, H5, I7.turned (t' := s6.toks) (fun b o hb e => (sb.2 b hb).trans e) f0 f1 f3 f4 f5, rfl, done⟩
    · apply thnF (T.item (X.blk s3 H3 scope ce fp) rfl rfl rfl calm i [] s5 _ H5 (fun _ _ => False) I5 (gate I5 out5) st5 go)
      rintro r s6 ⟨u, rfl, h6⟩
      apply thnF h6
      rintro _ s7 ⟨x, H7, I7, r7, y7, st7, out7⟩
      have I7p := I7.pinned (gate I7 out7) (T.obj _ _ st7)
      apply thnF (pg.run _ s7 _ H7 x u _ I7p r7 (step x H7 y7))
      rintro _ s8 ⟨σ8, H8, I8, same8, q8⟩
      refine wpAny_pure ?_
      rw [if_pos rfl]
      apply thnF (pk.run _ s8 σ8 H8 _ I8 q8)
      rintro z s10 ⟨yk, H10, I10, r10, q10⟩
      apply thnF (pv.run _ s10 σ8 H10 _ I10 q10)
      rintro z2 s11 ⟨yv, H11, I11, r11, kvs, ks, b, rfl, eb, eD11, few, nx⟩
      cases (show z = Value.ref b from r10)
      apply put_tup (X := X.blk s3 H3 scope ce fp) room I11 eD11 eb few r11
      intro s12 I12
      obtain ⟨m', lt, w'⟩ := nxt _ nx
      have pin : ∀ c ∈ fp, ∀ o, s7.heap.get? c = some o → s12.heap.get? c = some o ∧ upd H11 D (.dT (putK kvs ks yv)) c = none := by
        intro c hc o e
        have z := I12.pin (c, o) (List.mem_append_right _ (List.mem_append_right _ (mem_pinsAt hc e)))
        exact ⟨z.1, z.2.1⟩
      have len8 : (wipe σ (own.map (·.2))).length = σ8.length := by rw [← same8, wipe_length]
      refine ⟨m', lt, i + 1, _, (I12.unpinned (pins := [])).weak len8 ?_, T.keep _ _ _ st7 fun c hc o e => (pin c hc o e).1, ?_, w'⟩
      · intro j v e
        rw [← same8] at e
        exact (wipe_some e).1
      · intro c hc
        obtain ⟨o, e, _⟩ := T.obj _ _ st7 c hc
        exact (pin c hc o e).2
  have all := codeAny_compStart_dict key (T.self X.A 0 _ _ _ st4 key)
  rw [e4, ece, e3, eD] at all
  rw [eD]
  exact all
end
end Sw
namespace Sw
open PySem PySem.Spec PyProof.Rows L2
/-! ### answers for dicts keyed by tuples, for a list or a tuple walked by its name -/
theorem room1 {u c : Nat} (h : u + 64 < c) : u + 1 < c := by omega
def rDGet : V → V → Hp → VK → Prop := fun x y H Q => ∃ a v, x = .ref a ∧ DGet H a y (some v) ∧ Q v H
theorem i_dget {td ty : TE} {σ : L2.St} {H : Hp} {Q : VK} (h : td σ H fun x H1 => ty σ H1 fun y H2 => rDGet x y H2 Q) : tDGet td ty σ H Q := h
theorem i_dgetT {a b : Addr} {kvs : List (List Key × V)} {ks : List Key} {v : V} {H : Hp} {Q : VK} (e : H a = some (.dT kvs)) (eb : H b = some (.tup (ks.map kV))) (ev : valV kvs ks = some v) (q : Q v H) : rDGet (.ref a) (.ref b) H Q :=
  ⟨a, v, rfl, by rw [← ev]; exact DGet.t e eb, q⟩
def rInDt : R2 := fun x y H Q => ∃ a o, y = .ref a ∧ DGet H a x o ∧ Q (.bl o.isSome) H
theorem op_inDt {X : Cx} (hu : X.A.units + 64 < cLine) : OpR X (compareOp .In) rInDt := by
  intro pins s σ H x y v u Q I rx ry h
  obtain ⟨a, o, rfl, g, q⟩ := h
  cases (show u = Value.ref a from ry)
  exact d_in (room1 hu) I g rx fun s' I' => ⟨.bl o.isSome, H, I', rfl, q⟩
theorem i_inDt {a b : Addr} {kvs : List (List Key × V)} {ks : List Key} {H : Hp} {Q : VK} (e : H a = some (.dT kvs)) (eb : H b = some (.tup (ks.map kV))) (q : Q (.bl (valV kvs ks).isSome) H) : rInDt (.ref b) (.ref a) H Q := ⟨a, _, rfl, DGet.t e eb, q⟩
theorem i_setD {a b : Addr} {kvs : List (List Key × V)} {ks : List Key} {v : V} {H : Hp} {Q : Hp → Prop} (e : H a = some (.dT kvs)) (eb : H b = some (.tup (ks.map kV))) (l : kvs.length < sizeLine) (q : Q (upd H a (.dT (putK kvs ks v)))) : rSetD (.ref a) (.ref b) v H Q :=
  ⟨a, _, rfl, DPut.t e eb l, q⟩
def NewE (H : Hp) (R : Addr → Hp → Prop) : Prop := ∀ p, H p = none → R p (upd H p (.dT []))
theorem i_dnewT {σ : L2.St} {H : Hp} {Q : VK} (h : NewE H fun p H1 => Q (.ref p) H1) : tDNewT σ H Q := h
theorem i_disp1T {tk tv : TE} {σ : L2.St} {H : Hp} {Q : VK} (h : NewE H fun p H0 => tk σ H0 fun x H1 => tv σ H1 fun y H2 => ∃ b ks, x = .ref b ∧ H2 p = some (.dT []) ∧ H2 b = some (.tup (ks.map kV)) ∧ Q (.ref p) (upd H2 p (.dT [(ks, y)]))) : tDisp1T tk tv σ H Q := h
/-! a list or a tuple, by its name -/
def iSeqV (K : PySem.W.Frag) (i : Nat) : TI := fun σ H R => ∃ a xs J, σ[i]? = some (some (.ref a)) ∧ ((SqL K H a xs ∧ J = Itl K a) ∨ (SqT K H a xs ∧ J = Itt K a)) ∧ R J H
theorem pi_seqV {X : Cx} {tg l : Expr} {i : Nat} (h : PE X l (tVar i)) : PI X tg l (iSeqV X.K i) := by
  refine ⟨fun pins s σ H R I q => ?_⟩
  obtain ⟨a, xs, J, e, ⟨hs, rfl⟩ | ⟨hs, rfl⟩, r⟩ := q
  · exact (pi_list (tg := tg) h).run pins s σ H R I ⟨_, e, a, rfl, ⟨xs, hs⟩, r⟩
  · exact (pi_tup (tg := tg) h).run pins s σ H R I ⟨_, e, a, rfl, ⟨xs, hs⟩, r⟩
theorem walk_seqV {K : PySem.W.Frag} {a : Addr} {xs : List V} {J : It} {H : Hp} (h : (SqL K H a xs ∧ J = Itl K a) ∨ (SqT K H a xs ∧ J = Itt K a)) : Walk J xs.length (fun H' => Same H H') (YAt xs) := by
  rcases h with ⟨h, rfl⟩ | ⟨h, rfl⟩
  · exact walk_list.mono (fun H' s => Same.sqL s h) fun _ _ _ _ _ _ y => y
  · exact walk_tup.mono (fun H' s => Same.sqT s h) fun _ _ _ _ _ _ y => y
theorem i_seqV {K : PySem.W.Frag} {a : Addr} {xs : List V} {i : Nat} {σ : L2.St} {H : Hp} {R : It → Hp → Prop} (e : σ[i]? = some (some (.ref a))) (h : SqL K H a xs ∨ SqT K H a xs) (r : ∀ J, Walk J xs.length (fun H' => Same H H') (YAt xs) → R J H) : iSeqV K i σ H R := by
  rcases h with h | h
  · exact ⟨a, xs, _, e, .inl ⟨h, rfl⟩, r _ (walk_seqV (.inl ⟨h, rfl⟩))⟩
  · exact ⟨a, xs, _, e, .inr ⟨h, rfl⟩, r _ (walk_seqV (.inr ⟨h, rfl⟩))⟩
def DcGo (J : It) (g : TG) (tk tv : TE) (vs : List Nat) (σ : L2.St) (H1 : Hp) (Q : VK) : Prop := ∀ D, H1 D = none → ∃ W : Nat → Nat → Hp → Prop, (∃ m, W 0 m (upd H1 D (.dT []))) ∧ ∀ i m H, W i m H →
  (J.stop i H ∧ Q (.ref D) H) ∨ (J.go i H ∧ ∃ Nx : Hp → Prop, (∀ H', Nx H' → ∃ m', m' < m ∧ W (i + 1) m' H') ∧ ∀ x H', J.yld i H x H' → g x (wipe σ vs) H' fun σ2 H2 => wipe σ2 vs = wipe σ vs ∧
    tk σ2 H2 fun y H4 => tv σ2 H4 fun z H5 => ∃ kvs ks b, y = .ref b ∧ H5 b = some (.tup (ks.map kV)) ∧ H5 D = some (.dT kvs) ∧ kvs.length < sizeLine ∧ Nx (upd H5 D (.dT (putK kvs ks z))))
theorem i_dcT {wi : TI} {g : TG} {tk tv : TE} {vs : List Nat} {σ : L2.St} {H : Hp} {Q : VK} (h : wi σ H fun J H1 => DcGo J g tk tv vs σ H1 Q) : tDcT wi g tk tv vs σ H Q := h
theorem go_dcT {J : It} {n : Nat} {G : Hp → Prop} {Y : Nat → Hp → V → Hp → Prop} {g : TG} {tk tv : TE} {vs : List Nat} {σ : L2.St} {H1 : Hp} {Q : VK} (w : Walk J n G Y) (Pv : Addr → Nat → Hp → Prop) (h0 : ∀ p, H1 p = none → Pv p 0 (upd H1 p (.dT []))) (hG : ∀ p i H, H1 p = none → i ≤ n → Pv p i H → G H)
    (hs : ∀ p, H1 p = none → ∀ i x H H', i < n → Pv p i H → Y i H x H' → g x (wipe σ vs) H' fun σ2 H2 => wipe σ2 vs = wipe σ vs ∧
      tk σ2 H2 fun y H4 => tv σ2 H4 fun z H5 => ∃ kvs ks b, y = .ref b ∧ H5 b = some (.tup (ks.map kV)) ∧ H5 p = some (.dT kvs) ∧ kvs.length < sizeLine ∧ Pv p (i + 1) (upd H5 p (.dT (putK kvs ks z))))
    (hd : ∀ p H, H1 p = none → Pv p n H → Q (.ref p) H) : DcGo J g tk tv vs σ H1 Q := by
  intro p np
  refine ⟨fun i m H => i + m = n ∧ Pv p i H, ⟨n, by omega, h0 p np⟩, ?_⟩
  rintro i m H ⟨le, pv⟩
  have ok := hG p i H np (by omega) pv
  rcases m with _ | m
  · obtain rfl : i = n := by omega
    exact .inl ⟨w.stops H ok, hd p H np pv⟩
  · exact .inr ⟨w.goes i H (by omega) ok, Pv p (i + 1), fun H' q => ⟨m, Nat.lt_succ_self m, by omega, q⟩, fun x H' y => hs p np i x H H' (by omega) pv (w.yields i H x H' (by omega) ok y)⟩
/-- isinstance(x, (list, tuple)) -/
theorem kit_two {K : PySem.W.Frag} {t u1 u2 : Value} {b1 b2 : Bool} (h1 : PySem.W.kitOne K t u1 = some b1) (h2 : PySem.W.kitOne K t u2 = some b2) : PySem.W.kitAny K t [u1, u2] = some (b1 || b2) := by
  cases b1 <;> cases b2 <;> simp [PySem.W.kitAny, h1, h2]
theorem isiLT {K : PySem.W.Frag} {H : Hp} {v : V} {t : Value} {b1 b2 : Bool} {Q : VK} {p : Addr} (ty : TyX K H v t) (e : H p = some (.tup [.ty "list", .ty "tuple"])) (h1 : PySem.W.kitOne K t (.type "list") = some b1) (h2 : PySem.W.kitOne K t (.type "tuple") = some b2) (k : Q (.bl (b1 || b2)) H) : rIsiT K [v, .ref p] H Q :=
  ⟨v, p, _, t, _, _, rfl, e, .cons (.ty _) (.cons (.ty _) .nil), ty, kit_two h1 h2, k⟩
theorem De.isiLT {K : PySem.W.Frag} {H : Hp} {v : V} {d : PyData} {Q : VK} {p : Addr} (h : De K H v d) (e : H p = some (.tup [.ty "list", .ty "tuple"])) (k : Q (.bl (tyB "list" d || tyB "tuple" d)) H) : rIsiT K [v, .ref p] H Q := by
  have a : ∀ {n m : String} {b : Bool}, PySem.W.kitOne K (.type n) (.type m) = some b → PySem.W.kitOne K (.type n) (.type m) = some b := fun q => q
  cases h with
  | non => exact Sw.isiLT (.base .non) e (kit_ty (show _ = some false by decide +kernel)) (kit_ty (show _ = some false by decide +kernel)) k
  | bl b => exact Sw.isiLT (.base (.bl _)) e (kit_ty (show _ = some false by decide +kernel)) (kit_ty (show _ = some false by decide +kernel)) k
  | int i => exact Sw.isiLT (.base (.int _)) e (kit_ty (show _ = some false by decide +kernel)) (kit_ty (show _ = some false by decide +kernel)) k
  | str x => exact Sw.isiLT (.base (.str _)) e (kit_ty (show _ = some false by decide +kernel)) (kit_ty (show _ = some false by decide +kernel)) k
  | lst h1 _ h2 => exact Sw.isiLT (.base (.lst h1)) e (kit_ty (show _ = some true by decide +kernel)) (kit_ty (show _ = some false by decide +kernel)) k
  | tup h1 h2 => exact Sw.isiLT (tyx_tup h1) e (kit_ty (show _ = some false by decide +kernel)) (kit_ty (show _ = some true by decide +kernel)) k
  | dict h1 h2 => exact Sw.isiLT (.base (.dK h1)) e (kit_ty (show _ = some false by decide +kernel)) (kit_ty (show _ = some false by decide +kernel)) k
end Sw
namespace Sw
open PySem PySem.Spec PyProof.Rows L2
local macro_rules | `(tactic| walk_at "hp") => `(tactic| first
  | (with_reducible assumption) | (with_reducible exact upd_same)
  | ((with_reducible refine' upd_old ?q1 ?q2); (case q1 => (with_reducible assumption)); (case q2 => walk_at "hp"))
  | ((with_reducible refine' Same.at ?q1 ?q2); (case q1 => (with_reducible assumption)); (case q2 => walk_at "hp"))
  | ((with_reducible refine' upd_skip ?q1 ?q2); (case q1 => walk_at "ne"); (case q2 => walk_at "hp"))
  | fail)
local macro_rules | `(tactic| walk_at "ne") => `(tactic| first
  | (with_reducible assumption) | (with_reducible exact Ne.symm (by assumption))
  | ((with_reducible refine' ne_of_none ?q1 ?q2); (case q2 => (with_reducible assumption)); (case q1 => walk_at "hp"))
  | fail)
local macro_rules | `(tactic| walk_at "ci") => `(tactic| first | assumption | (show (0 : Int) < _; first | decide | (with_reducible omega)) | exact ⟨by decide, by decide⟩ | exact .inl ⟨by decide, by decide⟩ | exact .inr ⟨by decide, by decide⟩)
local macro_rules | `(tactic| walk_at "ln") => `(tactic| first | (with_reducible assumption) | (with_reducible omega) | (simp only [List.length_append, List.length_take, List.length_drop, List.length_reverse, List.length_cons, List.length_nil]; with_reducible omega))
local macro_rules | `(tactic| walk_at "rd1") => `(tactic| first
  | (with_reducible refine i_seq ?_) | (with_reducible refine i_asg ?_) | (with_reducible refine i_ret ?_) | (with_reducible refine i_name ?_) | ((with_reducible refine' i_var ?q1 ?_); (case q1 => exact rfl)) | (with_reducible refine i_c ?_) | (with_reducible refine i_op ?_) | (with_reducible refine i_un ?_)
  | (with_reducible refine i_rI0 ?_) | (with_reducible refine i_cb ?_) | (with_reducible refine i_cons ?_) | (with_reducible refine i_nil ?_) | (with_reducible refine i_call ?_) | (with_reducible refine i_if ?_) | (with_reducible refine i_ifE ?_) | (with_reducible refine i_test ?_) | (with_reducible refine i_bl ?_)
  | (with_reducible refine i_and ?_) | (with_reducible refine i_or ?_) | (with_reducible refine i_not ?_) | (with_reducible refine i_lst ?_) | (with_reducible refine i_tup ?_) | (with_reducible refine i_next ?_) | (with_reducible refine i_drop ?_) | (with_reducible refine i_sub ?_)
  | (with_reducible refine i_bm ?_) | (with_reducible refine i_sl ?_) | (with_reducible refine i_part ?_) | (with_reducible refine i_nopart ?_) | (with_reducible refine i_exI ?_) | (with_reducible refine i_chain ?_) | ((with_reducible refine' i_aug ?q1 ?_); (case q1 => exact rfl)) | (with_reducible refine i_ip ?_)
  | (with_reducible refine i_par ?_) | (with_reducible refine i_pair ?_) | (with_reducible refine i_andV ?_) | (with_reducible refine i_orV ?_) | (with_reducible refine i_notV ?_) | (with_reducible refine i_m1 ?_) | (with_reducible refine i_str ?_)
  | (with_reducible refine iteF ?_) | (with_reducible refine iteT ?_) | (with_reducible refine iteNT ?_) | (with_reducible refine iteNF ?_) | (with_reducible refine i_tyS ?_) | (with_reducible refine i_tB ?_) | (with_reducible refine i_retN ?_) | (with_reducible refine i_par3 ?_) | (with_reducible refine i_trip ?_) | (with_reducible refine i_gCons ?_) | (with_reducible refine i_gNil ?_) | (with_reducible refine i_lstRg ?_) | (with_reducible refine i_rg1 ?_)
  | (with_reducible refine i_lc ?_) | (with_reducible refine i_for ?_) | (with_reducible refine i_iList ?_) | (with_reducible refine i_iTup ?_) | (with_reducible refine i_iStr ?_) | (with_reducible refine i_iRng1 ?_) | (with_reducible refine i_iEnS ?_)
  | ((with_reducible refine' i_ixTH ?q1 ?q2 ?_); (case q1 => walk_at "hp"); (case q2 => exact rfl))
  | ((with_reducible refine' i_ixLH ?q1 ?q2 ?_); (case q1 => walk_at "hp"); (case q2 => exact rfl))
  | ((with_reducible refine i_addS ?q1 ?_); (case q1 => walk_at "ln")) | ((with_reducible refine i_lenSS ?q1 ?_); (case q1 => walk_at "ln")) | ((with_reducible refine i_slFrom ?q1 ?q2 ?_); (case q1 => walk_at "ln"); (case q2 => walk_at "ln")) | ((with_reducible refine i_slTo ?q1 ?q2 ?_); (case q1 => walk_at "ln"); (case q2 => walk_at "ln"))
  | ((with_reducible refine' i_tyL ?q1 ?_); (case q1 => walk_at "hp"))
  | ((with_reducible refine' i_gTupH ?q1 ?q2 ?_); (case q1 => walk_at "hp"); (case q2 => exact rfl))
  | (with_reducible refine i_dnew ?_) | (with_reducible refine i_init ?_) | (with_reducible refine i_fst ?_) | (with_reducible refine i_mk ?_) | (with_reducible refine i_mkF ?_) | (with_reducible refine i_raise ?_) | (with_reducible refine i_callS ?_) | (with_reducible refine i_kwS ?_)
  | (with_reducible refine i_revT ?_) | (with_reducible refine i_kw ?_) | ((with_reducible refine' ⟨_, _, rfl, sqT_of ?q1, ?_⟩); (case q1 => walk_at "hp"))
  | (with_reducible refine i_revS ?_) | ((with_reducible refine i_revSS ?q1 ?_); (case q1 => walk_at "ln"))
  | (with_reducible refine i_startS ?_) | (with_reducible refine i_inSg ?_) | (with_reducible refine i_absN ?_) | (with_reducible refine i_min2 ?_) | (with_reducible refine i_max2 ?_) | (with_reducible refine i_min3 ?_) | (with_reducible refine i_intN ?_) | (with_reducible refine i_intNB ?_)
  | ((with_reducible refine' i_lenL ?q1 ?_); (case q1 => walk_at "hp")) | ((with_reducible refine' i_lenT ?q1 ?_); (case q1 => walk_at "hp"))
  | (with_reducible refine i_eqI ?_) | (with_reducible refine i_neI ?_) | (with_reducible refine i_eqS ?_) | (with_reducible refine i_neS ?_) | (with_reducible refine i_isNoI ?_) | (with_reducible refine i_isNoN ?_) | (with_reducible refine i_isNoR ?_)
  | ((with_reducible refine i_pow ?q1 ?q2 ?q3 ?_); (case q1 => decide); (case q2 => decide); (case q3 => (with_reducible omega)))
  | ((with_reducible refine i_rI ?q1 ?_); (case q1 => walk_at "ci"))
  | (with_reducible refine Or.inl ⟨_, rfl, ?_⟩) | (with_reducible refine Or.inr ⟨_, rfl, ?_⟩) | (with_reducible refine ⟨_, rfl, ?_⟩) | (with_reducible refine ⟨_, _, rfl, ?_⟩) | (with_reducible refine ⟨_, _, rfl, rfl, ?_⟩)
  | ((with_reducible refine' ⟨_, _, rfl, Or.inl (sqL_of ?q1), ?_⟩); (case q1 => walk_at "hp")) | ((with_reducible refine' ⟨_, _, rfl, Or.inr (sqT_of ?q1), ?_⟩); (case q1 => walk_at "hp")) | (with_reducible refine i_dget ?_) | (with_reducible refine i_disp1T ?_) | (with_reducible refine i_dcT ?_) | (with_reducible refine i_dnewT ?_) | (with_reducible refine i_fld ?_) | (with_reducible refine i_sFld ?_) | (with_reducible refine i_make ?_) | (with_reducible refine i_meth ?_) | (with_reducible refine i_star ?_) | (with_reducible refine i_isNoS ?_) | (with_reducible refine i_lc2 ?_) | (with_reducible refine i_iEnT ?_) | fail)
local macro_rules | `(tactic| walk_at "rd") => `(tactic| repeat' walk_at "rd1")

def topS (i : Nat) : Stmt := PySem.Challenge.pw_spoiltways_k56_rows_of_numbers.main.body.getD i (.Pass ⟨0, 0, 0, 0⟩)
abbrev s__wall : Stmt := topS 0
abbrev n__wall : List Str := ["k"]
theorem sc__wall : FnScope n__wall ["k"] (defScope s__wall) := ⟨rfl, rfl, rfl, by decide +kernel, rfl, by decide +kernel, by decide +kernel⟩
abbrev s_is_list : Stmt := topS 13
abbrev n_is_list : List Str := ["value"]
theorem sc_is_list : FnScope n_is_list ["value"] (defScope s_is_list) := ⟨rfl, rfl, rfl, by decide +kernel, rfl, by decide +kernel, by decide +kernel⟩
abbrev s_is_integer : Stmt := topS 14
abbrev n_is_integer : List Str := ["value"]
theorem sc_is_integer : FnScope n_is_integer ["value"] (defScope s_is_integer) := ⟨rfl, rfl, rfl, by decide +kernel, rfl, by decide +kernel, by decide +kernel⟩
abbrev s_is_index : Stmt := topS 15
abbrev n_is_index : List Str := ["value", "many"]
theorem sc_is_index : FnScope n_is_index ["value", "many"] (defScope s_is_index) := ⟨rfl, rfl, rfl, by decide +kernel, rfl, by decide +kernel, by decide +kernel⟩
abbrev s_is_count : Stmt := topS 16
abbrev n_is_count : List Str := ["value"]
theorem sc_is_count : FnScope n_is_count ["value"] (defScope s_is_count) := ⟨rfl, rfl, rfl, by decide +kernel, rfl, by decide +kernel, by decide +kernel⟩
abbrev s_is_signs : Stmt := topS 17
abbrev n_is_signs : List Str := ["value"]
theorem sc_is_signs : FnScope n_is_signs ["value"] (defScope s_is_signs) := ⟨rfl, rfl, rfl, by decide +kernel, rfl, by decide +kernel, by decide +kernel⟩
abbrev s_is_line : Stmt := topS 18
abbrev n_is_line : List Str := ["value", "signs", "sign"]
theorem sc_is_line : FnScope n_is_line ["value", "signs"] (defScope s_is_line) := ⟨rfl, rfl, rfl, by decide +kernel, rfl, by decide +kernel, by decide +kernel⟩
abbrev s_is_text : Stmt := topS 19
abbrev n_is_text : List Str := ["value", "letter"]
theorem sc_is_text : FnScope n_is_text ["value"] (defScope s_is_text) := ⟨rfl, rfl, rfl, by decide +kernel, rfl, by decide +kernel, by decide +kernel⟩
abbrev s_is_word : Stmt := topS 20
abbrev n_is_word : List Str := ["value"]
theorem sc_is_word : FnScope n_is_word ["value"] (defScope s_is_word) := ⟨rfl, rfl, rfl, by decide +kernel, rfl, by decide +kernel, by decide +kernel⟩
abbrev s_check_signs : Stmt := topS 21
abbrev n_check_signs : List Str := ["signs"]
theorem sc_check_signs : FnScope n_check_signs ["signs"] (defScope s_check_signs) := ⟨rfl, rfl, rfl, by decide +kernel, rfl, by decide +kernel, by decide +kernel⟩
abbrev s_check_count : Stmt := topS 22
abbrev n_check_count : List Str := ["count"]
theorem sc_check_count : FnScope n_check_count ["count"] (defScope s_check_count) := ⟨rfl, rfl, rfl, by decide +kernel, rfl, by decide +kernel, by decide +kernel⟩
abbrev s_check_line : Stmt := topS 23
abbrev n_check_line : List Str := ["line", "signs"]
theorem sc_check_line : FnScope n_check_line ["line", "signs"] (defScope s_check_line) := ⟨rfl, rfl, rfl, by decide +kernel, rfl, by decide +kernel, by decide +kernel⟩
abbrev s_is_entry : Stmt := topS 26
abbrev n_is_entry : List Str := ["value", "states"]
theorem sc_is_entry : FnScope n_is_entry ["value", "states"] (defScope s_is_entry) := ⟨rfl, rfl, rfl, by decide +kernel, rfl, by decide +kernel, by decide +kernel⟩
abbrev s_are_steps : Stmt := topS 27
abbrev n_are_steps : List Str := ["value", "signs", "row", "entry"]
theorem sc_are_steps : FnScope n_are_steps ["value", "signs"] (defScope s_are_steps) := ⟨rfl, rfl, rfl, by decide +kernel, rfl, by decide +kernel, by decide +kernel⟩
abbrev s_are_ends : Stmt := topS 28
abbrev n_are_ends : List Str := ["value", "states", "end"]
theorem sc_are_ends : FnScope n_are_ends ["value", "states"] (defScope s_are_ends) := ⟨rfl, rfl, rfl, by decide +kernel, rfl, by decide +kernel, by decide +kernel⟩
abbrev s_number_at : Stmt := topS 37
abbrev n_number_at : List Str := ["row", "many", "first", "period", "gain", "rounds"]
theorem sc_number_at : FnScope n_number_at ["row", "many"] (defScope s_number_at) := ⟨rfl, rfl, rfl, by decide +kernel, rfl, by decide +kernel, by decide +kernel⟩
abbrev s_are_numbers : Stmt := topS 38
abbrev n_are_numbers : List Str := ["value", "number", "at"]
theorem sc_are_numbers : FnScope n_are_numbers ["value"] (defScope s_are_numbers) := ⟨rfl, rfl, rfl, by decide +kernel, rfl, by decide +kernel, by decide +kernel⟩
abbrev s_is_row : Stmt := topS 39
abbrev n_is_row : List Str := ["value", "first", "period", "gain"]
theorem sc_is_row : FnScope n_is_row ["value"] (defScope s_is_row) := ⟨rfl, rfl, rfl, by decide +kernel, rfl, by decide +kernel, by decide +kernel⟩
abbrev s_check_row : Stmt := topS 40
abbrev n_check_row : List Str := ["row"]
theorem sc_check_row : FnScope n_check_row ["row"] (defScope s_check_row) := ⟨rfl, rfl, rfl, by decide +kernel, rfl, by decide +kernel, by decide +kernel⟩
abbrev s_row_at : Stmt := topS 41
abbrev n_row_at : List Str := ["row", "many"]
theorem sc_row_at : FnScope n_row_at ["row", "many"] (defScope s_row_at) := ⟨rfl, rfl, rfl, by decide +kernel, rfl, by decide +kernel, by decide +kernel⟩
abbrev s_is_subadditive : Stmt := topS 42
abbrev n_is_subadditive : List Str := ["row", "size", "numbers", "m", "k"]
theorem sc_is_subadditive : FnScope n_is_subadditive ["row"] (defScope s_is_subadditive) := ⟨rfl, rfl, rfl, by decide +kernel, rfl, by decide +kernel, by decide +kernel⟩
abbrev s_tail_entry : Stmt := topS 43
abbrev n_tail_entry : List Str := ["number", "now"]
theorem sc_tail_entry : FnScope n_tail_entry ["number"] (defScope s_tail_entry) := ⟨rfl, rfl, rfl, by decide +kernel, rfl, by decide +kernel, by decide +kernel⟩
abbrev s_words_for : Stmt := topS 44
abbrev n_words_for : List Str := ["gain", "at"]
theorem sc_words_for : FnScope n_words_for ["gain"] (defScope s_words_for) := ⟨rfl, rfl, rfl, by decide +kernel, rfl, by decide +kernel, by decide +kernel⟩
abbrev s_block_steps : Stmt := topS 45
abbrev n_block_steps : List Str := ["row", "whole", "many", "words", "goals", "at", "behind", "k", "amid", "back", "goal", "word"]
theorem sc_block_steps : FnScope n_block_steps ["row", "whole", "many"] (defScope s_block_steps) := ⟨rfl, rfl, rfl, by decide +kernel, rfl, by decide +kernel, by decide +kernel⟩
abbrev s_built : Stmt := topS 46
abbrev n_built : List Str := ["row", "many", "whole", "k", "steps", "tails", "state", "ends"]
theorem sc_built : FnScope n_built ["row"] (defScope s_built) := ⟨rfl, rfl, rfl, by decide +kernel, rfl, by decide +kernel, by decide +kernel⟩
abbrev s_debts_of : Stmt := topS 47
abbrev n_debts_of : List Str := ["rises", "start", "found", "at", "rise"]
theorem sc_debts_of : FnScope n_debts_of ["rises", "start"] (defScope s_debts_of) := ⟨rfl, rfl, rfl, by decide +kernel, rfl, by decide +kernel, by decide +kernel⟩
abbrev s_built_accepting : Stmt := topS 48
abbrev n_built_accepting : List Str := ["row", "size", "start", "rises", "m", "debts", "steps", "at", "rise", "goal", "pay", "left"]
theorem sc_built_accepting : FnScope n_built_accepting ["row"] (defScope s_built_accepting) := ⟨rfl, rfl, rfl, by decide +kernel, rfl, by decide +kernel, by decide +kernel⟩
abbrev s__law_cell : Stmt := topS 50
abbrev n__law_cell : List Str := ["script", "k"]
theorem sc__law_cell : FnScope n__law_cell ["script", "k"] (defScope s__law_cell) := ⟨rfl, rfl, rfl, by decide +kernel, rfl, by decide +kernel, by decide +kernel⟩
abbrev s__law_box : Stmt := topS 51
abbrev n__law_box : List Str := ["great"]
theorem sc__law_box : FnScope n__law_box ["great"] (defScope s__law_box) := ⟨rfl, rfl, rfl, by decide +kernel, rfl, by decide +kernel, by decide +kernel⟩
abbrev s__law_take : Stmt := topS 52
abbrev n__law_take : List Str := ["box", "limit", "digit", "mixed"]
theorem sc__law_take : FnScope n__law_take ["box", "limit"] (defScope s__law_take) := ⟨rfl, rfl, rfl, by decide +kernel, rfl, by decide +kernel, by decide +kernel⟩
abbrev s__law_first : Stmt := topS 53
abbrev n__law_first : List Str := ["box", "size", "way", "rises", "turn", "found", "rise"]
theorem sc__law_first : FnScope n__law_first ["box"] (defScope s__law_first) := ⟨rfl, rfl, rfl, by decide +kernel, rfl, by decide +kernel, by decide +kernel⟩
abbrev s__law_plain : Stmt := topS 54
abbrev n__law_plain : List Str := ["box", "first", "period", "least", "gain"]
theorem sc__law_plain : FnScope n__law_plain ["box"] (defScope s__law_plain) := ⟨rfl, rfl, rfl, by decide +kernel, rfl, by decide +kernel, by decide +kernel⟩
abbrev s__law_numbers : Stmt := topS 55
abbrev n__law_numbers : List Str := ["plain", "size", "found", "turn"]
theorem sc__law_numbers : FnScope n__law_numbers ["plain", "size"] (defScope s__law_numbers) := ⟨rfl, rfl, rfl, by decide +kernel, rfl, by decide +kernel, by decide +kernel⟩
abbrev s__law_is_count : Stmt := topS 56
abbrev n__law_is_count : List Str := ["thing"]
theorem sc__law_is_count : FnScope n__law_is_count ["thing"] (defScope s__law_is_count) := ⟨rfl, rfl, rfl, by decide +kernel, rfl, by decide +kernel, by decide +kernel⟩
abbrev s__law_judged : Stmt := topS 57
abbrev n__law_judged : List Str := ["thing", "first", "period", "gain", "spot"]
theorem sc__law_judged : FnScope n__law_judged ["thing"] (defScope s__law_judged) := ⟨rfl, rfl, rfl, by decide +kernel, rfl, by decide +kernel, by decide +kernel⟩
abbrev s__law_spoiled : Stmt := topS 58
abbrev n__law_spoiled : List Str := ["box", "plain", "first", "period", "gain", "way", "spot", "odd"]
theorem sc__law_spoiled : FnScope n__law_spoiled ["box", "plain"] (defScope s__law_spoiled) := ⟨rfl, rfl, rfl, by decide +kernel, rfl, by decide +kernel, by decide +kernel⟩
abbrev s__law_is_subadditive : Stmt := topS 59
abbrev n__law_is_subadditive : List Str := ["plain", "size", "numbers", "m", "k"]
theorem sc__law_is_subadditive : FnScope n__law_is_subadditive ["plain"] (defScope s__law_is_subadditive) := ⟨rfl, rfl, rfl, by decide +kernel, rfl, by decide +kernel, by decide +kernel⟩
abbrev s__law_row_right : Stmt := topS 60
abbrev n__law_row_right : List Str := ["box", "plain", "numbers", "pack", "other", "size", "count", "due"]
theorem sc__law_row_right : FnScope n__law_row_right ["box", "plain"] (defScope s__law_row_right) := ⟨rfl, rfl, rfl, by decide +kernel, rfl, by decide +kernel, by decide +kernel⟩
abbrev s__law_told : Stmt := topS 61
abbrev n__law_told : List Str := ["door", "thing", "count", "e"]
theorem sc__law_told : FnScope n__law_told ["door", "thing", "count"] (defScope s__law_told) := ⟨rfl, rfl, rfl, by decide +kernel, rfl, by decide +kernel, by decide +kernel⟩
abbrev s__law_copy : Stmt := topS 62
abbrev n__law_copy : List Str := ["thing"]
theorem sc__law_copy : FnScope n__law_copy ["thing"] (defScope s__law_copy) := ⟨rfl, rfl, rfl, by decide +kernel, rfl, by decide +kernel, by decide +kernel⟩
abbrev s__law_refused : Stmt := topS 63
abbrev n__law_refused : List Str := ["door", "thing", "count", "handed", "due", "told", "inner"]
theorem sc__law_refused : FnScope n__law_refused ["door", "thing", "count"] (defScope s__law_refused) := ⟨rfl, rfl, rfl, by decide +kernel, rfl, by decide +kernel, by decide +kernel⟩
abbrev s__law_spoiled_right : Stmt := topS 64
abbrev n__law_spoiled_right : List Str := ["box", "plain", "thing", "odd", "door", "handed", "told", "inner"]
theorem sc__law_spoiled_right : FnScope n__law_spoiled_right ["box", "plain", "thing"] (defScope s__law_spoiled_right) := ⟨rfl, rfl, rfl, by decide +kernel, rfl, by decide +kernel, by decide +kernel⟩
abbrev s__law_right : Stmt := topS 65
abbrev n__law_right : List Str := ["box", "plain", "beside", "turn"]
theorem sc__law_right : FnScope n__law_right ["box"] (defScope s__law_right) := ⟨rfl, rfl, rfl, by decide +kernel, rfl, by decide +kernel, by decide +kernel⟩
abbrev s_law : Stmt := topS 66
abbrev n_law : List Str := ["script", "k"]
theorem sc_law : FnScope n_law ["script"] (defScope s_law) := ⟨rfl, rfl, rfl, by decide +kernel, rfl, by decide +kernel, by decide +kernel⟩
abbrev s_Decoder___init__ : Stmt := inClass (topS 29) 0
abbrev n_Decoder___init__ : List Str := ["self", "signs", "steps", "ends", "row"]
theorem sc_Decoder___init__ : FnScope n_Decoder___init__ ["self", "signs", "steps", "ends"] (defScope s_Decoder___init__) := ⟨rfl, rfl, rfl, by decide +kernel, rfl, by decide +kernel, by decide +kernel⟩
abbrev s_Decoder___eq__ : Stmt := inClass (topS 29) 1
abbrev n_Decoder___eq__ : List Str := ["self", "other"]
theorem sc_Decoder___eq__ : FnScope n_Decoder___eq__ ["self", "other"] (defScope s_Decoder___eq__) := ⟨rfl, rfl, rfl, by decide +kernel, rfl, by decide +kernel, by decide +kernel⟩
abbrev s_Decoder_written : Stmt := inClass (topS 29) 2
abbrev n_Decoder_written : List Str := ["self", "line", "state", "text", "sign", "entry", "end"]
theorem sc_Decoder_written : FnScope n_Decoder_written ["self", "line"] (defScope s_Decoder_written) := ⟨rfl, rfl, rfl, by decide +kernel, rfl, by decide +kernel, by decide +kernel⟩
abbrev s_Decoder_state_after : Stmt := inClass (topS 29) 3
abbrev n_Decoder_state_after : List Str := ["self", "line"]
theorem sc_Decoder_state_after : FnScope n_Decoder_state_after ["self", "line"] (defScope s_Decoder_state_after) := ⟨rfl, rfl, rfl, by decide +kernel, rfl, by decide +kernel, by decide +kernel⟩
abbrev s_Decoder_trimmed : Stmt := inClass (topS 29) 4
abbrev n_Decoder_trimmed : List Str := ["self"]
theorem sc_Decoder_trimmed : FnScope n_Decoder_trimmed ["self"] (defScope s_Decoder_trimmed) := ⟨rfl, rfl, rfl, by decide +kernel, rfl, by decide +kernel, by decide +kernel⟩
/-- names that stay the built-in ones -/
structure Z (mg : Str → Option Value) : Prop where
  abs : mg "abs" = none
  all : mg "all" = none
  bool : mg "bool" = none
  enumerate : mg "enumerate" = none
  int : mg "int" = none
  isinstance : mg "isinstance" = none
  len : mg "len" = none
  list : mg "list" = none
  max_ : mg "max" = none
  min_ : mg "min" = none
  range : mg "range" = none
  repr : mg "repr" = none
  sorted : mg "sorted" = none
  str : mg "str" = none
  sum : mg "sum" = none
  tuple : mg "tuple" = none
end Sw
namespace Sw
open PySem PySem.Spec PyProof.Rows L2
/-! ### rows of numbers: the first ones, the period, the gain -/
def numAt (fs : List Nat) (p g i : Nat) : Nat := if i < fs.length then fs.getD i 0 else fs.getD (i - ((i - fs.length) / p + 1) * p) 0 + ((i - fs.length) / p + 1) * g
section
variable {fs : List Nat} {p g : Nat}
theorem numAt_low {i : Nat} (h : i < fs.length) : numAt fs p g i = fs.getD i 0 := by unfold numAt; rw [if_pos h]
theorem idx_ok (hp : 1 ≤ p) (hl : p ≤ fs.length) {i : Nat} (h : fs.length ≤ i) : ((i - fs.length) / p + 1) * p ≤ i ∧ i - ((i - fs.length) / p + 1) * p < fs.length := by
  have h1 := Nat.div_mul_le_self (i - fs.length) p
  have h2 : i - fs.length < (i - fs.length) / p * p + p := by
    have := Nat.lt_div_mul_add (a := i - fs.length) (b := p) (by omega)
    omega
  rw [Nat.add_mul, Nat.one_mul]
  omega
theorem numAt_step (hp : 1 ≤ p) (hl : p ≤ fs.length) {i : Nat} (h : fs.length ≤ i) : numAt fs p g i = numAt fs p g (i - p) + g := by
  have e1 : numAt fs p g i = fs.getD (i - ((i - fs.length) / p + 1) * p) 0 + ((i - fs.length) / p + 1) * g := by unfold numAt; rw [if_neg (by omega)]
  by_cases c : fs.length ≤ i - p
  · have e2 : numAt fs p g (i - p) = fs.getD (i - p - ((i - p - fs.length) / p + 1) * p) 0 + ((i - p - fs.length) / p + 1) * g := by unfold numAt; rw [if_neg (by omega)]
    have hq : (i - fs.length) / p = (i - p - fs.length) / p + 1 := by
      rw [show i - fs.length = i - p - fs.length + p by omega, Nat.add_div_right _ (by omega)]
    rw [e1, e2, hq]
    generalize (i - p - fs.length) / p = q
    have x1 : (q + 1 + 1) * p = (q + 1) * p + p := Nat.succ_mul _ _
    have x2 : (q + 1 + 1) * g = (q + 1) * g + g := Nat.succ_mul _ _
    rw [x1, x2, show i - ((q + 1) * p + p) = i - p - (q + 1) * p by omega]
    omega
  · have hq : (i - fs.length) / p = 0 := Nat.div_eq_of_lt (by omega)
    rw [e1, hq, numAt_low (i := i - p) (by omega)]
    simp
/-- m and k below n keep to the sum -/
def subB (fs : List Nat) (p g n : Nat) : Bool := (List.range n).all fun m => (List.range n).all fun k => decide (numAt fs p g (m + k) ≤ numAt fs p g m + numAt fs p g k)
theorem subB_iff {n : Nat} : subB fs p g n = true ↔ ∀ m, m < n → ∀ k, k < n → numAt fs p g (m + k) ≤ numAt fs p g m + numAt fs p g k := by
  simp only [subB, List.all_eq_true, List.mem_range, decide_eq_true_eq]
theorem sub_all (hp : 1 ≤ p) (hl : p ≤ fs.length) (h : ∀ m, m < fs.length → ∀ k, k < fs.length → numAt fs p g (m + k) ≤ numAt fs p g m + numAt fs p g k) : ∀ t m k, m + k ≤ t → numAt fs p g (m + k) ≤ numAt fs p g m + numAt fs p g k
  | 0, m, k, ht => h m (by omega) k (by omega)
  | t + 1, m, k, ht => by
    by_cases c1 : fs.length ≤ m
    · rw [numAt_step hp hl c1, numAt_step hp hl (show fs.length ≤ m + k by omega), show m + k - p = (m - p) + k by omega]
      have := sub_all hp hl h t (m - p) k (by omega)
      omega
    · by_cases c2 : fs.length ≤ k
      · rw [numAt_step hp hl c2, numAt_step hp hl (show fs.length ≤ m + k by omega), show m + k - p = m + (k - p) by omega]
        have := sub_all hp hl h t m (k - p) (by omega)
        omega
      · exact h m (by omega) k (by omega)
theorem sub_more (hp : 1 ≤ p) (hl : p ≤ fs.length) {n : Nat} (hn : fs.length ≤ n) : subB fs p g n = subB fs p g fs.length := by
  rw [Bool.eq_iff_iff, subB_iff, subB_iff]
  exact ⟨fun h m hm k hk => h m (by omega) k (by omega), fun h m _ k _ => sub_all hp hl h (m + k) m k (Nat.le_refl _)⟩
end
/-! ### rows among data -/
def cntB : PyData → Bool
  | .int i => decide (0 ≤ i)
  | _ => false
def nat40 : PyData → Option Nat
  | .int i => if 0 ≤ i ∧ i ≤ 40 then some i.toNat else none
  | _ => none
def natsOf : List PyData → Option (List Nat)
  | [] => some []
  | d :: ds => match nat40 d with
    | none => none
    | some x => match natsOf ds with
      | none => none
      | some xs => some (x :: xs)
def seqOf : PyData → Option (List PyData)
  | .list ds => some ds
  | .tuple ds => some ds
  | _ => none
def asc (fs : List Nat) : Bool := (List.range (fs.length - 1)).all fun i => decide (fs.getD i 0 ≤ fs.getD (i + 1) 0)
def numsOf (d : PyData) : Option (List Nat) := match seqOf d with
  | none => none
  | some ds => if 1 ≤ ds.length ∧ ds.length ≤ 8 then match natsOf ds with
    | none => none
    | some fs => if fs.getD 0 0 = 0 ∧ asc fs = true then some fs else none
    else none
def perOf (fs : List Nat) : PyData → Option Nat
  | .int p => if 1 ≤ p ∧ p ≤ 4 ∧ p ≤ (fs.length : Int) then some p.toNat else none
  | _ => none
def gainOf (fs : List Nat) (p : Nat) : PyData → Option Nat
  | .int g => if 0 ≤ g ∧ g ≤ 12 ∧ fs.getD (fs.length - 1) 0 ≤ fs.getD (fs.length - p) 0 + g.toNat then some g.toNat else none
  | _ => none
def rowOf : PyData → Option (List Nat × Nat × Nat)
  | .tuple [a, b, c] => match numsOf a with
    | none => none
    | some fs => match perOf fs b with
      | none => none
      | some p => match gainOf fs p c with
        | none => none
        | some g => some (fs, p, g)
  | _ => none
theorem nat40_int {d : PyData} {x : Nat} (h : nat40 d = some x) : d = .int (x : Int) ∧ x ≤ 40 := by
  cases d with
  | int i =>
    simp only [nat40] at h
    split at h
    · rename_i c
      cases h
      exact ⟨by rw [Int.toNat_of_nonneg c.1], by omega⟩
    · cases h
  | _ => cases h
theorem natsOf_ints : ∀ {ds : List PyData} {fs : List Nat}, natsOf ds = some fs → ds = fs.map (fun x : Nat => PyData.int (x : Int)) ∧ ∀ x ∈ fs, x ≤ 40
  | [], fs, h => by cases h; exact ⟨rfl, nofun⟩
  | d :: ds, fs, h => by
    simp only [natsOf] at h
    rcases e : nat40 d with _ | x
    · rw [e] at h; cases h
    · rcases e2 : natsOf ds with _ | xs
      · rw [e, e2] at h; cases h
      · rw [e, e2] at h
        cases h
        obtain ⟨h1, h2⟩ := nat40_int e
        obtain ⟨h3, h4⟩ := natsOf_ints e2
        refine ⟨by rw [h1, h3]; rfl, fun y hy => ?_⟩
        rcases List.mem_cons.mp hy with rfl | hy
        · exact h2
        · exact h4 y hy
theorem natsOf_some : ∀ (ds : List PyData), (natsOf ds).isSome = ds.all fun d => (nat40 d).isSome
  | [] => rfl
  | d :: ds => by
    have ih := natsOf_some ds
    simp only [natsOf, List.all_cons]
    rw [← ih]
    rcases nat40 d with _ | x
    · rfl
    · rcases natsOf ds with _ | xs <;> rfl
theorem numsOf_inv {d : PyData} {fs : List Nat} (h : numsOf d = some fs) : ∃ ds, seqOf d = some ds ∧ ds = fs.map (fun x : Nat => PyData.int (x : Int)) ∧ 1 ≤ fs.length ∧ fs.length ≤ 8 ∧ fs.getD 0 0 = 0 ∧ asc fs = true ∧ ∀ x ∈ fs, x ≤ 40 := by
  unfold numsOf at h
  rcases e : seqOf d with _ | ds
  · rw [e] at h; cases h
  · rw [e] at h
    simp only at h
    split at h
    · rename_i c
      rcases e2 : natsOf ds with _ | xs
      · rw [e2] at h; cases h
      · rw [e2] at h
        simp only at h
        split at h
        · rename_i c2
          cases h
          obtain ⟨h1, h2⟩ := natsOf_ints e2
          have l : ds.length = fs.length := by rw [h1, List.length_map]
          exact ⟨ds, rfl, h1, by omega, by omega, c2.1, c2.2, h2⟩
        · cases h
    · cases h
/-- what a row is -/
structure RowI (fs : List Nat) (p g : Nat) : Prop where
  l1 : 1 ≤ fs.length
  l8 : fs.length ≤ 8
  z : fs.getD 0 0 = 0
  a : asc fs = true
  m : ∀ x ∈ fs, x ≤ 40
  p1 : 1 ≤ p
  p4 : p ≤ 4
  pl : p ≤ fs.length
  g12 : g ≤ 12
  e : fs.getD (fs.length - 1) 0 ≤ fs.getD (fs.length - p) 0 + g
theorem rowOf_inv {d : PyData} {fs : List Nat} {p g : Nat} (h : rowOf d = some (fs, p, g)) : ∃ a, d = .tuple [a, .int (p : Int), .int (g : Int)] ∧ numsOf a = some fs ∧ RowI fs p g := by
  rcases d with _ | _ | _ | _ | _ | ds | _
  all_goals first | (cases h; done) | skip
  rcases ds with _ | ⟨a, _ | ⟨b, _ | ⟨c, _ | ⟨d, ds⟩⟩⟩⟩
  all_goals first | (cases h; done) | skip
  simp only [rowOf] at h
  rcases e : numsOf a with _ | xs
  · rw [e] at h; cases h
  rw [e] at h
  simp only at h
  rcases e2 : perOf xs b with _ | q
  · rw [e2] at h; cases h
  rw [e2] at h
  simp only at h
  rcases e3 : gainOf xs q c with _ | r
  · rw [e3] at h; cases h
  rw [e3] at h
  cases h
  obtain ⟨ds, h1, h2, h3, h4, h5, h6, h7⟩ := numsOf_inv e
  cases b with
  | int i =>
    simp only [perOf] at e2
    split at e2
    · rename_i c2
      cases e2
      cases c with
      | int j =>
        simp only [gainOf] at e3
        split at e3
        · rename_i c3
          cases e3
          refine ⟨a, by rw [Int.toNat_of_nonneg (by omega), Int.toNat_of_nonneg c3.1], e, h3, h4, h5, h6, h7, by omega, by omega, by omega, by omega, c3.2.2⟩
        · cases e3
      | _ => cases e3
    · cases e2
  | _ => cases e2
theorem num_end {fs : List Nat} {p g : Nat} (hp : 1 ≤ p) (hl : p ≤ fs.length) : numAt fs p g fs.length = fs.getD (fs.length - p) 0 + g := by
  rw [numAt_step hp hl (Nat.le_refl _), numAt_low (by omega)]
end Sw
namespace Sw
open PySem PySem.Spec PyProof.Rows L2
local macro_rules | `(tactic| walk_at "hp") => `(tactic| first
  | (with_reducible assumption) | (with_reducible exact upd_same)
  | ((with_reducible refine' upd_old ?q1 ?q2); (case q1 => (with_reducible assumption)); (case q2 => walk_at "hp"))
  | ((with_reducible refine' Same.at ?q1 ?q2); (case q1 => (with_reducible assumption)); (case q2 => walk_at "hp"))
  | ((with_reducible refine' upd_skip ?q1 ?q2); (case q1 => walk_at "ne"); (case q2 => walk_at "hp"))
  | fail)
local macro_rules | `(tactic| walk_at "ne") => `(tactic| first
  | (with_reducible assumption) | (with_reducible exact Ne.symm (by assumption))
  | ((with_reducible refine' ne_of_none ?q1 ?q2); (case q2 => (with_reducible assumption)); (case q1 => walk_at "hp"))
  | fail)
local macro_rules | `(tactic| walk_at "ci") => `(tactic| first | assumption | (show (0 : Int) < _; first | decide | (with_reducible omega)) | exact ⟨by decide, by decide⟩ | exact .inl ⟨by decide, by decide⟩ | exact .inr ⟨by decide, by decide⟩)
local macro_rules | `(tactic| walk_at "ln") => `(tactic| first | (with_reducible assumption) | (with_reducible omega) | (simp only [List.length_append, List.length_take, List.length_drop, List.length_reverse, List.length_cons, List.length_nil]; with_reducible omega))
local macro_rules | `(tactic| walk_at "rd1") => `(tactic| first
  | (with_reducible refine i_seq ?_) | (with_reducible refine i_asg ?_) | (with_reducible refine i_ret ?_) | (with_reducible refine i_name ?_) | ((with_reducible refine' i_var ?q1 ?_); (case q1 => exact rfl)) | (with_reducible refine i_c ?_) | (with_reducible refine i_op ?_) | (with_reducible refine i_un ?_)
  | (with_reducible refine i_rI0 ?_) | (with_reducible refine i_cb ?_) | (with_reducible refine i_cons ?_) | (with_reducible refine i_nil ?_) | (with_reducible refine i_call ?_) | (with_reducible refine i_if ?_) | (with_reducible refine i_ifE ?_) | (with_reducible refine i_test ?_) | (with_reducible refine i_bl ?_)
  | (with_reducible refine i_and ?_) | (with_reducible refine i_or ?_) | (with_reducible refine i_not ?_) | (with_reducible refine i_lst ?_) | (with_reducible refine i_tup ?_) | (with_reducible refine i_next ?_) | (with_reducible refine i_drop ?_) | (with_reducible refine i_sub ?_)
  | (with_reducible refine i_bm ?_) | (with_reducible refine i_sl ?_) | (with_reducible refine i_part ?_) | (with_reducible refine i_nopart ?_) | (with_reducible refine i_exI ?_) | (with_reducible refine i_chain ?_) | ((with_reducible refine' i_aug ?q1 ?_); (case q1 => exact rfl)) | (with_reducible refine i_ip ?_)
  | (with_reducible refine i_par ?_) | (with_reducible refine i_pair ?_) | (with_reducible refine i_andV ?_) | (with_reducible refine i_orV ?_) | (with_reducible refine i_notV ?_) | (with_reducible refine i_m1 ?_) | (with_reducible refine i_str ?_)
  | (with_reducible refine iteF ?_) | (with_reducible refine iteT ?_) | (with_reducible refine iteNT ?_) | (with_reducible refine iteNF ?_) | (with_reducible refine i_tyS ?_) | (with_reducible refine i_tB ?_) | (with_reducible refine i_retN ?_) | (with_reducible refine i_par3 ?_) | (with_reducible refine i_trip ?_) | (with_reducible refine i_gCons ?_) | (with_reducible refine i_gNil ?_) | (with_reducible refine i_lstRg ?_) | (with_reducible refine i_rg1 ?_)
  | (with_reducible refine i_lc ?_) | (with_reducible refine i_for ?_) | (with_reducible refine i_iList ?_) | (with_reducible refine i_iTup ?_) | (with_reducible refine i_iStr ?_) | (with_reducible refine i_iRng1 ?_) | (with_reducible refine i_iEnS ?_)
  | ((with_reducible refine' i_ixTH ?q1 ?q2 ?_); (case q1 => walk_at "hp"); (case q2 => exact rfl))
  | ((with_reducible refine' i_ixLH ?q1 ?q2 ?_); (case q1 => walk_at "hp"); (case q2 => exact rfl))
  | ((with_reducible refine i_addS ?q1 ?_); (case q1 => walk_at "ln")) | ((with_reducible refine i_lenSS ?q1 ?_); (case q1 => walk_at "ln")) | ((with_reducible refine i_slFrom ?q1 ?q2 ?_); (case q1 => walk_at "ln"); (case q2 => walk_at "ln")) | ((with_reducible refine i_slTo ?q1 ?q2 ?_); (case q1 => walk_at "ln"); (case q2 => walk_at "ln"))
  | ((with_reducible refine' i_tyL ?q1 ?_); (case q1 => walk_at "hp"))
  | ((with_reducible refine' i_gTupH ?q1 ?q2 ?_); (case q1 => walk_at "hp"); (case q2 => exact rfl))
  | (with_reducible refine i_dnew ?_) | (with_reducible refine i_init ?_) | (with_reducible refine i_fst ?_) | (with_reducible refine i_mk ?_) | (with_reducible refine i_mkF ?_) | (with_reducible refine i_raise ?_) | (with_reducible refine i_callS ?_) | (with_reducible refine i_kwS ?_)
  | (with_reducible refine i_revT ?_) | (with_reducible refine i_kw ?_) | ((with_reducible refine' ⟨_, _, rfl, sqT_of ?q1, ?_⟩); (case q1 => walk_at "hp"))
  | (with_reducible refine i_revS ?_) | ((with_reducible refine i_revSS ?q1 ?_); (case q1 => walk_at "ln"))
  | (with_reducible refine i_startS ?_) | (with_reducible refine i_inSg ?_) | (with_reducible refine i_absN ?_) | (with_reducible refine i_min2 ?_) | (with_reducible refine i_max2 ?_) | (with_reducible refine i_min3 ?_) | (with_reducible refine i_intN ?_) | (with_reducible refine i_intNB ?_)
  | ((with_reducible refine' i_lenL ?q1 ?_); (case q1 => walk_at "hp")) | ((with_reducible refine' i_lenT ?q1 ?_); (case q1 => walk_at "hp"))
  | (with_reducible refine i_eqI ?_) | (with_reducible refine i_neI ?_) | (with_reducible refine i_eqS ?_) | (with_reducible refine i_neS ?_) | (with_reducible refine i_isNoI ?_) | (with_reducible refine i_isNoN ?_) | (with_reducible refine i_isNoR ?_)
  | ((with_reducible refine i_pow ?q1 ?q2 ?q3 ?_); (case q1 => decide); (case q2 => decide); (case q3 => (with_reducible omega)))
  | ((with_reducible refine i_rI ?q1 ?_); (case q1 => walk_at "ci"))
  | (with_reducible refine Or.inl ⟨_, rfl, ?_⟩) | (with_reducible refine Or.inr ⟨_, rfl, ?_⟩) | (with_reducible refine ⟨_, rfl, ?_⟩) | (with_reducible refine ⟨_, _, rfl, ?_⟩) | (with_reducible refine ⟨_, _, rfl, rfl, ?_⟩)
  | ((with_reducible refine' ⟨_, _, rfl, Or.inl (sqL_of ?q1), ?_⟩); (case q1 => walk_at "hp")) | ((with_reducible refine' ⟨_, _, rfl, Or.inr (sqT_of ?q1), ?_⟩); (case q1 => walk_at "hp")) | (with_reducible refine i_dget ?_) | (with_reducible refine i_disp1T ?_) | (with_reducible refine i_dcT ?_) | (with_reducible refine i_dnewT ?_) | (with_reducible refine i_fld ?_) | (with_reducible refine i_sFld ?_) | (with_reducible refine i_make ?_) | (with_reducible refine i_meth ?_) | (with_reducible refine i_star ?_) | (with_reducible refine i_isNoS ?_) | (with_reducible refine i_lc2 ?_) | (with_reducible refine i_iEnT ?_) | fail)
local macro_rules | `(tactic| walk_at "rd") => `(tactic| repeat' walk_at "rd1")

/-! ### the exceptions that tell a bad value -/
abbrev s_initC : Stmt := inClass (topS 3) 0
abbrev s_initR : Stmt := inClass (topS 6) 0
abbrev n_init : List Str := ["self", "given"]
theorem sc_initC : FnScope n_init ["self", "given"] (defScope s_initC) := ⟨rfl, rfl, rfl, by decide +kernel, rfl, by decide +kernel, by decide +kernel⟩
theorem sc_initR : FnScope n_init ["self", "given"] (defScope s_initR) := ⟨rfl, rfl, rfl, by decide +kernel, rfl, by decide +kernel, by decide +kernel⟩
section
variable {P : Program} {w : World} {K : PySem.W.Frag} {mg : Str → Option Value} {base : Heap} {f : Addr} {fd : FuncData}
theorem ok_initC {B : Addr} (F : Fun K "__init__" "InvalidCount.__init__" s_initC f fd) (o : Over K mg B) : FnOk P w K mg base CX0 1 f fd ["self", "given"] (spInit K) := by
  refine F.ok sc_initC (fun vs H Q E h => ?_) (fun cdv A outer s H vs Q E hr h => ?_)
  · obtain ⟨a, C, v, rfl, _⟩ := h; rfl
  · obtain ⟨a, C, v, rfl, ha, T, no, k⟩ := h
    refine ⟨_, (pss_cons (ps_expr (ps_init (by rfl) o.hm o.ga o.ty o.rd o.fi (pa_cons (pv 0) (pa_cons pe_str pa_nil))))
      (pss_one (ps_fst (pv 0) (pv 1)))), ?_⟩
    walk_at "rd"
    refine ⟨a, C, _, rfl, by simp, T, ha, ?_⟩
    walk_at "rd"
    exact ⟨a, C, rfl, T, no, ha, fun dx n ne => k dx n ne⟩
theorem ok_initR {B : Addr} (F : Fun K "__init__" "InvalidRow.__init__" s_initR f fd) (o : Over K mg B) : FnOk P w K mg base CX0 1 f fd ["self", "given"] (spInit K) := by
  refine F.ok sc_initR (fun vs H Q E h => ?_) (fun cdv A outer s H vs Q E hr h => ?_)
  · obtain ⟨a, C, v, rfl, _⟩ := h; rfl
  · obtain ⟨a, C, v, rfl, ha, T, no, k⟩ := h
    refine ⟨_, (pss_cons (ps_expr (ps_init (by rfl) o.hm o.ga o.ty o.rd o.fi (pa_cons (pv 0) (pa_cons pe_str pa_nil))))
      (pss_one (ps_fst (pv 0) (pv 1)))), ?_⟩
    walk_at "rd"
    refine ⟨a, C, _, rfl, by simp, T, ha, ?_⟩
    walk_at "rd"
    exact ⟨a, C, rfl, T, no, ha, fun dx n ne => k dx n ne⟩
end
end Sw
namespace Sw
open PySem PySem.Spec PyProof.Rows L2
local macro_rules | `(tactic| walk_at "hp") => `(tactic| first
  | (with_reducible assumption) | (with_reducible exact upd_same)
  | ((with_reducible refine' upd_old ?q1 ?q2); (case q1 => (with_reducible assumption)); (case q2 => walk_at "hp"))
  | ((with_reducible refine' Same.at ?q1 ?q2); (case q1 => (with_reducible assumption)); (case q2 => walk_at "hp"))
  | ((with_reducible refine' upd_skip ?q1 ?q2); (case q1 => walk_at "ne"); (case q2 => walk_at "hp"))
  | fail)
local macro_rules | `(tactic| walk_at "ne") => `(tactic| first
  | (with_reducible assumption) | (with_reducible exact Ne.symm (by assumption))
  | ((with_reducible refine' ne_of_none ?q1 ?q2); (case q2 => (with_reducible assumption)); (case q1 => walk_at "hp"))
  | fail)
local macro_rules | `(tactic| walk_at "ci") => `(tactic| first | assumption | (show (0 : Int) < _; first | decide | (with_reducible omega)) | exact ⟨by decide, by decide⟩ | exact .inl ⟨by decide, by decide⟩ | exact .inr ⟨by decide, by decide⟩)
local macro_rules | `(tactic| walk_at "ln") => `(tactic| first | (with_reducible assumption) | (with_reducible omega) | (simp only [List.length_append, List.length_take, List.length_drop, List.length_reverse, List.length_cons, List.length_nil]; with_reducible omega))
local macro_rules | `(tactic| walk_at "rd1") => `(tactic| first
  | (with_reducible refine i_seq ?_) | (with_reducible refine i_asg ?_) | (with_reducible refine i_ret ?_) | (with_reducible refine i_name ?_) | ((with_reducible refine' i_var ?q1 ?_); (case q1 => exact rfl)) | (with_reducible refine i_c ?_) | (with_reducible refine i_op ?_) | (with_reducible refine i_un ?_)
  | (with_reducible refine i_rI0 ?_) | (with_reducible refine i_cb ?_) | (with_reducible refine i_cons ?_) | (with_reducible refine i_nil ?_) | (with_reducible refine i_call ?_) | (with_reducible refine i_if ?_) | (with_reducible refine i_ifE ?_) | (with_reducible refine i_test ?_) | (with_reducible refine i_bl ?_)
  | (with_reducible refine i_and ?_) | (with_reducible refine i_or ?_) | (with_reducible refine i_not ?_) | (with_reducible refine i_lst ?_) | (with_reducible refine i_tup ?_) | (with_reducible refine i_next ?_) | (with_reducible refine i_drop ?_) | (with_reducible refine i_sub ?_)
  | (with_reducible refine i_bm ?_) | (with_reducible refine i_sl ?_) | (with_reducible refine i_part ?_) | (with_reducible refine i_nopart ?_) | (with_reducible refine i_exI ?_) | (with_reducible refine i_chain ?_) | ((with_reducible refine' i_aug ?q1 ?_); (case q1 => exact rfl)) | (with_reducible refine i_ip ?_)
  | (with_reducible refine i_par ?_) | (with_reducible refine i_pair ?_) | (with_reducible refine i_andV ?_) | (with_reducible refine i_orV ?_) | (with_reducible refine i_notV ?_) | (with_reducible refine i_m1 ?_) | (with_reducible refine i_str ?_)
  | (with_reducible refine iteF ?_) | (with_reducible refine iteT ?_) | (with_reducible refine iteNT ?_) | (with_reducible refine iteNF ?_) | (with_reducible refine i_tyS ?_) | (with_reducible refine i_tB ?_) | (with_reducible refine i_retN ?_) | (with_reducible refine i_par3 ?_) | (with_reducible refine i_trip ?_) | (with_reducible refine i_gCons ?_) | (with_reducible refine i_gNil ?_) | (with_reducible refine i_lstRg ?_) | (with_reducible refine i_rg1 ?_)
  | (with_reducible refine i_lc ?_) | (with_reducible refine i_for ?_) | (with_reducible refine i_iList ?_) | (with_reducible refine i_iTup ?_) | (with_reducible refine i_iStr ?_) | (with_reducible refine i_iRng1 ?_) | (with_reducible refine i_iEnS ?_)
  | ((with_reducible refine' i_ixTH ?q1 ?q2 ?_); (case q1 => walk_at "hp"); (case q2 => exact rfl))
  | ((with_reducible refine' i_ixLH ?q1 ?q2 ?_); (case q1 => walk_at "hp"); (case q2 => exact rfl))
  | ((with_reducible refine i_addS ?q1 ?_); (case q1 => walk_at "ln")) | ((with_reducible refine i_lenSS ?q1 ?_); (case q1 => walk_at "ln")) | ((with_reducible refine i_slFrom ?q1 ?q2 ?_); (case q1 => walk_at "ln"); (case q2 => walk_at "ln")) | ((with_reducible refine i_slTo ?q1 ?q2 ?_); (case q1 => walk_at "ln"); (case q2 => walk_at "ln"))
  | ((with_reducible refine' i_tyL ?q1 ?_); (case q1 => walk_at "hp"))
  | ((with_reducible refine' i_gTupH ?q1 ?q2 ?_); (case q1 => walk_at "hp"); (case q2 => exact rfl))
  | (with_reducible refine i_dnew ?_) | (with_reducible refine i_init ?_) | (with_reducible refine i_fst ?_) | (with_reducible refine i_mk ?_) | (with_reducible refine i_mkF ?_) | (with_reducible refine i_raise ?_) | (with_reducible refine i_callS ?_) | (with_reducible refine i_kwS ?_)
  | (with_reducible refine i_revT ?_) | (with_reducible refine i_kw ?_) | ((with_reducible refine' ⟨_, _, rfl, sqT_of ?q1, ?_⟩); (case q1 => walk_at "hp"))
  | (with_reducible refine i_revS ?_) | ((with_reducible refine i_revSS ?q1 ?_); (case q1 => walk_at "ln"))
  | (with_reducible refine i_startS ?_) | (with_reducible refine i_inSg ?_) | (with_reducible refine i_absN ?_) | (with_reducible refine i_min2 ?_) | (with_reducible refine i_max2 ?_) | (with_reducible refine i_min3 ?_) | (with_reducible refine i_intN ?_) | (with_reducible refine i_intNB ?_)
  | ((with_reducible refine' i_lenL ?q1 ?_); (case q1 => walk_at "hp")) | ((with_reducible refine' i_lenT ?q1 ?_); (case q1 => walk_at "hp"))
  | (with_reducible refine i_eqI ?_) | (with_reducible refine i_neI ?_) | (with_reducible refine i_eqS ?_) | (with_reducible refine i_neS ?_) | (with_reducible refine i_isNoI ?_) | (with_reducible refine i_isNoN ?_) | (with_reducible refine i_isNoR ?_)
  | ((with_reducible refine i_pow ?q1 ?q2 ?q3 ?_); (case q1 => decide); (case q2 => decide); (case q3 => (with_reducible omega)))
  | ((with_reducible refine i_rI ?q1 ?_); (case q1 => walk_at "ci"))
  | (with_reducible refine Or.inl ⟨_, rfl, ?_⟩) | (with_reducible refine Or.inr ⟨_, rfl, ?_⟩) | (with_reducible refine ⟨_, rfl, ?_⟩) | (with_reducible refine ⟨_, _, rfl, ?_⟩) | (with_reducible refine ⟨_, _, rfl, rfl, ?_⟩)
  | ((with_reducible refine' ⟨_, _, rfl, Or.inl (sqL_of ?q1), ?_⟩); (case q1 => walk_at "hp")) | ((with_reducible refine' ⟨_, _, rfl, Or.inr (sqT_of ?q1), ?_⟩); (case q1 => walk_at "hp")) | (with_reducible refine i_dget ?_) | (with_reducible refine i_disp1T ?_) | (with_reducible refine i_dcT ?_) | (with_reducible refine i_dnewT ?_) | (with_reducible refine i_fld ?_) | (with_reducible refine i_sFld ?_) | (with_reducible refine i_make ?_) | (with_reducible refine i_meth ?_) | (with_reducible refine i_star ?_) | (with_reducible refine i_isNoS ?_) | (with_reducible refine i_lc2 ?_) | (with_reducible refine i_iEnT ?_) | fail)
local macro_rules | `(tactic| walk_at "rd") => `(tactic| repeat' walk_at "rd1")

section
variable {P : Program} {w : World} {K : PySem.W.Frag} {mg : Str → Option Value} {base : Heap} {f : Addr} {fd : FuncData}
theorem ok__law_take (F : Fun K "_law_take" "_law_take" s__law_take f fd) (z : Z mg) : FnOk P w K mg base CX0 1 f fd ["box", "limit"] spTake := by
  refine F.ok sc__law_take (fun vs H Q E h => ?_) (fun cdv A outer s H vs Q E hr h => ?_)
  · obtain ⟨b, m, d, rfl, _⟩ := h; rfl
  · obtain ⟨b, m, d, rfl, B, hd, hm, hm2, k⟩ := h
    obtain ⟨n, g, c, e, hb, hn, hc0, hc1, he0, he1⟩ := B.ex
    have L : SqL K H b [.int n, .bl g, .int c, .int e] := .inl (.inl hb)
    refine ⟨_, (pss_cons (ps_if (PW.pt (pw_and (pt_val (pe_ix ix_list (pv 0) pe_int (fun _ _ => rfl))) (pw_and1 (pt_cmpR op_gt (pe_ix ix_list (pv 0) pe_int (fun _ _ => rfl)) pe_int (nomark _)))))
        (pss_cons (ps_set (i := 2) sc__law_take.nd rfl (.inl rfl) (pe_op op_mod (pe_callTy call_intN (by rfl) z.int (by decide +kernel) (pa_cons (pe_ix ix_list (pv 0) pe_int (fun _ _ => rfl)) pa_nil)) (pv 1)))
        (pss_cons (ps_asg (pe_op op_fdivW (pe_ix ix_list (pv 0) pe_int (fun _ _ => rfl)) (pv 1)) (pg_sub (pv 0) pe_int set_list))
        (pss_one (ps_ret (pv 2)))))
        pss_nil)
      (pss_cons (ps_asg (pe_op op_add (pe_ix ix_list (pv 0) pe_int (fun _ _ => rfl)) pe_int) (pg_sub (pv 0) pe_int set_list))
      (pss_cons (ps_set (i := 3) sc__law_take.nd rfl (.inl rfl) (pe_op op_mod (pe_callTy call_intN (by rfl) z.int (by decide +kernel) (pa_cons (pe_op op_pow (pe_op op_add (pe_op op_add (pe_ix ix_list (pv 0) pe_int (fun _ _ => rfl)) (pe_op op_mul pe_int (pe_ix ix_list (pv 0) pe_int (fun _ _ => rfl)))) pe_int) pe_int) pa_nil)) pe_int))
      (pss_one (ps_ret (pe_op op_mod (pe_op op_fdiv (pe_op op_mod (pe_callTy call_intN (by rfl) z.int (by decide +kernel) (pa_cons (pe_op op_pow (pe_op op_add (pe_op op_mul (pv 3) pe_int) (pe_op op_mul pe_int (pe_ix ix_list (pv 0) pe_int (fun _ _ => rfl)))) pe_int) pa_nil)) pe_int) pe_int) (pv 1))))))), ?_⟩
    walk_at "rd"
    refine iteC (fun hg => ?_) (fun hg => ?_)
    · walk_at "rd"
      refine iteB (fun h0 => ?_) (fun h0 => ?_)
      · walk_at "rd"
        refine i_rI (wide_div hm (by omega : m.natAbs < 2 ^ 64) (by decide) (by decide)) ?_
        walk_at "rd"
        refine i_setL hb rfl ?_
        walk_at "rd"
        refine k _ _ (Int.emod_nonneg _ (by omega)) (Int.emod_lt_of_pos _ hm) ⟨n / m, g, c, e, upd_same, Int.ediv_nonneg hn (by omega), hc0, hc1, he0, by omega⟩ SB.upd
      · walk_at "rd"
        refine i_setL hb rfl ?_
        walk_at "rd"
        exact k _ _ (Int.emod_nonneg _ (by omega)) (Int.emod_lt_of_pos _ hm) ⟨n, g, c, e + 1, upd_same, hn, hc0, hc1, by omega, by omega⟩ SB.upd
    · walk_at "rd"
      refine i_setL hb rfl ?_
      walk_at "rd"
      exact k _ _ (Int.emod_nonneg _ (by omega)) (Int.emod_lt_of_pos _ hm) ⟨n, g, c, e + 1, upd_same, hn, hc0, hc1, by omega, by omega⟩ SB.upd
theorem ok__law_box (F : Fun K "_law_box" "_law_box" s__law_box f fd) (z : Z mg) : FnOk P w K mg base CX0 1 f fd ["great"] spBox := by
  refine F.ok sc__law_box (fun vs H Q E h => ?_) (fun cdv A outer s H vs Q E hr h => ?_)
  · obtain ⟨n, rfl, _⟩ := h; rfl
  · obtain ⟨n, rfl, k⟩ := h
    refine ⟨_, (pss_one (ps_ret (pe_lst (pa_cons (pe_callB call_absN (by rfl) z.abs (by decide +kernel) (pa_cons (pv 0) pa_nil)) (pa_cons (pe_cmpR op_ge (pe_callB call_absN (by rfl) z.abs (by decide +kernel) (pa_cons (pv 0) pa_nil)) (pe_op op_pow pe_int pe_int) (nomark _)) (pa_cons (pe_op op_mod (pe_callTy call_intN (by rfl) z.int (by decide +kernel) (pa_cons (pe_callB call_absN (by rfl) z.abs (by decide +kernel) (pa_cons (pv 0) pa_nil)) pa_nil)) pe_int) (pa_cons pe_int pa_nil))))))), ?_⟩
    walk_at "rd"
    have q0 := Int.emod_nonneg (if n < 0 then -n else n) (show (2147483629 : Int) ≠ 0 by decide)
    have q1 := Int.emod_lt_of_pos (if n < 0 then -n else n) (show (0 : Int) < 2147483629 by decide)
    refine ⟨Nat.le_of_ble_eq_true rfl, fun p np => ?_⟩
    refine k p _ np (same_upd np) ⟨_, _, _, _, upd_same, by split <;> omega, q0, q1, by omega, by omega⟩
theorem ok__law_cell (F : Fun K "_law_cell" "_law_cell" s__law_cell f fd) (z : Z mg) : FnOk P w K mg base CX0 1 f fd ["script", "k"] (spCell K) := by
  refine F.ok sc__law_cell (fun vs H Q E h => ?_) (fun cdv A outer s H vs Q E hr h => ?_)
  · obtain ⟨a, ns, j, rfl, _⟩ := h; rfl
  · obtain ⟨a, ns, j, rfl, L, h0, h1, k⟩ := h
    refine ⟨_, (pss_one (ps_ret (pe_ifExp (pt_cmpR op_lt (pv 1) (pe_callB call_lenQ (by rfl) z.len PySem.boot_len (pa_cons (pv 0) pa_nil)) (nomark _)) (pe_ix ix_list (pv 0) (pv 1) (fun _ _ => rfl)) (pe_op op_add (pe_op op_mul pe_int (pv 1)) (pe_op op_mod (pe_callB (cr_sum rfl) (by rfl) z.sum (by decide +kernel) (pa_cons (pe_slice sl_list (pv 0) po_none (po_some pe_int)) pa_nil)) pe_int))))), ?_⟩
    walk_at "rd"
    refine i_lenK L ?_
    walk_at "rd"
    rw [List.length_map]
    refine iteB (fun hlt => ?_) (fun hlt => ?_)
    · walk_at "rd"
      refine i_ixL L (atI_ints h0 hlt) ?_
      exact k _ _ (Same.refl _)
    · walk_at "rd"
      refine ⟨a, _, rfl, L, fun p np => ?_⟩
      walk_at "rd"
      have e : cutV (ns.map V.int) none (some 1) = (ns.take 1).map V.int := by
        unfold cutV
        rw [show HT.sIx (ns.map V.int).length (ns.map V.int).length (some 1) = min 1 (ns.map V.int).length from HT.sIx_nat _ _ 1, HT.sIx_none, List.drop_zero, Nat.sub_zero, List.map_take]
        rcases Nat.le_total 1 (ns.map V.int).length with q | q
        · rw [Nat.min_eq_left q]
        · rw [Nat.min_eq_right q, List.take_length, List.take_of_length_le q]
      rw [e]
      refine ⟨p, ns.take 1, rfl, sqL_of upd_same, ?_⟩
      walk_at "rd"
      exact k _ _ (same_upd np)
end
end Sw
namespace Sw
open PySem PySem.Spec PyProof.Rows L2
local macro_rules | `(tactic| walk_at "hp") => `(tactic| first
  | (with_reducible assumption) | (with_reducible exact upd_same)
  | ((with_reducible refine' upd_old ?q1 ?q2); (case q1 => (with_reducible assumption)); (case q2 => walk_at "hp"))
  | ((with_reducible refine' Same.at ?q1 ?q2); (case q1 => (with_reducible assumption)); (case q2 => walk_at "hp"))
  | ((with_reducible refine' upd_skip ?q1 ?q2); (case q1 => walk_at "ne"); (case q2 => walk_at "hp"))
  | fail)
local macro_rules | `(tactic| walk_at "ne") => `(tactic| first
  | (with_reducible assumption) | (with_reducible exact Ne.symm (by assumption))
  | ((with_reducible refine' ne_of_none ?q1 ?q2); (case q2 => (with_reducible assumption)); (case q1 => walk_at "hp"))
  | fail)
local macro_rules | `(tactic| walk_at "ci") => `(tactic| first | assumption | (show (0 : Int) < _; first | decide | (with_reducible omega)) | exact ⟨by decide, by decide⟩ | exact .inl ⟨by decide, by decide⟩ | exact .inr ⟨by decide, by decide⟩)
local macro_rules | `(tactic| walk_at "ln") => `(tactic| first | (with_reducible assumption) | (with_reducible omega) | (simp only [List.length_append, List.length_take, List.length_drop, List.length_reverse, List.length_cons, List.length_nil]; with_reducible omega))
local macro_rules | `(tactic| walk_at "rd1") => `(tactic| first
  | (with_reducible refine i_seq ?_) | (with_reducible refine i_asg ?_) | (with_reducible refine i_ret ?_) | (with_reducible refine i_name ?_) | ((with_reducible refine' i_var ?q1 ?_); (case q1 => exact rfl)) | (with_reducible refine i_c ?_) | (with_reducible refine i_op ?_) | (with_reducible refine i_un ?_)
  | (with_reducible refine i_rI0 ?_) | (with_reducible refine i_cb ?_) | (with_reducible refine i_cons ?_) | (with_reducible refine i_nil ?_) | (with_reducible refine i_call ?_) | (with_reducible refine i_if ?_) | (with_reducible refine i_ifE ?_) | (with_reducible refine i_test ?_) | (with_reducible refine i_bl ?_)
  | (with_reducible refine i_and ?_) | (with_reducible refine i_or ?_) | (with_reducible refine i_not ?_) | (with_reducible refine i_lst ?_) | (with_reducible refine i_tup ?_) | (with_reducible refine i_next ?_) | (with_reducible refine i_drop ?_) | (with_reducible refine i_sub ?_)
  | (with_reducible refine i_bm ?_) | (with_reducible refine i_sl ?_) | (with_reducible refine i_part ?_) | (with_reducible refine i_nopart ?_) | (with_reducible refine i_exI ?_) | (with_reducible refine i_chain ?_) | ((with_reducible refine' i_aug ?q1 ?_); (case q1 => exact rfl)) | (with_reducible refine i_ip ?_)
  | (with_reducible refine i_par ?_) | (with_reducible refine i_pair ?_) | (with_reducible refine i_andV ?_) | (with_reducible refine i_orV ?_) | (with_reducible refine i_notV ?_) | (with_reducible refine i_m1 ?_) | (with_reducible refine i_str ?_)
  | (with_reducible refine iteF ?_) | (with_reducible refine iteT ?_) | (with_reducible refine iteNT ?_) | (with_reducible refine iteNF ?_) | (with_reducible refine i_tyS ?_) | (with_reducible refine i_tB ?_) | (with_reducible refine i_retN ?_) | (with_reducible refine i_par3 ?_) | (with_reducible refine i_trip ?_) | (with_reducible refine i_gCons ?_) | (with_reducible refine i_gNil ?_) | (with_reducible refine i_lstRg ?_) | (with_reducible refine i_rg1 ?_)
  | (with_reducible refine i_lc ?_) | (with_reducible refine i_for ?_) | (with_reducible refine i_iList ?_) | (with_reducible refine i_iTup ?_) | (with_reducible refine i_iStr ?_) | (with_reducible refine i_iRng1 ?_) | (with_reducible refine i_iEnS ?_)
  | ((with_reducible refine' i_ixTH ?q1 ?q2 ?_); (case q1 => walk_at "hp"); (case q2 => exact rfl))
  | ((with_reducible refine' i_ixLH ?q1 ?q2 ?_); (case q1 => walk_at "hp"); (case q2 => exact rfl))
  | ((with_reducible refine i_addS ?q1 ?_); (case q1 => walk_at "ln")) | ((with_reducible refine i_lenSS ?q1 ?_); (case q1 => walk_at "ln")) | ((with_reducible refine i_slFrom ?q1 ?q2 ?_); (case q1 => walk_at "ln"); (case q2 => walk_at "ln")) | ((with_reducible refine i_slTo ?q1 ?q2 ?_); (case q1 => walk_at "ln"); (case q2 => walk_at "ln"))
  | ((with_reducible refine' i_tyL ?q1 ?_); (case q1 => walk_at "hp"))
  | ((with_reducible refine' i_gTupH ?q1 ?q2 ?_); (case q1 => walk_at "hp"); (case q2 => exact rfl))
  | (with_reducible refine i_dnew ?_) | (with_reducible refine i_init ?_) | (with_reducible refine i_fst ?_) | (with_reducible refine i_mk ?_) | (with_reducible refine i_mkF ?_) | (with_reducible refine i_raise ?_) | (with_reducible refine i_callS ?_) | (with_reducible refine i_kwS ?_)
  | (with_reducible refine i_revT ?_) | (with_reducible refine i_kw ?_) | ((with_reducible refine' ⟨_, _, rfl, sqT_of ?q1, ?_⟩); (case q1 => walk_at "hp"))
  | (with_reducible refine i_revS ?_) | ((with_reducible refine i_revSS ?q1 ?_); (case q1 => walk_at "ln"))
  | (with_reducible refine i_startS ?_) | (with_reducible refine i_inSg ?_) | (with_reducible refine i_absN ?_) | (with_reducible refine i_min2 ?_) | (with_reducible refine i_max2 ?_) | (with_reducible refine i_min3 ?_) | (with_reducible refine i_intN ?_) | (with_reducible refine i_intNB ?_)
  | ((with_reducible refine' i_lenL ?q1 ?_); (case q1 => walk_at "hp")) | ((with_reducible refine' i_lenT ?q1 ?_); (case q1 => walk_at "hp"))
  | (with_reducible refine i_eqI ?_) | (with_reducible refine i_neI ?_) | (with_reducible refine i_eqS ?_) | (with_reducible refine i_neS ?_) | (with_reducible refine i_isNoI ?_) | (with_reducible refine i_isNoN ?_) | (with_reducible refine i_isNoR ?_)
  | ((with_reducible refine i_pow ?q1 ?q2 ?q3 ?_); (case q1 => decide); (case q2 => decide); (case q3 => (with_reducible omega)))
  | ((with_reducible refine i_rI ?q1 ?_); (case q1 => walk_at "ci"))
  | (with_reducible refine Or.inl ⟨_, rfl, ?_⟩) | (with_reducible refine Or.inr ⟨_, rfl, ?_⟩) | (with_reducible refine ⟨_, rfl, ?_⟩) | (with_reducible refine ⟨_, _, rfl, ?_⟩) | (with_reducible refine ⟨_, _, rfl, rfl, ?_⟩)
  | ((with_reducible refine' ⟨_, _, rfl, Or.inl (sqL_of ?q1), ?_⟩); (case q1 => walk_at "hp")) | ((with_reducible refine' ⟨_, _, rfl, Or.inr (sqT_of ?q1), ?_⟩); (case q1 => walk_at "hp")) | (with_reducible refine i_dget ?_) | (with_reducible refine i_disp1T ?_) | (with_reducible refine i_dcT ?_) | (with_reducible refine i_dnewT ?_) | (with_reducible refine i_fld ?_) | (with_reducible refine i_sFld ?_) | (with_reducible refine i_make ?_) | (with_reducible refine i_meth ?_) | (with_reducible refine i_star ?_) | (with_reducible refine i_isNoS ?_) | (with_reducible refine i_lc2 ?_) | (with_reducible refine i_iEnT ?_) | fail)
local macro_rules | `(tactic| walk_at "rd") => `(tactic| repeat' walk_at "rd1")

def seqB (d : PyData) : Bool := tyB "list" d || tyB "tuple" d
theorem seqB_of (d : PyData) : seqB d = (seqOf d).isSome := by cases d <;> rfl
/-- a list or a tuple -/
abbrev SqX (K : PySem.W.Frag) (H : Hp) (a : Addr) (xs : List V) : Prop := SqL K H a xs ∨ SqT K H a xs
theorem SqX.same {K : PySem.W.Frag} {H H' : Hp} {a : Addr} {xs : List V} (h : SqX K H a xs) (s : Same H H') : SqX K H' a xs := h.imp (Same.sqL s) (Same.sqT s)
theorem deSeq {K : PySem.W.Frag} {H : Hp} {x : V} {d : PyData} {ds : List PyData} (h : De K H x d) (e : seqOf d = some ds) : ∃ a xs, x = .ref a ∧ SqX K H a xs ∧ DeAll K H xs ds := by
  cases h with
  | lst h1 _ h2 => cases e; exact ⟨_, _, rfl, .inl (sqL_of h1), h2⟩
  | tup h1 h2 => cases e; exact ⟨_, _, rfl, .inr h1, h2⟩
  | _ => cases e
theorem i_ixX {K : PySem.W.Frag} {p : Addr} {xs : List V} {i : Int} {v : V} {H : Hp} {Q : VK} (h1 : SqX K H p xs) (h2 : atI xs i = some v) (h : Q v H) : rIx K (.ref p) (.int i) H Q := by
  rcases h1 with h1 | h1
  · exact .inl (i_ixL h1 h2 h)
  · exact .inr (.inl (i_ixT h1 h2 h))
theorem i_lenX {K : PySem.W.Frag} {p : Addr} {xs : List V} {H : Hp} {Q : VK} (h1 : SqX K H p xs) (h : Q (.int xs.length) H) : rLenQ K [.ref p] H Q := ⟨p, xs, rfl, h1, h⟩
theorem i_ixXn {K : PySem.W.Frag} {p : Addr} {xs : List V} {i : Int} {v : V} {H : Hp} {Q : VK} (h1 : SqX K H p xs) (h0 : 0 ≤ i) (h2 : xs[i.toNat]? = some v) (h : Q v H) : rIx K (.ref p) (.int i) H Q := by
  refine i_ixX h1 ?_ h
  have e := atI_nat (xs := xs) (j := i.toNat) (v := v) h2
  rwa [show ((i.toNat : Nat) : Int) = i by omega] at e
abbrev iV (n : Nat) : V := .int (n : Int)
theorem ints_deI {K : PySem.W.Frag} {H : Hp} : ∀ {fs : List Nat} {xs : List V}, DeAll K H xs (fs.map fun x : Nat => PyData.int (x : Int)) → xs = fs.map iV
  | [], _, .nil => rfl
  | x :: fs, _, .cons h1 h2 => by rw [h1.intI, ints_deI h2]; rfl
theorem getD_map {fs : List Nat} {i : Nat} (h : i < fs.length) : (fs.map iV)[i]? = some (iV (fs.getD i 0)) := by
  rw [List.getElem?_map, List.getD_eq_getElem?_getD, List.getElem?_eq_getElem h]; rfl
/-- is_list(value) -/
def spSeq (K : PySem.W.Frag) : Sp := fun vs H Q _ => ∃ x d, vs = [x] ∧ De K H x d ∧ ∀ H', Same H H' → Q (.bl (seqB d)) H'
/-- is_integer(value) -/
def spInt (K : PySem.W.Frag) : Sp := fun vs H Q _ => ∃ x d, vs = [x] ∧ De K H x d ∧ Q (.bl (isI d)) H
/-- is_count(value), _law_is_count(thing) -/
def spCnt (K : PySem.W.Frag) : Sp := fun vs H Q _ => ∃ x d, vs = [x] ∧ De K H x d ∧ Q (.bl (cntB d)) H
/-- check_count(count) -/
def spCkC (K : PySem.W.Frag) (C : Addr) : Sp := fun vs H Q E => ∃ x d, vs = [x] ∧ De K H x d ∧ (cntB d = true → Q .non H) ∧ (cntB d = false → ∀ dx H', H dx = none → Same H H' → H' dx = some (.xd [("given", x)]) → E (.ref C) (some dx) H')
/-- number_at(row, many) -/
def spNum (K : PySem.W.Frag) : Sp := fun vs H Q _ => ∃ (t a : Addr) (fs : List Nat) (p g i : Nat), vs = [.ref t, iV i] ∧ SqT K H t [.ref a, iV p, iV g] ∧ SqX K H a (fs.map iV) ∧ 1 ≤ p ∧ p ≤ fs.length ∧ fs.length ≤ 8 ∧ p ≤ 4 ∧ i ≤ 10000 ∧ Q (iV (numAt fs p g i)) H
theorem tyB_int (d : PyData) : (tyB "int" d && !tyB "bool" d) = isI d := by cases d <;> rfl
theorem De.intB {K : PySem.W.Frag} {H : Hp} {x : V} {d : PyData} (h : De K H x d) (h2 : isI d = true) : ∃ i, d = .int i ∧ x = .int i := by
  cases h with
  | int i => exact ⟨i, rfl, rfl⟩
  | _ => cases h2
section
variable {P : Program} {w : World} {K : PySem.W.Frag} {mg : Str → Option Value} {base : Heap} {f : Addr} {fd : FuncData}
theorem ok_list (F : Fun K "is_list" "is_list" s_is_list f fd) (z : Z mg) : FnOk P w K mg base CX0 1 f fd ["value"] (spSeq K) := by
  refine F.ok sc_is_list (fun vs H Q E h => ?_) (fun cdv A outer s H vs Q E hr h => ?_)
  · obtain ⟨x, d, rfl, _⟩ := h; rfl
  · obtain ⟨x, d, rfl, hx, k⟩ := h
    refine ⟨_, (pss_one (ps_ret (pe_callB call_isiT (by rfl) z.isinstance (by decide +kernel) (pa_cons (pv 0) (pa_cons (pe_tup (pa_cons (pe_bltn (v := .ty "list") (by rfl) z.list (by decide +kernel) rfl) (pa_cons (pe_bltn (v := .ty "tuple") (by rfl) z.tuple (by decide +kernel) rfl) pa_nil))) pa_nil))))), ?_⟩
    walk_at "rd"
    refine ⟨Nat.le_of_ble_eq_true rfl, fun p np => ?_⟩
    walk_at "rd"
    exact (hx.same (same_upd np)).isiLT upd_same (k _ (same_upd np))
theorem ok_integer (F : Fun K "is_integer" "is_integer" s_is_integer f fd) (z : Z mg) : FnOk P w K mg base CX0 1 f fd ["value"] (spInt K) := by
  refine F.ok sc_is_integer (fun vs H Q E h => ?_) (fun cdv A outer s H vs Q E hr h => ?_)
  · obtain ⟨x, d, rfl, _⟩ := h; rfl
  · obtain ⟨x, d, rfl, hx, k⟩ := h
    refine ⟨_, (pss_one (ps_ret (pe_and (pe_callB call_isi (by rfl) z.isinstance (by decide +kernel) (pa_cons (pv 0) (pa_cons (pe_bltn (v := .ty "int") (by rfl) z.int (by decide +kernel) rfl) pa_nil))) (pe_one (pe_not (pe_callB call_isi (by rfl) z.isinstance (by decide +kernel) (pa_cons (pv 0) (pa_cons (pe_bltn (v := .ty "bool") (by rfl) z.bool (by decide +kernel) rfl) pa_nil)))))))), ?_⟩
    walk_at "rd"
    refine hx.isi (by simp) ?_
    walk_at "rd"
    rcases e : tyB "int" d with _ | _
    · rw [← tyB_int, e] at k
      walk_at "rd"
      exact k
    · rw [← tyB_int, e] at k
      walk_at "rd"
      refine hx.isi (by simp) ?_
      walk_at "rd"
      exact k
theorem ok_count (F : Fun K "is_count" "is_count" s_is_count f fd) (c_is_integer : Cal P w K mg base "is_integer" ["value"] 1 (spInt K)) : FnOk P w K mg base CX0 2 f fd ["value"] (spCnt K) := by
  refine F.ok sc_is_count (fun vs H Q E h => ?_) (fun cdv A outer s H vs Q E hr h => ?_)
  · obtain ⟨x, d, rfl, _⟩ := h; rfl
  · obtain ⟨x, d, rfl, hx, k⟩ := h
    refine ⟨_, (pss_one (ps_ret (pe_and (pe_cal c_is_integer hr (pa_cons (pv 0) pa_nil)) (pe_one (pe_cmpR op_ge (pv 0) pe_int (nomark _)))))), ?_⟩
    walk_at "rd"
    refine ⟨x, d, rfl, hx, ?_⟩
    walk_at "rd"
    rcases e : isI d with _ | _
    · have : cntB d = false := by cases d <;> first | rfl | cases e
      rw [this] at k
      walk_at "rd"
      exact k
    · obtain ⟨i, rfl, rfl⟩ := hx.intB e
      walk_at "rd"
      exact k
theorem ok_lcount (F : Fun K "_law_is_count" "_law_is_count" s__law_is_count f fd) (z : Z mg) : FnOk P w K mg base CX0 1 f fd ["thing"] (spCnt K) := by
  refine F.ok sc__law_is_count (fun vs H Q E h => ?_) (fun cdv A outer s H vs Q E hr h => ?_)
  · obtain ⟨x, d, rfl, _⟩ := h; rfl
  · obtain ⟨x, d, rfl, hx, k⟩ := h
    refine ⟨_, (pss_one (ps_ret (pe_and (pe_callB call_isi (by rfl) z.isinstance (by decide +kernel) (pa_cons (pv 0) (pa_cons (pe_bltn (v := .ty "int") (by rfl) z.int (by decide +kernel) rfl) pa_nil))) (pe_and (pe_not (pe_callB call_isi (by rfl) z.isinstance (by decide +kernel) (pa_cons (pv 0) (pa_cons (pe_bltn (v := .ty "bool") (by rfl) z.bool (by decide +kernel) rfl) pa_nil)))) (pe_one (pe_cmpR op_ge (pv 0) pe_int (nomark _))))))), ?_⟩
    walk_at "rd"
    refine hx.isi (by simp) ?_
    walk_at "rd"
    rcases e : tyB "int" d with _ | _
    · have : cntB d = false := by cases d <;> first | rfl | cases e
      rw [this] at k
      walk_at "rd"
      exact k
    · walk_at "rd"
      refine hx.isi (by simp) ?_
      walk_at "rd"
      rcases e2 : tyB "bool" d with _ | _
      · obtain ⟨i, rfl, rfl⟩ := hx.intB (by rw [← tyB_int, e, e2]; rfl)
        walk_at "rd"
        exact k
      · have : cntB d = false := by cases d <;> first | rfl | cases e2
        rw [this] at k
        walk_at "rd"
        exact k
theorem ok_ckC {C : Addr} (F : Fun K "check_count" "check_count" s_check_count f fd) (xc : XQ "InvalidCount" P w K mg base C) (c_is_count : Cal P w K mg base "is_count" ["value"] 2 (spCnt K)) : FnOk P w K mg base (L2.CX P w) 3 f fd ["count"] (spCkC K C) := by
  refine Sw.Fun.okX F sc_check_count (fun vs H Q E h => ?_) (fun cdv A outer s H vs Q E hr h tk => ?_)
  · obtain ⟨x, d, rfl, _⟩ := h; rfl
  · obtain ⟨x, d, rfl, hx, k1, k2⟩ := h
    refine ⟨_, (pss_one (ps_if (pt_not (pt_val (pe_cal c_is_count hr (pa_cons (pv 0) pa_nil))))
        (pss_one (ps_rs rfl tk (pmk_Q xc hr (pv 0))))
        pss_nil)), ?_⟩
    walk_at "rd"
    refine ⟨x, d, rfl, hx, ?_⟩
    walk_at "rd"
    refine iteNC (fun e => ?_) (fun e => ?_)
    · walk_at "rd"
      refine i_thrown xc.T xc.no (fun dx nx => ?_)
      exact k2 e dx _ nx (same_upd nx) upd_same
    · walk_at "rd"
      exact k1 e
theorem ok_num (F : Fun K "number_at" "number_at" s_number_at f fd) (z : Z mg) : FnOk P w K mg base CX0 1 f fd ["row", "many"] (spNum K) := by
  refine F.ok sc_number_at (fun vs H Q E h => ?_) (fun cdv A outer s H vs Q E hr h => ?_)
  · obtain ⟨t, a, fs, p, g, i, rfl, _⟩ := h; rfl
  · obtain ⟨t, a, fs, p, g, i, rfl, ht, ha, p1, pl, l8, p4, hi, k⟩ := h
    refine ⟨_, (pss_cons (ps_asg (pv 0) (pg_tup rfl (pgs_cons (pg_name (i := 2) sc_number_at.nd rfl (.inl rfl)) (pgs_cons (pg_name (i := 3) sc_number_at.nd rfl (.inl rfl)) (pgs_cons (pg_name (i := 4) sc_number_at.nd rfl (.inl rfl)) pgs_nil)))))
      (pss_cons (ps_if (pt_cmpR op_lt (pv 1) (pe_callB call_lenQ (by rfl) z.len PySem.boot_len (pa_cons (pv 2) pa_nil)) (nomark _))
        (pss_one (ps_ret (pe_ix ix_seq (pv 2) (pv 1) (fun _ _ => rfl))))
        pss_nil)
      (pss_cons (ps_set (i := 5) sc_number_at.nd rfl (.inl rfl) (pe_op op_add (pe_op op_fdiv (pe_op op_sub (pv 1) (pe_callB call_lenQ (by rfl) z.len PySem.boot_len (pa_cons (pv 2) pa_nil))) (pv 3)) pe_int))
      (pss_one (ps_ret (pe_op op_add (pe_ix ix_seq (pv 2) (pe_op op_sub (pv 1) (pe_op op_mul (pv 5) (pv 3))) (fun _ _ => rfl)) (pe_op op_mul (pv 5) (pv 4)))))))), ?_⟩
    walk_at "rd"
    refine ⟨t, _, rfl, ht, rfl, ?_⟩
    walk_at "rd"
    refine i_lenX ha ?_
    walk_at "rd"
    rw [List.length_map]
    refine iteB (fun c => ?_) (fun c => ?_)
    · have c : i < fs.length := by have c : (i : Int) < (fs.length : Int) := c; omega
      walk_at "rd"
      refine i_ixXn ha (by omega) (by rw [Int.toNat_natCast]; exact getD_map c) ?_
      rw [numAt_low c] at k
      exact k
    · have c : fs.length ≤ i := by have c : ¬ (i : Int) < (fs.length : Int) := c; omega
      obtain ⟨h1, h2⟩ := idx_ok p1 pl c
      have e : numAt fs p g i = fs.getD (i - ((i - fs.length) / p + 1) * p) 0 + ((i - fs.length) / p + 1) * g := by unfold numAt; rw [if_neg (by omega)]
      rw [e] at k
      walk_at "rd"
      refine i_lenX ha ?_
      walk_at "rd"
      rw [List.length_map]
      refine i_rI ⟨by omega, by omega⟩ ?_
      rw [show ((i : Int) - (fs.length : Int)) / (p : Int) = (((i - fs.length) / p : Nat) : Int) by rw [Int.natCast_ediv, Int.ofNat_sub c]]
      generalize (i - fs.length) / p = q at *
      walk_at "rd"
      refine i_rI (Or.inr ⟨by omega, by omega⟩) ?_
      walk_at "rd"
      rw [show (i : Int) - ((q : Int) + 1) * (p : Int) = ((i - (q + 1) * p : Nat) : Int) by rw [Int.ofNat_sub h1, Int.natCast_mul]; rfl]
      refine i_ixXn ha (by omega) (by rw [Int.toNat_natCast]; exact getD_map h2) ?_
      walk_at "rd"
      have hq : q + 1 ≤ (q + 1) * p := Nat.le_mul_of_pos_right _ (by omega)
      refine i_rI (Or.inl ⟨by omega, by omega⟩) ?_
      walk_at "rd"
      rw [show ((fs.getD (i - (q + 1) * p) 0 : Nat) : Int) + ((q : Int) + 1) * (g : Int) = ((fs.getD (i - (q + 1) * p) 0 + (q + 1) * g : Nat) : Int) by rw [Int.natCast_add, Int.natCast_mul]; rfl]
      exact k
end
end Sw
namespace Sw
open PySem PySem.Spec PyProof.Rows L2
local macro_rules | `(tactic| walk_at "hp") => `(tactic| first
  | (with_reducible assumption) | (with_reducible exact upd_same)
  | ((with_reducible refine' upd_old ?q1 ?q2); (case q1 => (with_reducible assumption)); (case q2 => walk_at "hp"))
  | ((with_reducible refine' Same.at ?q1 ?q2); (case q1 => (with_reducible assumption)); (case q2 => walk_at "hp"))
  | ((with_reducible refine' upd_skip ?q1 ?q2); (case q1 => walk_at "ne"); (case q2 => walk_at "hp"))
  | fail)
local macro_rules | `(tactic| walk_at "ne") => `(tactic| first
  | (with_reducible assumption) | (with_reducible exact Ne.symm (by assumption))
  | ((with_reducible refine' ne_of_none ?q1 ?q2); (case q2 => (with_reducible assumption)); (case q1 => walk_at "hp"))
  | fail)
local macro_rules | `(tactic| walk_at "ci") => `(tactic| first | assumption | (show (0 : Int) < _; first | decide | (with_reducible omega)) | exact ⟨by decide, by decide⟩ | exact .inl ⟨by decide, by decide⟩ | exact .inr ⟨by decide, by decide⟩)
local macro_rules | `(tactic| walk_at "ln") => `(tactic| first | (with_reducible assumption) | (with_reducible omega) | (simp only [List.length_append, List.length_take, List.length_drop, List.length_reverse, List.length_cons, List.length_nil]; with_reducible omega))
local macro_rules | `(tactic| walk_at "rd1") => `(tactic| first
  | (with_reducible refine i_seq ?_) | (with_reducible refine i_asg ?_) | (with_reducible refine i_ret ?_) | (with_reducible refine i_name ?_) | ((with_reducible refine' i_var ?q1 ?_); (case q1 => exact rfl)) | (with_reducible refine i_c ?_) | (with_reducible refine i_op ?_) | (with_reducible refine i_un ?_)
  | (with_reducible refine i_rI0 ?_) | (with_reducible refine i_cb ?_) | (with_reducible refine i_cons ?_) | (with_reducible refine i_nil ?_) | (with_reducible refine i_call ?_) | (with_reducible refine i_if ?_) | (with_reducible refine i_ifE ?_) | (with_reducible refine i_test ?_) | (with_reducible refine i_bl ?_)
  | (with_reducible refine i_and ?_) | (with_reducible refine i_or ?_) | (with_reducible refine i_not ?_) | (with_reducible refine i_lst ?_) | (with_reducible refine i_tup ?_) | (with_reducible refine i_next ?_) | (with_reducible refine i_drop ?_) | (with_reducible refine i_sub ?_)
  | (with_reducible refine i_bm ?_) | (with_reducible refine i_sl ?_) | (with_reducible refine i_part ?_) | (with_reducible refine i_nopart ?_) | (with_reducible refine i_exI ?_) | (with_reducible refine i_chain ?_) | ((with_reducible refine' i_aug ?q1 ?_); (case q1 => exact rfl)) | (with_reducible refine i_ip ?_)
  | (with_reducible refine i_par ?_) | (with_reducible refine i_pair ?_) | (with_reducible refine i_andV ?_) | (with_reducible refine i_orV ?_) | (with_reducible refine i_notV ?_) | (with_reducible refine i_m1 ?_) | (with_reducible refine i_str ?_)
  | (with_reducible refine iteF ?_) | (with_reducible refine iteT ?_) | (with_reducible refine iteNT ?_) | (with_reducible refine iteNF ?_) | (with_reducible refine i_tyS ?_) | (with_reducible refine i_tB ?_) | (with_reducible refine i_retN ?_) | (with_reducible refine i_par3 ?_) | (with_reducible refine i_trip ?_) | (with_reducible refine i_gCons ?_) | (with_reducible refine i_gNil ?_) | (with_reducible refine i_lstRg ?_) | (with_reducible refine i_rg1 ?_)
  | (with_reducible refine i_lc ?_) | (with_reducible refine i_for ?_) | (with_reducible refine i_iList ?_) | (with_reducible refine i_iTup ?_) | (with_reducible refine i_iStr ?_) | (with_reducible refine i_iRng1 ?_) | (with_reducible refine i_iEnS ?_)
  | ((with_reducible refine' i_ixTH ?q1 ?q2 ?_); (case q1 => walk_at "hp"); (case q2 => exact rfl))
  | ((with_reducible refine' i_ixLH ?q1 ?q2 ?_); (case q1 => walk_at "hp"); (case q2 => exact rfl))
  | ((with_reducible refine i_addS ?q1 ?_); (case q1 => walk_at "ln")) | ((with_reducible refine i_lenSS ?q1 ?_); (case q1 => walk_at "ln")) | ((with_reducible refine i_slFrom ?q1 ?q2 ?_); (case q1 => walk_at "ln"); (case q2 => walk_at "ln")) | ((with_reducible refine i_slTo ?q1 ?q2 ?_); (case q1 => walk_at "ln"); (case q2 => walk_at "ln"))
  | ((with_reducible refine' i_tyL ?q1 ?_); (case q1 => walk_at "hp"))
  | ((with_reducible refine' i_gTupH ?q1 ?q2 ?_); (case q1 => walk_at "hp"); (case q2 => exact rfl))
  | (with_reducible refine i_dnew ?_) | (with_reducible refine i_init ?_) | (with_reducible refine i_fst ?_) | (with_reducible refine i_mk ?_) | (with_reducible refine i_mkF ?_) | (with_reducible refine i_raise ?_) | (with_reducible refine i_callS ?_) | (with_reducible refine i_kwS ?_)
  | (with_reducible refine i_revT ?_) | (with_reducible refine i_kw ?_) | ((with_reducible refine' ⟨_, _, rfl, sqT_of ?q1, ?_⟩); (case q1 => walk_at "hp"))
  | (with_reducible refine i_revS ?_) | ((with_reducible refine i_revSS ?q1 ?_); (case q1 => walk_at "ln"))
  | (with_reducible refine i_startS ?_) | (with_reducible refine i_inSg ?_) | (with_reducible refine i_absN ?_) | (with_reducible refine i_min2 ?_) | (with_reducible refine i_max2 ?_) | (with_reducible refine i_min3 ?_) | (with_reducible refine i_intN ?_) | (with_reducible refine i_intNB ?_)
  | ((with_reducible refine' i_lenL ?q1 ?_); (case q1 => walk_at "hp")) | ((with_reducible refine' i_lenT ?q1 ?_); (case q1 => walk_at "hp"))
  | (with_reducible refine i_eqI ?_) | (with_reducible refine i_neI ?_) | (with_reducible refine i_eqS ?_) | (with_reducible refine i_neS ?_) | (with_reducible refine i_isNoI ?_) | (with_reducible refine i_isNoN ?_) | (with_reducible refine i_isNoR ?_)
  | ((with_reducible refine i_pow ?q1 ?q2 ?q3 ?_); (case q1 => decide); (case q2 => decide); (case q3 => (with_reducible omega)))
  | ((with_reducible refine i_rI ?q1 ?_); (case q1 => walk_at "ci"))
  | (with_reducible refine Or.inl ⟨_, rfl, ?_⟩) | (with_reducible refine Or.inr ⟨_, rfl, ?_⟩) | (with_reducible refine ⟨_, rfl, ?_⟩) | (with_reducible refine ⟨_, _, rfl, ?_⟩) | (with_reducible refine ⟨_, _, rfl, rfl, ?_⟩)
  | ((with_reducible refine' ⟨_, _, rfl, Or.inl (sqL_of ?q1), ?_⟩); (case q1 => walk_at "hp")) | ((with_reducible refine' ⟨_, _, rfl, Or.inr (sqT_of ?q1), ?_⟩); (case q1 => walk_at "hp")) | (with_reducible refine i_dget ?_) | (with_reducible refine i_disp1T ?_) | (with_reducible refine i_dcT ?_) | (with_reducible refine i_dnewT ?_) | (with_reducible refine i_fld ?_) | (with_reducible refine i_sFld ?_) | (with_reducible refine i_make ?_) | (with_reducible refine i_meth ?_) | (with_reducible refine i_star ?_) | (with_reducible refine i_isNoS ?_) | (with_reducible refine i_lc2 ?_) | (with_reducible refine i_iEnT ?_) | fail)
local macro_rules | `(tactic| walk_at "rd") => `(tactic| repeat' walk_at "rd1")

/-- are_numbers(value) -/
def spNms (K : PySem.W.Frag) : Sp := fun vs H Q _ => ∃ x d, vs = [x] ∧ De K H x d ∧ ∀ H', Same H H' → Q (.bl (numsOf d).isSome) H'
/-- is_row(value) -/
def spRowB (K : PySem.W.Frag) : Sp := fun vs H Q _ => ∃ x d, vs = [x] ∧ De K H x d ∧ ∀ H', Same H H' → Q (.bl (rowOf d).isSome) H'
theorem cnt40 (d : PyData) : (nat40 d).isSome = (cntB d && match d with | .int i => decide (i ≤ 40) | _ => false) := by
  cases d with
  | int i =>
    simp only [nat40, cntB]
    by_cases c : 0 ≤ i ∧ i ≤ 40
    · rw [if_pos c, decide_eq_true c.1, decide_eq_true c.2]; rfl
    · rw [if_neg c]
      by_cases c1 : 0 ≤ i
      · rw [decide_eq_true c1, decide_eq_false (fun q => c ⟨c1, q⟩)]; rfl
      · rw [decide_eq_false c1]; rfl
  | _ => rfl
theorem De.cnt {K : PySem.W.Frag} {H : Hp} {x : V} {d : PyData} (h : De K H x d) (h2 : cntB d = true) : ∃ i : Nat, d = .int (i : Int) ∧ x = iV i := by
  cases h with
  | int i =>
    simp only [cntB, decide_eq_true_eq] at h2
    exact ⟨i.toNat, by rw [Int.toNat_of_nonneg h2], by show V.int i = V.int (i.toNat : Int); rw [Int.toNat_of_nonneg h2]⟩
  | _ => cases h2
section
variable {P : Program} {w : World} {K : PySem.W.Frag} {mg : Str → Option Value} {base : Heap} {f : Addr} {fd : FuncData}
theorem ok_nms (F : Fun K "are_numbers" "are_numbers" s_are_numbers f fd) (z : Z mg) {t8 t40 : Tok} (g_MOST_FIRST : mg "MOST_FIRST" = some (.int 8 t8)) (g_MOST_NUMBER : mg "MOST_NUMBER" = some (.int 40 t40)) (c_is_list : Cal P w K mg base "is_list" ["value"] 1 (spSeq K)) (c_is_count : Cal P w K mg base "is_count" ["value"] 2 (spCnt K)) : FnOk P w K mg base CX0 3 f fd ["value"] (spNms K) := by
  refine F.ok sc_are_numbers (fun vs H Q E h => ?_) (fun cdv A outer s H vs Q E hr h => ?_)
  · obtain ⟨x, d, rfl, _⟩ := h; rfl
  · obtain ⟨x, d, rfl, hx, k⟩ := h
    refine ⟨_, (pss_cons (ps_if (PW.pt (pw_or (pt_not (pt_val (pe_cal c_is_list hr (pa_cons (pv 0) pa_nil)))) (pw_or1 (pt_not (pt_chain op_le op_le pe_int (pe_callB call_lenQ (by rfl) z.len PySem.boot_len (pa_cons (pv 0) pa_nil)) (pe_glob (v := .int 8) rfl g_MOST_FIRST ⟨_, rfl⟩))))))
        (pss_one (ps_ret pe_bl))
        pss_nil)
      (pss_cons (ps_if (pt_not (pt_val (pe_callB (cr_all rfl) (by rfl) z.all (by decide +kernel) (pa_cons (pe_lc (own := [("number", 1)]) (g := gName 1) (tt := tYes) rfl sc_are_numbers.nd (pi_seqV (pv 0)) (blkOk_by (own := [("number", 1)]) (N := n_are_numbers) (sc := defScope s_are_numbers) (by decide +kernel)) (fun _ _ _ _ _ => (pg_name (i := 1) sc_are_numbers.nd rfl (.inl rfl))) (fun _ _ _ _ _ => pts_nil) (fun _ _ _ _ _ => (pe_and (pe_cal c_is_count hr (pa_cons (pv 1) pa_nil)) (pe_one (pe_cmpR op_le (pv 1) (pe_glob (v := .int 40) rfl g_MOST_NUMBER ⟨_, rfl⟩) (nomark _)))))) pa_nil))))
        (pss_one (ps_ret pe_bl))
        pss_nil)
      (pss_one (ps_ret (pe_and (pe_cmpR op_eq (pe_ix ix_seq (pv 0) pe_int (fun _ _ => rfl)) pe_int (nomark _)) (pe_one (pe_callB (cr_all rfl) (by rfl) z.all (by decide +kernel) (pa_cons (pe_lc (own := [("at", 2)]) (g := gName 2) (tt := tYes) rfl sc_are_numbers.nd (pi_range1 (by rfl) z.range (pa_cons (pe_op op_sub (pe_callB call_lenQ (by rfl) z.len PySem.boot_len (pa_cons (pv 0) pa_nil)) pe_int) pa_nil)) (blkOk_by (own := [("at", 2)]) (N := n_are_numbers) (sc := defScope s_are_numbers) (by decide +kernel)) (fun _ _ _ _ _ => (pg_name (i := 2) sc_are_numbers.nd rfl (.inl rfl))) (fun _ _ _ _ _ => pts_nil) (fun _ _ _ _ _ => (pe_cmpR op_le (pe_ix (r := rIx K) ix_seq (pv 0) (pv 2) (fun _ _ => rfl)) (pe_ix (r := rIx K) ix_seq (pv 0) (pe_op op_add (pv 2) pe_int) (fun _ _ => rfl)) (nomark _)))) pa_nil)))))))), ?_⟩
    walk_at "rd"
    refine ⟨x, d, rfl, hx, fun H1 s1 => ?_⟩
    have hx1 := hx.same s1
    walk_at "rd"
    rw [seqB_of]
    rcases e : seqOf d with _ | ds
    · have e2 : numsOf d = none := by unfold numsOf; rw [e]
      rw [e2] at k
      walk_at "rd"
      exact k _ s1
    obtain ⟨a, xs, rfl, ha, hxs⟩ := deSeq hx1 e
    have lx := hxs.len
    rw [show (some ds).isSome = true from rfl]
    walk_at "rd"
    refine i_lenX ha ?_
    walk_at "rd"
    rw [lx]
    by_cases c1 : 1 ≤ ds.length
    rotate_left
    · have e2 : numsOf d = none := by unfold numsOf; rw [e]; simp only; rw [if_neg (fun q => c1 q.1)]
      rw [e2] at k
      rw [decide_eq_false (show ¬ (1 : Int) ≤ (ds.length : Int) by omega)]
      walk_at "rd"
      exact k _ s1
    rw [decide_eq_true (show (1 : Int) ≤ (ds.length : Int) by omega)]
    walk_at "rd"
    by_cases c8 : ds.length ≤ 8
    rotate_left
    · have e2 : numsOf d = none := by unfold numsOf; rw [e]; simp only; rw [if_neg (fun q => c8 q.2)]
      rw [e2] at k
      rw [decide_eq_false (show ¬ (ds.length : Int) ≤ 8 by omega)]
      walk_at "rd"
      exact k _ s1
    rw [decide_eq_true (show (ds.length : Int) ≤ 8 by omega)]
    walk_at "rd"
    refine i_seqV rfl ha fun J w => ?_
    refine go_map w (fun i => V.bl ((nat40 (ds.getD i .none)).isSome)) (by omega) (fun H s => s) (fun j v H6 H7 hj s6 y R2 hR2 => ?_) mono_name (fun pj H6 npj s6 ej => ?_)
    · obtain ⟨rfl, hv⟩ := y
      have hv6 := (hxs.getD hv).same s6
      generalize ds.getD j .none = dj at *
      walk_at "rd"
      refine ⟨rfl, ?_⟩
      walk_at "rd"
      refine ⟨v, dj, rfl, hv6, ?_⟩
      walk_at "rd"
      rw [cnt40] at hR2
      rcases ec : cntB dj with _ | _
      · rw [ec] at hR2
        refine iteF ?_
        exact hR2 _ (Same.refl _)
      · obtain ⟨i, rfl, rfl⟩ := hv6.cnt ec
        rw [ec, Bool.true_and] at hR2
        refine iteT ?_
        walk_at "rd"
        exact hR2 _ (Same.refl _)
    · rw [lx, map_getD ds (fun d => V.bl (nat40 d).isSome), show ds.map (fun d => V.bl (nat40 d).isSome) = (ds.map fun d => (nat40 d).isSome).map V.bl by rw [List.map_map]; rfl] at ej
      walk_at "rd"
      refine i_all ej ?_
      rw [List.all_map, show (id ∘ fun d => (nat40 d).isSome) = fun d => (nat40 d).isSome from rfl, ← natsOf_some]
      rcases e3 : natsOf ds with _ | fs
      · have e2 : numsOf d = none := by unfold numsOf; rw [e]; simp only; rw [if_pos ⟨c1, c8⟩, e3]
        rw [e2] at k
        rw [show (none : Option (List Nat)).isSome = false from rfl]
        walk_at "rd"
        exact k _ (s1.trans s6)
      obtain ⟨hi, h40⟩ := natsOf_ints e3
      subst hi
      rw [List.length_map] at c1 c8 lx
      have hxf := ints_deI hxs
      subst hxf
      have ha6 := ha.same s6
      have e2 : numsOf d = if fs.getD 0 0 = 0 ∧ asc fs = true then some fs else none := by unfold numsOf; rw [e]; simp only; rw [if_pos ⟨by rw [List.length_map]; exact c1, by rw [List.length_map]; exact c8⟩, e3]
      rw [e2] at k
      rw [show (some fs).isSome = true from rfl]
      walk_at "rd"
      refine i_ixXn (i := 0) (v := iV (fs.getD 0 0)) ha6 (by decide) (getD_map (fs := fs) (i := 0) (by omega)) ?_
      walk_at "rd"
      by_cases c0 : fs.getD 0 0 = 0
      rotate_left
      · rw [if_neg (fun q => c0 q.1)] at k
        rw [decide_eq_false (show ¬ ((fs.getD 0 0 : Nat) : Int) = 0 by omega)]
        refine iteF ?_
        exact k _ (s1.trans s6)
      rw [decide_eq_true (show ((fs.getD 0 0 : Nat) : Int) = 0 by omega)]
      refine iteT ?_
      have ek : (if fs.getD 0 0 = 0 ∧ asc fs = true then some fs else none).isSome = asc fs := by
        rcases ea : asc fs with _ | _
        · rw [if_neg (fun q => by cases q.2)]; rfl
        · rw [if_pos ⟨c0, rfl⟩]; rfl
      rw [ek] at k
      walk_at "rd"
      refine i_lenX ha6 ?_
      walk_at "rd"
      rw [lx, show (fs.length : Int) - 1 = ((fs.length - 1 : Nat) : Int) by omega]
      refine i_rng (by omega) (by omega) ?_
      rw [Int.toNat_natCast]
      refine go_map walk_rangeZ (fun i => V.bl (decide (fs.getD i 0 ≤ fs.getD (i + 1) 0))) (by omega) (fun _ _ => trivial) (fun j v H7 H8 hj s7 y R2 hR2 => ?_) mono_name (fun pk H7 npk s7 ek' => ?_)
      · obtain ⟨rfl, rfl⟩ := y
        have ha7 := ha6.same s7
        walk_at "rd"
        refine ⟨rfl, ?_⟩
        walk_at "rd"
        refine i_ixXn ha7 (by omega) (by rw [Int.toNat_natCast]; exact getD_map (by omega)) ?_
        walk_at "rd"
        refine i_ixXn ha7 (by omega) (by rw [show ((j : Int) + 1).toNat = j + 1 by omega]; exact getD_map (by omega)) ?_
        walk_at "rd"
        rw [show decide (((fs.getD j 0 : Nat) : Int) ≤ ((fs.getD (j + 1) 0 : Nat) : Int)) = decide (fs.getD j 0 ≤ fs.getD (j + 1) 0) from decide_eq_decide.mpr (by omega)]
        exact hR2 _ (Same.refl _)
      · rw [show (List.range (fs.length - 1)).map (fun i => V.bl (decide (fs.getD i 0 ≤ fs.getD (i + 1) 0))) = ((List.range (fs.length - 1)).map fun i => decide (fs.getD i 0 ≤ fs.getD (i + 1) 0)).map V.bl by rw [List.map_map]; rfl] at ek'
        walk_at "rd"
        refine i_all ek' ?_
        rw [List.all_map]
        exact k _ ((s1.trans s6).trans s7)
end
end Sw
namespace Sw
open PySem PySem.Spec PyProof.Rows L2
local macro_rules | `(tactic| walk_at "hp") => `(tactic| first
  | (with_reducible assumption) | (with_reducible exact upd_same)
  | ((with_reducible refine' upd_old ?q1 ?q2); (case q1 => (with_reducible assumption)); (case q2 => walk_at "hp"))
  | ((with_reducible refine' Same.at ?q1 ?q2); (case q1 => (with_reducible assumption)); (case q2 => walk_at "hp"))
  | ((with_reducible refine' upd_skip ?q1 ?q2); (case q1 => walk_at "ne"); (case q2 => walk_at "hp"))
  | fail)
local macro_rules | `(tactic| walk_at "ne") => `(tactic| first
  | (with_reducible assumption) | (with_reducible exact Ne.symm (by assumption))
  | ((with_reducible refine' ne_of_none ?q1 ?q2); (case q2 => (with_reducible assumption)); (case q1 => walk_at "hp"))
  | fail)
local macro_rules | `(tactic| walk_at "ci") => `(tactic| first | assumption | (show (0 : Int) < _; first | decide | (with_reducible omega)) | exact ⟨by decide, by decide⟩ | exact .inl ⟨by decide, by decide⟩ | exact .inr ⟨by decide, by decide⟩)
local macro_rules | `(tactic| walk_at "ln") => `(tactic| first | (with_reducible assumption) | (with_reducible omega) | (simp only [List.length_append, List.length_take, List.length_drop, List.length_reverse, List.length_cons, List.length_nil]; with_reducible omega))
local macro_rules | `(tactic| walk_at "rd1") => `(tactic| first
  | (with_reducible refine i_seq ?_) | (with_reducible refine i_asg ?_) | (with_reducible refine i_ret ?_) | (with_reducible refine i_name ?_) | ((with_reducible refine' i_var ?q1 ?_); (case q1 => exact rfl)) | (with_reducible refine i_c ?_) | (with_reducible refine i_op ?_) | (with_reducible refine i_un ?_)
  | (with_reducible refine i_rI0 ?_) | (with_reducible refine i_cb ?_) | (with_reducible refine i_cons ?_) | (with_reducible refine i_nil ?_) | (with_reducible refine i_call ?_) | (with_reducible refine i_if ?_) | (with_reducible refine i_ifE ?_) | (with_reducible refine i_test ?_) | (with_reducible refine i_bl ?_)
  | (with_reducible refine i_and ?_) | (with_reducible refine i_or ?_) | (with_reducible refine i_not ?_) | (with_reducible refine i_lst ?_) | (with_reducible refine i_tup ?_) | (with_reducible refine i_next ?_) | (with_reducible refine i_drop ?_) | (with_reducible refine i_sub ?_)
  | (with_reducible refine i_bm ?_) | (with_reducible refine i_sl ?_) | (with_reducible refine i_part ?_) | (with_reducible refine i_nopart ?_) | (with_reducible refine i_exI ?_) | (with_reducible refine i_chain ?_) | ((with_reducible refine' i_aug ?q1 ?_); (case q1 => exact rfl)) | (with_reducible refine i_ip ?_)
  | (with_reducible refine i_par ?_) | (with_reducible refine i_pair ?_) | (with_reducible refine i_andV ?_) | (with_reducible refine i_orV ?_) | (with_reducible refine i_notV ?_) | (with_reducible refine i_m1 ?_) | (with_reducible refine i_str ?_)
  | (with_reducible refine iteF ?_) | (with_reducible refine iteT ?_) | (with_reducible refine iteNT ?_) | (with_reducible refine iteNF ?_) | (with_reducible refine i_tyS ?_) | (with_reducible refine i_tB ?_) | (with_reducible refine i_retN ?_) | (with_reducible refine i_par3 ?_) | (with_reducible refine i_trip ?_) | (with_reducible refine i_gCons ?_) | (with_reducible refine i_gNil ?_) | (with_reducible refine i_lstRg ?_) | (with_reducible refine i_rg1 ?_)
  | (with_reducible refine i_lc ?_) | (with_reducible refine i_for ?_) | (with_reducible refine i_iList ?_) | (with_reducible refine i_iTup ?_) | (with_reducible refine i_iStr ?_) | (with_reducible refine i_iRng1 ?_) | (with_reducible refine i_iEnS ?_)
  | ((with_reducible refine' i_ixTH ?q1 ?q2 ?_); (case q1 => walk_at "hp"); (case q2 => exact rfl))
  | ((with_reducible refine' i_ixLH ?q1 ?q2 ?_); (case q1 => walk_at "hp"); (case q2 => exact rfl))
  | ((with_reducible refine i_addS ?q1 ?_); (case q1 => walk_at "ln")) | ((with_reducible refine i_lenSS ?q1 ?_); (case q1 => walk_at "ln")) | ((with_reducible refine i_slFrom ?q1 ?q2 ?_); (case q1 => walk_at "ln"); (case q2 => walk_at "ln")) | ((with_reducible refine i_slTo ?q1 ?q2 ?_); (case q1 => walk_at "ln"); (case q2 => walk_at "ln"))
  | ((with_reducible refine' i_tyL ?q1 ?_); (case q1 => walk_at "hp"))
  | ((with_reducible refine' i_gTupH ?q1 ?q2 ?_); (case q1 => walk_at "hp"); (case q2 => exact rfl))
  | (with_reducible refine i_dnew ?_) | (with_reducible refine i_init ?_) | (with_reducible refine i_fst ?_) | (with_reducible refine i_mk ?_) | (with_reducible refine i_mkF ?_) | (with_reducible refine i_raise ?_) | (with_reducible refine i_callS ?_) | (with_reducible refine i_kwS ?_)
  | (with_reducible refine i_revT ?_) | (with_reducible refine i_kw ?_) | ((with_reducible refine' ⟨_, _, rfl, sqT_of ?q1, ?_⟩); (case q1 => walk_at "hp"))
  | (with_reducible refine i_revS ?_) | ((with_reducible refine i_revSS ?q1 ?_); (case q1 => walk_at "ln"))
  | (with_reducible refine i_startS ?_) | (with_reducible refine i_inSg ?_) | (with_reducible refine i_absN ?_) | (with_reducible refine i_min2 ?_) | (with_reducible refine i_max2 ?_) | (with_reducible refine i_min3 ?_) | (with_reducible refine i_intN ?_) | (with_reducible refine i_intNB ?_)
  | ((with_reducible refine' i_lenL ?q1 ?_); (case q1 => walk_at "hp")) | ((with_reducible refine' i_lenT ?q1 ?_); (case q1 => walk_at "hp"))
  | (with_reducible refine i_eqI ?_) | (with_reducible refine i_neI ?_) | (with_reducible refine i_eqS ?_) | (with_reducible refine i_neS ?_) | (with_reducible refine i_isNoI ?_) | (with_reducible refine i_isNoN ?_) | (with_reducible refine i_isNoR ?_)
  | ((with_reducible refine i_pow ?q1 ?q2 ?q3 ?_); (case q1 => decide); (case q2 => decide); (case q3 => (with_reducible omega)))
  | ((with_reducible refine i_rI ?q1 ?_); (case q1 => walk_at "ci"))
  | (with_reducible refine Or.inl ⟨_, rfl, ?_⟩) | (with_reducible refine Or.inr ⟨_, rfl, ?_⟩) | (with_reducible refine ⟨_, rfl, ?_⟩) | (with_reducible refine ⟨_, _, rfl, ?_⟩) | (with_reducible refine ⟨_, _, rfl, rfl, ?_⟩)
  | ((with_reducible refine' ⟨_, _, rfl, Or.inl (sqL_of ?q1), ?_⟩); (case q1 => walk_at "hp")) | ((with_reducible refine' ⟨_, _, rfl, Or.inr (sqT_of ?q1), ?_⟩); (case q1 => walk_at "hp")) | (with_reducible refine i_dget ?_) | (with_reducible refine i_disp1T ?_) | (with_reducible refine i_dcT ?_) | (with_reducible refine i_dnewT ?_) | (with_reducible refine i_fld ?_) | (with_reducible refine i_sFld ?_) | (with_reducible refine i_make ?_) | (with_reducible refine i_meth ?_) | (with_reducible refine i_star ?_) | (with_reducible refine i_isNoS ?_) | (with_reducible refine i_lc2 ?_) | (with_reducible refine i_iEnT ?_) | fail)
local macro_rules | `(tactic| walk_at "rd") => `(tactic| repeat' walk_at "rd1")

theorem nums_at {K : PySem.W.Frag} {H : Hp} {x : V} {d : PyData} {fs : List Nat} (h : De K H x d) (e : numsOf d = some fs) : ∃ a, x = .ref a ∧ SqX K H a (fs.map iV) := by
  obtain ⟨ds, h1, h2, _⟩ := numsOf_inv e
  obtain ⟨a, xs, rfl, ha, hxs⟩ := deSeq h h1
  subst h2
  rw [ints_deI hxs] at ha
  exact ⟨a, rfl, ha⟩
section
variable {P : Program} {w : World} {K : PySem.W.Frag} {mg : Str → Option Value} {base : Heap} {f : Addr} {fd : FuncData}
theorem ok_rowB (F : Fun K "is_row" "is_row" s_is_row f fd) (z : Z mg) {t4 t12 : Tok} (g_MOST_PERIOD : mg "MOST_PERIOD" = some (.int 4 t4)) (g_MOST_GAIN : mg "MOST_GAIN" = some (.int 12 t12)) (c_are_numbers : Cal P w K mg base "are_numbers" ["value"] 3 (spNms K)) (c_is_integer : Cal P w K mg base "is_integer" ["value"] 1 (spInt K)) (c_is_count : Cal P w K mg base "is_count" ["value"] 2 (spCnt K)) (c_number_at : Cal P w K mg base "number_at" ["row", "many"] 1 (spNum K)) : FnOk P w K mg base CX0 4 f fd ["value"] (spRowB K) := by
  refine F.ok sc_is_row (fun vs H Q E h => ?_) (fun cdv A outer s H vs Q E hr h => ?_)
  · obtain ⟨x, d, rfl, _⟩ := h; rfl
  · obtain ⟨x, d, rfl, hx, k⟩ := h
    refine ⟨_, (pss_cons (ps_if (PW.pt (pw_or (pt_not (pt_val (pe_callB call_isi (by rfl) z.isinstance (by decide +kernel) (pa_cons (pv 0) (pa_cons (pe_bltn (v := .ty "tuple") (by rfl) z.tuple (by decide +kernel) rfl) pa_nil))))) (pw_or (pt_cmpR op_ne (pe_callB call_lenQ (by rfl) z.len PySem.boot_len (pa_cons (pv 0) pa_nil)) pe_int (nomark _)) (pw_or1 (pt_not (pt_val (pe_cal c_are_numbers hr (pa_cons (pe_ix ix_tup (pv 0) pe_int (fun _ _ => rfl)) pa_nil))))))))
        (pss_one (ps_ret pe_bl))
        pss_nil)
      (pss_cons (ps_asg (pv 0) (pg_tup rfl (pgs_cons (pg_name (i := 1) sc_is_row.nd rfl (.inl rfl)) (pgs_cons (pg_name (i := 2) sc_is_row.nd rfl (.inl rfl)) (pgs_cons (pg_name (i := 3) sc_is_row.nd rfl (.inl rfl)) pgs_nil)))))
      (pss_cons (ps_if (PW.pt (pw_or (pt_not (pt_val (pe_cal c_is_integer hr (pa_cons (pv 2) pa_nil)))) (pw_or1 (pt_not (pt_chain op_le op_le pe_int (pv 2) (pe_callB (call_min2N rfl) (by rfl) z.min_ (by decide +kernel) (pa_cons (pe_glob (v := .int 4) rfl g_MOST_PERIOD ⟨_, rfl⟩) (pa_cons (pe_callB call_lenQ (by rfl) z.len PySem.boot_len (pa_cons (pv 1) pa_nil)) pa_nil))))))))
        (pss_one (ps_ret pe_bl))
        pss_nil)
      (pss_cons (ps_if (PW.pt (pw_or (pt_not (pt_val (pe_cal c_is_count hr (pa_cons (pv 3) pa_nil)))) (pw_or1 (pt_cmpR op_gt (pv 3) (pe_glob (v := .int 12) rfl g_MOST_GAIN ⟨_, rfl⟩) (nomark _)))))
        (pss_one (ps_ret pe_bl))
        pss_nil)
      (pss_one (ps_ret (pe_cmpR op_ge (pe_cal c_number_at hr (pa_cons (pv 0) (pa_cons (pe_callB call_lenQ (by rfl) z.len PySem.boot_len (pa_cons (pv 1) pa_nil)) pa_nil))) (pe_ix ix_seq (pv 1) (pe_un un_neg pe_int) (fun _ _ => rfl)) (nomark _)))))))), ?_⟩
    have none_k : rowOf d = none → ∀ H', Same H H' → Q (.bl false) H' := fun e H' s' => by have := k H' s'; rw [e] at this; exact this
    walk_at "rd"
    refine hx.isi (n := "tuple") (.inr (.inr (.inr (.inr rfl)))) ?_
    by_cases ht : ∃ ds, d = .tuple ds
    case neg =>
      have e : tyB "tuple" d = false := by cases d <;> first | rfl | exact (ht ⟨_, rfl⟩).elim
      have e2 : rowOf d = none := by cases d <;> first | rfl | exact (ht ⟨_, rfl⟩).elim
      rw [e]
      walk_at "rd"
      exact none_k e2 _ (Same.refl _)
    obtain ⟨ds, rfl⟩ := ht
    obtain ⟨a, xs, rfl, ha, hxs⟩ := hx.tupI
    rw [show tyB "tuple" (.tuple ds) = true from rfl]
    have lx := hxs.len
    walk_at "rd"
    refine i_lenSqT ha ?_
    walk_at "rd"
    rw [lx]
    by_cases l3 : ds.length = 3
    rotate_left
    · have e2 : rowOf (.tuple ds) = none := by
        rcases ds with _ | ⟨x1, _ | ⟨x2, _ | ⟨x3, _ | ⟨x4, ys⟩⟩⟩⟩
        · rfl
        · rfl
        · rfl
        · exact (l3 rfl).elim
        · rfl
      rw [decide_eq_false (show ¬ (ds.length : Int) = 3 by omega)]
      walk_at "rd"
      exact none_k e2 _ (Same.refl _)
    rw [decide_eq_true (show (ds.length : Int) = 3 by omega)]
    obtain ⟨d0, d1, d2, rfl⟩ : ∃ d0 d1 d2, ds = [d0, d1, d2] := by
      rcases ds with _ | ⟨x1, _ | ⟨x2, _ | ⟨x3, _ | ⟨x4, ys⟩⟩⟩⟩
      · cases l3
      · cases l3
      · cases l3
      · exact ⟨_, _, _, rfl⟩
      · simp at l3
    obtain ⟨x0, x1, x2, rfl, h0, h1, h2⟩ : ∃ x0 x1 x2, xs = [x0, x1, x2] ∧ De K H x0 d0 ∧ De K H x1 d1 ∧ De K H x2 d2 := by
      cases hxs with
      | cons h0 r => cases r with
        | cons h1 r => cases r with
          | cons h2 r => cases r; exact ⟨_, _, _, rfl, h0, h1, h2⟩
    have row_eq : rowOf (.tuple [d0, d1, d2]) = match numsOf d0 with
      | none => none
      | some fs => match perOf fs d1 with
        | none => none
        | some p => match gainOf fs p d2 with
          | none => none
          | some g => some (fs, p, g) := rfl
    walk_at "rd"
    refine i_ixTn (k := 0) ha rfl ?_
    walk_at "rd"
    refine ⟨x0, d0, rfl, h0, fun H1 s1 => ?_⟩
    walk_at "rd"
    rcases e0 : numsOf d0 with _ | fs
    · rw [show (none : Option (List Nat)).isSome = false from rfl]
      walk_at "rd"
      exact none_k (by rw [row_eq, e0]) _ s1
    rw [show (some fs).isSome = true from rfl]
    obtain ⟨a0, rfl, hf0⟩ := nums_at h0 e0
    have hf := hf0.same s1
    obtain ⟨_, _, _, L1, L8, _, _, _⟩ := numsOf_inv e0
    have ha1 := Same.sqT s1 ha
    rw [e0] at row_eq
    simp only at row_eq
    walk_at "rd"
    refine ⟨a, _, rfl, ha1, rfl, ?_⟩
    walk_at "rd"
    refine ⟨x1, d1, rfl, h1.same s1, ?_⟩
    walk_at "rd"
    rcases ei : isI d1 with _ | _
    · have e2 : perOf fs d1 = none := by cases d1 <;> first | rfl | cases ei
      walk_at "rd"
      exact none_k (by rw [row_eq, e2]) _ s1
    obtain ⟨i, rfl, rfl⟩ := h1.intB ei
    walk_at "rd"
    by_cases c1 : 1 ≤ i
    rotate_left
    · have e2 : perOf fs (.int i) = none := by simp only [perOf]; rw [if_neg (fun q => c1 q.1)]
      rw [decide_eq_false c1]
      walk_at "rd"
      exact none_k (by rw [row_eq, e2]) _ s1
    rw [decide_eq_true c1]
    walk_at "rd"
    refine i_lenX hf ?_
    walk_at "rd"
    rw [List.length_map]
    by_cases c2 : i ≤ 4 ∧ i ≤ (fs.length : Int)
    rotate_left
    · have e2 : perOf fs (.int i) = none := by simp only [perOf]; rw [if_neg (fun q => c2 q.2)]
      rw [decide_eq_false (show ¬ i ≤ min 4 (fs.length : Int) by omega)]
      walk_at "rd"
      exact none_k (by rw [row_eq, e2]) _ s1
    rw [decide_eq_true (show i ≤ min 4 (fs.length : Int) by omega)]
    obtain ⟨p, rfl⟩ : ∃ p : Nat, i = p := ⟨i.toNat, by omega⟩
    have e2 : perOf fs (.int (p : Int)) = some p := by simp only [perOf]; rw [if_pos ⟨c1, c2⟩]; rfl
    rw [e2] at row_eq
    simp only at row_eq
    walk_at "rd"
    refine ⟨x2, d2, rfl, h2.same s1, ?_⟩
    walk_at "rd"
    rcases ec : cntB d2 with _ | _
    · have e3 : gainOf fs p d2 = none := by
        cases d2 with
        | int j =>
          simp only [cntB, decide_eq_false_iff_not] at ec
          simp only [gainOf]; rw [if_neg (fun q => ec q.1)]
        | _ => rfl
      walk_at "rd"
      exact none_k (by rw [row_eq, e3]) _ s1
    obtain ⟨g, rfl, rfl⟩ := h2.cnt ec
    walk_at "rd"
    by_cases c3 : g ≤ 12
    rotate_left
    · have e3 : gainOf fs p (.int (g : Int)) = none := by simp only [gainOf]; rw [if_neg (fun q => c3 (by omega))]
      rw [decide_eq_true (show (12 : Int) < (g : Int) by omega)]
      walk_at "rd"
      exact none_k (by rw [row_eq, e3]) _ s1
    rw [decide_eq_false (show ¬ (12 : Int) < (g : Int) by omega)]
    walk_at "rd"
    refine i_lenX hf ?_
    walk_at "rd"
    rw [List.length_map]
    refine ⟨a, a0, fs, p, g, fs.length, rfl, ha1, hf, by omega, by omega, L8, by omega, by omega, ?_⟩
    walk_at "rd"
    refine i_rU ?_
    refine i_ixX hf (atI_neg1 (n := fs.length - 1) (by rw [List.length_map]; omega) (getD_map (by omega))) ?_
    walk_at "rd"
    have e3 : (rowOf (.tuple [d0, .int (p : Int), .int (g : Int)])).isSome = decide (fs.getD (fs.length - 1) 0 ≤ fs.getD (fs.length - p) 0 + g) := by
      rw [row_eq]
      simp only [gainOf, Int.toNat_natCast]
      by_cases c4 : fs.getD (fs.length - 1) 0 ≤ fs.getD (fs.length - p) 0 + g
      · rw [if_pos ⟨by omega, by omega, c4⟩, decide_eq_true c4]; rfl
      · rw [if_neg (fun q => c4 q.2.2), decide_eq_false c4]; rfl
    rw [e3] at k
    rw [num_end (by omega) (by omega)]
    rw [show decide (((fs.getD (fs.length - 1) 0 : Nat) : Int) ≤ ((fs.getD (fs.length - p) 0 + g : Nat) : Int)) = decide (fs.getD (fs.length - 1) 0 ≤ fs.getD (fs.length - p) 0 + g) from decide_eq_decide.mpr (by omega)]
    exact k _ s1
end
end Sw
namespace Sw
open PySem PySem.Spec PyProof.Rows L2
local macro_rules | `(tactic| walk_at "hp") => `(tactic| first
  | (with_reducible assumption) | (with_reducible exact upd_same)
  | ((with_reducible refine' upd_old ?q1 ?q2); (case q1 => (with_reducible assumption)); (case q2 => walk_at "hp"))
  | ((with_reducible refine' Same.at ?q1 ?q2); (case q1 => (with_reducible assumption)); (case q2 => walk_at "hp"))
  | ((with_reducible refine' upd_skip ?q1 ?q2); (case q1 => walk_at "ne"); (case q2 => walk_at "hp"))
  | fail)
local macro_rules | `(tactic| walk_at "ne") => `(tactic| first
  | (with_reducible assumption) | (with_reducible exact Ne.symm (by assumption))
  | ((with_reducible refine' ne_of_none ?q1 ?q2); (case q2 => (with_reducible assumption)); (case q1 => walk_at "hp"))
  | fail)
local macro_rules | `(tactic| walk_at "ci") => `(tactic| first | assumption | (show (0 : Int) < _; first | decide | (with_reducible omega)) | exact ⟨by decide, by decide⟩ | exact .inl ⟨by decide, by decide⟩ | exact .inr ⟨by decide, by decide⟩)
local macro_rules | `(tactic| walk_at "ln") => `(tactic| first | (with_reducible assumption) | (with_reducible omega) | (simp only [List.length_append, List.length_take, List.length_drop, List.length_reverse, List.length_cons, List.length_nil]; with_reducible omega))
local macro_rules | `(tactic| walk_at "rd1") => `(tactic| first
  | (with_reducible refine i_seq ?_) | (with_reducible refine i_asg ?_) | (with_reducible refine i_ret ?_) | (with_reducible refine i_name ?_) | ((with_reducible refine' i_var ?q1 ?_); (case q1 => exact rfl)) | (with_reducible refine i_c ?_) | (with_reducible refine i_op ?_) | (with_reducible refine i_un ?_)
  | (with_reducible refine i_rI0 ?_) | (with_reducible refine i_cb ?_) | (with_reducible refine i_cons ?_) | (with_reducible refine i_nil ?_) | (with_reducible refine i_call ?_) | (with_reducible refine i_if ?_) | (with_reducible refine i_ifE ?_) | (with_reducible refine i_test ?_) | (with_reducible refine i_bl ?_)
  | (with_reducible refine i_and ?_) | (with_reducible refine i_or ?_) | (with_reducible refine i_not ?_) | (with_reducible refine i_lst ?_) | (with_reducible refine i_tup ?_) | (with_reducible refine i_next ?_) | (with_reducible refine i_drop ?_) | (with_reducible refine i_sub ?_)
  | (with_reducible refine i_bm ?_) | (with_reducible refine i_sl ?_) | (with_reducible refine i_part ?_) | (with_reducible refine i_nopart ?_) | (with_reducible refine i_exI ?_) | (with_reducible refine i_chain ?_) | ((with_reducible refine' i_aug ?q1 ?_); (case q1 => exact rfl)) | (with_reducible refine i_ip ?_)
  | (with_reducible refine i_par ?_) | (with_reducible refine i_pair ?_) | (with_reducible refine i_andV ?_) | (with_reducible refine i_orV ?_) | (with_reducible refine i_notV ?_) | (with_reducible refine i_m1 ?_) | (with_reducible refine i_str ?_)
  | (with_reducible refine iteF ?_) | (with_reducible refine iteT ?_) | (with_reducible refine iteNT ?_) | (with_reducible refine iteNF ?_) | (with_reducible refine i_tyS ?_) | (with_reducible refine i_tB ?_) | (with_reducible refine i_retN ?_) | (with_reducible refine i_par3 ?_) | (with_reducible refine i_trip ?_) | (with_reducible refine i_gCons ?_) | (with_reducible refine i_gNil ?_) | (with_reducible refine i_lstRg ?_) | (with_reducible refine i_rg1 ?_)
  | (with_reducible refine i_lc ?_) | (with_reducible refine i_for ?_) | (with_reducible refine i_iList ?_) | (with_reducible refine i_iTup ?_) | (with_reducible refine i_iStr ?_) | (with_reducible refine i_iRng1 ?_) | (with_reducible refine i_iEnS ?_)
  | ((with_reducible refine' i_ixTH ?q1 ?q2 ?_); (case q1 => walk_at "hp"); (case q2 => exact rfl))
  | ((with_reducible refine' i_ixLH ?q1 ?q2 ?_); (case q1 => walk_at "hp"); (case q2 => exact rfl))
  | ((with_reducible refine i_addS ?q1 ?_); (case q1 => walk_at "ln")) | ((with_reducible refine i_lenSS ?q1 ?_); (case q1 => walk_at "ln")) | ((with_reducible refine i_slFrom ?q1 ?q2 ?_); (case q1 => walk_at "ln"); (case q2 => walk_at "ln")) | ((with_reducible refine i_slTo ?q1 ?q2 ?_); (case q1 => walk_at "ln"); (case q2 => walk_at "ln"))
  | ((with_reducible refine' i_tyL ?q1 ?_); (case q1 => walk_at "hp"))
  | ((with_reducible refine' i_gTupH ?q1 ?q2 ?_); (case q1 => walk_at "hp"); (case q2 => exact rfl))
  | (with_reducible refine i_dnew ?_) | (with_reducible refine i_init ?_) | (with_reducible refine i_fst ?_) | (with_reducible refine i_mk ?_) | (with_reducible refine i_mkF ?_) | (with_reducible refine i_raise ?_) | (with_reducible refine i_callS ?_) | (with_reducible refine i_kwS ?_)
  | (with_reducible refine i_revT ?_) | (with_reducible refine i_kw ?_) | ((with_reducible refine' ⟨_, _, rfl, sqT_of ?q1, ?_⟩); (case q1 => walk_at "hp"))
  | (with_reducible refine i_revS ?_) | ((with_reducible refine i_revSS ?q1 ?_); (case q1 => walk_at "ln"))
  | (with_reducible refine i_startS ?_) | (with_reducible refine i_inSg ?_) | (with_reducible refine i_absN ?_) | (with_reducible refine i_min2 ?_) | (with_reducible refine i_max2 ?_) | (with_reducible refine i_min3 ?_) | (with_reducible refine i_intN ?_) | (with_reducible refine i_intNB ?_)
  | ((with_reducible refine' i_lenL ?q1 ?_); (case q1 => walk_at "hp")) | ((with_reducible refine' i_lenT ?q1 ?_); (case q1 => walk_at "hp"))
  | (with_reducible refine i_eqI ?_) | (with_reducible refine i_neI ?_) | (with_reducible refine i_eqS ?_) | (with_reducible refine i_neS ?_) | (with_reducible refine i_isNoI ?_) | (with_reducible refine i_isNoN ?_) | (with_reducible refine i_isNoR ?_)
  | ((with_reducible refine i_pow ?q1 ?q2 ?q3 ?_); (case q1 => decide); (case q2 => decide); (case q3 => (with_reducible omega)))
  | ((with_reducible refine i_rI ?q1 ?_); (case q1 => walk_at "ci"))
  | (with_reducible refine Or.inl ⟨_, rfl, ?_⟩) | (with_reducible refine Or.inr ⟨_, rfl, ?_⟩) | (with_reducible refine ⟨_, rfl, ?_⟩) | (with_reducible refine ⟨_, _, rfl, ?_⟩) | (with_reducible refine ⟨_, _, rfl, rfl, ?_⟩)
  | ((with_reducible refine' ⟨_, _, rfl, Or.inl (sqL_of ?q1), ?_⟩); (case q1 => walk_at "hp")) | ((with_reducible refine' ⟨_, _, rfl, Or.inr (sqT_of ?q1), ?_⟩); (case q1 => walk_at "hp")) | (with_reducible refine i_dget ?_) | (with_reducible refine i_disp1T ?_) | (with_reducible refine i_dcT ?_) | (with_reducible refine i_dnewT ?_) | (with_reducible refine i_fld ?_) | (with_reducible refine i_sFld ?_) | (with_reducible refine i_make ?_) | (with_reducible refine i_meth ?_) | (with_reducible refine i_star ?_) | (with_reducible refine i_isNoS ?_) | (with_reducible refine i_lc2 ?_) | (with_reducible refine i_iEnT ?_) | fail)
local macro_rules | `(tactic| walk_at "rd") => `(tactic| repeat' walk_at "rd1")

/-- the error that tells a value -/
abbrev Xg (C : Addr) (x : V) (H : Hp) (E : XK) : Prop := ∀ dx H', H dx = none → Same H H' → H' dx = some (.xd [("given", x)]) → E (.ref C) (some dx) H'
theorem Xg.same {C : Addr} {x : V} {H H1 : Hp} {E : XK} (h : Xg C x H E) (s : Same H H1) : Xg C x H1 E := fun dx H' n s' e => h dx H' (s.free n) (s.trans s') e
/-- check_row(row) -/
def spCkR (K : PySem.W.Frag) (C : Addr) : Sp := fun vs H Q E => ∃ x d, vs = [x] ∧ De K H x d ∧ ((rowOf d).isSome = true → ∀ H', Same H H' → Q .non H') ∧ (rowOf d = none → Xg C x H E)
/-- row_at(row, many) -/
def spAt (K : PySem.W.Frag) (R C : Addr) : Sp := fun vs H Q E => ∃ x y d e, vs = [x, y] ∧ De K H x d ∧ De K H y e ∧ (rowOf d = none → Xg R x H E) ∧ ((rowOf d).isSome = true → cntB e = false → Xg C y H E) ∧
  ∀ fs p g (i : Nat), rowOf d = some (fs, p, g) → e = .int (i : Int) → i ≤ 10000 ∧ ∀ H', Same H H' → Q (iV (numAt fs p g i)) H'
/-- is_subadditive(row) -/
def spSub (K : PySem.W.Frag) (R : Addr) : Sp := fun vs H Q E => ∃ x d, vs = [x] ∧ De K H x d ∧ (rowOf d = none → Xg R x H E) ∧ ∀ fs p g, rowOf d = some (fs, p, g) → ∀ H', Same H H' → Q (.bl (subB fs p g fs.length)) H'
/-- built(row), built_accepting(row), of what is no row -/
def spBad (K : PySem.W.Frag) (R : Addr) : Sp := fun vs H Q E => ∃ x d, vs = [x] ∧ De K H x d ∧ rowOf d = none ∧ Xg R x H E
theorem isN {α : Type} {o : Option α} (h : o.isSome = false) : o = none := by
  cases o with
  | none => rfl
  | some r => cases h
def okB (fs : List Nat) (p g m k : Nat) : Bool := decide (numAt fs p g (m + k) ≤ numAt fs p g m + numAt fs p g k)
def rowsB (fs : List Nat) (p g L i : Nat) : List Bool := ((List.range i).map fun m => (List.range L).map (okB fs p g m)).flatten
theorem rowsB_succ (fs : List Nat) (p g L i : Nat) : rowsB fs p g L (i + 1) = rowsB fs p g L i ++ (List.range L).map (okB fs p g i) := by
  unfold rowsB
  rw [List.range_succ, List.map_append, List.flatten_append]
  simp
theorem rowsB_len (fs : List Nat) (p g L : Nat) : ∀ i, (rowsB fs p g L i).length = i * L
  | 0 => by simp [rowsB]
  | i + 1 => by rw [rowsB_succ, List.length_append, rowsB_len fs p g L i, List.length_map, List.length_range, Nat.add_mul]; omega
theorem rowsB_all (fs : List Nat) (p g L : Nat) : (rowsB fs p g L L).all id = subB fs p g L := by
  rw [Bool.eq_iff_iff, subB_iff, List.all_eq_true]
  constructor
  · intro h m hm k hk
    have := h (okB fs p g m k) (List.mem_flatten.mpr ⟨_, List.mem_map.mpr ⟨m, List.mem_range.mpr hm, rfl⟩, List.mem_map.mpr ⟨k, List.mem_range.mpr hk, rfl⟩⟩)
    simpa [okB] using this
  · intro h x hx
    obtain ⟨l, hl, hx⟩ := List.mem_flatten.mp hx
    obtain ⟨m, hm, rfl⟩ := List.mem_map.mp hl
    obtain ⟨k, hk, rfl⟩ := List.mem_map.mp hx
    exact decide_eq_true (h m (List.mem_range.mp hm) k (List.mem_range.mp hk))
/-- the parts of a row -/
theorem row_at {K : PySem.W.Frag} {H : Hp} {x : V} {d : PyData} {fs : List Nat} {p g : Nat} (h : De K H x d) (e : rowOf d = some (fs, p, g)) : ∃ t a, x = .ref t ∧ SqT K H t [.ref a, iV p, iV g] ∧ SqX K H a (fs.map iV) ∧ RowI fs p g := by
  obtain ⟨b, rfl, e1, I⟩ := rowOf_inv e
  obtain ⟨t, xs, rfl, ht, hxs⟩ := h.tupI
  cases hxs with
  | cons h0 r => cases r with
    | cons h1 r => cases r with
      | cons h2 r =>
        cases r
        cases h1.intI
        cases h2.intI
        obtain ⟨a, rfl, ha⟩ := nums_at h0 e1
        exact ⟨t, a, rfl, ht, ha, I⟩
section
variable {P : Program} {w : World} {K : PySem.W.Frag} {mg : Str → Option Value} {base : Heap} {f : Addr} {fd : FuncData}
theorem ok_ckR {C : Addr} (F : Fun K "check_row" "check_row" s_check_row f fd) (xr : XQ "InvalidRow" P w K mg base C) (c_is_row : Cal P w K mg base "is_row" ["value"] 4 (spRowB K)) : FnOk P w K mg base (L2.CX P w) 5 f fd ["row"] (spCkR K C) := by
  refine Sw.Fun.okX F sc_check_row (fun vs H Q E h => ?_) (fun cdv A outer s H vs Q E hr h tk => ?_)
  · obtain ⟨x, d, rfl, _⟩ := h; rfl
  · obtain ⟨x, d, rfl, hx, k1, k2⟩ := h
    refine ⟨_, (pss_one (ps_if (pt_not (pt_val (pe_cal c_is_row hr (pa_cons (pv 0) pa_nil))))
        (pss_one (ps_rs rfl tk (pmk_Q xr hr (pv 0))))
        pss_nil)), ?_⟩
    walk_at "rd"
    refine ⟨x, d, rfl, hx, fun H1 s1 => ?_⟩
    walk_at "rd"
    refine iteNC (fun e => ?_) (fun e => ?_)
    · walk_at "rd"
      refine i_thrown xr.T xr.no (fun dx nx => ?_)
      exact k2 (isN e) dx _ (s1.free nx) (s1.trans (same_upd nx)) upd_same
    · walk_at "rd"
      exact k1 e _ s1
theorem ok_at {R C : Addr} (F : Fun K "row_at" "row_at" s_row_at f fd) (x_check_row : CalX P w K mg base "check_row" ["row"] 5 (spCkR K R)) (x_check_count : CalX P w K mg base "check_count" ["count"] 3 (spCkC K C)) (c_number_at : Cal P w K mg base "number_at" ["row", "many"] 1 (spNum K)) : FnOk P w K mg base (L2.CX P w) 6 f fd ["row", "many"] (spAt K R C) := by
  refine Sw.Fun.okX F sc_row_at (fun vs H Q E h => ?_) (fun cdv A outer s H vs Q E hr h tk => ?_)
  · obtain ⟨x, y, d, e, rfl, _⟩ := h; rfl
  · obtain ⟨x, y, d, e, rfl, hx, hy, k1, k2, k3⟩ := h
    refine ⟨_, (pss_cons (ps_expr (pe_calX x_check_row hr tk (pa_cons (pv 0) pa_nil)))
      (pss_cons (ps_expr (pe_calX x_check_count hr tk (pa_cons (pv 1) pa_nil)))
      (pss_one (ps_ret (pe_cal c_number_at hr (pa_cons (pv 0) (pa_cons (pv 1) pa_nil))))))), ?_⟩
    walk_at "rd"
    refine ⟨x, d, rfl, hx, fun er H1 s1 => ?_, k1⟩
    walk_at "rd"
    refine ⟨y, e, rfl, hy.same s1, fun ec => ?_, fun ec => (k2 er ec).same s1⟩
    obtain ⟨i, rfl, rfl⟩ := hy.cnt ec
    rcases eq : rowOf d with _ | ⟨fs, p, g⟩
    · rw [eq] at er; cases er
    obtain ⟨t, a, rfl, ht, ha, I⟩ := row_at (hx.same s1) eq
    obtain ⟨hi, k3⟩ := k3 _ _ _ i eq rfl
    walk_at "rd"
    exact ⟨t, a, fs, p, g, i, rfl, ht, ha, I.p1, I.pl, I.l8, I.p4, hi, k3 _ s1⟩
theorem ok_sub {R : Addr} (F : Fun K "is_subadditive" "is_subadditive" s_is_subadditive f fd) (z : Z mg) (x_check_row : CalX P w K mg base "check_row" ["row"] 5 (spCkR K R)) (c_number_at : Cal P w K mg base "number_at" ["row", "many"] 1 (spNum K)) : FnOk P w K mg base (L2.CX P w) 6 f fd ["row"] (spSub K R) := by
  refine Sw.Fun.okX F sc_is_subadditive (fun vs H Q E h => ?_) (fun cdv A outer s H vs Q E hr h tk => ?_)
  · obtain ⟨x, d, rfl, _⟩ := h; rfl
  · obtain ⟨x, d, rfl, hx, k1, k2⟩ := h
    refine ⟨_, (pss_cons (ps_expr (pe_calX x_check_row hr tk (pa_cons (pv 0) pa_nil)))
      (pss_cons (ps_set (i := 1) sc_is_subadditive.nd rfl (.inr rfl) (pe_callB call_lenQ (by rfl) z.len PySem.boot_len (pa_cons (pe_ix ix_tup (pv 0) pe_int (fun _ _ => rfl)) pa_nil)))
      (pss_cons (ps_set (i := 2) sc_is_subadditive.nd rfl (.inr rfl) (pe_lc (own := [("m", 3)]) (g := gName 3) (tt := tYes) rfl sc_is_subadditive.nd (pi_range1 (by rfl) z.range (pa_cons (pe_op op_mul pe_int (pv 1)) pa_nil)) (blkOk_by (own := [("m", 3)]) (N := n_is_subadditive) (sc := defScope s_is_subadditive) (by decide +kernel)) (fun _ _ _ _ _ => (pg_name (i := 3) sc_is_subadditive.nd rfl (.inl rfl))) (fun _ _ _ _ _ => pts_nil) (fun _ _ _ _ _ => (pe_cal c_number_at hr (pa_cons (pv 0) (pa_cons (pv 3) pa_nil))))))
      (pss_one (ps_ret (pe_callB (cr_all rfl) (by rfl) z.all (by decide +kernel) (pa_cons (pe_lc2 (own := [("m", 3), ("k", 4)]) (vs1 := [4]) (g := gName 3) (g1 := gName 4) (tt := tYes) (tt1 := tYes) rfl sc_is_subadditive.nd (pi_range1 (by rfl) z.range (pa_cons (pv 1) pa_nil)) (blkOk_by (own := [("m", 3), ("k", 4)]) (N := n_is_subadditive) (sc := defScope s_is_subadditive) (by decide +kernel)) (by decide) (fun _ _ _ _ _ => (pg_name (i := 3) sc_is_subadditive.nd rfl (.inl rfl))) (fun _ _ _ _ _ => pts_nil) (fun _ _ _ _ _ => (pi_range1 (by rfl) z.range (pa_cons (pv 1) pa_nil))) (fun _ _ _ _ _ => (pg_name (i := 4) sc_is_subadditive.nd rfl (.inl rfl))) (fun _ _ _ _ _ => pts_nil) (fun _ _ _ _ _ => (pe_cmpR op_le (pe_ix (r := rIxL K) ix_list (pv 2) (pe_op op_add (pv 3) (pv 4)) (fun _ _ => rfl)) (pe_op op_add (pe_ix (r := rIxL K) ix_list (pv 2) (pv 3) (fun _ _ => rfl)) (pe_ix (r := rIxL K) ix_list (pv 2) (pv 4) (fun _ _ => rfl))) (nomark _)))) pa_nil))))))), ?_⟩
    walk_at "rd"
    refine ⟨x, d, rfl, hx, fun er H1 s1 => ?_, k1⟩
    rcases eq : rowOf d with _ | ⟨fs, p, g⟩
    · rw [eq] at er; cases er
    obtain ⟨t, a, rfl, ht, ha, I⟩ := row_at (hx.same s1) eq
    have k2 := k2 _ _ _ eq
    have l8 := I.l8
    have l1 := I.l1
    walk_at "rd"
    refine i_ixTn (k := 0) ht rfl ?_
    walk_at "rd"
    refine i_lenX ha ?_
    rw [List.length_map]
    walk_at "rd"
    refine i_rng (by omega) (by omega) ?_
    refine go_map walk_rangeZ (fun i => iV (numAt fs p g i)) (by omega) (fun _ _ => trivial) (fun j v H6 H7 hj s6 y R2 hR2 => ?_) mono_name (fun np H2 nnp s2 en => ?_)
    · obtain ⟨rfl, rfl⟩ := y
      walk_at "rd"
      refine ⟨rfl, ?_⟩
      walk_at "rd"
      exact ⟨t, a, fs, p, g, j, rfl, Same.sqT s6 ht, ha.same s6, I.p1, I.pl, I.l8, I.p4, by omega, hR2 _ (Same.refl _)⟩
    rw [show (2 * (fs.length : Int)).toNat = 2 * fs.length by omega] at en
    have gn : ∀ {i : Nat}, i < 2 * fs.length → ((List.range (2 * fs.length)).map fun i => iV (numAt fs p g i))[i]? = some (iV (numAt fs p g i)) := fun h => by rw [List.getElem?_map, List.getElem?_range h]; rfl
    walk_at "rd"
    refine i_rng (by omega) (by omega) ?_
    rw [Int.toNat_natCast]
    refine go_lc2 walk_rangeZ (fun p' i Hx => Hx p' = some (.lst ((rowsB fs p g fs.length i).map V.bl)) ∧ Same H2 Hx)
      (fun p' np' => ⟨upd_same, same_upd np'⟩) (fun _ _ _ _ _ => trivial) (fun p' np' i v H8 H9 hi q y => ?_) (fun p8 H8 np8 q => ?_) (fun σ2 H3 R R' h q => ?_) mono_name mono_yes
    · obtain ⟨e8, s8⟩ := q
      obtain ⟨rfl, rfl⟩ := y
      have hi : i < fs.length := hi
      walk_at "rd"
      refine ⟨rfl, i_yes (iteT ?_)⟩
      walk_at "rd"
      refine i_rng (by omega) (by omega) ?_
      refine ⟨fs.length, _, _, fun j Hx => Hx p' = some (.lst ((rowsB fs p g fs.length i ++ (List.range j).map (okB fs p g i)).map V.bl)) ∧ Same H2 Hx, by rw [Int.toNat_natCast]; exact walk_rangeZ, ⟨by rw [List.range_zero, List.map_nil, List.append_nil]; exact e8, s8⟩, fun _ _ _ _ => trivial, fun j x Hx Hy hj q y => ?_, fun Hx q => ?_⟩
      · obtain ⟨e9, s9⟩ := q
        obtain ⟨rfl, rfl⟩ := y
        have hj : j < fs.length := hj
        have en9 := s9 _ _ en
        have ll := rowsB_len fs p g fs.length i
        have lm : i * fs.length ≤ 8 * 8 := Nat.mul_le_mul (by omega) l8
        walk_at "rd"
        refine ⟨rfl, i_yes (iteT ?_)⟩
        walk_at "rd"
        refine i_ixLv en9 (by omega) (by rw [show ((i : Int) + (j : Int)).toNat = i + j by omega]; exact gn (by omega)) ?_
        walk_at "rd"
        refine i_ixLv en9 (by omega) (by rw [Int.toNat_natCast]; exact gn (by omega)) ?_
        walk_at "rd"
        refine i_ixLv en9 (by omega) (by rw [Int.toNat_natCast]; exact gn (by omega)) ?_
        walk_at "rd"
        refine ⟨_, e9, Nat.lt_of_le_of_lt (by rw [List.length_map, List.length_append, List.length_map, List.length_range, ll]; omega) (Nat.lt_of_lt_of_le (by decide : 1000 < 100000) (Nat.le_of_ble_eq_true rfl)), ?_, Same.set_new s9 np'⟩
        have : decide (((numAt fs p g (i + j) : Nat) : Int) ≤ ((numAt fs p g i : Nat) : Int) + ((numAt fs p g j : Nat) : Int)) = okB fs p g i j := decide_eq_decide.mpr (by omega)
        rw [this, upd_same, List.range_succ]
        simp only [List.map_append, List.map_cons, List.map_nil, List.append_assoc]
      · exact ⟨by rw [rowsB_succ]; exact q.1, q.2⟩
    · obtain ⟨e8, s8⟩ := q
      walk_at "rd"
      refine i_all e8 ?_
      rw [rowsB_all]
      exact k2 _ (s1.trans (s2.trans s8))
    · obtain ⟨v, e, j, ev, b1, b2, r⟩ := q
      exact ⟨v, e, j, ev, b1, b2, h _ _ r⟩
theorem ok_built {R : Addr} (F : Fun K "built" "built" s_built f fd) (x_check_row : CalX P w K mg base "check_row" ["row"] 5 (spCkR K R)) : FnOk P w K mg base (L2.CX P w) 6 f fd ["row"] (spBad K R) := by
  refine Sw.Fun.okX F sc_built (fun vs H Q E h => ?_) (fun cdv A outer s H vs Q E hr h tk => ?_)
  · obtain ⟨x, d, rfl, _⟩ := h; rfl
  · obtain ⟨x, d, rfl, hx, e, k⟩ := h
    refine ⟨_, (pss_cons (ps_expr (pe_calX x_check_row hr tk (pa_cons (pv 0) pa_nil))) pss_never), ?_⟩
    walk_at "rd"
    exact ⟨x, d, rfl, hx, fun er => by (rw [e] at er; cases er), fun _ => k⟩
theorem ok_builtA {R : Addr} (F : Fun K "built_accepting" "built_accepting" s_built_accepting f fd) (x_check_row : CalX P w K mg base "check_row" ["row"] 5 (spCkR K R)) : FnOk P w K mg base (L2.CX P w) 6 f fd ["row"] (spBad K R) := by
  refine Sw.Fun.okX F sc_built_accepting (fun vs H Q E h => ?_) (fun cdv A outer s H vs Q E hr h tk => ?_)
  · obtain ⟨x, d, rfl, _⟩ := h; rfl
  · obtain ⟨x, d, rfl, hx, e, k⟩ := h
    refine ⟨_, (pss_cons (ps_expr (pe_calX x_check_row hr tk (pa_cons (pv 0) pa_nil))) pss_never), ?_⟩
    walk_at "rd"
    exact ⟨x, d, rfl, hx, fun er => by (rw [e] at er; cases er), fun _ => k⟩
end
end Sw
namespace Sw
open PySem PySem.Spec PyProof.Rows L2
local macro_rules | `(tactic| walk_at "hp") => `(tactic| first
  | (with_reducible assumption) | (with_reducible exact upd_same)
  | ((with_reducible refine' upd_old ?q1 ?q2); (case q1 => (with_reducible assumption)); (case q2 => walk_at "hp"))
  | ((with_reducible refine' Same.at ?q1 ?q2); (case q1 => (with_reducible assumption)); (case q2 => walk_at "hp"))
  | ((with_reducible refine' upd_skip ?q1 ?q2); (case q1 => walk_at "ne"); (case q2 => walk_at "hp"))
  | fail)
local macro_rules | `(tactic| walk_at "ne") => `(tactic| first
  | (with_reducible assumption) | (with_reducible exact Ne.symm (by assumption))
  | ((with_reducible refine' ne_of_none ?q1 ?q2); (case q2 => (with_reducible assumption)); (case q1 => walk_at "hp"))
  | fail)
local macro_rules | `(tactic| walk_at "ci") => `(tactic| first | assumption | (show (0 : Int) < _; first | decide | (with_reducible omega)) | exact ⟨by decide, by decide⟩ | exact .inl ⟨by decide, by decide⟩ | exact .inr ⟨by decide, by decide⟩)
local macro_rules | `(tactic| walk_at "ln") => `(tactic| first | (with_reducible assumption) | (with_reducible omega) | (simp only [List.length_append, List.length_take, List.length_drop, List.length_reverse, List.length_cons, List.length_nil]; with_reducible omega))
local macro_rules | `(tactic| walk_at "rd1") => `(tactic| first
  | (with_reducible refine i_seq ?_) | (with_reducible refine i_asg ?_) | (with_reducible refine i_ret ?_) | (with_reducible refine i_name ?_) | ((with_reducible refine' i_var ?q1 ?_); (case q1 => exact rfl)) | (with_reducible refine i_c ?_) | (with_reducible refine i_op ?_) | (with_reducible refine i_un ?_)
  | (with_reducible refine i_rI0 ?_) | (with_reducible refine i_cb ?_) | (with_reducible refine i_cons ?_) | (with_reducible refine i_nil ?_) | (with_reducible refine i_call ?_) | (with_reducible refine i_if ?_) | (with_reducible refine i_ifE ?_) | (with_reducible refine i_test ?_) | (with_reducible refine i_bl ?_)
  | (with_reducible refine i_and ?_) | (with_reducible refine i_or ?_) | (with_reducible refine i_not ?_) | (with_reducible refine i_lstM ?_) | (with_reducible refine i_lstLM ?_) | (with_reducible refine i_tupM ?_) | (with_reducible refine i_next ?_) | (with_reducible refine i_drop ?_) | (with_reducible refine i_sub ?_)
  | (with_reducible refine i_bm ?_) | (with_reducible refine i_sl ?_) | (with_reducible refine i_part ?_) | (with_reducible refine i_nopart ?_) | (with_reducible refine i_exI ?_) | (with_reducible refine i_chain ?_) | ((with_reducible refine' i_aug ?q1 ?_); (case q1 => exact rfl)) | (with_reducible refine i_ip ?_)
  | (with_reducible refine i_par ?_) | (with_reducible refine i_pair ?_) | (with_reducible refine i_andV ?_) | (with_reducible refine i_orV ?_) | (with_reducible refine i_notV ?_) | (with_reducible refine i_m1 ?_) | (with_reducible refine i_str ?_)
  | (with_reducible refine iteF ?_) | (with_reducible refine iteT ?_) | (with_reducible refine iteNT ?_) | (with_reducible refine iteNF ?_) | (with_reducible refine i_tyS ?_) | (with_reducible refine i_tB ?_) | (with_reducible refine i_retN ?_) | (with_reducible refine i_par3 ?_) | (with_reducible refine i_trip ?_) | (with_reducible refine i_gCons ?_) | (with_reducible refine i_gNil ?_) | (with_reducible refine i_lstRg ?_) | (with_reducible refine i_rg1 ?_)
  | (with_reducible refine i_lc ?_) | (with_reducible refine i_for ?_) | (with_reducible refine i_iList ?_) | (with_reducible refine i_iTup ?_) | (with_reducible refine i_iStr ?_) | (with_reducible refine i_iRng1 ?_) | (with_reducible refine i_iEnS ?_)
  | ((with_reducible refine' i_ixTH ?q1 ?q2 ?_); (case q1 => walk_at "hp"); (case q2 => exact rfl))
  | ((with_reducible refine' i_ixLH ?q1 ?q2 ?_); (case q1 => walk_at "hp"); (case q2 => exact rfl))
  | ((with_reducible refine i_addS ?q1 ?_); (case q1 => walk_at "ln")) | ((with_reducible refine i_lenSS ?q1 ?_); (case q1 => walk_at "ln")) | ((with_reducible refine i_slFrom ?q1 ?q2 ?_); (case q1 => walk_at "ln"); (case q2 => walk_at "ln")) | ((with_reducible refine i_slTo ?q1 ?q2 ?_); (case q1 => walk_at "ln"); (case q2 => walk_at "ln"))
  | ((with_reducible refine' i_tyL ?q1 ?_); (case q1 => walk_at "hp"))
  | ((with_reducible refine' i_gTupH ?q1 ?q2 ?_); (case q1 => walk_at "hp"); (case q2 => exact rfl))
  | (with_reducible refine i_dnewM ?_) | (with_reducible refine i_init ?_) | (with_reducible refine i_fst ?_) | (with_reducible refine i_mk ?_) | (with_reducible refine i_mkF ?_) | (with_reducible refine i_raise ?_) | (with_reducible refine i_callS ?_) | (with_reducible refine i_kwS ?_)
  | (with_reducible refine i_revT ?_) | (with_reducible refine i_kw ?_) | ((with_reducible refine' ⟨_, _, rfl, sqT_of ?q1, ?_⟩); (case q1 => walk_at "hp"))
  | (with_reducible refine i_revS ?_) | ((with_reducible refine i_revSS ?q1 ?_); (case q1 => walk_at "ln"))
  | (with_reducible refine i_startS ?_) | (with_reducible refine i_inSg ?_) | (with_reducible refine i_absN ?_) | (with_reducible refine i_min2 ?_) | (with_reducible refine i_max2 ?_) | (with_reducible refine i_min3 ?_) | (with_reducible refine i_intN ?_) | (with_reducible refine i_intNB ?_)
  | ((with_reducible refine' i_lenL ?q1 ?_); (case q1 => walk_at "hp")) | ((with_reducible refine' i_lenT ?q1 ?_); (case q1 => walk_at "hp"))
  | (with_reducible refine i_eqI ?_) | (with_reducible refine i_neI ?_) | (with_reducible refine i_eqS ?_) | (with_reducible refine i_neS ?_) | (with_reducible refine i_isNoI ?_) | (with_reducible refine i_isNoN ?_) | (with_reducible refine i_isNoR ?_)
  | ((with_reducible refine i_pow ?q1 ?q2 ?q3 ?_); (case q1 => decide); (case q2 => decide); (case q3 => (with_reducible omega)))
  | ((with_reducible refine i_rI ?q1 ?_); (case q1 => walk_at "ci"))
  | (with_reducible refine Or.inl ⟨_, rfl, ?_⟩) | (with_reducible refine Or.inr ⟨_, rfl, ?_⟩) | (with_reducible refine ⟨_, rfl, ?_⟩) | (with_reducible refine ⟨_, _, rfl, ?_⟩) | (with_reducible refine ⟨_, _, rfl, rfl, ?_⟩)
  | ((with_reducible refine' ⟨_, _, rfl, Or.inl (sqL_of ?q1), ?_⟩); (case q1 => walk_at "hp")) | ((with_reducible refine' ⟨_, _, rfl, Or.inr (sqT_of ?q1), ?_⟩); (case q1 => walk_at "hp")) | (with_reducible refine i_dget ?_) | (with_reducible refine i_disp1T ?_) | (with_reducible refine i_dcT ?_) | (with_reducible refine i_dnewT ?_) | (with_reducible refine i_fld ?_) | (with_reducible refine i_sFld ?_) | (with_reducible refine i_make ?_) | (with_reducible refine i_meth ?_) | (with_reducible refine i_star ?_) | (with_reducible refine i_isNoS ?_) | (with_reducible refine i_lc2 ?_) | (with_reducible refine i_iEnT ?_) | (with_reducible refine i_iZipT ?_) | fail)
local macro_rules | `(tactic| walk_at "rd") => `(tactic| repeat' walk_at "rd1")

/-! ### drawn rows -/
theorem asc_iff {fs : List Nat} : asc fs = true ↔ ∀ i, i + 1 < fs.length → fs.getD i 0 ≤ fs.getD (i + 1) 0 := by
  simp only [asc, List.all_eq_true, List.mem_range, decide_eq_true_eq]
  exact ⟨fun h i hi => h i (by omega), fun h i hi => h i (by omega)⟩
theorem asc_le {fs : List Nat} (h : asc fs = true) {i : Nat} : ∀ j, i ≤ j → j < fs.length → fs.getD i 0 ≤ fs.getD j 0
  | 0, h1, h2 => by rw [show i = 0 by omega]; exact Nat.le_refl _
  | j + 1, h1, h2 => by
    by_cases c : i = j + 1
    · rw [c]; exact Nat.le_refl _
    · have := asc_le h (i := i) j (by omega) (by omega)
      have := asc_iff.mp h j h2
      omega
/-- the first numbers of a row -/
structure FirI (fs : List Nat) : Prop where
  l1 : 1 ≤ fs.length
  z : fs.getD 0 0 = 0
  a : asc fs = true
  m : ∀ x ∈ fs, x ≤ 40
theorem getD_app_l {xs ys : List Nat} {i : Nat} (h : i < xs.length) : (xs ++ ys).getD i 0 = xs.getD i 0 := by
  rw [List.getD_eq_getElem?_getD, List.getElem?_append_left h, ← List.getD_eq_getElem?_getD]
theorem getD_app_r {xs : List Nat} {y : Nat} : (xs ++ [y]).getD xs.length 0 = y := by
  rw [List.getD_eq_getElem?_getD, List.getElem?_append_right (Nat.le_refl _), Nat.sub_self]; rfl
theorem FirI.snoc {fs : List Nat} (h : FirI fs) {y : Nat} (h1 : fs.getD (fs.length - 1) 0 ≤ y) (h2 : y ≤ 40) : FirI (fs ++ [y]) := by
  have l1 := h.l1
  refine ⟨by rw [List.length_append]; omega, by rw [getD_app_l (by omega)]; exact h.z, asc_iff.mpr fun i hi => ?_, fun x hx => ?_⟩
  · rw [List.length_append, List.length_singleton] at hi
    by_cases c : i + 1 < fs.length
    · rw [getD_app_l (by omega), getD_app_l c]; exact asc_iff.mp h.a i c
    · have e : i = fs.length - 1 := by omega
      rw [getD_app_l (by omega), show i + 1 = fs.length by omega, getD_app_r, e]; exact h1
  · rcases List.mem_append.mp hx with hx | hx
    · exact h.m x hx
    · rw [List.mem_singleton.mp hx]; exact h2
theorem getD_set {fs : List Nat} {k i y : Nat} (hk : k < fs.length) : (fs.set k y).getD i 0 = if i = k then y else fs.getD i 0 := by
  rw [List.getD_eq_getElem?_getD, List.getElem?_set]
  by_cases c : k = i
  · rw [if_pos c, if_pos c.symm, if_pos hk]; rfl
  · rw [if_neg c, if_neg (fun q => c q.symm), ← List.getD_eq_getElem?_getD]
theorem FirI.top {fs : List Nat} (h : FirI fs) (l2 : 2 ≤ fs.length) : FirI (fs.set (fs.length - 1) 40) := by
  refine ⟨by rw [List.length_set]; omega, by rw [getD_set (by omega), if_neg (by omega)]; exact h.z, asc_iff.mpr fun i hi => ?_, fun x hx => ?_⟩
  · rw [List.length_set] at hi
    rw [getD_set (by omega), getD_set (by omega), if_neg (by omega)]
    split
    · refine h.m _ ?_
      rw [List.getD_eq_getElem?_getD, List.getElem?_eq_getElem (by omega)]; exact List.getElem_mem _
    · exact asc_iff.mp h.a i hi
  · rcases List.mem_or_eq_of_mem_set hx with hx | hx
    · exact h.m x hx
    · omega
theorem getD_le {fs : List Nat} (h : FirI fs) {i : Nat} : fs.getD i 0 ≤ 40 := by
  rw [List.getD_eq_getElem?_getD]
  rcases e : fs[i]? with _ | x
  · simp
  · exact h.m x (List.mem_of_getElem? e)
theorem ixN_neg1 {n : Nat} (h : 1 ≤ n) : ixN n (-1) = some (n - 1) := by
  unfold ixN
  rw [if_neg (by omega)]
  simp
  omega
theorem sm100 {n : Nat} (h : n ≤ 1000) : n < sizeLine := Nat.lt_of_le_of_lt h (Nat.lt_of_lt_of_le (by decide : 1000 < 100000) (Nat.le_of_ble_eq_true rfl))
/-- a plain row: a list of a list and two numbers -/
def PAt (H : Hp) (v : V) (fs : List Nat) (p g : Nat) : Prop := ∃ q a, v = .ref q ∧ H q = some (.lst [.ref a, iV p, iV g]) ∧ H a = some (.lst (fs.map iV)) ∧ sysModules < a
theorem PAt.same {H H' : Hp} (s : Same H H') {v : V} {fs : List Nat} {p g : Nat} (h : PAt H v fs p g) : PAt H' v fs p g := by
  obtain ⟨q, a, e, h1, h2, h3⟩ := h; exact ⟨q, a, e, s _ _ h1, s _ _ h2, h3⟩
/-- _law_first(box) -/
def spFirst : Sp := fun vs H Q _ => ∃ (b : Addr) (d : Int), vs = [.ref b] ∧ BoxAt H b d ∧ d + 20 ≤ 1000000 ∧
  ∀ q fs H', H q = none → q ≠ b → sysModules < q → L2.del H' b q = some (.lst (fs.map iV)) → FirI fs → fs.length ≤ 8 → BoxAt H' b (d + 20) → SB b H H' → Q (.ref q) H'
/-- _law_plain(box) -/
def spPlain : Sp := fun vs H Q _ => ∃ (b : Addr) (d : Int), vs = [.ref b] ∧ BoxAt H b d ∧ d + 30 ≤ 1000000 ∧
  ∀ v fs p g H', PAt (L2.del H' b) v fs p g → RowI fs p g → BoxAt H' b (d + 30) → SB b H H' → Q v H'
/-- _law_numbers(plain, size) -/
def spNbs : Sp := fun vs H Q _ => ∃ (v : V) (fs : List Nat) (p g n : Nat), vs = [v, iV n] ∧ PAt H v fs p g ∧ RowI fs p g ∧ n ≤ 500 ∧ ∀ q H', H q = none → Same H H' → H' q = some (.lst ((List.range n).map fun i => iV (numAt fs p g i))) → Q (.ref q) H'
theorem del_upd {H : Hp} {b p : Addr} {o : HO} (ne : p ≠ b) : L2.del (L2.upd H p o) b = L2.upd (L2.del H b) p o := by
  funext a
  by_cases c : a = b
  · subst c; rw [L2.del_same, L2.upd_ne (Ne.symm ne), L2.del_same]
  · rw [L2.del_ne c]
    by_cases c2 : a = p
    · subst c2; rw [L2.upd_same, L2.upd_same]
    · rw [L2.upd_ne c2, L2.upd_ne c2, L2.del_ne c]
theorem SB.set_new {b p : Addr} {H H1 : Hp} {o : HO} (s : SB b H H1) (n : H p = none) : SB b H (L2.upd H1 p o) := fun a u na ha => by
  by_cases e : a = p
  · rw [e, n] at ha; cases ha
  · rw [L2.upd_ne e]; exact s a u na ha
theorem SB.fresh {b a : Addr} {H H1 : Hp} (s : SB b H H1) (ne : a ≠ b) (n : H1 a = none) : H a = none := by
  rcases e : H a with _ | o
  · rfl
  · have := s _ _ ne e
    rw [n] at this
    cases this
theorem SB.set_old {p : Addr} {H H1 : Hp} {o : HO} (s : SB p H H1) : SB p H (L2.upd H1 p o) := fun a u na ha => by rw [L2.upd_ne na]; exact s a u na ha
theorem i_callBK {r : List V → List V → Hp → VK → Prop} {t tk : TA} {σ : L2.St} {H : Hp} {Q : VK} (h : t σ H fun vs H1 => tk σ H1 fun zs H2 => r vs zs H2 Q) : tCKw r t tk σ H Q := h
section
variable {P : Program} {w : World} {K : PySem.W.Frag} {mg : Str → Option Value} {base : Heap} {f : Addr} {fd : FuncData}
theorem ok_first (F : Fun K "_law_first" "_law_first" s__law_first f fd) (z : Z mg) (c__law_take : Cal P w K mg base "_law_take" ["box", "limit"] 1 spTake) : FnOk P w K mg base CX0 2 f fd ["box"] spFirst := by
  refine F.ok sc__law_first (fun vs H Q E h => ?_) (fun cdv A outer s H vs Q E hr h => ?_)
  · obtain ⟨b, d, rfl, _⟩ := h; rfl
  · obtain ⟨b, d, rfl, B, hd, k⟩ := h
    refine ⟨_, (pss_cons (ps_par (i := 1) (j := 2) rfl sc__law_first.nd rfl rfl (by decide) rfl rfl (pa_cons (pe_op op_add pe_int (pe_cal c__law_take hr (pa_cons (pv 0) (pa_cons pe_int pa_nil)))) (pa_cons (pe_cal c__law_take hr (pa_cons (pv 0) (pa_cons pe_int pa_nil))) pa_nil)) (by rfl))
      (pss_cons (ps_setLc (i := 3) (own := [("turn", 4)]) (g := gName 4) (tt := tYes) rfl sc__law_first.nd rfl rfl (sw_true rfl rfl rfl (by decide +kernel)) (pi_range1 (by rfl) z.range (pa_cons (pe_op op_sub (pv 1) pe_int) pa_nil)) (blkOk_by (own := [("turn", 4)]) (N := n__law_first) (sc := defScope s__law_first) (by decide +kernel)) (fun _ _ _ _ _ => (pg_name (i := 4) sc__law_first.nd rfl (.inl rfl))) (fun _ _ _ _ _ => pts_nil) (fun _ _ _ _ _ => (pe_ix (r := rIxL K) ix_list (pe_lstL (pa_cons pe_int (pa_cons pe_int (pa_cons pe_int (pa_cons pe_int (pa_cons pe_int (pa_cons pe_int (pa_cons pe_int (pa_cons pe_int pa_nil))))))))) (pe_cal c__law_take hr (pa_cons (pv 0) (pa_cons pe_int pa_nil))) (fun _ _ => rfl))))
      (C8.pss_cut (ps_if (pt_cmpR op_lt (pv 2) pe_int (nomark _))
        (pss_one (ps_set (i := 3) sc__law_first.nd rfl (.inl rfl) (pe_callBK (cr_sortedRev (b := true)) (by rfl) z.sorted (by decide +kernel) (pa_cons (pv 3) pa_nil) (pk_cons pe_bl pk_nil))))
        pss_nil)
      (pss_cons (ps_set (i := 5) sc__law_first.nd rfl (.inl rfl) (pe_lstL (pa_cons pe_int pa_nil)))
      (pss_cons (ps_for PassesOwn.never rfl (pi_list (pv 3)) (pg_name (i := 6) sc__law_first.nd rfl (.inl rfl))
        (pss_one (ps_expr (pe_bm PySem.F.plainAttrs_list PySem.F.slot_list_append PySem.F.type_list_append mt_append (pv 5) (pa_cons (pe_callB (call_min2N rfl) (by rfl) z.min_ (by decide +kernel) (pa_cons pe_int (pa_cons (pe_op op_add (pe_ix ix_list (pv 5) (pe_un un_neg pe_int) (fun _ _ => rfl)) (pv 6)) pa_nil))) pa_nil)))))
      (C8.pss_cut (ps_if (PW.pt (pw_and (pt_cmpR op_eq (pv 2) pe_int (nomark _)) (pw_and1 (pt_cmpR op_gt (pv 1) pe_int (nomark _)))))
        (pss_one (ps_asg pe_int (pg_sub (pv 5) (pe_un un_neg pe_int) set_list)))
        pss_nil)
      (pss_one (ps_ret (pv 5))))))))), ?_⟩
    walk_at "rd"
    refine ⟨b, 8, _, rfl, B, by omega, by omega, by omega, fun sz H1 z0 z1 B1 s1 => ?_⟩
    walk_at "rd"
    refine ⟨b, 4, _, rfl, B1, by omega, by omega, by omega, fun way H2 y0 y1 B2 s2 => ?_⟩
    have s02 := s1.trans s2
    obtain ⟨n, rfl⟩ : ∃ n : Nat, sz = n := ⟨sz.toNat, by omega⟩
    walk_at "rd"
    rw [show (1 : Int) + (n : Int) - 1 = (n : Int) by omega]
    refine i_rng (by omega) (by omega) ?_
    rw [Int.toNat_natCast]
    refine go_lc walk_rangeZ (fun p i Hx => ∃ rs : List Nat, Hx p = some (.lst (rs.map iV)) ∧ rs.length = i ∧ BoxAt Hx b (d + 2 + i) ∧ SB b H2 Hx) (fun p np => ⟨[], upd_same, rfl, (B2.same (same_upd np)).mono (by omega), SB.of (same_upd np)⟩) (fun _ _ _ _ _ => trivial) (fun p np i v Hx Hy hi h y => ?_) (fun rp Hx nrp h => ?_)
    · obtain ⟨rs, ep, lr, Bx, sx⟩ := h
      obtain ⟨rfl, rfl⟩ := y
      have npb := box_ne B2 np
      walk_at "rd"
      refine ⟨rfl, i_yes (iteT ?_)⟩
      walk_at "rd"
      refine newLL Bx (Nat.le_of_ble_eq_true rfl) fun p3 H3 lt3 n3 B3 s3 e3 t3 => ?_
      have np3 : p3 ≠ b := fun c => by rw [c, L2.del_same] at e3; cases e3
      walk_at "rd"
      refine ⟨b, 8, _, rfl, B3, by omega, by omega, by omega, fun x H4 x0 x1 B4 s4 => ?_⟩
      obtain ⟨y, ey⟩ : ∃ y : Nat, ([.int 0, .int 0, .int 1, .int 1, .int 2, .int 3, .int 5, .int 12] : List V)[x.toNat]? = some (iV y) := by
        have hr : x = 0 ∨ x = 1 ∨ x = 2 ∨ x = 3 ∨ x = 4 ∨ x = 5 ∨ x = 6 ∨ x = 7 := by omega
        rcases hr with rfl | rfl | rfl | rfl | rfl | rfl | rfl | rfl
        · exact ⟨0, rfl⟩
        · exact ⟨0, rfl⟩
        · exact ⟨1, rfl⟩
        · exact ⟨1, rfl⟩
        · exact ⟨2, rfl⟩
        · exact ⟨3, rfl⟩
        · exact ⟨5, rfl⟩
        · exact ⟨12, rfl⟩
      refine i_ixLv (s4 _ _ np3 (del_sub _ _ e3)) x0 ey ?_
      have st4 : SB b Hy H4 := (SB.of t3).trans s4
      have ep4 := st4 _ _ npb ep
      exact ⟨_, ep4, sm100 (by rw [List.length_map]; omega), rs ++ [y], by rw [upd_same, List.map_append]; rfl, by rw [List.length_append, lr]; rfl, (B4.upd_ne' npb).mono (by omega), SB.set_new (sx.trans st4) np⟩
    obtain ⟨rs, erp, lrs, Bx, sx⟩ := h
    have s0x := s02.trans sx
    walk_at "rd"
    refine i_cut (fun σ' H' => ∃ (rq : Addr) (rs : List Nat) (u4 : Option V), σ' = [some (.ref b), some (.int (1 + (n : Int))), some (.int way), some (.ref rq), u4, none, none] ∧ H' rq = some (.lst (rs.map iV)) ∧ rs.length = n ∧ Same Hx H') ?_ (fun σ' H3 hm => ?_)
    · walk_at "rd"
      refine iteB (fun c => ?_) (fun c => ?_)
      · refine i_asg ?_
        refine i_callBK ?_
        walk_at "rd"
        have er : rs.map iV = (rs.map fun x : Nat => (x : Int)).map V.int := by rw [List.map_map]; rfl
        refine ⟨rp, rs.map fun x : Nat => (x : Int), rfl, rfl, by rw [← er]; exact sqL_of erp, fun ns' q pm _ nq => ?_⟩
        have en : ns'.map V.int = (ns'.map Int.toNat).map iV := by
          rw [List.map_map]
          refine List.map_congr_left fun z hz => ?_
          obtain ⟨x, _, rfl⟩ := List.mem_map.mp (pm.mem_iff.mp hz)
          rfl
        rw [en]
        walk_at "rd"
        exact ⟨q, _, _, rfl, upd_same, by rw [List.length_map, pm.length_eq, List.length_map, lrs], same_upd nq⟩
      · walk_at "rd"
        exact ⟨rp, rs, _, rfl, erp, lrs, Same.refl _⟩
    obtain ⟨rq, rs, u4, rfl, erq, lrs, s3⟩ := hm
    have B3 := Bx.same s3
    walk_at "rd"
    refine newLL B3 (Nat.le_of_ble_eq_true rfl) fun fq H4 ltf nfq B4 s4 e4 t4 => ?_
    have nfb := box_ne B3 nfq
    have erq4 := t4 _ _ erq
    have e4f := del_sub _ _ e4
    have nrf : rq ≠ fq := ne_of_none erq nfq
    have hfq : H fq = none := (s0x.trans (SB.of s3)).fresh nfb nfq
    have s0 : SB b H H3 := s0x.trans (SB.of s3)
    walk_at "rd"
    refine ⟨⟨_, sqL_of erq4⟩, ?_⟩
    refine go_for (walk_list (xs := rs.map iV)) (fun i σ Hz => ∃ (u6 : Option V) (fs : List Nat), σ = [some (.ref b), some (.int (1 + (n : Int))), some (.int way), some (.ref rq), u4, some (.ref fq), u6] ∧ Hz fq = some (.lst (fs.map iV)) ∧ FirI fs ∧ fs.length = i + 1 ∧ SB fq H4 Hz)
      ⟨none, [0], rfl, e4f, ⟨by simp, rfl, rfl, by simp⟩, rfl, SB.refl _⟩ (fun i σ Hz hi h => by obtain ⟨_, _, _, _, _, _, sz⟩ := h; exact sqL_of (sz _ _ nrf erq4)) (fun i v σ Hz Hw hi h y => ?_) (fun σ Hz h => ?_)
    · obtain ⟨u6, fs, rfl, ef, I, lf, sz⟩ := h
      obtain ⟨rfl, hv⟩ := y
      rw [List.length_map] at hi
      have gx : rs[i]? = some rs[i] := List.getElem?_eq_getElem hi
      rw [List.getElem?_map, gx] at hv
      cases hv
      generalize rs[i] = x at *
      have l40 := getD_le I (i := fs.length - 1)
      walk_at "rd"
      refine i_rU ?_
      refine i_ixLH ef (atI_neg1 (n := fs.length - 1) (by rw [List.length_map]; omega) (getD_map (by omega))) ?_
      walk_at "rd"
      obtain ⟨y, ey, y1, y2⟩ : ∃ y : Nat, min (40 : Int) (((fs.getD (fs.length - 1) 0 : Nat) : Int) + (x : Int)) = y ∧ fs.getD (fs.length - 1) 0 ≤ y ∧ y ≤ 40 := ⟨(min (40 : Int) (((fs.getD (fs.length - 1) 0 : Nat) : Int) + (x : Int))).toNat, by omega, by omega, by omega⟩
      rw [ey]
      refine i_append ef (sm100 (by rw [List.length_map]; omega)) ?_
      exact ⟨_, fs ++ [y], rfl, by rw [upd_same, List.map_append]; rfl, I.snoc y1 y2, by rw [List.length_append, lf]; rfl, SB.set_old sz⟩
    · obtain ⟨u6, fs, rfl, ef, I, lf, sz⟩ := h
      rw [List.length_map, lrs] at lf
      have kk : ∀ Hy fs', Hy fq = some (.lst (fs'.map iV)) → FirI fs' → fs'.length = n + 1 → SB fq H4 Hy → Q (.ref fq) Hy := fun Hy fs' e' I' l' s' => by
        have By : BoxAt Hy b (d + 2 + n) := by
          obtain ⟨n', g', c', e'', hb, r⟩ := B4.ex
          exact ⟨n', g', c', e'', s' _ _ (Ne.symm nfb) hb, r⟩
        refine k fq fs' Hy hfq nfb ltf (by rw [L2.del_ne nfb]; exact e') I' (by omega) (By.mono (by omega)) fun a o na ea => ?_
        exact s' a o (fun c => by rw [c, hfq] at ea; cases ea) (t4 _ _ (s0 a o na ea))
      walk_at "rd"
      refine i_cut (fun σ' H' => ∃ (fs' : List Nat), σ' = [some (.ref b), some (.int (1 + (n : Int))), some (.int way), some (.ref rq), u4, some (.ref fq), u6] ∧ H' fq = some (.lst (fs'.map iV)) ∧ FirI fs' ∧ fs'.length = n + 1 ∧ SB fq H4 H') ?_ (fun σ' H6 hm => ?_)
      · walk_at "rd"
        refine iteB (fun c3 => ?_) (fun c3 => ?_)
        · walk_at "rd"
          refine iteB (fun c4 => ?_) (fun c4 => ?_)
          · have l2 : 2 ≤ fs.length := by have c4 : (1 : Int) < 1 + (n : Int) := c4; omega
            walk_at "rd"
            refine i_rU ?_
            refine i_setL ef (j := fs.length - 1) (by rw [List.length_map]; exact ixN_neg1 (by omega)) ?_
            walk_at "rd"
            exact ⟨fs.set (fs.length - 1) 40, rfl, by rw [upd_same, List.map_set]; rfl, I.top l2, by rw [List.length_set]; exact lf, SB.set_old sz⟩
          · walk_at "rd"
            exact ⟨fs, rfl, ef, I, lf, sz⟩
        · walk_at "rd"
          exact ⟨fs, rfl, ef, I, lf, sz⟩
      obtain ⟨fs', rfl, e6, I6, l6, s6⟩ := hm
      walk_at "rd"
      exact kk _ _ e6 I6 l6 s6
theorem ok_plain (F : Fun K "_law_plain" "_law_plain" s__law_plain f fd) (z : Z mg) (c__law_take : Cal P w K mg base "_law_take" ["box", "limit"] 1 spTake) (c__law_first : Cal P w K mg base "_law_first" ["box"] 2 spFirst) : FnOk P w K mg base CX0 3 f fd ["box"] spPlain := by
  refine F.ok sc__law_plain (fun vs H Q E h => ?_) (fun cdv A outer s H vs Q E hr h => ?_)
  · obtain ⟨b, d, rfl, _⟩ := h; rfl
  · obtain ⟨b, d, rfl, B, hd, k⟩ := h
    refine ⟨_, (pss_cons (ps_set (i := 1) sc__law_plain.nd rfl (.inl rfl) (pe_cal c__law_first hr (pa_cons (pv 0) pa_nil)))
      (pss_cons (ps_set (i := 2) sc__law_plain.nd rfl (.inl rfl) (pe_op op_add pe_int (pe_cal c__law_take hr (pa_cons (pv 0) (pa_cons (pe_callB (call_min2N rfl) (by rfl) z.min_ (by decide +kernel) (pa_cons pe_int (pa_cons (pe_callB call_lenQ (by rfl) z.len PySem.boot_len (pa_cons (pv 1) pa_nil)) pa_nil))) pa_nil)))))
      (C8.pss_cut (ps_if (pt_cmpR op_gt (pe_op op_sub (pe_ix ix_list (pv 1) (pe_un un_neg pe_int) (fun _ _ => rfl)) (pe_ix ix_list (pv 1) (pe_op op_sub (pe_callB call_lenQ (by rfl) z.len PySem.boot_len (pa_cons (pv 1) pa_nil)) (pv 2)) (fun _ _ => rfl))) pe_int (nomark _))
        (pss_one (ps_set (i := 2) sc__law_plain.nd rfl (.inl rfl) pe_int))
        pss_nil)
      (pss_cons (ps_set (i := 3) sc__law_plain.nd rfl (.inl rfl) (pe_op op_sub (pe_ix ix_list (pv 1) (pe_un un_neg pe_int) (fun _ _ => rfl)) (pe_ix ix_list (pv 1) (pe_op op_sub (pe_callB call_lenQ (by rfl) z.len PySem.boot_len (pa_cons (pv 1) pa_nil)) (pv 2)) (fun _ _ => rfl))))
      (pss_cons (ps_set (i := 4) sc__law_plain.nd rfl (.inl rfl) (pe_ix ix_list (pe_lst (pa_cons (pv 3) (pa_cons (pv 3) (pa_cons (pe_op op_add (pv 3) (pe_cal c__law_take hr (pa_cons (pv 0) (pa_cons (pe_op op_sub pe_int (pv 3)) pa_nil)))) (pa_cons pe_int pa_nil))))) (pe_cal c__law_take hr (pa_cons (pv 0) (pa_cons pe_int pa_nil))) (fun _ _ => rfl)))
      (pss_one (ps_ret (pe_lst (pa_cons (pv 1) (pa_cons (pv 2) (pa_cons (pv 4) pa_nil))))))))))), ?_⟩
    walk_at "rd"
    refine ⟨b, _, rfl, B, by omega, fun fq fs H1 nfq nfb ltf ef I l8 B1 s1 => ?_⟩
    have l1 := I.l1
    have eff := del_sub _ _ ef
    have glast : (fs.map iV)[fs.length - 1]? = some (iV (fs.getD (fs.length - 1) 0)) := getD_map (by omega)
    have lm : (fs.map iV).length = fs.length - 1 + 1 := by rw [List.length_map]; omega
    walk_at "rd"
    rw [List.length_map]
    refine ⟨b, min 4 (fs.length : Int), _, rfl, B1, by omega, by omega, by omega, fun r H2 r0 r1 B2 s2 => ?_⟩
    obtain ⟨p, ep, p1, p4, pl⟩ : ∃ p : Nat, (1 : Int) + r = p ∧ 1 ≤ p ∧ p ≤ 4 ∧ p ≤ fs.length := ⟨(1 + r).toNat, by omega, by omega, by omega, by omega⟩
    have ef2 := (del_sb s2) _ _ ef
    have ef2f := del_sub _ _ ef2
    walk_at "rd"
    rw [ep]
    refine i_cut (fun σ' H' => ∃ p : Nat, σ' = [some (.ref b), some (.ref fq), some (iV p), none, none] ∧ H' = H2 ∧ 1 ≤ p ∧ p ≤ 4 ∧ p ≤ fs.length ∧ fs.getD (fs.length - 1) 0 ≤ fs.getD (fs.length - p) 0 + 12) ?_ (fun σ' H3 hm => ?_)
    · walk_at "rd"
      refine i_rU ?_
      refine i_ixLH ef2f (atI_neg1 lm glast) ?_
      walk_at "rd"
      rw [List.length_map, show (fs.length : Int) - (p : Int) = ((fs.length - p : Nat) : Int) by omega]
      refine i_ixLv ef2f (by omega) (by rw [Int.toNat_natCast]; exact getD_map (by omega)) ?_
      walk_at "rd"
      refine iteB (fun c => ?_) (fun c => ?_)
      · walk_at "rd"
        show H2 = H2 ∧ 1 ≤ 1 ∧ 1 ≤ 4 ∧ 1 ≤ fs.length ∧ fs.getD (fs.length - 1) 0 ≤ fs.getD (fs.length - 1) 0 + 12
        exact ⟨rfl, by omega, by omega, by omega, by omega⟩
      · have c : ¬ (12 : Int) < ((fs.getD (fs.length - 1) 0 : Nat) : Int) - ((fs.getD (fs.length - p) 0 : Nat) : Int) := c
        walk_at "rd"
        exact ⟨rfl, p1, p4, pl, by omega⟩
    obtain ⟨p, rfl, rfl, p1, p4, pl, le12⟩ := hm
    have mono := asc_le I.a (i := fs.length - p) (fs.length - 1) (by omega) (by omega)
    walk_at "rd"
    refine i_rU ?_
    refine i_ixLH ef2f (atI_neg1 lm glast) ?_
    walk_at "rd"
    rw [List.length_map, show (fs.length : Int) - (p : Int) = ((fs.length - p : Nat) : Int) by omega]
    refine i_ixLv ef2f (by omega) (by rw [Int.toNat_natCast]; exact getD_map (by omega)) ?_
    walk_at "rd"
    obtain ⟨le, ele, hle, h12⟩ : ∃ le : Nat, ((fs.getD (fs.length - 1) 0 : Nat) : Int) - ((fs.getD (fs.length - p) 0 : Nat) : Int) = le ∧ fs.getD (fs.length - 1) 0 = fs.getD (fs.length - p) 0 + le ∧ le ≤ 12 := ⟨fs.getD (fs.length - 1) 0 - fs.getD (fs.length - p) 0, by omega, by omega, by omega⟩
    rw [ele]
    refine ⟨b, 13 - (le : Int), _, rfl, B2, by omega, by omega, by omega, fun x H4 x0 x1 B4 s4 => ?_⟩
    walk_at "rd"
    refine newL B4 (Nat.le_of_ble_eq_true rfl) fun p3 H5 B5 s5 e5 t5 => ?_
    have np3 : p3 ≠ b := fun c => by rw [c, L2.del_same] at e5; cases e5
    walk_at "rd"
    refine ⟨b, 4, _, rfl, B5, by omega, by omega, by omega, fun y H6 y0 y1 B6 s6 => ?_⟩
    obtain ⟨g, eg, g1, g2⟩ : ∃ g : Nat, ([.int le, .int le, .int ((le : Int) + x), .int 12] : List V)[y.toNat]? = some (iV g) ∧ g ≤ 12 ∧ le ≤ g := by
      have hr : y = 0 ∨ y = 1 ∨ y = 2 ∨ y = 3 := by omega
      rcases hr with rfl | rfl | rfl | rfl
      · exact ⟨le, rfl, by omega, by omega⟩
      · exact ⟨le, rfl, by omega, by omega⟩
      · refine ⟨((le : Int) + x).toNat, ?_, by omega, by omega⟩
        show some (V.int ((le : Int) + x)) = some (V.int (((le : Int) + x).toNat : Int))
        rw [Int.toNat_of_nonneg (by omega)]
      · exact ⟨12, rfl, by omega, by omega⟩
    refine i_ixLv (s6 _ _ np3 (del_sub _ _ e5)) y0 eg ?_
    have sd := (del_sb s4).trans (s5.trans (del_sb s6))
    walk_at "rd"
    refine newL B6 (Nat.le_of_ble_eq_true rfl) fun qp H7 B7 s7 e7 t7 => ?_
    refine k _ fs p g H7 ⟨qp, fq, rfl, e7, (sd.trans s7) _ _ ef2, ltf⟩ ⟨l1, l8, I.z, I.a, I.m, p1, p4, pl, g1, by omega⟩ (B7.mono (by omega)) (s1.trans (s2.trans (s4.trans ((SB.of t5).trans (s6.trans (SB.of t7))))))
theorem ok_nbs (F : Fun K "_law_numbers" "_law_numbers" s__law_numbers f fd) (z : Z mg) : FnOk P w K mg base CX0 1 f fd ["plain", "size"] spNbs := by
  refine F.ok sc__law_numbers (fun vs H Q E h => ?_) (fun cdv A outer s H vs Q E hr h => ?_)
  · obtain ⟨v, fs, p, g, n, rfl, _⟩ := h; rfl
  · obtain ⟨v, fs, p, g, n, rfl, ⟨q, a, rfl, eq, ea, lta⟩, I, hn, k⟩ := h
    refine ⟨_, (pss_cons (ps_set (i := 2) sc__law_numbers.nd rfl (.inl rfl) (pe_callTy call_list_of (by rfl) z.list (by decide +kernel) (pa_cons (pe_ix ix_list (pv 0) pe_int (fun _ _ => rfl)) pa_nil)))
      (pss_cons (ps_for PassesOwn.never rfl (pi_range1 (by rfl) z.range (pa_cons (pv 1) pa_nil)) (pg_name (i := 3) sc__law_numbers.nd rfl (.inl rfl))
        (pss_one (ps_expr (pe_bm PySem.F.plainAttrs_list PySem.F.slot_list_append PySem.F.type_list_append mt_append (pv 2) (pa_cons (pe_op op_add (pe_ix ix_list (pv 2) (pe_op op_sub (pe_callB call_lenQ (by rfl) z.len PySem.boot_len (pa_cons (pv 2) pa_nil)) (pe_ix ix_list (pv 0) pe_int (fun _ _ => rfl))) (fun _ _ => rfl)) (pe_ix ix_list (pv 0) pe_int (fun _ _ => rfl))) pa_nil)))))
      (pss_one (ps_ret (pe_slice sl_list (pv 2) po_none (po_some (pv 1))))))), ?_⟩
    have l8 := I.l8
    have pl := I.pl
    have p1 := I.p1
    walk_at "rd"
    intro fq nfq
    have e0 : fs.map iV = (List.range (fs.length + 0)).map fun i => iV (numAt fs p g i) := by
      apply List.ext_getElem?
      intro i
      by_cases c : i < fs.length
      · rw [getD_map c, List.getElem?_map, List.getElem?_range (by omega)]
        show _ = some (iV (numAt fs p g i))
        rw [numAt_low c]
      · rw [List.getElem?_eq_none (by rw [List.length_map]; omega), List.getElem?_eq_none (by rw [List.length_map, List.length_range]; omega)]
    rw [e0]
    walk_at "rd"
    refine i_rng (by omega) (by omega) ?_
    rw [Int.toNat_natCast]
    refine go_for walk_rangeZ (fun i σ Hz => ∃ (u3 : Option V), σ = [some (.ref q), some (iV n), some (.ref fq), u3] ∧ Hz fq = some (.lst ((List.range (fs.length + i)).map fun i => iV (numAt fs p g i))) ∧ Same H Hz)
      ⟨none, rfl, upd_same, same_upd nfq⟩ (fun _ _ _ _ _ => trivial) (fun i v σ Hz Hw hi h y => ?_) (fun σ Hz h => ?_)
    · obtain ⟨u3, rfl, ef, sz⟩ := h
      obtain ⟨rfl, rfl⟩ := y
      have eqz := sz _ _ eq
      walk_at "rd"
      rw [List.length_map, List.length_range, show ((fs.length + i : Nat) : Int) - (p : Int) = ((fs.length + i - p : Nat) : Int) by omega]
      refine i_ixLv ef (by omega) (by rw [Int.toNat_natCast, List.getElem?_map, List.getElem?_range (by omega)]; rfl) ?_
      walk_at "rd"
      refine i_append ef (sm100 (by rw [List.length_map, List.length_range]; omega)) ?_
      refine ⟨_, rfl, ?_, Same.set_new sz nfq⟩
      rw [upd_same, show fs.length + (i + 1) = fs.length + i + 1 from rfl, List.range_succ, List.map_append, List.map_cons, List.map_nil, numAt_step p1 pl (show fs.length ≤ fs.length + i by omega)]
      rfl
    · obtain ⟨u3, rfl, ef, sz⟩ := h
      walk_at "rd"
      refine ⟨fq, _, rfl, sqL_of ef, fun rq nrq => ?_⟩
      have ec : cutV ((List.range (fs.length + n)).map fun i => iV (numAt fs p g i)) none (some (n : Int)) = (List.range n).map fun i => iV (numAt fs p g i) := by
        unfold cutV
        rw [HT.sIx_nat, HT.sIx_none, List.drop_zero, Nat.sub_zero, List.length_map, List.length_range, Nat.min_eq_left (by omega), ← List.map_take, List.take_range, Nat.min_eq_left (by omega)]
      rw [ec]
      exact k _ _ (sz.free nrq) (sz.trans (same_upd nrq)) upd_same
end
end Sw
namespace Sw
open PySem PySem.Spec PyProof.Rows L2
local macro_rules | `(tactic| walk_at "hp") => `(tactic| first
  | (with_reducible assumption) | (with_reducible exact upd_same)
  | ((with_reducible refine' upd_old ?q1 ?q2); (case q1 => (with_reducible assumption)); (case q2 => walk_at "hp"))
  | ((with_reducible refine' Same.at ?q1 ?q2); (case q1 => (with_reducible assumption)); (case q2 => walk_at "hp"))
  | ((with_reducible refine' upd_skip ?q1 ?q2); (case q1 => walk_at "ne"); (case q2 => walk_at "hp"))
  | fail)
local macro_rules | `(tactic| walk_at "ne") => `(tactic| first
  | (with_reducible assumption) | (with_reducible exact Ne.symm (by assumption))
  | ((with_reducible refine' ne_of_none ?q1 ?q2); (case q2 => (with_reducible assumption)); (case q1 => walk_at "hp"))
  | fail)
local macro_rules | `(tactic| walk_at "ci") => `(tactic| first | assumption | (show (0 : Int) < _; first | decide | (with_reducible omega)) | exact ⟨by decide, by decide⟩ | exact .inl ⟨by decide, by decide⟩ | exact .inr ⟨by decide, by decide⟩)
local macro_rules | `(tactic| walk_at "ln") => `(tactic| first | (with_reducible assumption) | (with_reducible omega) | (simp only [List.length_append, List.length_take, List.length_drop, List.length_reverse, List.length_cons, List.length_nil]; with_reducible omega))
local macro_rules | `(tactic| walk_at "rd1") => `(tactic| first
  | (with_reducible refine i_seq ?_) | (with_reducible refine i_asg ?_) | (with_reducible refine i_ret ?_) | (with_reducible refine i_name ?_) | ((with_reducible refine' i_var ?q1 ?_); (case q1 => exact rfl)) | (with_reducible refine i_c ?_) | (with_reducible refine i_op ?_) | (with_reducible refine i_un ?_)
  | (with_reducible refine i_rI0 ?_) | (with_reducible refine i_cb ?_) | (with_reducible refine i_cons ?_) | (with_reducible refine i_nil ?_) | (with_reducible refine i_call ?_) | (with_reducible refine i_if ?_) | (with_reducible refine i_ifE ?_) | (with_reducible refine i_test ?_) | (with_reducible refine i_bl ?_)
  | (with_reducible refine i_and ?_) | (with_reducible refine i_or ?_) | (with_reducible refine i_not ?_) | (with_reducible refine i_lstM ?_) | (with_reducible refine i_lstLM ?_) | (with_reducible refine i_tupM ?_) | (with_reducible refine i_next ?_) | (with_reducible refine i_drop ?_) | (with_reducible refine i_sub ?_)
  | (with_reducible refine i_bm ?_) | (with_reducible refine i_sl ?_) | (with_reducible refine i_part ?_) | (with_reducible refine i_nopart ?_) | (with_reducible refine i_exI ?_) | (with_reducible refine i_chain ?_) | ((with_reducible refine' i_aug ?q1 ?_); (case q1 => exact rfl)) | (with_reducible refine i_ip ?_)
  | (with_reducible refine i_par ?_) | (with_reducible refine i_pair ?_) | (with_reducible refine i_andV ?_) | (with_reducible refine i_orV ?_) | (with_reducible refine i_notV ?_) | (with_reducible refine i_m1 ?_) | (with_reducible refine i_str ?_)
  | (with_reducible refine iteF ?_) | (with_reducible refine iteT ?_) | (with_reducible refine iteNT ?_) | (with_reducible refine iteNF ?_) | (with_reducible refine i_tyS ?_) | (with_reducible refine i_tB ?_) | (with_reducible refine i_retN ?_) | (with_reducible refine i_par3 ?_) | (with_reducible refine i_trip ?_) | (with_reducible refine i_gCons ?_) | (with_reducible refine i_gNil ?_) | (with_reducible refine i_lstRg ?_) | (with_reducible refine i_rg1 ?_)
  | (with_reducible refine i_lc ?_) | (with_reducible refine i_for ?_) | (with_reducible refine i_iList ?_) | (with_reducible refine i_iTup ?_) | (with_reducible refine i_iStr ?_) | (with_reducible refine i_iRng1 ?_) | (with_reducible refine i_iEnS ?_)
  | ((with_reducible refine' i_ixTH ?q1 ?q2 ?_); (case q1 => walk_at "hp"); (case q2 => exact rfl))
  | ((with_reducible refine' i_ixLH ?q1 ?q2 ?_); (case q1 => walk_at "hp"); (case q2 => exact rfl))
  | ((with_reducible refine i_addS ?q1 ?_); (case q1 => walk_at "ln")) | ((with_reducible refine i_lenSS ?q1 ?_); (case q1 => walk_at "ln")) | ((with_reducible refine i_slFrom ?q1 ?q2 ?_); (case q1 => walk_at "ln"); (case q2 => walk_at "ln")) | ((with_reducible refine i_slTo ?q1 ?q2 ?_); (case q1 => walk_at "ln"); (case q2 => walk_at "ln"))
  | ((with_reducible refine' i_tyL ?q1 ?_); (case q1 => walk_at "hp"))
  | ((with_reducible refine' i_gTupH ?q1 ?q2 ?_); (case q1 => walk_at "hp"); (case q2 => exact rfl))
  | (with_reducible refine i_dnewM ?_) | (with_reducible refine i_init ?_) | (with_reducible refine i_fst ?_) | (with_reducible refine i_mk ?_) | (with_reducible refine i_mkF ?_) | (with_reducible refine i_raise ?_) | (with_reducible refine i_callS ?_) | (with_reducible refine i_kwS ?_)
  | (with_reducible refine i_revT ?_) | (with_reducible refine i_kw ?_) | ((with_reducible refine' ⟨_, _, rfl, sqT_of ?q1, ?_⟩); (case q1 => walk_at "hp"))
  | (with_reducible refine i_revS ?_) | ((with_reducible refine i_revSS ?q1 ?_); (case q1 => walk_at "ln"))
  | (with_reducible refine i_startS ?_) | (with_reducible refine i_inSg ?_) | (with_reducible refine i_absN ?_) | (with_reducible refine i_min2 ?_) | (with_reducible refine i_max2 ?_) | (with_reducible refine i_min3 ?_) | (with_reducible refine i_intN ?_) | (with_reducible refine i_intNB ?_)
  | ((with_reducible refine' i_lenL ?q1 ?_); (case q1 => walk_at "hp")) | ((with_reducible refine' i_lenT ?q1 ?_); (case q1 => walk_at "hp"))
  | (with_reducible refine i_eqI ?_) | (with_reducible refine i_neI ?_) | (with_reducible refine i_eqS ?_) | (with_reducible refine i_neS ?_) | (with_reducible refine i_isNoI ?_) | (with_reducible refine i_isNoN ?_) | (with_reducible refine i_isNoR ?_)
  | ((with_reducible refine i_pow ?q1 ?q2 ?q3 ?_); (case q1 => decide); (case q2 => decide); (case q3 => (with_reducible omega)))
  | ((with_reducible refine i_rI ?q1 ?_); (case q1 => walk_at "ci"))
  | (with_reducible refine Or.inl ⟨_, rfl, ?_⟩) | (with_reducible refine Or.inr ⟨_, rfl, ?_⟩) | (with_reducible refine ⟨_, rfl, ?_⟩) | (with_reducible refine ⟨_, _, rfl, ?_⟩) | (with_reducible refine ⟨_, _, rfl, rfl, ?_⟩)
  | ((with_reducible refine' ⟨_, _, rfl, Or.inl (sqL_of ?q1), ?_⟩); (case q1 => walk_at "hp")) | ((with_reducible refine' ⟨_, _, rfl, Or.inr (sqT_of ?q1), ?_⟩); (case q1 => walk_at "hp")) | (with_reducible refine i_dget ?_) | (with_reducible refine i_disp1T ?_) | (with_reducible refine i_dcT ?_) | (with_reducible refine i_dnewT ?_) | (with_reducible refine i_fld ?_) | (with_reducible refine i_sFld ?_) | (with_reducible refine i_make ?_) | (with_reducible refine i_meth ?_) | (with_reducible refine i_star ?_) | (with_reducible refine i_isNoS ?_) | (with_reducible refine i_lc2 ?_) | (with_reducible refine i_iEnT ?_) | (with_reducible refine i_iZipT ?_) | fail)
local macro_rules | `(tactic| walk_at "rd") => `(tactic| repeat' walk_at "rd1")

abbrev intsD (fs : List Nat) : List PyData := fs.map fun x : Nat => PyData.int (x : Int)
theorem natsOf_map : ∀ {fs : List Nat}, (∀ x ∈ fs, x ≤ 40) → natsOf (intsD fs) = some fs
  | [], _ => rfl
  | x :: fs, h => by
    have h1 := h x List.mem_cons_self
    have ih := natsOf_map (fs := fs) fun y hy => h y (List.mem_cons_of_mem _ hy)
    simp only [intsD, List.map_cons, natsOf, nat40]
    rw [if_pos ⟨by omega, by omega⟩]
    simp only [intsD] at ih
    rw [ih]; rfl
theorem intsD_get {fs : List Nat} {i : Nat} {d : PyData} (h : (intsD fs)[i]? = some d) : i < fs.length ∧ d = .int ((fs.getD i 0 : Nat) : Int) := by
  rw [List.getElem?_map] at h
  rcases e : fs[i]? with _ | x
  · rw [e] at h; cases h
  · rw [e] at h
    cases h
    have hi := (List.getElem?_eq_some_iff.mp e).1
    exact ⟨hi, by rw [List.getD_eq_getElem?_getD, e]; rfl⟩
theorem getD_mem {fs : List Nat} {i : Nat} (h : i < fs.length) : fs.getD i 0 ∈ fs := by
  rw [List.getD_eq_getElem?_getD, List.getElem?_eq_getElem h]; exact List.getElem_mem _
theorem asc_snoc {fs : List Nat} {y : Nat} (h : asc fs = true) (h1 : fs.length = 0 ∨ fs.getD (fs.length - 1) 0 ≤ y) : asc (fs ++ [y]) = true := by
  refine asc_iff.mpr fun i hi => ?_
  rw [List.length_append, List.length_singleton] at hi
  by_cases c : i + 1 < fs.length
  · rw [getD_app_l (by omega), getD_app_l c]; exact asc_iff.mp h i c
  · have e : i = fs.length - 1 := by omega
    rw [getD_app_l (by omega), show i + 1 = fs.length by omega, getD_app_r, e]
    rcases h1 with h1 | h1
    · omega
    · exact h1
section
variable {P : Program} {w : World} {K : PySem.W.Frag} {mg : Str → Option Value} {base : Heap} {f : Addr} {fd : FuncData}
theorem ok_judged (F : Fun K "_law_judged" "_law_judged" s__law_judged f fd) (z : Z mg) (c__law_is_count : Cal P w K mg base "_law_is_count" ["thing"] 1 (spCnt K)) : FnOk P w K mg base CX0 2 f fd ["thing"] (spRowB K) := by
  refine F.ok sc__law_judged (fun vs H Q E h => ?_) (fun cdv A outer s H vs Q E hr h => ?_)
  · obtain ⟨x, d, rfl, _⟩ := h; rfl
  · obtain ⟨x, d, rfl, hx, k⟩ := h
    refine ⟨_, (pss_cons (ps_if (PW.pt (pw_or (pt_not (pt_val (pe_callB call_isi (by rfl) z.isinstance (by decide +kernel) (pa_cons (pv 0) (pa_cons (pe_bltn (v := .ty "tuple") (by rfl) z.tuple (by decide +kernel) rfl) pa_nil))))) (pw_or1 (pt_cmpR op_ne (pe_callB call_lenQ (by rfl) z.len PySem.boot_len (pa_cons (pv 0) pa_nil)) pe_int (nomark _)))))
        (pss_one (ps_ret pe_bl))
        pss_nil)
      (pss_cons (ps_asg (pv 0) (pg_tup rfl (pgs_cons (pg_name (i := 1) sc__law_judged.nd rfl (.inl rfl)) (pgs_cons (pg_name (i := 2) sc__law_judged.nd rfl (.inl rfl)) (pgs_cons (pg_name (i := 3) sc__law_judged.nd rfl (.inl rfl)) pgs_nil)))))
      (pss_cons (ps_if (PW.pt (pw_or (pt_not (pt_val (pe_callB call_isiT (by rfl) z.isinstance (by decide +kernel) (pa_cons (pv 1) (pa_cons (pe_tup (pa_cons (pe_bltn (v := .ty "list") (by rfl) z.list (by decide +kernel) rfl) (pa_cons (pe_bltn (v := .ty "tuple") (by rfl) z.tuple (by decide +kernel) rfl) pa_nil))) pa_nil))))) (pw_or (pt_cmpR op_lt (pe_callB call_lenQ (by rfl) z.len PySem.boot_len (pa_cons (pv 1) pa_nil)) pe_int (nomark _)) (pw_or1 (pt_cmpR op_gt (pe_callB call_lenQ (by rfl) z.len PySem.boot_len (pa_cons (pv 1) pa_nil)) pe_int (nomark _))))))
        (pss_one (ps_ret pe_bl))
        pss_nil)
      (pss_cons (ps_for PassesOwn.never rfl (pi_range1 (by rfl) z.range (pa_cons (pe_callB call_lenQ (by rfl) z.len PySem.boot_len (pa_cons (pv 1) pa_nil)) pa_nil)) (pg_name (i := 4) sc__law_judged.nd rfl (.inl rfl))
        (pss_one (ps_if (PW.pt (pw_or (pt_not (pt_val (pe_cal c__law_is_count hr (pa_cons (pe_ix ix_seq (pv 1) (pv 4) (fun _ _ => rfl)) pa_nil)))) (pw_or (pt_cmpR op_gt (pe_ix ix_seq (pv 1) (pv 4) (fun _ _ => rfl)) pe_int (nomark _)) (pw_or1 (pt_cmpR op_lt (pe_ix ix_seq (pv 1) (pv 4) (fun _ _ => rfl)) (pe_ix ix_seq (pv 1) (pe_callB (call_max2N rfl) (by rfl) z.max_ (by decide +kernel) (pa_cons pe_int (pa_cons (pe_op op_sub (pv 4) pe_int) pa_nil))) (fun _ _ => rfl)) (nomark _))))))
          (pss_one (ps_ret pe_bl))
          pss_nil)))
      (pss_cons (ps_if (PW.pt (pw_or (pt_cmpR op_ne (pe_ix ix_seq (pv 1) pe_int (fun _ _ => rfl)) pe_int (nomark _)) (pw_or (pt_not (pt_val (pe_cal c__law_is_count hr (pa_cons (pv 2) pa_nil)))) (pw_or (pt_cmpR op_lt (pv 2) pe_int (nomark _)) (pw_or (pt_cmpR op_gt (pv 2) pe_int (nomark _)) (pw_or1 (pt_cmpR op_gt (pv 2) (pe_callB call_lenQ (by rfl) z.len PySem.boot_len (pa_cons (pv 1) pa_nil)) (nomark _))))))))
        (pss_one (ps_ret pe_bl))
        pss_nil)
      (pss_cons (ps_if (PW.pt (pw_or (pt_not (pt_val (pe_cal c__law_is_count hr (pa_cons (pv 3) pa_nil)))) (pw_or1 (pt_cmpR op_gt (pv 3) pe_int (nomark _)))))
        (pss_one (ps_ret pe_bl))
        pss_nil)
      (pss_one (ps_ret (pe_cmpR op_ge (pe_op op_add (pe_ix ix_seq (pv 1) (pe_op op_sub (pe_callB call_lenQ (by rfl) z.len PySem.boot_len (pa_cons (pv 1) pa_nil)) (pv 2)) (fun _ _ => rfl)) (pv 3)) (pe_ix ix_seq (pv 1) (pe_un un_neg pe_int) (fun _ _ => rfl)) (nomark _)))))))))), ?_⟩
    have none_k : rowOf d = none → ∀ H', Same H H' → Q (.bl false) H' := fun e H' s' => by have := k H' s'; rw [e] at this; exact this
    walk_at "rd"
    refine hx.isi (n := "tuple") (.inr (.inr (.inr (.inr rfl)))) ?_
    by_cases ht : ∃ ds, d = .tuple ds
    case neg =>
      have e : tyB "tuple" d = false := by cases d <;> first | rfl | exact (ht ⟨_, rfl⟩).elim
      have e2 : rowOf d = none := by cases d <;> first | rfl | exact (ht ⟨_, rfl⟩).elim
      rw [e]
      walk_at "rd"
      exact none_k e2 _ (Same.refl _)
    obtain ⟨ds, rfl⟩ := ht
    obtain ⟨a, xs, rfl, ha, hxs⟩ := hx.tupI
    rw [show tyB "tuple" (.tuple ds) = true from rfl]
    have lx := hxs.len
    walk_at "rd"
    refine i_lenSqT ha ?_
    walk_at "rd"
    rw [lx]
    by_cases l3 : ds.length = 3
    rotate_left
    · have e2 : rowOf (.tuple ds) = none := by
        rcases ds with _ | ⟨x1, _ | ⟨x2, _ | ⟨x3, _ | ⟨x4, ys⟩⟩⟩⟩
        · rfl
        · rfl
        · rfl
        · exact (l3 rfl).elim
        · rfl
      rw [decide_eq_false (show ¬ (ds.length : Int) = 3 by omega)]
      walk_at "rd"
      exact none_k e2 _ (Same.refl _)
    rw [decide_eq_true (show (ds.length : Int) = 3 by omega)]
    obtain ⟨d0, d1, d2, rfl⟩ : ∃ d0 d1 d2, ds = [d0, d1, d2] := by
      rcases ds with _ | ⟨x1, _ | ⟨x2, _ | ⟨x3, _ | ⟨x4, ys⟩⟩⟩⟩
      · cases l3
      · cases l3
      · cases l3
      · exact ⟨_, _, _, rfl⟩
      · simp at l3
    obtain ⟨x0, x1, x2, rfl, h0, h1, h2⟩ : ∃ x0 x1 x2, xs = [x0, x1, x2] ∧ De K H x0 d0 ∧ De K H x1 d1 ∧ De K H x2 d2 := by
      cases hxs with
      | cons h0 r => cases r with
        | cons h1 r => cases r with
          | cons h2 r => cases r; exact ⟨_, _, _, rfl, h0, h1, h2⟩
    have row_eq : rowOf (.tuple [d0, d1, d2]) = match numsOf d0 with
      | none => none
      | some fs => match perOf fs d1 with
        | none => none
        | some p => match gainOf fs p d2 with
          | none => none
          | some g => some (fs, p, g) := rfl
    have bad0 : numsOf d0 = none → ∀ H', Same H H' → Q (.bl false) H' := fun e => none_k (by rw [row_eq, e])
    walk_at "rd"
    refine ⟨a, _, rfl, ha, rfl, ?_⟩
    walk_at "rd"
    refine newT0 (Nat.le_of_ble_eq_true rfl) fun tp H1 ntp s1 etp => ?_
    walk_at "rd"
    refine (h0.same s1).isiLT etp ?_
    rw [show (tyB "list" d0 || tyB "tuple" d0) = seqB d0 from rfl, seqB_of]
    rcases e : seqOf d0 with _ | ds
    · rw [show (none : Option (List PyData)).isSome = false from rfl]
      walk_at "rd"
      exact bad0 (by unfold numsOf; rw [e]) _ s1
    rw [show (some ds).isSome = true from rfl]
    obtain ⟨a0, ys, rfl, ha0, hys⟩ := deSeq h0 e
    have hf := ha0.same s1
    have hys1 := hys.same s1
    have ly := hys.len
    walk_at "rd"
    refine i_lenX hf ?_
    walk_at "rd"
    rw [ly]
    by_cases c1 : 1 ≤ ds.length
    rotate_left
    · rw [decide_eq_true (show (ds.length : Int) < 1 by omega)]
      walk_at "rd"
      exact bad0 (by unfold numsOf; rw [e]; simp only; rw [if_neg (fun q => c1 q.1)]) _ s1
    rw [decide_eq_false (show ¬ (ds.length : Int) < 1 by omega)]
    walk_at "rd"
    refine i_lenX hf ?_
    walk_at "rd"
    rw [ly]
    by_cases c8 : ds.length ≤ 8
    rotate_left
    · rw [decide_eq_true (show (8 : Int) < (ds.length : Int) by omega)]
      walk_at "rd"
      exact bad0 (by unfold numsOf; rw [e]; simp only; rw [if_neg (fun q => c8 q.2)]) _ s1
    rw [decide_eq_false (show ¬ (8 : Int) < (ds.length : Int) by omega)]
    walk_at "rd"
    refine i_lenX hf ?_
    rw [ly]
    walk_at "rd"
    refine i_rng (by omega) (by omega) ?_
    rw [Int.toNat_natCast]
    have badI : ∀ (i : Nat) (dj : PyData), ds[i]? = some dj → (∀ n : Nat, n ≤ 40 → dj ≠ .int (n : Int)) → numsOf d0 = none := fun i dj gj hb => by
      rcases q : numsOf d0 with _ | fs
      · rfl
      · obtain ⟨ds', q1, q2, _, _, _, _, q3⟩ := numsOf_inv q
        rw [e] at q1
        cases q1
        rw [q2] at gj
        obtain ⟨hi, ej⟩ := intsD_get gj
        exact (hb _ (q3 _ (getD_mem hi)) ej).elim
    refine go_for walk_rangeZ (fun i σ Hz => ∃ (u4 : Option V) (fs : List Nat), σ = [some (.ref a), some (.ref a0), some x1, some x2, u4] ∧ Hz = H1 ∧ ds.take i = intsD fs ∧ (∀ x ∈ fs, x ≤ 40) ∧ asc fs = true)
      ⟨none, [], rfl, rfl, rfl, nofun, rfl⟩ (fun _ _ _ _ _ => trivial) (fun i v σ Hz Hw hi h y => ?_) (fun σ Hz h => ?_)
    · obtain ⟨u4, fs, rfl, eHz, tk, h40, hasc⟩ := h
      subst eHz
      obtain ⟨eHw, ev⟩ := y
      subst eHw
      subst ev
      have gj : ds[i]? = some ds[i] := List.getElem?_eq_getElem hi
      obtain ⟨xj, gxj⟩ : ∃ xj, ys[i]? = some xj := ⟨ys[i]'(by omega), List.getElem?_eq_getElem (by omega)⟩
      have hxj := hys1.getD gxj
      rw [List.getD_eq_getElem?_getD, gj] at hxj
      simp only [Option.getD_some] at hxj
      generalize ds[i] = dj at *
      have lfs : fs.length = i := by
        have := congrArg List.length tk
        rw [List.length_take, List.length_map] at this
        omega
      walk_at "rd"
      refine i_ixXn hf (by omega) (by rw [Int.toNat_natCast]; exact gxj) ?_
      walk_at "rd"
      refine ⟨xj, dj, rfl, hxj, ?_⟩
      walk_at "rd"
      rcases ec : cntB dj with _ | _
      · walk_at "rd"
        exact bad0 (badI i dj gj fun n _ q => by rw [q] at ec; simp [cntB] at ec) _ s1
      obtain ⟨n, rfl, rfl⟩ := hxj.cnt ec
      walk_at "rd"
      refine i_ixXn hf (by omega) (by rw [Int.toNat_natCast]; exact gxj) ?_
      walk_at "rd"
      by_cases c40 : n ≤ 40
      rotate_left
      · rw [decide_eq_true (show (40 : Int) < (n : Int) by omega)]
        walk_at "rd"
        exact bad0 (badI i _ gj fun n' hn' q => by injection q with q; omega) _ s1
      rw [decide_eq_false (show ¬ (40 : Int) < (n : Int) by omega)]
      walk_at "rd"
      refine i_ixXn hf (by omega) (by rw [Int.toNat_natCast]; exact gxj) ?_
      walk_at "rd"
      obtain ⟨y, gy, hy0, hy1⟩ : ∃ y : Nat, ys[(max 0 ((i : Int) - 1)).toNat]? = some (iV y) ∧ (i = 0 → y = n) ∧ (i ≠ 0 → y = fs.getD (fs.length - 1) 0 ∧ ds[i - 1]? = some (.int (y : Int))) := by
        by_cases c : i = 0
        · subst c
          exact ⟨n, gxj, fun _ => rfl, fun q => (q rfl).elim⟩
        · have g1 : ds[i - 1]? = some (.int ((fs.getD (i - 1) 0 : Nat) : Int)) := by
            have : (ds.take i)[i - 1]? = some (.int ((fs.getD (i - 1) 0 : Nat) : Int)) := by
              rw [tk, List.getElem?_map, List.getD_eq_getElem?_getD, List.getElem?_eq_getElem (by omega)]; rfl
            rwa [List.getElem?_take_of_lt (by omega)] at this
          obtain ⟨x', gx'⟩ : ∃ x', ys[i - 1]? = some x' := ⟨ys[i - 1]'(by omega), List.getElem?_eq_getElem (by omega)⟩
          have hx' := hys1.getD gx'
          rw [List.getD_eq_getElem?_getD, g1] at hx'
          simp only [Option.getD_some] at hx'
          cases hx'.intI
          refine ⟨fs.getD (i - 1) 0, by rw [show (max 0 ((i : Int) - 1)).toNat = i - 1 by omega]; exact gx', fun q => (c q).elim, fun _ => ⟨by rw [lfs], g1⟩⟩
      refine i_ixXn hf (by omega) gy ?_
      walk_at "rd"
      by_cases cy : n < y
      · rw [decide_eq_true (show (n : Int) < (y : Int) by omega)]
        have i0 : i ≠ 0 := fun q => by have := hy0 q; omega
        obtain ⟨_, g1⟩ := hy1 i0
        walk_at "rd"
        refine bad0 ?_ _ s1
        rcases q : numsOf d0 with _ | fs'
        · rfl
        · obtain ⟨ds', q1, q2, _, _, _, qa, _⟩ := numsOf_inv q
          rw [e] at q1
          cases q1
          rw [q2] at gj g1
          obtain ⟨b1, b2⟩ := intsD_get gj
          obtain ⟨b3, b4⟩ := intsD_get g1
          have := asc_iff.mp qa (i - 1) (by omega)
          rw [show i - 1 + 1 = i by omega] at this
          injection b2 with b2
          injection b4 with b4
          omega
      · rw [decide_eq_false (show ¬ (n : Int) < (y : Int) by omega)]
        walk_at "rd"
        refine ⟨_, fs ++ [n], rfl, rfl, ?_, fun x hx => ?_, asc_snoc hasc ?_⟩
        · rw [List.take_add_one, gj, tk]
          simp only [intsD, List.map_append]; rfl
        · rcases List.mem_append.mp hx with hx | hx
          · exact h40 x hx
          · rw [List.mem_singleton.mp hx]; exact c40
        · by_cases c : i = 0
          · left; omega
          · right
            have := (hy1 c).1
            omega
    · obtain ⟨u4, fs, rfl, eHz, tk, h40, hasc⟩ := h
      subst eHz
      rw [List.take_length] at tk
      subst tk
      rw [List.length_map] at c1 c8 ly
      have hxf := ints_deI hys
      subst hxf
      have eN : numsOf d0 = if fs.getD 0 0 = 0 ∧ asc fs = true then some fs else none := by unfold numsOf; rw [e]; simp only; rw [if_pos ⟨by rw [List.length_map]; exact c1, by rw [List.length_map]; exact c8⟩, natsOf_map h40]
      walk_at "rd"
      refine i_ixXn (i := 0) (v := iV (fs.getD 0 0)) hf (by decide) (getD_map (fs := fs) (i := 0) (by omega)) ?_
      walk_at "rd"
      by_cases c0 : fs.getD 0 0 = 0
      rotate_left
      · rw [show (!decide (((fs.getD 0 0 : Nat) : Int) = 0)) = true by rw [decide_eq_false (by omega)]; rfl]
        walk_at "rd"
        exact bad0 (by rw [eN, if_neg (fun q => c0 q.1)]) _ s1
      rw [show (!decide (((fs.getD 0 0 : Nat) : Int) = 0)) = false by rw [decide_eq_true (by omega)]; rfl]
      rw [if_pos ⟨c0, hasc⟩] at eN
      rw [eN] at row_eq
      simp only at row_eq
      walk_at "rd"
      refine ⟨x1, d1, rfl, h1.same s1, ?_⟩
      walk_at "rd"
      rcases ei : cntB d1 with _ | _
      · have e2 : perOf fs d1 = none := by
          cases d1 with
          | int j =>
            simp only [cntB, decide_eq_false_iff_not] at ei
            simp only [perOf]; rw [if_neg (fun q => ei (by omega))]
          | _ => rfl
        walk_at "rd"
        exact none_k (by rw [row_eq, e2]) _ s1
      obtain ⟨p, rfl, rfl⟩ := h1.cnt ei
      walk_at "rd"
      by_cases c2 : 1 ≤ p
      rotate_left
      · have e2 : perOf fs (.int (p : Int)) = none := by simp only [perOf]; rw [if_neg (fun q => c2 (by omega))]
        rw [decide_eq_true (show (p : Int) < 1 by omega)]
        walk_at "rd"
        exact none_k (by rw [row_eq, e2]) _ s1
      rw [decide_eq_false (show ¬ (p : Int) < 1 by omega)]
      walk_at "rd"
      by_cases c3 : p ≤ 4
      rotate_left
      · have e2 : perOf fs (.int (p : Int)) = none := by simp only [perOf]; rw [if_neg (fun q => c3 (by omega))]
        rw [decide_eq_true (show (4 : Int) < (p : Int) by omega)]
        walk_at "rd"
        exact none_k (by rw [row_eq, e2]) _ s1
      rw [decide_eq_false (show ¬ (4 : Int) < (p : Int) by omega)]
      walk_at "rd"
      refine i_lenX hf ?_
      walk_at "rd"
      rw [List.length_map]
      by_cases c4 : p ≤ fs.length
      rotate_left
      · have e2 : perOf fs (.int (p : Int)) = none := by simp only [perOf]; rw [if_neg (fun q => c4 (by omega))]
        rw [decide_eq_true (show (fs.length : Int) < (p : Int) by omega)]
        walk_at "rd"
        exact none_k (by rw [row_eq, e2]) _ s1
      rw [decide_eq_false (show ¬ (fs.length : Int) < (p : Int) by omega)]
      have e2 : perOf fs (.int (p : Int)) = some p := by simp only [perOf]; rw [if_pos ⟨by omega, by omega, by omega⟩]; rfl
      rw [e2] at row_eq
      simp only at row_eq
      walk_at "rd"
      refine ⟨x2, d2, rfl, h2.same s1, ?_⟩
      walk_at "rd"
      rcases ec : cntB d2 with _ | _
      · have e3 : gainOf fs p d2 = none := by
          cases d2 with
          | int j =>
            simp only [cntB, decide_eq_false_iff_not] at ec
            simp only [gainOf]; rw [if_neg (fun q => ec q.1)]
          | _ => rfl
        walk_at "rd"
        exact none_k (by rw [row_eq, e3]) _ s1
      obtain ⟨g, rfl, rfl⟩ := h2.cnt ec
      walk_at "rd"
      by_cases c5 : g ≤ 12
      rotate_left
      · have e3 : gainOf fs p (.int (g : Int)) = none := by simp only [gainOf]; rw [if_neg (fun q => c5 (by omega))]
        rw [decide_eq_true (show (12 : Int) < (g : Int) by omega)]
        walk_at "rd"
        exact none_k (by rw [row_eq, e3]) _ s1
      rw [decide_eq_false (show ¬ (12 : Int) < (g : Int) by omega)]
      walk_at "rd"
      refine i_lenX hf ?_
      walk_at "rd"
      rw [List.length_map, show (fs.length : Int) - (p : Int) = ((fs.length - p : Nat) : Int) by omega]
      refine i_ixXn hf (by omega) (by rw [Int.toNat_natCast]; exact getD_map (by omega)) ?_
      walk_at "rd"
      refine i_rU ?_
      refine i_ixX hf (atI_neg1 (n := fs.length - 1) (by rw [List.length_map]; omega) (getD_map (by omega))) ?_
      walk_at "rd"
      have e3 : (rowOf (.tuple [d0, .int (p : Int), .int (g : Int)])).isSome = decide (fs.getD (fs.length - 1) 0 ≤ fs.getD (fs.length - p) 0 + g) := by
        rw [row_eq]
        simp only [gainOf, Int.toNat_natCast]
        by_cases c6 : fs.getD (fs.length - 1) 0 ≤ fs.getD (fs.length - p) 0 + g
        · rw [if_pos ⟨by omega, by omega, c6⟩, decide_eq_true c6]; rfl
        · rw [if_neg (fun q => c6 q.2.2), decide_eq_false c6]; rfl
      rw [e3] at k
      rw [show decide (((fs.getD (fs.length - 1) 0 : Nat) : Int) ≤ ((fs.getD (fs.length - p) 0 : Nat) : Int) + (g : Int)) = decide (fs.getD (fs.length - 1) 0 ≤ fs.getD (fs.length - p) 0 + g) from decide_eq_decide.mpr (by omega)]
      exact k _ s1
end
end Sw
namespace Sw
open PySem PySem.Spec PyProof.Rows L2
local macro_rules | `(tactic| walk_at "hp") => `(tactic| first
  | (with_reducible assumption) | (with_reducible exact upd_same)
  | ((with_reducible refine' upd_old ?q1 ?q2); (case q1 => (with_reducible assumption)); (case q2 => walk_at "hp"))
  | ((with_reducible refine' Same.at ?q1 ?q2); (case q1 => (with_reducible assumption)); (case q2 => walk_at "hp"))
  | ((with_reducible refine' upd_skip ?q1 ?q2); (case q1 => walk_at "ne"); (case q2 => walk_at "hp"))
  | fail)
local macro_rules | `(tactic| walk_at "ne") => `(tactic| first
  | (with_reducible assumption) | (with_reducible exact Ne.symm (by assumption))
  | ((with_reducible refine' ne_of_none ?q1 ?q2); (case q2 => (with_reducible assumption)); (case q1 => walk_at "hp"))
  | fail)
local macro_rules | `(tactic| walk_at "ci") => `(tactic| first | assumption | (show (0 : Int) < _; first | decide | (with_reducible omega)) | exact ⟨by decide, by decide⟩ | exact .inl ⟨by decide, by decide⟩ | exact .inr ⟨by decide, by decide⟩)
local macro_rules | `(tactic| walk_at "ln") => `(tactic| first | (with_reducible assumption) | (with_reducible omega) | (simp only [List.length_append, List.length_take, List.length_drop, List.length_reverse, List.length_cons, List.length_nil]; with_reducible omega))
local macro_rules | `(tactic| walk_at "rd1") => `(tactic| first
  | (with_reducible refine i_seq ?_) | (with_reducible refine i_asg ?_) | (with_reducible refine i_ret ?_) | (with_reducible refine i_name ?_) | ((with_reducible refine' i_var ?q1 ?_); (case q1 => exact rfl)) | (with_reducible refine i_c ?_) | (with_reducible refine i_op ?_) | (with_reducible refine i_un ?_)
  | (with_reducible refine i_rI0 ?_) | (with_reducible refine i_cb ?_) | (with_reducible refine i_cons ?_) | (with_reducible refine i_nil ?_) | (with_reducible refine i_call ?_) | (with_reducible refine i_if ?_) | (with_reducible refine i_ifE ?_) | (with_reducible refine i_test ?_) | (with_reducible refine i_bl ?_)
  | (with_reducible refine i_and ?_) | (with_reducible refine i_or ?_) | (with_reducible refine i_not ?_) | (with_reducible refine i_lstM ?_) | (with_reducible refine i_lstLM ?_) | (with_reducible refine i_tupM ?_) | (with_reducible refine i_next ?_) | (with_reducible refine i_drop ?_) | (with_reducible refine i_sub ?_)
  | (with_reducible refine i_bm ?_) | (with_reducible refine i_sl ?_) | (with_reducible refine i_part ?_) | (with_reducible refine i_nopart ?_) | (with_reducible refine i_exI ?_) | (with_reducible refine i_chain ?_) | ((with_reducible refine' i_aug ?q1 ?_); (case q1 => exact rfl)) | (with_reducible refine i_ip ?_)
  | (with_reducible refine i_par ?_) | (with_reducible refine i_pair ?_) | (with_reducible refine i_andV ?_) | (with_reducible refine i_orV ?_) | (with_reducible refine i_notV ?_) | (with_reducible refine i_m1 ?_) | (with_reducible refine i_str ?_)
  | (with_reducible refine iteF ?_) | (with_reducible refine iteT ?_) | (with_reducible refine iteNT ?_) | (with_reducible refine iteNF ?_) | (with_reducible refine i_tyS ?_) | (with_reducible refine i_tB ?_) | (with_reducible refine i_retN ?_) | (with_reducible refine i_par3 ?_) | (with_reducible refine i_trip ?_) | (with_reducible refine i_gCons ?_) | (with_reducible refine i_gNil ?_) | (with_reducible refine i_lstRg ?_) | (with_reducible refine i_rg1 ?_)
  | (with_reducible refine i_lc ?_) | (with_reducible refine i_for ?_) | (with_reducible refine i_iList ?_) | (with_reducible refine i_iTup ?_) | (with_reducible refine i_iStr ?_) | (with_reducible refine i_iRng1 ?_) | (with_reducible refine i_iEnS ?_)
  | ((with_reducible refine' i_ixTH ?q1 ?q2 ?_); (case q1 => walk_at "hp"); (case q2 => exact rfl))
  | ((with_reducible refine' i_ixLH ?q1 ?q2 ?_); (case q1 => walk_at "hp"); (case q2 => exact rfl))
  | ((with_reducible refine i_addS ?q1 ?_); (case q1 => walk_at "ln")) | ((with_reducible refine i_lenSS ?q1 ?_); (case q1 => walk_at "ln")) | ((with_reducible refine i_slFrom ?q1 ?q2 ?_); (case q1 => walk_at "ln"); (case q2 => walk_at "ln")) | ((with_reducible refine i_slTo ?q1 ?q2 ?_); (case q1 => walk_at "ln"); (case q2 => walk_at "ln"))
  | ((with_reducible refine' i_tyL ?q1 ?_); (case q1 => walk_at "hp"))
  | ((with_reducible refine' i_gTupH ?q1 ?q2 ?_); (case q1 => walk_at "hp"); (case q2 => exact rfl))
  | (with_reducible refine i_dnewM ?_) | (with_reducible refine i_init ?_) | (with_reducible refine i_fst ?_) | (with_reducible refine i_mk ?_) | (with_reducible refine i_mkF ?_) | (with_reducible refine i_raise ?_) | (with_reducible refine i_callS ?_) | (with_reducible refine i_kwS ?_)
  | (with_reducible refine i_revT ?_) | (with_reducible refine i_kw ?_) | ((with_reducible refine' ⟨_, _, rfl, sqT_of ?q1, ?_⟩); (case q1 => walk_at "hp"))
  | (with_reducible refine i_revS ?_) | ((with_reducible refine i_revSS ?q1 ?_); (case q1 => walk_at "ln"))
  | (with_reducible refine i_startS ?_) | (with_reducible refine i_inSg ?_) | (with_reducible refine i_absN ?_) | (with_reducible refine i_min2 ?_) | (with_reducible refine i_max2 ?_) | (with_reducible refine i_min3 ?_) | (with_reducible refine i_intN ?_) | (with_reducible refine i_intNB ?_)
  | ((with_reducible refine' i_lenL ?q1 ?_); (case q1 => walk_at "hp")) | ((with_reducible refine' i_lenT ?q1 ?_); (case q1 => walk_at "hp"))
  | (with_reducible refine i_eqI ?_) | (with_reducible refine i_neI ?_) | (with_reducible refine i_eqS ?_) | (with_reducible refine i_neS ?_) | (with_reducible refine i_isNoI ?_) | (with_reducible refine i_isNoN ?_) | (with_reducible refine i_isNoR ?_)
  | ((with_reducible refine i_pow ?q1 ?q2 ?q3 ?_); (case q1 => decide); (case q2 => decide); (case q3 => (with_reducible omega)))
  | ((with_reducible refine i_rI ?q1 ?_); (case q1 => walk_at "ci"))
  | (with_reducible refine Or.inl ⟨_, rfl, ?_⟩) | (with_reducible refine Or.inr ⟨_, rfl, ?_⟩) | (with_reducible refine ⟨_, rfl, ?_⟩) | (with_reducible refine ⟨_, _, rfl, ?_⟩) | (with_reducible refine ⟨_, _, rfl, rfl, ?_⟩)
  | ((with_reducible refine' ⟨_, _, rfl, Or.inl (sqL_of ?q1), ?_⟩); (case q1 => walk_at "hp")) | ((with_reducible refine' ⟨_, _, rfl, Or.inr (sqT_of ?q1), ?_⟩); (case q1 => walk_at "hp")) | (with_reducible refine i_dget ?_) | (with_reducible refine i_disp1T ?_) | (with_reducible refine i_dcT ?_) | (with_reducible refine i_dnewT ?_) | (with_reducible refine i_fld ?_) | (with_reducible refine i_sFld ?_) | (with_reducible refine i_make ?_) | (with_reducible refine i_meth ?_) | (with_reducible refine i_star ?_) | (with_reducible refine i_isNoS ?_) | (with_reducible refine i_lc2 ?_) | (with_reducible refine i_iEnT ?_) | (with_reducible refine i_iZipT ?_) | fail)
local macro_rules | `(tactic| walk_at "rd") => `(tactic| repeat' walk_at "rd1")

abbrev tRow : List Nat := [114, 111, 119]
abbrev tCnt : List Nat := [99, 111, 117, 110, 116]
/-- a new list of a word and a value is answered -/
def ToldL (H : Hp) (t : List Nat) (x : V) (Q : VK) : Prop := ∀ a H', H a = none → sysModules < a → Same H H' → H' a = some (.lst [.str (S t), x]) → Q (.ref a) H'
theorem ToldL.same {H H1 : Hp} {t : List Nat} {x : V} {Q : VK} (h : ToldL H t x Q) (s : Same H H1) : ToldL H1 t x Q := fun a H' n l s2 e => h a H' (s.free n) l (s.trans s2) e
def rowKs : List Str := ["row"]
def atKs : List Str := ["many", "row"]
/-- _law_told(door, thing, count), something refused -/
def spTold (K : PySem.W.Frag) : Sp := fun vs H Q _ => ∃ (i : Int) (x y : V) (d e : PyData), vs = [.int i, x, y] ∧ De K H x d ∧ De K H y e ∧
  ((rowOf d = none ∧ 0 ≤ i ∧ i < 6 ∧ ToldL H tRow x Q) ∨ ((rowOf d).isSome = true ∧ 0 ≤ i ∧ i < 2 ∧ cntB e = false ∧ ToldL H tCnt y Q))
section
variable {P : Program} {w : World} {K : PySem.W.Frag} {mg : Str → Option Value} {base : Heap} {f : Addr} {fd : FuncData}
theorem ok_told {R C : Addr} (F : Fun K "_law_told" "_law_told" s__law_told f fd) (xr : XQ "InvalidRow" P w K mg base R) (xc : XQ "InvalidCount" P w K mg base C) (hCR : PySem.W.exmOne K (.ref C) (.ref R) = some false)
    (x_row_at : CalX P w K mg base "row_at" ["row", "many"] 6 (spAt K R C)) (kx_row_at : CalKX P w K mg base "row_at" ["row", "many"] 6 (spAt K R C) atKs rev2 rev2) (x_is_subadditive : CalX P w K mg base "is_subadditive" ["row"] 6 (spSub K R)) (x_built : CalX P w K mg base "built" ["row"] 6 (spBad K R)) (kx_built : CalKX P w K mg base "built" ["row"] 6 (spBad K R) rowKs one1 one1) (x_built_accepting : CalX P w K mg base "built_accepting" ["row"] 6 (spBad K R)) :
    FnOk P w K mg base CX0 7 f fd ["door", "thing", "count"] (spTold K) := by
  refine F.ok sc__law_told (fun vs H Q E h => ?_) (fun cdv A outer s H vs Q E hr h => ?_)
  · obtain ⟨i, x, y, d, e, rfl, _⟩ := h; rfl
  · obtain ⟨i, x, y, d, e, rfl, hx, hy, h⟩ := h
    refine ⟨_, (pss_one (ps_tries (Wo := fun _ _ _ _ => False) rfl rfl sc__law_told.nd takes_none (fun W pn xe tk po => (pss_cons (ps_if (pt_cmpR op_eq (pv 0) pe_int (nomark _))
          (pss_one (ps_expr (pe_calX x_row_at hr tk (pa_cons (pv 1) (pa_cons (pv 2) pa_nil)))))
          pss_nil)
        (pss_cons (ps_if (pt_cmpR op_eq (pv 0) pe_int (nomark _))
          (pss_one (ps_expr (pe_calKX kx_row_at hr tk (pk_cons (pv 2) (pk_cons (pv 1) pk_nil)))))
          pss_nil)
        (pss_cons (ps_if (pt_cmpR op_eq (pv 0) pe_int (nomark _))
          (pss_one (ps_expr (pe_calX x_is_subadditive hr tk (pa_cons (pv 1) pa_nil))))
          pss_nil)
        (pss_cons (ps_if (pt_cmpR op_eq (pv 0) pe_int (nomark _))
          (pss_one (ps_expr (pe_calX x_built hr tk (pa_cons (pv 1) pa_nil))))
          pss_nil)
        (pss_cons (ps_if (pt_cmpR op_eq (pv 0) pe_int (nomark _))
          (pss_one (ps_expr (pe_calX x_built_accepting hr tk (pa_cons (pv 1) pa_nil))))
          pss_nil)
        (pss_cons (ps_if (pt_cmpR op_eq (pv 0) pe_int (nomark _))
          (pss_one (ps_expr (pe_calKX kx_built hr tk (pk_cons (pv 1) pk_nil))))
          pss_nil)
        (pss_one (ps_ret (pe_lstL pa_nil))))))))))
      (.cons (i := 3) rfl rfl (names_Q xr) (fun a oe cls d pn hz hf => (pss_one (ps_ret (pe_lstL (pa_cons (pe_strS (l := [114, 111, 119]) (by decide +kernel)) (pa_cons (pe_xf xr.xf xr.no hz hf (pv 3)) pa_nil)))))) (.cons (i := 3) rfl rfl (names_Q xc) (fun a oe cls d pn hz hf => (pss_one (ps_ret (pe_lstL (pa_cons (pe_strS (l := [99, 111, 117, 110, 116]) (by decide +kernel)) (pa_cons (pe_xf xc.xf xc.no hz hf (pv 3)) pa_nil)))))) .nil)))), ?_⟩
    walk_at "rd"
    rcases h with ⟨er, i0, i6, k⟩ | ⟨er, i0, i2, ec, k⟩
    · skip
      refine iteB (fun c0 => ?_) (fun c0 => ?_)
      · walk_at "rd"
        refine ⟨x, y, d, e, rfl, hx, hy, fun _ dx H1 n1 s1 e1 => ?_, fun h => by (rw [er] at h; cases h), fun fs p g i h => by (rw [er] at h; cases h)⟩
        refine ⟨true, xr.me, fun _ a na => ?_, fun z => by cases z⟩
        walk_at "rd"
        refine ⟨_, rfl, rfl, rfl, dx, _, _, rfl, e1, rfl, ?_⟩
        walk_at "rd"
        refine newLL0 (Nat.le_of_ble_eq_true rfl) fun t H2 nt lt s2 et => ?_
        exact (k.same s1) t _ nt lt s2 et
      walk_at "rd"
      refine iteB (fun c1 => ?_) (fun c1 => ?_)
      · walk_at "rd"
        refine ⟨x, y, d, e, rfl, hx, hy, fun _ dx H1 n1 s1 e1 => ?_, fun h => by (rw [er] at h; cases h), fun fs p g i h => by (rw [er] at h; cases h)⟩
        refine ⟨true, xr.me, fun _ a na => ?_, fun z => by cases z⟩
        walk_at "rd"
        refine ⟨_, rfl, rfl, rfl, dx, _, _, rfl, e1, rfl, ?_⟩
        walk_at "rd"
        refine newLL0 (Nat.le_of_ble_eq_true rfl) fun t H2 nt lt s2 et => ?_
        exact (k.same s1) t _ nt lt s2 et
      walk_at "rd"
      refine iteB (fun c2 => ?_) (fun c2 => ?_)
      · walk_at "rd"
        refine ⟨x, d, rfl, hx, fun _ dx H1 n1 s1 e1 => ?_, fun fs p g h => by (rw [er] at h; cases h)⟩
        refine ⟨true, xr.me, fun _ a na => ?_, fun z => by cases z⟩
        walk_at "rd"
        refine ⟨_, rfl, rfl, rfl, dx, _, _, rfl, e1, rfl, ?_⟩
        walk_at "rd"
        refine newLL0 (Nat.le_of_ble_eq_true rfl) fun t H2 nt lt s2 et => ?_
        exact (k.same s1) t _ nt lt s2 et
      walk_at "rd"
      refine iteB (fun c3 => ?_) (fun c3 => ?_)
      · walk_at "rd"
        refine ⟨x, d, rfl, hx, er, fun dx H1 n1 s1 e1 => ?_⟩
        refine ⟨true, xr.me, fun _ a na => ?_, fun z => by cases z⟩
        walk_at "rd"
        refine ⟨_, rfl, rfl, rfl, dx, _, _, rfl, e1, rfl, ?_⟩
        walk_at "rd"
        refine newLL0 (Nat.le_of_ble_eq_true rfl) fun t H2 nt lt s2 et => ?_
        exact (k.same s1) t _ nt lt s2 et
      walk_at "rd"
      refine iteB (fun c4 => ?_) (fun c4 => ?_)
      · walk_at "rd"
        refine ⟨x, d, rfl, hx, er, fun dx H1 n1 s1 e1 => ?_⟩
        refine ⟨true, xr.me, fun _ a na => ?_, fun z => by cases z⟩
        walk_at "rd"
        refine ⟨_, rfl, rfl, rfl, dx, _, _, rfl, e1, rfl, ?_⟩
        walk_at "rd"
        refine newLL0 (Nat.le_of_ble_eq_true rfl) fun t H2 nt lt s2 et => ?_
        exact (k.same s1) t _ nt lt s2 et
      walk_at "rd"
      refine iteB (fun c5 => ?_) (fun c5 => ?_)
      · walk_at "rd"
        refine ⟨x, d, rfl, hx, er, fun dx H1 n1 s1 e1 => ?_⟩
        refine ⟨true, xr.me, fun _ a na => ?_, fun z => by cases z⟩
        walk_at "rd"
        refine ⟨_, rfl, rfl, rfl, dx, _, _, rfl, e1, rfl, ?_⟩
        walk_at "rd"
        refine newLL0 (Nat.le_of_ble_eq_true rfl) fun t H2 nt lt s2 et => ?_
        exact (k.same s1) t _ nt lt s2 et
      walk_at "rd"
      omega
    · skip
      refine iteB (fun c0 => ?_) (fun c0 => ?_)
      · walk_at "rd"
        refine ⟨x, y, d, e, rfl, hx, hy, fun h => by (rw [h] at er; cases er), fun _ _ dx H1 n1 s1 e1 => ?_, fun fs p g i h q => by (rw [q] at ec; simp [cntB] at ec)⟩
        refine ⟨false, hCR, (fun z => by cases z), fun _ => ⟨true, xc.me, fun _ a na => ?_, fun z => by cases z⟩⟩
        walk_at "rd"
        refine ⟨_, rfl, rfl, rfl, dx, _, _, rfl, e1, rfl, ?_⟩
        walk_at "rd"
        refine newLL0 (Nat.le_of_ble_eq_true rfl) fun t H2 nt lt s2 et => ?_
        exact (k.same s1) t _ nt lt s2 et
      walk_at "rd"
      refine iteB (fun c1 => ?_) (fun c1 => ?_)
      · walk_at "rd"
        refine ⟨x, y, d, e, rfl, hx, hy, fun h => by (rw [h] at er; cases er), fun _ _ dx H1 n1 s1 e1 => ?_, fun fs p g i h q => by (rw [q] at ec; simp [cntB] at ec)⟩
        refine ⟨false, hCR, (fun z => by cases z), fun _ => ⟨true, xc.me, fun _ a na => ?_, fun z => by cases z⟩⟩
        walk_at "rd"
        refine ⟨_, rfl, rfl, rfl, dx, _, _, rfl, e1, rfl, ?_⟩
        walk_at "rd"
        refine newLL0 (Nat.le_of_ble_eq_true rfl) fun t H2 nt lt s2 et => ?_
        exact (k.same s1) t _ nt lt s2 et
      walk_at "rd"
      omega
end
end Sw
namespace Sw
open PySem PySem.Spec PyProof.Rows L2
local macro_rules | `(tactic| walk_at "hp") => `(tactic| first
  | (with_reducible assumption) | (with_reducible exact upd_same)
  | ((with_reducible refine' upd_old ?q1 ?q2); (case q1 => (with_reducible assumption)); (case q2 => walk_at "hp"))
  | ((with_reducible refine' Same.at ?q1 ?q2); (case q1 => (with_reducible assumption)); (case q2 => walk_at "hp"))
  | ((with_reducible refine' upd_skip ?q1 ?q2); (case q1 => walk_at "ne"); (case q2 => walk_at "hp"))
  | fail)
local macro_rules | `(tactic| walk_at "ne") => `(tactic| first
  | (with_reducible assumption) | (with_reducible exact Ne.symm (by assumption))
  | ((with_reducible refine' ne_of_none ?q1 ?q2); (case q2 => (with_reducible assumption)); (case q1 => walk_at "hp"))
  | fail)
local macro_rules | `(tactic| walk_at "ci") => `(tactic| first | assumption | (show (0 : Int) < _; first | decide | (with_reducible omega)) | exact ⟨by decide, by decide⟩ | exact .inl ⟨by decide, by decide⟩ | exact .inr ⟨by decide, by decide⟩)
local macro_rules | `(tactic| walk_at "ln") => `(tactic| first | (with_reducible assumption) | (with_reducible omega) | (simp only [List.length_append, List.length_take, List.length_drop, List.length_reverse, List.length_cons, List.length_nil]; with_reducible omega))
local macro_rules | `(tactic| walk_at "rd1") => `(tactic| first
  | (with_reducible refine i_seq ?_) | (with_reducible refine i_asg ?_) | (with_reducible refine i_ret ?_) | (with_reducible refine i_name ?_) | ((with_reducible refine' i_var ?q1 ?_); (case q1 => exact rfl)) | (with_reducible refine i_c ?_) | (with_reducible refine i_op ?_) | (with_reducible refine i_un ?_)
  | (with_reducible refine i_rI0 ?_) | (with_reducible refine i_cb ?_) | (with_reducible refine i_cons ?_) | (with_reducible refine i_nil ?_) | (with_reducible refine i_call ?_) | (with_reducible refine i_if ?_) | (with_reducible refine i_ifE ?_) | (with_reducible refine i_test ?_) | (with_reducible refine i_bl ?_)
  | (with_reducible refine i_and ?_) | (with_reducible refine i_or ?_) | (with_reducible refine i_not ?_) | (with_reducible refine i_lstM ?_) | (with_reducible refine i_lstLM ?_) | (with_reducible refine i_tupM ?_) | (with_reducible refine i_next ?_) | (with_reducible refine i_drop ?_) | (with_reducible refine i_sub ?_)
  | (with_reducible refine i_bm ?_) | (with_reducible refine i_sl ?_) | (with_reducible refine i_part ?_) | (with_reducible refine i_nopart ?_) | (with_reducible refine i_exI ?_) | (with_reducible refine i_chain ?_) | ((with_reducible refine' i_aug ?q1 ?_); (case q1 => exact rfl)) | (with_reducible refine i_ip ?_)
  | (with_reducible refine i_par ?_) | (with_reducible refine i_pair ?_) | (with_reducible refine i_andV ?_) | (with_reducible refine i_orV ?_) | (with_reducible refine i_notV ?_) | (with_reducible refine i_m1 ?_) | (with_reducible refine i_str ?_)
  | (with_reducible refine iteF ?_) | (with_reducible refine iteT ?_) | (with_reducible refine iteNT ?_) | (with_reducible refine iteNF ?_) | (with_reducible refine i_tyS ?_) | (with_reducible refine i_tB ?_) | (with_reducible refine i_retN ?_) | (with_reducible refine i_par3 ?_) | (with_reducible refine i_trip ?_) | (with_reducible refine i_gCons ?_) | (with_reducible refine i_gNil ?_) | (with_reducible refine i_lstRg ?_) | (with_reducible refine i_rg1 ?_)
  | (with_reducible refine i_lc ?_) | (with_reducible refine i_for ?_) | (with_reducible refine i_iList ?_) | (with_reducible refine i_iTup ?_) | (with_reducible refine i_iStr ?_) | (with_reducible refine i_iRng1 ?_) | (with_reducible refine i_iEnS ?_)
  | ((with_reducible refine' i_ixTH ?q1 ?q2 ?_); (case q1 => walk_at "hp"); (case q2 => exact rfl))
  | ((with_reducible refine' i_ixLH ?q1 ?q2 ?_); (case q1 => walk_at "hp"); (case q2 => exact rfl))
  | ((with_reducible refine i_addS ?q1 ?_); (case q1 => walk_at "ln")) | ((with_reducible refine i_lenSS ?q1 ?_); (case q1 => walk_at "ln")) | ((with_reducible refine i_slFrom ?q1 ?q2 ?_); (case q1 => walk_at "ln"); (case q2 => walk_at "ln")) | ((with_reducible refine i_slTo ?q1 ?q2 ?_); (case q1 => walk_at "ln"); (case q2 => walk_at "ln"))
  | ((with_reducible refine' i_tyL ?q1 ?_); (case q1 => walk_at "hp"))
  | ((with_reducible refine' i_gTupH ?q1 ?q2 ?_); (case q1 => walk_at "hp"); (case q2 => exact rfl))
  | (with_reducible refine i_dnewM ?_) | (with_reducible refine i_init ?_) | (with_reducible refine i_fst ?_) | (with_reducible refine i_mk ?_) | (with_reducible refine i_mkF ?_) | (with_reducible refine i_raise ?_) | (with_reducible refine i_callS ?_) | (with_reducible refine i_kwS ?_)
  | (with_reducible refine i_revT ?_) | (with_reducible refine i_kw ?_) | ((with_reducible refine' ⟨_, _, rfl, sqT_of ?q1, ?_⟩); (case q1 => walk_at "hp"))
  | (with_reducible refine i_revS ?_) | ((with_reducible refine i_revSS ?q1 ?_); (case q1 => walk_at "ln"))
  | (with_reducible refine i_startS ?_) | (with_reducible refine i_inSg ?_) | (with_reducible refine i_absN ?_) | (with_reducible refine i_min2 ?_) | (with_reducible refine i_max2 ?_) | (with_reducible refine i_min3 ?_) | (with_reducible refine i_intN ?_) | (with_reducible refine i_intNB ?_)
  | ((with_reducible refine' i_lenL ?q1 ?_); (case q1 => walk_at "hp")) | ((with_reducible refine' i_lenT ?q1 ?_); (case q1 => walk_at "hp"))
  | (with_reducible refine i_eqI ?_) | (with_reducible refine i_neI ?_) | (with_reducible refine i_eqS ?_) | (with_reducible refine i_neS ?_) | (with_reducible refine i_isNoI ?_) | (with_reducible refine i_isNoN ?_) | (with_reducible refine i_isNoR ?_)
  | ((with_reducible refine i_pow ?q1 ?q2 ?q3 ?_); (case q1 => decide); (case q2 => decide); (case q3 => (with_reducible omega)))
  | ((with_reducible refine i_rI ?q1 ?_); (case q1 => walk_at "ci"))
  | (with_reducible refine Or.inl ⟨_, rfl, ?_⟩) | (with_reducible refine Or.inr ⟨_, rfl, ?_⟩) | (with_reducible refine ⟨_, rfl, ?_⟩) | (with_reducible refine ⟨_, _, rfl, ?_⟩) | (with_reducible refine ⟨_, _, rfl, rfl, ?_⟩)
  | ((with_reducible refine' ⟨_, _, rfl, Or.inl (sqL_of ?q1), ?_⟩); (case q1 => walk_at "hp")) | ((with_reducible refine' ⟨_, _, rfl, Or.inr (sqT_of ?q1), ?_⟩); (case q1 => walk_at "hp")) | (with_reducible refine i_dget ?_) | (with_reducible refine i_disp1T ?_) | (with_reducible refine i_dcT ?_) | (with_reducible refine i_dnewT ?_) | (with_reducible refine i_fld ?_) | (with_reducible refine i_sFld ?_) | (with_reducible refine i_make ?_) | (with_reducible refine i_meth ?_) | (with_reducible refine i_star ?_) | (with_reducible refine i_isNoS ?_) | (with_reducible refine i_lc2 ?_) | (with_reducible refine i_iEnT ?_) | (with_reducible refine i_iZipT ?_) | fail)
local macro_rules | `(tactic| walk_at "rd") => `(tactic| repeat' walk_at "rd1")

/-- a list in it is a new one -/
structure CpF (K : PySem.W.Frag) (H H' : Hp) (y : V) (d : PyData) : Prop where
  tup : ∀ ds r, d = .tuple (.list ds :: r) → ∃ t a vs ws, y = .ref t ∧ SqT K H' t (.ref a :: vs) ∧ H' a = some (.lst ws) ∧ H a = none ∧ ws.length = ds.length
  lst : ∀ ds, d = .list ds → ∃ a ws, y = .ref a ∧ H' a = some (.lst ws) ∧ H a = none ∧ ws.length = ds.length
/-- _law_copy(thing) -/
def spCopy (K : PySem.W.Frag) : Sp := fun vs H Q _ => ∃ x d, vs = [x] ∧ De K H x d ∧ (∀ ds, (d = .tuple ds ∨ d = .list ds) → ds.length ≤ 100) ∧ ∀ y H', Same H H' → De K H' y d → CpF K H H' y d → Q y H'
/-- _law_refused(door, thing, count), no row -/
def spRefd (K : PySem.W.Frag) : Sp := fun vs H Q _ => ∃ (i : Int) (x c : V) (d e : PyData) (n w : Nat), vs = [.int i, x, c] ∧ 0 ≤ i ∧ i < 6 ∧ De K H x d ∧ Sd n w d ∧ n ≤ 20 ∧ w ≤ 50000 ∧ (∀ ds, (d = .tuple ds ∨ d = .list ds) → ds.length ≤ 100) ∧ (∀ ds r, d = .tuple (.list ds :: r) → ds.length ≤ 100) ∧ rowOf d = none ∧ De K H c e ∧ ∀ H', Same H H' → Q (.bl true) H'
theorem sqT_updL {K : PySem.W.Frag} {H : Hp} {t a : Addr} {xs ws zs : List V} (h : SqT K H t xs) (e : H a = some (.lst ws)) : SqT K (upd H a (.lst zs)) t xs := by
  rcases h with (h | ⟨o, h⟩) | h
  · exact .inl (.inl (by rw [upd_ne fun c => by rw [c, e] at h; cases h]; exact h))
  · exact .inl (.inr ⟨o, by rw [upd_ne fun c => by rw [c, e] at h; cases h]; exact h⟩)
  · exact .inr h
theorem cutV_last (xs : List V) (y : V) : cutV (xs ++ [y]) (some (-1)) none = [y] := by
  unfold cutV
  have e : HT.sIx (xs ++ [y]).length 0 (some (-1)) = xs.length := by
    unfold HT.sIx
    rw [List.length_append, List.length_singleton]
    simp only []
    rw [if_pos (by decide)]
    omega
  rw [e, HT.sIx_none, List.drop_left, List.length_append, List.length_singleton, show xs.length + 1 - xs.length = 1 by omega]; rfl
theorem i_eqOne {K : PySem.W.Frag} {H : Hp} {a b : Addr} {x : V} {d : PyData} {n w : Nat} {Q : VK} (h1 : H a = some (.lst [x])) (h2 : H b = some (.lst [x])) (hx : De K H x d) (s : Sd n w d) (z : d.hasDict = false) (hn : n ≤ 40) (e : PyData.eqv d d = true) (k : Q (.bl true) H) : rEqD K (.ref a) (.ref b) H Q := by
  have sl : Sd (n + 1) (0 + (w + 1)) (.list [d]) := (sd_lst' (.cons s .nil)).mono (by omega) (by omega)
  have fl : (PyData.list [d]).hasDict = false := by simp [PyData.hasDict, PyData.hasDictAll, z]
  refine ⟨.list [d], .list [d], .lst (sqL_of h1) (.cons (hx.dp z) .nil), .lst (sqL_of h2) (.cons (hx.dp z) .nil), sl.shaped (by omega) fl, sl.shaped (by omega) fl, ?_⟩
  rw [show PyData.eqv (.list [d]) (.list [d]) = true by simp only [PyData.eqv, PyData.eqvAll, e, Bool.and_self]]
  exact k
section
variable {P : Program} {w : World} {K : PySem.W.Frag} {mg : Str → Option Value} {base : Heap} {f : Addr} {fd : FuncData}
theorem ok_copy (F : Fun K "_law_copy" "_law_copy" s__law_copy f fd) (z : Z mg) : FnOk P w K mg base CX0 1 f fd ["thing"] (spCopy K) := by
  refine F.ok sc__law_copy (fun vs H Q E h => ?_) (fun cdv A outer s H vs Q E hr h => ?_)
  · obtain ⟨x, d, rfl, _⟩ := h; rfl
  · obtain ⟨x, d, rfl, hx, hl, k⟩ := h
    refine ⟨_, (pss_cons (ps_if (PW.pt (pw_and (pt_val (pe_callB call_isi (by rfl) z.isinstance (by decide +kernel) (pa_cons (pv 0) (pa_cons (pe_bltn (v := .ty "tuple") (by rfl) z.tuple (by decide +kernel) rfl) pa_nil)))) (pw_and (pt_cmpR op_gt (pe_callB call_lenQ (by rfl) z.len PySem.boot_len (pa_cons (pv 0) pa_nil)) pe_int (nomark _)) (pw_and1 (pt_val (pe_callB call_isi (by rfl) z.isinstance (by decide +kernel) (pa_cons (pe_ix ix_tup (pv 0) pe_int (fun _ _ => rfl)) (pa_cons (pe_bltn (v := .ty "list") (by rfl) z.list (by decide +kernel) rfl) pa_nil))))))))
        (pss_one (ps_ret (pe_op op_catA (pe_tup (pa_cons (pe_callTy call_listL (by rfl) z.list (by decide +kernel) (pa_cons (pe_ix ix_tup (pv 0) pe_int (fun _ _ => rfl)) pa_nil)) pa_nil)) (pe_slice sl_tupA (pv 0) (po_some pe_int) po_none))))
        pss_nil)
      (pss_one (ps_ret (pe_ifExp (pt_val (pe_callB call_isi (by rfl) z.isinstance (by decide +kernel) (pa_cons (pv 0) (pa_cons (pe_bltn (v := .ty "list") (by rfl) z.list (by decide +kernel) rfl) pa_nil)))) (pe_callTy call_listL (by rfl) z.list (by decide +kernel) (pa_cons (pv 0) pa_nil)) (pv 0))))), ?_⟩
    walk_at "rd"
    refine hx.isi (n := "tuple") (.inr (.inr (.inr (.inr rfl)))) ?_
    have noL : tyB "list" d = false → ∀ ds, d ≠ .list ds := fun h ds q => by subst q; cases h
    rcases e : tyB "tuple" d with _ | _
    · have noT : ∀ ds, d ≠ .tuple ds := fun ds q => by subst q; cases e
      walk_at "rd"
      refine hx.isi (n := "list") (.inr (.inr (.inr (.inl rfl)))) ?_
      walk_at "rd"
      rcases e2 : tyB "list" d with _ | _
      · walk_at "rd"
        exact k x _ (Same.refl _) hx ⟨fun ds r q => (noT _ q).elim, fun ds q => (noL e2 _ q).elim⟩
      · obtain ⟨ds, rfl⟩ : ∃ ds, d = .list ds := by cases d <;> first | exact ⟨_, rfl⟩ | cases e2
        obtain ⟨a, xs, rfl, ha, lta, hxs⟩ := hx.lstI
        walk_at "rd"
        refine i_listL (.inl (sqL_of ha)) fun q nq ltq => ?_
        have s1 := same_upd (o := HO.lst xs) nq
        exact k _ _ s1 (.lst upd_same ltq (hxs.same s1)) ⟨fun ds r q => (noT _ q).elim, fun ds' q' => by cases q'; exact ⟨q, xs, rfl, upd_same, nq, hxs.len⟩⟩
    obtain ⟨ds, rfl⟩ : ∃ ds, d = .tuple ds := by cases d <;> first | exact ⟨_, rfl⟩ | cases e
    obtain ⟨t, xs, rfl, ht, hxs⟩ := hx.tupI
    have lx := hxs.len
    have hl := hl ds (.inl rfl)
    walk_at "rd"
    refine i_lenSqT ht ?_
    walk_at "rd"
    rw [lx]
    rcases ds with _ | ⟨d0, r⟩
    · rw [decide_eq_false (show ¬ (0 : Int) < (([] : List PyData).length : Int) by decide)]
      walk_at "rd"
      refine hx.isi (n := "list") (.inr (.inr (.inr (.inl rfl)))) ?_
      walk_at "rd"
      rw [show tyB "list" (.tuple []) = false from rfl]
      walk_at "rd"
      exact k _ _ (Same.refl _) hx ⟨fun ds r q => (by cases q), fun ds q => (by cases q)⟩
    rw [decide_eq_true (show (0 : Int) < ((d0 :: r).length : Int) by rw [List.length_cons]; omega)]
    obtain ⟨x0, vs, rfl, h0, hr'⟩ : ∃ x0 vs, xs = x0 :: vs ∧ De K H x0 d0 ∧ DeAll K H vs r := by
      cases hxs with
      | cons h0 hr' => exact ⟨_, _, rfl, h0, hr'⟩
    walk_at "rd"
    refine i_ixTn (k := 0) ht rfl ?_
    walk_at "rd"
    refine h0.isi (n := "list") (.inr (.inr (.inr (.inl rfl)))) ?_
    walk_at "rd"
    rcases e2 : tyB "list" d0 with _ | _
    · walk_at "rd"
      refine hx.isi (n := "list") (.inr (.inr (.inr (.inl rfl)))) ?_
      walk_at "rd"
      rw [show tyB "list" (.tuple (d0 :: r)) = false from rfl]
      walk_at "rd"
      exact k _ _ (Same.refl _) hx ⟨fun ds r q => (by cases q; cases e2), fun ds q => (by cases q)⟩
    obtain ⟨es, rfl⟩ : ∃ ds, d0 = .list ds := by cases d0 <;> first | exact ⟨_, rfl⟩ | cases e2
    obtain ⟨a, ws, rfl, ha, lta, hws⟩ := h0.lstI
    walk_at "rd"
    refine i_ixTn (k := 0) ht rfl ?_
    walk_at "rd"
    refine i_listL (.inl (sqL_of ha)) fun q nq ltq => ?_
    have s1 := same_upd (o := HO.lst ws) nq
    have e1 := upd_same (H := H) (a := q) (o := HO.lst ws)
    generalize upd H q (.lst ws) = H1 at *
    walk_at "rd"
    refine newT0 (Nat.le_of_ble_eq_true rfl) fun t1 H2 nt1 s2 et1 => ?_
    walk_at "rd"
    refine i_slTF (k := 1) (Same.sqT (s1.trans s2) ht) fun b H3 s3 hb => ?_
    rw [List.drop_succ_cons, List.drop_zero] at hb
    rw [List.length_cons] at hl
    have lv := hr'.len
    refine i_catT (Same.sqT s3 (sqT_of et1)) hb (Nat.le_trans (m := 1000) (by simp only [List.length_cons, List.length_nil]; omega) (Nat.le_of_ble_eq_true rfl)) fun c H4 s4 hc => ?_
    have s14 := s2.trans (s3.trans s4)
    have s04 := s1.trans s14
    refine k _ _ s04 (.tup hc (.cons (.lst (s14 _ _ e1) ltq (hws.same s04)) (hr'.same s04))) ⟨fun ds' r' q' => ?_, fun ds' q' => by cases q'⟩
    cases q'
    exact ⟨c, q, vs, ws, rfl, hc, s14 _ _ e1, nq, hws.len⟩
theorem ok_refd (F : Fun K "_law_refused" "_law_refused" s__law_refused f fd) (z : Z mg) (c__law_copy : Cal P w K mg base "_law_copy" ["thing"] 1 (spCopy K)) (c__law_told : Cal P w K mg base "_law_told" ["door", "thing", "count"] 7 (spTold K)) :
    FnG P w K mg base CX0 8 f fd ["door", "thing", "count"] (spRefd K) := by
  refine Sw.Fun.okG0 F sc__law_refused (fun vs H Q E h => ?_) (fun cdv A outer s H vs Q E hr quiet h => ?_)
  · obtain ⟨i, x, c, d, e, n, wd, rfl, _⟩ := h; rfl
  · obtain ⟨i, x, c, d, e, n, wd, rfl, i0, i6, hx, sd, hn, hw, hl, hl2, er, hc, k⟩ := h
    refine ⟨_, (pss_cons (ps_par (i := 3) (j := 4) rfl sc__law_refused.nd rfl rfl (by decide) rfl rfl (pa_cons (pe_cal c__law_copy hr (pa_cons (pv 1) pa_nil)) (pa_cons (pe_callB (call_repE quiet hr.units) (by rfl) z.repr (by decide +kernel) (pa_cons (pv 1) pa_nil)) pa_nil)) (by rfl))
      (pss_cons (ps_set (i := 5) sc__law_refused.nd rfl (.inl rfl) (pe_cal c__law_told hr (pa_cons (pv 0) (pa_cons (pv 3) (pa_cons (pv 2) pa_nil)))))
      (pss_cons (ps_if (PW.pt (pw_or (pt_cmpR op_ne (pe_callB call_lenQ (by rfl) z.len PySem.boot_len (pa_cons (pv 5) pa_nil)) pe_int (nomark _)) (pw_or (pt_cmpR (op_neX hr.units) (pe_ix ix_list (pv 5) pe_int (fun _ _ => rfl)) (pe_strS (l := [114, 111, 119]) (by decide +kernel)) (nomark _)) (pw_or1 (pt_cmpR op_ne (pe_callB (call_repE quiet hr.units) (by rfl) z.repr (by decide +kernel) (pa_cons (pe_ix ix_list (pv 5) pe_int (fun _ _ => rfl)) pa_nil)) (pv 4) (nomark _))))))
        (pss_one (ps_ret pe_bl))
        pss_nil)
      (pss_cons (ps_if (PW.pt (pw_and (pt_val (pe_callB call_isi (by rfl) z.isinstance (by decide +kernel) (pa_cons (pv 3) (pa_cons (pe_bltn (v := .ty "tuple") (by rfl) z.tuple (by decide +kernel) rfl) pa_nil)))) (pw_and (pt_cmpR op_gt (pe_callB call_lenQ (by rfl) z.len PySem.boot_len (pa_cons (pv 3) pa_nil)) pe_int (nomark _)) (pw_and1 (pt_val (pe_callB call_isi (by rfl) z.isinstance (by decide +kernel) (pa_cons (pe_ix ix_tup (pv 3) pe_int (fun _ _ => rfl)) (pa_cons (pe_bltn (v := .ty "list") (by rfl) z.list (by decide +kernel) rfl) pa_nil))))))))
        (pss_cons (ps_set (i := 6) sc__law_refused.nd rfl (.inl rfl) (pe_ix ix_tup (pe_ix ix_list (pv 5) pe_int (fun _ _ => rfl)) pe_int (fun _ _ => rfl)))
        (pss_cons (ps_expr (pe_bm PySem.F.plainAttrs_list PySem.F.slot_list_append PySem.F.type_list_append mt_append (pv 6) (pa_cons (pe_strS (l := [109, 111, 114, 101]) (by decide +kernel)) pa_nil)))
        (pss_one (ps_ret (pe_cmpR (op_eqD hr.units) (pe_slice sl_list (pe_ix ix_tup (pv 3) pe_int (fun _ _ => rfl)) (po_some (pe_un un_neg pe_int)) po_none) (pe_lstL (pa_cons (pe_strS (l := [109, 111, 114, 101]) (by decide +kernel)) pa_nil)) (nomark _))))))
        pss_nil)
      (pss_cons (ps_if (pt_val (pe_callB call_isi (by rfl) z.isinstance (by decide +kernel) (pa_cons (pv 3) (pa_cons (pe_bltn (v := .ty "list") (by rfl) z.list (by decide +kernel) rfl) pa_nil))))
        (pss_cons (ps_set (i := 6) sc__law_refused.nd rfl (.inl rfl) (pe_ix ix_list (pv 5) pe_int (fun _ _ => rfl)))
        (pss_cons (ps_expr (pe_bm PySem.F.plainAttrs_list PySem.F.slot_list_append PySem.F.type_list_append mt_append (pv 6) (pa_cons (pe_strS (l := [109, 111, 114, 101]) (by decide +kernel)) pa_nil)))
        (pss_one (ps_ret (pe_cmpR (op_eqD hr.units) (pe_slice sl_list (pv 3) (po_some (pe_un un_neg pe_int)) po_none) (pe_lstL (pa_cons (pe_strS (l := [109, 111, 114, 101]) (by decide +kernel)) pa_nil)) (nomark _))))))
        pss_nil)
      (pss_one (ps_ret pe_bl))))))), ?_⟩
    walk_at "rd"
    refine ⟨x, d, rfl, hx, hl, fun y H1 s1 hy cp => ?_⟩
    walk_at "rd"
    refine i_repE (hx.same s1) sd (by omega) (by omega) ?_
    walk_at "rd"
    refine ⟨i, y, c, d, e, rfl, hy, hc.same s1, .inl ⟨er, i0, i6, fun t H2 nt lt s2 et => ?_⟩⟩
    have hy2 := hy.same s2
    have s02 := s1.trans s2
    walk_at "rd"
    rw [show (!decide ((([V.str (S tRow), y].length : Nat) : Int) = 2)) = false from rfl]
    walk_at "rd"
    refine i_neS1 (.str _) (sd_str (l := tRow) (by decide)) (.inr rfl) (by decide) ?_
    refine ⟨_, rfl, ?_⟩
    rw [show (!isS tRow (.str (S tRow))) = false by simp [isS]]
    walk_at "rd"
    refine i_repE hy2 sd (by omega) (by omega) ?_
    walk_at "rd"
    refine ⟨rfl, ?_⟩
    rw [decide_eq_true rfl]
    walk_at "rd"
    refine hy2.isi (n := "tuple") (.inr (.inr (.inr (.inr rfl)))) ?_
    have noL : tyB "list" d = false → ∀ ds, d ≠ .list ds := fun h ds q => by subst q; cases h
    rcases et2 : tyB "tuple" d with _ | _
    · walk_at "rd"
      refine hy2.isi (n := "list") (.inr (.inr (.inr (.inl rfl)))) ?_
      walk_at "rd"
      rcases el : tyB "list" d with _ | _
      · walk_at "rd"
        exact k _ s02
      · obtain ⟨ds, rfl⟩ : ∃ ds, d = .list ds := by cases d <;> first | exact ⟨_, rfl⟩ | cases el
        obtain ⟨a, ws, rfl, ha, na, lw⟩ := cp.lst _ rfl
        have hl := hl ds (.inr rfl)
        have ha2 := s2 _ _ ha
        walk_at "rd"
        refine i_append ha2 (sm100 (by omega)) ?_
        have f1 := upd_same (H := H2) (a := a) (o := HO.lst (ws ++ [.str (S [109, 111, 114, 101])]))
        have sk : Same H (upd H2 a (.lst (ws ++ [.str (S [109, 111, 114, 101])]))) := Same.set_new s02 na
        generalize upd H2 a (.lst (ws ++ [.str (S [109, 111, 114, 101])])) = H3 at *
        walk_at "rd"
        refine i_rU ?_
        walk_at "rd"
        refine ⟨a, _, rfl, sqL_of f1, fun b1 nb1 => ?_⟩
        rw [cutV_last]
        have s4 := same_upd (o := HO.lst [V.str (S [109, 111, 114, 101])]) nb1
        have g1 := upd_same (H := H3) (a := b1) (o := HO.lst [V.str (S [109, 111, 114, 101])])
        generalize upd H3 b1 (.lst [V.str (S [109, 111, 114, 101])]) = H4 at *
        walk_at "rd"
        refine newLL0 (Nat.le_of_ble_eq_true rfl) fun q1 H5 nq1 lq1 s5 e5 => ?_
        refine i_eqOne (s5 _ _ g1) e5 (.str _) (sd_str (l := [109, 111, 114, 101]) (by decide)) rfl (by omega) (by simp [PyData.eqv]) ?_
        exact k _ (sk.trans (s4.trans s5))
    obtain ⟨ds, rfl⟩ : ∃ ds, d = .tuple ds := by cases d <;> first | exact ⟨_, rfl⟩ | cases et2
    obtain ⟨t', xs, ey, ht, hxs⟩ := hy2.tupI
    subst ey
    have lx := hxs.len
    walk_at "rd"
    refine i_lenSqT ht ?_
    walk_at "rd"
    rw [lx]
    have islist : ∀ {R' : Prop}, R' → R' := fun h => h
    rcases ds with _ | ⟨d0, r⟩
    · rw [decide_eq_false (show ¬ (0 : Int) < (([] : List PyData).length : Int) by decide)]
      walk_at "rd"
      refine hy2.isi (n := "list") (.inr (.inr (.inr (.inl rfl)))) ?_
      walk_at "rd"
      rw [show tyB "list" (.tuple []) = false from rfl]
      walk_at "rd"
      exact k _ s02
    rw [decide_eq_true (show (0 : Int) < ((d0 :: r).length : Int) by rw [List.length_cons]; omega)]
    obtain ⟨x0, vs, rfl, h0⟩ : ∃ x0 vs, xs = x0 :: vs ∧ De K H2 x0 d0 := by
      cases hxs with
      | cons h0 hr' => exact ⟨_, _, rfl, h0⟩
    walk_at "rd"
    refine i_ixTn (k := 0) ht rfl ?_
    walk_at "rd"
    refine h0.isi (n := "list") (.inr (.inr (.inr (.inl rfl)))) ?_
    walk_at "rd"
    rcases el : tyB "list" d0 with _ | _
    · walk_at "rd"
      refine hy2.isi (n := "list") (.inr (.inr (.inr (.inl rfl)))) ?_
      walk_at "rd"
      rw [show tyB "list" (.tuple (d0 :: r)) = false from rfl]
      walk_at "rd"
      exact k _ s02
    obtain ⟨es, rfl⟩ : ∃ ds, d0 = .list ds := by cases d0 <;> first | exact ⟨_, rfl⟩ | cases el
    obtain ⟨t1, a, vs1, ws, e1, ht1, ha, na, lw⟩ := cp.tup _ _ rfl
    cases e1
    have hl2 := hl2 es r rfl
    have ht2 := Same.sqT s2 ht1
    have ha2 := s2 _ _ ha
    walk_at "rd"
    refine i_ixTn (k := 0) ht2 rfl ?_
    walk_at "rd"
    refine i_append ha2 (sm100 (by omega)) ?_
    have f1 := upd_same (H := H2) (a := a) (o := HO.lst (ws ++ [.str (S [109, 111, 114, 101])]))
    have sk : Same H (upd H2 a (.lst (ws ++ [.str (S [109, 111, 114, 101])]))) := Same.set_new s02 na
    have ht3 : SqT K (upd H2 a (.lst (ws ++ [.str (S [109, 111, 114, 101])]))) t' (.ref a :: vs1) := sqT_updL ht2 ha2
    generalize upd H2 a (.lst (ws ++ [.str (S [109, 111, 114, 101])])) = H3 at *
    walk_at "rd"
    refine i_ixTn (k := 0) ht3 rfl ?_
    walk_at "rd"
    refine i_rU ?_
    walk_at "rd"
    refine ⟨a, _, rfl, sqL_of f1, fun b1 nb1 => ?_⟩
    rw [cutV_last]
    have s4 := same_upd (o := HO.lst [V.str (S [109, 111, 114, 101])]) nb1
    have g1 := upd_same (H := H3) (a := b1) (o := HO.lst [V.str (S [109, 111, 114, 101])])
    generalize upd H3 b1 (.lst [V.str (S [109, 111, 114, 101])]) = H4 at *
    walk_at "rd"
    refine newLL0 (Nat.le_of_ble_eq_true rfl) fun q1 H5 nq1 lq1 s5 e5 => ?_
    refine i_eqOne (s5 _ _ g1) e5 (.str _) (sd_str (l := [109, 111, 114, 101]) (by decide)) rfl (by omega) (by simp [PyData.eqv]) ?_
    exact k _ (sk.trans (s4.trans s5))
end
end Sw
namespace Sw
open PySem PySem.Spec PyProof.Rows L2
local macro_rules | `(tactic| walk_at "hp") => `(tactic| first
  | (with_reducible assumption) | (with_reducible exact upd_same)
  | ((with_reducible refine' upd_old ?q1 ?q2); (case q1 => (with_reducible assumption)); (case q2 => walk_at "hp"))
  | ((with_reducible refine' Same.at ?q1 ?q2); (case q1 => (with_reducible assumption)); (case q2 => walk_at "hp"))
  | ((with_reducible refine' upd_skip ?q1 ?q2); (case q1 => walk_at "ne"); (case q2 => walk_at "hp"))
  | fail)
local macro_rules | `(tactic| walk_at "ne") => `(tactic| first
  | (with_reducible assumption) | (with_reducible exact Ne.symm (by assumption))
  | ((with_reducible refine' ne_of_none ?q1 ?q2); (case q2 => (with_reducible assumption)); (case q1 => walk_at "hp"))
  | fail)
local macro_rules | `(tactic| walk_at "ci") => `(tactic| first | assumption | (show (0 : Int) < _; first | decide | (with_reducible omega)) | exact ⟨by decide, by decide⟩ | exact .inl ⟨by decide, by decide⟩ | exact .inr ⟨by decide, by decide⟩)
local macro_rules | `(tactic| walk_at "ln") => `(tactic| first | (with_reducible assumption) | (with_reducible omega) | (simp only [List.length_append, List.length_take, List.length_drop, List.length_reverse, List.length_cons, List.length_nil]; with_reducible omega))
local macro_rules | `(tactic| walk_at "rd1") => `(tactic| first
  | (with_reducible refine i_seq ?_) | (with_reducible refine i_asg ?_) | (with_reducible refine i_ret ?_) | (with_reducible refine i_name ?_) | ((with_reducible refine' i_var ?q1 ?_); (case q1 => exact rfl)) | (with_reducible refine i_c ?_) | (with_reducible refine i_op ?_) | (with_reducible refine i_un ?_)
  | (with_reducible refine i_rI0 ?_) | (with_reducible refine i_cb ?_) | (with_reducible refine i_cons ?_) | (with_reducible refine i_nil ?_) | (with_reducible refine i_call ?_) | (with_reducible refine i_if ?_) | (with_reducible refine i_ifE ?_) | (with_reducible refine i_test ?_) | (with_reducible refine i_bl ?_)
  | (with_reducible refine i_and ?_) | (with_reducible refine i_or ?_) | (with_reducible refine i_not ?_) | (with_reducible refine i_lstM ?_) | (with_reducible refine i_lstLM ?_) | (with_reducible refine i_tupM ?_) | (with_reducible refine i_next ?_) | (with_reducible refine i_drop ?_) | (with_reducible refine i_sub ?_)
  | (with_reducible refine i_bm ?_) | (with_reducible refine i_sl ?_) | (with_reducible refine i_part ?_) | (with_reducible refine i_nopart ?_) | (with_reducible refine i_exI ?_) | (with_reducible refine i_chain ?_) | ((with_reducible refine' i_aug ?q1 ?_); (case q1 => exact rfl)) | (with_reducible refine i_ip ?_)
  | (with_reducible refine i_par ?_) | (with_reducible refine i_pair ?_) | (with_reducible refine i_andV ?_) | (with_reducible refine i_orV ?_) | (with_reducible refine i_notV ?_) | (with_reducible refine i_m1 ?_) | (with_reducible refine i_str ?_)
  | (with_reducible refine iteF ?_) | (with_reducible refine iteT ?_) | (with_reducible refine iteNT ?_) | (with_reducible refine iteNF ?_) | (with_reducible refine i_tyS ?_) | (with_reducible refine i_tB ?_) | (with_reducible refine i_retN ?_) | (with_reducible refine i_par3 ?_) | (with_reducible refine i_trip ?_) | (with_reducible refine i_gCons ?_) | (with_reducible refine i_gNil ?_) | (with_reducible refine i_lstRg ?_) | (with_reducible refine i_rg1 ?_)
  | (with_reducible refine i_lc ?_) | (with_reducible refine i_for ?_) | (with_reducible refine i_iList ?_) | (with_reducible refine i_iTup ?_) | (with_reducible refine i_iStr ?_) | (with_reducible refine i_iRng1 ?_) | (with_reducible refine i_iEnS ?_)
  | ((with_reducible refine' i_ixTH ?q1 ?q2 ?_); (case q1 => walk_at "hp"); (case q2 => exact rfl))
  | ((with_reducible refine' i_ixLH ?q1 ?q2 ?_); (case q1 => walk_at "hp"); (case q2 => exact rfl))
  | ((with_reducible refine i_addS ?q1 ?_); (case q1 => walk_at "ln")) | ((with_reducible refine i_lenSS ?q1 ?_); (case q1 => walk_at "ln")) | ((with_reducible refine i_slFrom ?q1 ?q2 ?_); (case q1 => walk_at "ln"); (case q2 => walk_at "ln")) | ((with_reducible refine i_slTo ?q1 ?q2 ?_); (case q1 => walk_at "ln"); (case q2 => walk_at "ln"))
  | ((with_reducible refine' i_tyL ?q1 ?_); (case q1 => walk_at "hp"))
  | ((with_reducible refine' i_gTupH ?q1 ?q2 ?_); (case q1 => walk_at "hp"); (case q2 => exact rfl))
  | (with_reducible refine i_dnewM ?_) | (with_reducible refine i_init ?_) | (with_reducible refine i_fst ?_) | (with_reducible refine i_mk ?_) | (with_reducible refine i_mkF ?_) | (with_reducible refine i_raise ?_) | (with_reducible refine i_callS ?_) | (with_reducible refine i_kwS ?_)
  | (with_reducible refine i_revT ?_) | (with_reducible refine i_kw ?_) | ((with_reducible refine' ⟨_, _, rfl, sqT_of ?q1, ?_⟩); (case q1 => walk_at "hp"))
  | (with_reducible refine i_revS ?_) | ((with_reducible refine i_revSS ?q1 ?_); (case q1 => walk_at "ln"))
  | (with_reducible refine i_startS ?_) | (with_reducible refine i_inSg ?_) | (with_reducible refine i_absN ?_) | (with_reducible refine i_min2 ?_) | (with_reducible refine i_max2 ?_) | (with_reducible refine i_min3 ?_) | (with_reducible refine i_intN ?_) | (with_reducible refine i_intNB ?_)
  | ((with_reducible refine' i_lenL ?q1 ?_); (case q1 => walk_at "hp")) | ((with_reducible refine' i_lenT ?q1 ?_); (case q1 => walk_at "hp"))
  | (with_reducible refine i_eqI ?_) | (with_reducible refine i_neI ?_) | (with_reducible refine i_eqS ?_) | (with_reducible refine i_neS ?_) | (with_reducible refine i_isNoI ?_) | (with_reducible refine i_isNoN ?_) | (with_reducible refine i_isNoR ?_)
  | ((with_reducible refine i_pow ?q1 ?q2 ?q3 ?_); (case q1 => decide); (case q2 => decide); (case q3 => (with_reducible omega)))
  | ((with_reducible refine i_rI ?q1 ?_); (case q1 => walk_at "ci"))
  | (with_reducible refine Or.inl ⟨_, rfl, ?_⟩) | (with_reducible refine Or.inr ⟨_, rfl, ?_⟩) | (with_reducible refine ⟨_, rfl, ?_⟩) | (with_reducible refine ⟨_, _, rfl, ?_⟩) | (with_reducible refine ⟨_, _, rfl, rfl, ?_⟩)
  | ((with_reducible refine' ⟨_, _, rfl, Or.inl (sqL_of ?q1), ?_⟩); (case q1 => walk_at "hp")) | ((with_reducible refine' ⟨_, _, rfl, Or.inr (sqT_of ?q1), ?_⟩); (case q1 => walk_at "hp")) | (with_reducible refine i_dget ?_) | (with_reducible refine i_disp1T ?_) | (with_reducible refine i_dcT ?_) | (with_reducible refine i_dnewT ?_) | (with_reducible refine i_fld ?_) | (with_reducible refine i_sFld ?_) | (with_reducible refine i_make ?_) | (with_reducible refine i_meth ?_) | (with_reducible refine i_star ?_) | (with_reducible refine i_isNoS ?_) | (with_reducible refine i_lc2 ?_) | (with_reducible refine i_iEnT ?_) | (with_reducible refine i_iZipT ?_) | fail)
local macro_rules | `(tactic| walk_at "rd") => `(tactic| repeat' walk_at "rd1")

theorem dp_of {K : PySem.W.Frag} {H : Hp} : ∀ {vs : List V} {ds : List PyData}, DeAll K H vs ds → (∀ y ∈ ds, y.hasDict = false) → DpAll K H vs ds
  | _, _, .nil, _ => .nil
  | _, _, .cons h1 h2, z => .cons (h1.dp (z _ List.mem_cons_self)) (dp_of h2 fun y hy => z y (List.mem_cons_of_mem _ hy))
theorem eqvAll_nil (ds : List PyData) : PyData.eqvAll ds [] = ds.isEmpty := by cases ds <;> simp [PyData.eqvAll]
theorem i_neL {K : PySem.W.Frag} {H : Hp} {a b : Addr} {vs : List V} {ds : List PyData} {n w : Nat} {Q : VK} (h1 : H a = some (.lst vs)) (h2 : DeAll K H vs ds) (h3 : H b = some (.lst [])) (s : SdAll n w ds) (z : ∀ y ∈ ds, y.hasDict = false) (k : Q (.bl (!ds.isEmpty)) H) (hn : n ≤ 50 := by omega) : rNeD K (.ref a) (.ref b) H Q := by
  refine ⟨.list ds, .list [], .lst (sqL_of h1) (dp_of h2 z), .lst (sqL_of h3) .nil, (sd_lst' s).shaped (by omega) ?_, (sd_lst' (n := 0) SdAll.nil).shaped (by omega) (by simp [PyData.hasDict, PyData.hasDictAll]), ?_⟩
  · have := hasDict_tup.mpr z
    simpa only [PyData.hasDict] using this
  · rw [show PyData.eqv (.list ds) (.list []) = ds.isEmpty by simp only [PyData.eqv]; exact eqvAll_nil ds]; exact k
theorem ints_sd {l : List Nat} (h : ∀ n ∈ l, n < 500) : SdAll 0 (l.length * 10) (l.map fun (n : Nat) => PyData.int (n : Int)) := by
  have := sd_all (n := 0) (w := 9) (ds := l.map fun (n : Nat) => PyData.int (n : Int)) fun d hd => by
    obtain ⟨s, hs, rfl⟩ := List.mem_map.mp hd
    exact sd_int9 (by have := h s hs; omega)
  rwa [List.length_map] at this
theorem ints_flat {l : List Nat} : ∀ y ∈ l.map (fun (n : Nat) => PyData.int (n : Int)), y.hasDict = false := fun y hy => by
  obtain ⟨s, _, rfl⟩ := List.mem_map.mp hy
  rfl
theorem ints_de {K : PySem.W.Frag} {H : Hp} : ∀ l : List Nat, DeAll K H (l.map iV) (intsD l)
  | [] => .nil
  | n :: l => .cons (.int _) (ints_de l)
theorem i_neLi {K : PySem.W.Frag} {H : Hp} {a b : Addr} {l : List Nat} {Q : VK} (h1 : H a = some (.lst (l.map iV))) (h3 : H b = some (.lst [])) (h : ∀ n ∈ l, n < 500) (k : Q (.bl (!l.isEmpty)) H) : rNeD K (.ref a) (.ref b) H Q :=
  i_neL h1 (ints_de l) h3 (ints_sd h) ints_flat (by rw [show (intsD l).isEmpty = l.isEmpty by cases l <;> rfl]; exact k)
/-- rows as data -/
def rowD (b : Bool) (fs : List Nat) (p g : Nat) : PyData := .tuple [if b = true then .list (intsD fs) else .tuple (intsD fs), .int (p : Int), .int (g : Int)]
theorem rowOf_mk {fs : List Nat} {p g : Nat} (I : RowI fs p g) (b : Bool) : rowOf (rowD b fs p g) = some (fs, p, g) := by
  have e : numsOf (if b = true then .list (intsD fs) else .tuple (intsD fs)) = some fs := by
    have e0 : seqOf (if b = true then .list (intsD fs) else .tuple (intsD fs)) = some (intsD fs) := by cases b <;> rfl
    unfold numsOf
    rw [e0]
    simp only
    rw [if_pos ⟨by rw [List.length_map]; exact I.l1, by rw [List.length_map]; exact I.l8⟩, natsOf_map I.m]
    simp only
    rw [if_pos ⟨I.z, I.a⟩]
  have h1 := I.p1
  have h2 := I.p4
  have h3 := I.pl
  have h4 := I.g12
  have h5 := I.e
  have e2 : perOf fs (.int (p : Int)) = some p := by simp only [perOf]; rw [if_pos ⟨by omega, by omega, by omega⟩]; rfl
  have e3 : gainOf fs p (.int (g : Int)) = some g := by simp only [gainOf, Int.toNat_natCast]; rw [if_pos ⟨by omega, by omega, h5⟩]
  simp only [rowD, rowOf, e, e2, e3]
theorem rowD_sd {fs : List Nat} {p g : Nat} (I : RowI fs p g) (b : Bool) : Sd 2 300 (rowD b fs p g) := by
  have h1 := I.p4
  have h2 := I.g12
  have h3 := I.l8
  have s0 := ints_sd (l := fs) fun n hn => by have := I.m n hn; omega
  have s1 : Sd 1 80 (if b = true then .list (intsD fs) else .tuple (intsD fs)) := by
    cases b
    · exact (sd_tup' s0).mono (by omega) (by omega)
    · exact (sd_lst' s0).mono (by omega) (by omega)
  exact (sd_tup' (.cons s1 (.cons ((sd_int9 (by omega)).mono (by omega) (Nat.le_refl _)) (.cons ((sd_int9 (by omega)).mono (by omega) (Nat.le_refl _)) .nil)))).mono (by omega) (by omega)
theorem numAt_sd {fs : List Nat} {p g : Nat} (I : RowI fs p g) {i : Nat} (hi : i < 401) : Sd 0 100 (.int ((numAt fs p g i : Nat) : Int)) := by
  have hb : numAt fs p g i ≤ 40 + 401 * 12 := by
    have getm : ∀ j, fs.getD j 0 ≤ 40 := fun j => by
      rw [List.getD_eq_getElem?_getD]
      rcases e : fs[j]? with _ | x
      · simp
      · exact I.m x (List.mem_of_getElem? e)
    unfold numAt
    split
    · have := getm i; omega
    · have := getm (i - ((i - fs.length) / p + 1) * p)
      have h1 : (i - fs.length) / p ≤ i - fs.length := Nat.div_le_self _ _
      have h2 := I.l1
      have : ((i - fs.length) / p + 1) * g ≤ 401 * 12 := Nat.mul_le_mul (by omega) I.g12
      omega
  exact (sd_intW (n := 0) (k := 20) (Nat.lt_of_le_of_lt (m := 5000) (by omega) (by decide)) (Nat.lt_of_le_of_lt (m := 5000) (by omega) (by decide))).mono (by omega) (by omega)
def valKs : List Str := ["value"]
/-- _law_is_subadditive(plain) -/
def spLSub : Sp := fun vs H Q _ => ∃ (v : V) (fs : List Nat) (p g : Nat), vs = [v] ∧ PAt H v fs p g ∧ RowI fs p g ∧ ∀ H', Same H H' → Q (.bl (subB fs p g fs.length)) H'
/-- _law_row_right(box, plain) -/
def spRR : Sp := fun vs H Q _ => ∃ (b : Addr) (v : V) (fs : List Nat) (p g : Nat) (d : Int), vs = [.ref b, v] ∧ PAt (L2.del H b) v fs p g ∧ RowI fs p g ∧ BoxAt H b d ∧ d + 2 ≤ 1000000 ∧ ∀ H', BoxAt H' b (d + 2) → SB b H H' → Q (.bl true) H'
section
variable {P : Program} {w : World} {K : PySem.W.Frag} {mg : Str → Option Value} {base : Heap} {f : Addr} {fd : FuncData}
theorem ok_lsub (F : Fun K "_law_is_subadditive" "_law_is_subadditive" s__law_is_subadditive f fd) (z : Z mg) (c__law_numbers : Cal P w K mg base "_law_numbers" ["plain", "size"] 1 spNbs) : FnOk P w K mg base CX0 2 f fd ["plain"] spLSub := by
  refine F.ok sc__law_is_subadditive (fun vs H Q E h => ?_) (fun cdv A outer s H vs Q E hr h => ?_)
  · obtain ⟨v, fs, p, g, rfl, _⟩ := h; rfl
  · obtain ⟨v, fs, p, g, rfl, hp, I, k⟩ := h
    refine ⟨_, (pss_cons (ps_set (i := 1) sc__law_is_subadditive.nd rfl (.inl rfl) (pe_op op_add (pe_op op_add (pe_callB call_lenQ (by rfl) z.len PySem.boot_len (pa_cons (pe_ix ix_list (pv 0) pe_int (fun _ _ => rfl)) pa_nil)) (pe_ix ix_list (pv 0) pe_int (fun _ _ => rfl))) pe_int))
      (pss_cons (ps_set (i := 2) sc__law_is_subadditive.nd rfl (.inr rfl) (pe_cal c__law_numbers hr (pa_cons (pv 0) (pa_cons (pe_op op_mul pe_int (pv 1)) pa_nil))))
      (pss_cons (ps_for PassesOwn.never rfl (pi_range1 (by rfl) z.range (pa_cons (pv 1) pa_nil)) (pg_name (i := 3) sc__law_is_subadditive.nd rfl (.inr rfl))
        (pss_one (ps_if (pt_cmpR (op_neD hr.units) (pe_lc (own := [("k", 4)]) (g := gName 4) (tt := _) rfl sc__law_is_subadditive.nd (pi_range1 (by rfl) z.range (pa_cons (pv 1) pa_nil)) (blkOk_by (own := [("k", 4)]) (N := n__law_is_subadditive) (sc := defScope s__law_is_subadditive) (by decide +kernel)) (fun _ _ _ _ _ => (pg_name (i := 4) sc__law_is_subadditive.nd rfl (.inl rfl))) (fun _ _ _ _ _ => (pts_one (pt_cmpR op_gt (pe_ix (r := rIxL K) ix_list (pv 2) (pe_op op_add (pv 3) (pv 4)) (fun _ _ => rfl)) (pe_op op_add (pe_ix (r := rIxL K) ix_list (pv 2) (pv 3) (fun _ _ => rfl)) (pe_ix (r := rIxL K) ix_list (pv 2) (pv 4) (fun _ _ => rfl))) (nomark _)))) (fun _ _ _ _ _ => (pv 4))) (pe_lst pa_nil) (nomark _))
          (pss_one (ps_ret pe_bl))
          pss_nil)))
      (pss_one (ps_ret pe_bl))))), ?_⟩
    have l8 := I.l8
    have p4 := I.p4
    have p1 := I.p1
    obtain ⟨q, a, rfl, eq, ea, lta⟩ := id hp
    walk_at "rd"
    rw [List.length_map]
    obtain ⟨n, en, hn, hn2⟩ : ∃ n : Nat, (fs.length : Int) + (p : Int) + 1 = n ∧ fs.length ≤ n ∧ n ≤ 13 := ⟨fs.length + p + 1, rfl, by omega, by omega⟩
    rw [en]
    refine ⟨.ref q, fs, p, g, 2 * n, by show [V.ref q, V.int (2 * (n : Int))] = [V.ref q, V.int ((2 * n : Nat) : Int)]; rw [Int.natCast_mul]; rfl, hp, I, by omega, fun np H1 nnp s1 enp => ?_⟩
    have gn : ∀ {i : Nat}, i < 2 * n → ((List.range (2 * n)).map fun i => iV (numAt fs p g i))[i]? = some (iV (numAt fs p g i)) := fun h => by rw [List.getElem?_map, List.getElem?_range h]; rfl
    walk_at "rd"
    refine i_rng (by omega) (by omega) ?_
    rw [Int.toNat_natCast]
    refine go_for walk_rangeZ (fun i σ Hz => ∃ (u3 u4 : Option V), σ = [some (.ref q), some (iV n), some (.ref np), u3, u4] ∧ Same H1 Hz ∧ ∀ m, m < i → ∀ k, k < n → numAt fs p g (m + k) ≤ numAt fs p g m + numAt fs p g k)
      ⟨_, _, rfl, Same.refl _, fun m hm => by omega⟩ (fun _ _ _ _ _ => trivial) (fun i v σ Hz Hw hi h y => ?_) (fun σ Hz h => ?_)
    · obtain ⟨u3, u4, rfl, sz, ok⟩ := h
      obtain ⟨rfl, rfl⟩ := y
      have hi : i < n := hi
      have enz := sz _ _ enp
      walk_at "rd"
      refine i_rng (by omega) (by omega) ?_
      rw [Int.toNat_natCast]
      refine go_lc walk_rangeZ (fun pk j Hx => Hx pk = some (.lst ((((List.range j).filter fun k => !okB fs p g i k)).map iV)) ∧ Same Hw Hx) (fun pk npk => ⟨upd_same, same_upd npk⟩) (fun _ _ _ _ _ => trivial) (fun pk npk j v Hx Hy hj h y => ?_) (fun pk Hx npk h => ?_)
      · obtain ⟨ek, sx⟩ := h
        obtain ⟨rfl, rfl⟩ := y
        have hj : j < n := hj
        have enx := sx _ _ enz
        walk_at "rd"
        refine ⟨rfl, ?_⟩
        walk_at "rd"
        refine i_ixLv enx (by omega) (by rw [show ((i : Int) + (j : Int)).toNat = i + j by omega]; exact gn (by omega)) ?_
        walk_at "rd"
        refine i_ixLv enx (by omega) (by rw [Int.toNat_natCast]; exact gn (by omega)) ?_
        walk_at "rd"
        refine i_ixLv enx (by omega) (by rw [Int.toNat_natCast]; exact gn (by omega)) ?_
        walk_at "rd"
        by_cases c : numAt fs p g (i + j) ≤ numAt fs p g i + numAt fs p g j
        · rw [decide_eq_false (show ¬ ((numAt fs p g i : Nat) : Int) + ((numAt fs p g j : Nat) : Int) < ((numAt fs p g (i + j) : Nat) : Int) by omega)]
          walk_at "rd"
          rw [List.range_succ, List.filter_append, List.filter_cons_of_neg (by simp [okB, c]), List.filter_nil, List.append_nil]
          exact ⟨ek, sx⟩
        · rw [decide_eq_true (show ((numAt fs p g i : Nat) : Int) + ((numAt fs p g j : Nat) : Int) < ((numAt fs p g (i + j) : Nat) : Int) by omega)]
          walk_at "rd"
          have lf := List.length_filter_le (fun k => !okB fs p g i k) (List.range j)
          rw [List.length_range] at lf
          refine ⟨_, ek, sm100 (by rw [List.length_map]; omega), ?_, Same.set_new sx npk⟩
          rw [upd_same, List.range_succ, List.filter_append, List.filter_cons_of_pos (by simp [okB]; omega), List.filter_nil, List.map_append]; rfl
      obtain ⟨ek, sx⟩ := h
      walk_at "rd"
      refine newL0 (Nat.le_of_ble_eq_true rfl) fun e0 H5 ne0 s5 e5 => ?_
      refine i_neLi (s5 _ _ ek) e5 (fun y hy => by have := List.mem_range.mp (List.mem_filter.mp hy).1; omega) ?_
      refine ⟨_, rfl, ?_⟩
      have mf : ∀ k, k ∈ (List.range n).filter (fun k => !okB fs p g i k) ↔ k < n ∧ ¬ numAt fs p g (i + k) ≤ numAt fs p g i + numAt fs p g k := fun k => by
        rw [List.mem_filter, List.mem_range]
        simp [okB]
      rcases eb : (List.range n).filter (fun k => !okB fs p g i k) with _ | ⟨k0, ks⟩
      · refine iteF ?_
        refine i_next ?_
        refine ⟨_, _, rfl, sz.trans (sx.trans s5), ?_⟩
        intro m hm k hk
        by_cases c : m = i
        · subst c
          by_cases c2 : numAt fs p g (m + k) ≤ numAt fs p g m + numAt fs p g k
          · exact c2
          · have := (mf k).mpr ⟨hk, c2⟩
            rw [eb] at this
            cases this
        · exact ok m (by omega) k hk
      · refine iteT ?_
        walk_at "rd"
        have hk0 := (mf k0).mp (by rw [eb]; exact List.mem_cons_self)
        have no : subB fs p g n = false := by
          rcases q : subB fs p g n with _ | _
          · rfl
          · exact (hk0.2 (subB_iff.mp q i hi k0 hk0.1)).elim
        rw [← sub_more p1 I.pl hn, no] at k
        exact k _ (s1.trans (sz.trans (sx.trans s5)))
    · obtain ⟨u3, u4, rfl, sz, ok⟩ := h
      walk_at "rd"
      rw [← sub_more p1 I.pl hn, subB_iff.mpr ok] at k
      exact k _ (s1.trans sz)
theorem ok_rr {R C : Addr} (F : Fun K "_law_row_right" "_law_row_right" s__law_row_right f fd) (z : Z mg) (c__law_take : Cal P w K mg base "_law_take" ["box", "limit"] 1 spTake) (c__law_numbers : Cal P w K mg base "_law_numbers" ["plain", "size"] 1 spNbs) (c__law_is_subadditive : Cal P w K mg base "_law_is_subadditive" ["plain"] 2 spLSub)
    (c_is_row : Cal P w K mg base "is_row" ["value"] 4 (spRowB K)) (k_is_row : CalK P w K mg base "is_row" ["value"] 4 (spRowB K) valKs one1 one1) (x_row_at : CalX P w K mg base "row_at" ["row", "many"] 6 (spAt K R C)) (kx_row_at : CalKX P w K mg base "row_at" ["row", "many"] 6 (spAt K R C) atKs rev2 rev2)
    (x_is_subadditive : CalX P w K mg base "is_subadditive" ["row"] 6 (spSub K R)) (kx_is_subadditive : CalKX P w K mg base "is_subadditive" ["row"] 6 (spSub K R) rowKs one1 one1) : FnG P w K mg base CX0 7 f fd ["box", "plain"] spRR := by
  refine Sw.Fun.okG0 F sc__law_row_right (fun vs H Q E h => ?_) (fun cdv A outer s H vs Q E hr quiet h => ?_)
  · obtain ⟨b, v, fs, p, g, d, rfl, _⟩ := h; rfl
  · obtain ⟨b, v, fs, p, g, d, rfl, hp, I, B, hd, k⟩ := h
    refine ⟨_, (pss_cons (ps_set (i := 2) sc__law_row_right.nd rfl (.inl rfl) (pe_cal c__law_numbers hr (pa_cons (pv 1) (pa_cons pe_int pa_nil))))
      (pss_cons (ps_set (i := 3) sc__law_row_right.nd rfl (.inl rfl) (pe_tup (pa_cons (pe_callTy call_listL (by rfl) z.list (by decide +kernel) (pa_cons (pe_ix ix_list (pv 1) pe_int (fun _ _ => rfl)) pa_nil)) (pa_cons (pe_ix ix_list (pv 1) pe_int (fun _ _ => rfl)) (pa_cons (pe_ix ix_list (pv 1) pe_int (fun _ _ => rfl)) pa_nil)))))
      (pss_cons (ps_set (i := 4) sc__law_row_right.nd rfl (.inl rfl) (pe_tup (pa_cons (pe_callTy call_tuple_of (by rfl) z.tuple (by decide +kernel) (pa_cons (pe_ix ix_list (pv 1) pe_int (fun _ _ => rfl)) pa_nil)) (pa_cons (pe_ix ix_list (pv 1) pe_int (fun _ _ => rfl)) (pa_cons (pe_ix ix_list (pv 1) pe_int (fun _ _ => rfl)) pa_nil)))))
      (pss_cons (ps_if (PW.pt (pw_or (pt_cmpR op_notBl (pe_cal c_is_row hr (pa_cons (pv 3) pa_nil)) pe_bl (nomark _)) (pw_or1 (pt_cmpR op_notBl (pe_calK k_is_row hr (pk_cons (pv 4) pk_nil)) pe_bl (nomark _)))))
        (pss_one (ps_ret pe_bl))
        pss_nil)
      (pss_cons (ps_set (i := 5) sc__law_row_right.nd rfl (.inl rfl) (pe_callB call_lenQ (by rfl) z.len PySem.boot_len (pa_cons (pe_ix ix_list (pv 1) pe_int (fun _ _ => rfl)) pa_nil)))
      (pss_cons (ps_for PassesOwn.never rfl (pi_list (pe_lstL (pa_cons pe_int (pa_cons (pe_op op_sub (pv 5) pe_int) (pa_cons (pv 5) (pa_cons (pe_op op_add (pv 5) (pe_ix ix_list (pv 1) pe_int (fun _ _ => rfl))) (pa_cons (pe_cal c__law_take hr (pa_cons (pv 0) (pa_cons pe_int pa_nil))) (pa_cons (pe_cal c__law_take hr (pa_cons (pv 0) (pa_cons pe_int pa_nil))) (pa_cons pe_int pa_nil))))))))) (pg_name (i := 6) sc__law_row_right.nd rfl (.inl rfl))
        (pss_one (ps_if (PW.pt (pw_or (pt_cmpR op_ne (pe_callB (call_repE quiet hr.units) (by rfl) z.repr (by decide +kernel) (pa_cons (pe_calX x_row_at hr takes_none (pa_cons (pv 3) (pa_cons (pv 6) pa_nil))) pa_nil)) (pe_callB (call_repE quiet hr.units) (by rfl) z.repr (by decide +kernel) (pa_cons (pe_ix ix_list (pv 2) (pv 6) (fun _ _ => rfl)) pa_nil)) (nomark _)) (pw_or1 (pt_cmpR op_ne (pe_calKX kx_row_at hr takes_none (pk_cons (pv 6) (pk_cons (pv 4) pk_nil))) (pe_ix ix_list (pv 2) (pv 6) (fun _ _ => rfl)) (nomark _)))))
          (pss_one (ps_ret pe_bl))
          pss_nil)))
      (pss_cons (ps_set (i := 7) sc__law_row_right.nd rfl (.inl rfl) (pe_cal c__law_is_subadditive hr (pa_cons (pv 1) pa_nil)))
      (pss_cons (ps_if (PW.pt (pw_or (pt_cmpR op_ne (pe_callB (call_repE quiet hr.units) (by rfl) z.repr (by decide +kernel) (pa_cons (pe_calX x_is_subadditive hr takes_none (pa_cons (pv 3) pa_nil)) pa_nil)) (pe_callB (call_repE quiet hr.units) (by rfl) z.repr (by decide +kernel) (pa_cons (pv 7) pa_nil)) (nomark _)) (pw_or1 (pt_cmpR op_ne (pe_callB (call_repE quiet hr.units) (by rfl) z.repr (by decide +kernel) (pa_cons (pe_calKX kx_is_subadditive hr takes_none (pk_cons (pv 4) pk_nil)) pa_nil)) (pe_callB (call_repE quiet hr.units) (by rfl) z.repr (by decide +kernel) (pa_cons (pv 7) pa_nil)) (nomark _)))))
        (pss_one (ps_ret pe_bl))
        pss_nil)
      (pss_one (ps_ret (pe_cmpR op_eq (pe_callB (call_repE quiet hr.units) (by rfl) z.repr (by decide +kernel) (pa_cons (pv 3) pa_nil)) (pe_callB (call_repE quiet hr.units) (by rfl) z.repr (by decide +kernel) (pa_cons (pe_tup (pa_cons (pe_ix ix_list (pv 1) pe_int (fun _ _ => rfl)) (pa_cons (pe_ix ix_list (pv 1) pe_int (fun _ _ => rfl)) (pa_cons (pe_ix ix_list (pv 1) pe_int (fun _ _ => rfl)) pa_nil)))) pa_nil)) (nomark _)))))))))))), ?_⟩
    have l1 := I.l1
    have l8 := I.l8
    have p4 := I.p4
    have g12 := I.g12
    have p1 := I.p1
    have hpf := hp.same del_sub
    obtain ⟨q, a, rfl, eq, ea, lta⟩ := id hpf
    walk_at "rd"
    refine ⟨.ref q, fs, p, g, 401, rfl, hpf, I, by omega, fun np H1 nnp s1 enp => ?_⟩
    have eq1 := s1 _ _ eq
    have ea1 := s1 _ _ ea
    walk_at "rd"
    refine i_listL (.inl (sqL_of ea1)) fun c1 nc1 lc1 => ?_
    have s2 := same_upd (o := HO.lst (fs.map iV)) nc1
    have e2 := upd_same (H := H1) (a := c1) (o := HO.lst (fs.map iV))
    generalize upd H1 c1 (.lst (fs.map iV)) = H2 at *
    have eq2 := s2 _ _ eq1
    walk_at "rd"
    refine newT0 (Nat.le_of_ble_eq_true rfl) fun tp H3 ntp s3 etp => ?_
    have eq3 := s3 _ _ eq2
    have ea3 := (s2.trans s3) _ _ ea1
    walk_at "rd"
    refine ⟨a, _, rfl, .inl ⟨sqL_of ea3, fun c2 nc2 => ?_⟩⟩
    have s4 := same_upd (o := HO.tup (fs.map iV)) nc2
    have e4 := upd_same (H := H3) (a := c2) (o := HO.tup (fs.map iV))
    generalize upd H3 c2 (.tup (fs.map iV)) = H4 at *
    have eq4 := s4 _ _ eq3
    walk_at "rd"
    refine newT0 (Nat.le_of_ble_eq_true rfl) fun to H5 nto s5 eto => ?_
    have s05 := s1.trans (s2.trans (s3.trans (s4.trans s5)))
    have nqb : q ≠ b := fun c => by obtain ⟨q', a', e1, e2, _, _⟩ := hp; cases e1; rw [c, L2.del_same] at e2; cases e2
    have nab : a ≠ b := fun c => by obtain ⟨q', a', e1, e2, e3, _⟩ := hp; cases e1; have := eq.symm.trans (del_sub _ _ e2); cases this; rw [c, L2.del_same] at e3; cases e3
    have nnpb := box_ne B nnp
    have nc1b := box_ne (B.same s1) nc1
    have ntpb := box_ne (B.same (s1.trans s2)) ntp
    have nc2b := box_ne (B.same (s1.trans (s2.trans s3))) nc2
    have ntob := box_ne (B.same (s1.trans (s2.trans (s3.trans s4)))) nto
    let Rw : Hp → Prop := fun H' => H' q = some (.lst [.ref a, iV p, iV g]) ∧ H' a = some (.lst (fs.map iV)) ∧ H' np = some (.lst ((List.range 401).map fun i => iV (numAt fs p g i))) ∧ H' tp = some (.tup [V.ref c1, iV p, iV g]) ∧ H' c1 = some (.lst (fs.map iV)) ∧ H' to = some (.tup [V.ref c2, iV p, iV g]) ∧ H' c2 = some (.tup (fs.map iV))
    have rw5 : Rw H5 := ⟨(s4.trans s5) _ _ eq3, (s4.trans s5) _ _ ea3, (s2.trans (s3.trans (s4.trans s5))) _ _ enp, (s4.trans s5) _ _ etp, (s3.trans (s4.trans s5)) _ _ e2, eto, s5 _ _ e4⟩
    have rkeep : ∀ {H' H'' : Hp}, Rw H' → SB b H' H'' → Rw H'' := fun ⟨h1, h2, h3, h4, h5, h6, h7⟩ s => ⟨s _ _ nqb h1, s _ _ nab h2, s _ _ nnpb h3, s _ _ ntpb h4, s _ _ nc1b h5, s _ _ ntob h6, s _ _ nc2b h7⟩
    have mkP : ∀ {H' : Hp}, Rw H' → De K H' (.ref tp) (rowD true fs p g) := fun ⟨_, _, _, h4, h5, _, _⟩ => .tup (sqT_of h4) (.cons (.lst h5 lc1 (ints_de fs)) (.cons (.int _) (.cons (.int _) .nil)))
    have mkO : ∀ {H' : Hp}, Rw H' → De K H' (.ref to) (rowD false fs p g) := fun ⟨_, _, _, _, _, h6, h7⟩ => .tup (sqT_of h6) (.cons (.tup (sqT_of h7) (ints_de fs)) (.cons (.int _) (.cons (.int _) .nil)))
    have mkA : ∀ {H' t' : _}, Rw H' → H' t' = some (.tup [V.ref a, iV p, iV g]) → De K H' (.ref t') (rowD true fs p g) := fun ⟨_, h2, _⟩ h => .tup (sqT_of h) (.cons (.lst h2 lta (ints_de fs)) (.cons (.int _) (.cons (.int _) .nil)))
    have mkPA : ∀ {H' : Hp}, Rw H' → PAt H' (.ref q) fs p g := fun ⟨h1, h2, _⟩ => ⟨q, a, rfl, h1, h2, lta⟩
    have hP := mkP rw5
    have hO := mkO rw5
    have sdN : ∀ i, i < 401 → Sd 0 100 (.int ((numAt fs p g i : Nat) : Int)) := fun i hi => numAt_sd I hi
    have rP := rowOf_mk I true
    have rO := rowOf_mk I false
    have sdP := rowD_sd I true
    generalize rowD true fs p g = dP at *
    generalize rowD false fs p g = dO at *
    walk_at "rd"
    refine ⟨.ref tp, dP, rfl, hP, fun H6 s6 => ?_⟩
    rw [rP, show (some (fs, p, g)).isSome = true from rfl]
    walk_at "rd"
    refine ⟨true, true, rfl, rfl, ?_⟩
    rw [show (!decide (true = true)) = false from rfl]
    walk_at "rd"
    refine ⟨.ref to, dO, rfl, hO.same s6, fun H7 s7 => ?_⟩
    rw [rO, show (some (fs, p, g)).isSome = true from rfl]
    walk_at "rd"
    refine ⟨true, true, rfl, rfl, ?_⟩
    rw [show (!decide (true = true)) = false from rfl]
    have s57 := s6.trans s7
    have s07 := s05.trans s57
    have rw7 := rkeep rw5 (SB.of s57)
    have eq7 := rw7.1
    have ea7 := rw7.2.1
    walk_at "rd"
    rw [List.length_map]
    have B7 := B.same s07
    refine ⟨b, 30, _, rfl, B7, by omega, by omega, by omega, fun r1 H8 r10 r11 B8 s8 => ?_⟩
    walk_at "rd"
    refine ⟨b, 401, _, rfl, B8, by omega, by omega, by omega, fun r2 H9 r20 r21 B9 s9 => ?_⟩
    walk_at "rd"
    have s79 := s8.trans s9
    have rw9 := rkeep rw7 s79
    have s09 : SB b H H9 := (SB.of s07).trans s79
    refine newLL B9 (Nat.le_of_ble_eq_true rfl) fun lp HA ltA nA BA sA eA uA => ?_
    have rwA := rkeep rw9 (SB.of uA)
    have eAf := del_sub _ _ eA
    obtain ⟨r1, rfl⟩ : ∃ m : Nat, r1 = m := ⟨r1.toNat, by omega⟩
    obtain ⟨r2, rfl⟩ : ∃ m : Nat, r2 = m := ⟨r2.toNat, by omega⟩
    have els : ([V.int 0, V.int ((fs.length : Int) - 1), V.int (fs.length : Int), V.int ((fs.length : Int) + (p : Int)), V.int (r1 : Int), V.int (r2 : Int), V.int 400] : List V) = ([0, fs.length - 1, fs.length, fs.length + p, r1, r2, 400] : List Nat).map iV := by
      rw [show V.int ((fs.length : Int) - 1) = iV (fs.length - 1) by show V.int _ = V.int ((fs.length - 1 : Nat) : Int); congr 1; omega]
      rfl
    rw [els] at eAf
    have hcs : ∀ c ∈ ([0, fs.length - 1, fs.length, fs.length + p, r1, r2, 400] : List Nat), c < 401 := by
      intro c hc
      simp only [List.mem_cons, List.not_mem_nil, or_false] at hc
      omega
    generalize ([0, fs.length - 1, fs.length, fs.length + p, r1, r2, 400] : List Nat) = cs at *
    walk_at "rd"
    refine ⟨⟨_, sqL_of eAf⟩, ?_⟩
    refine go_for (walk_list (xs := cs.map iV)) (fun i σ Hz => ∃ (u6 u7 : Option V), σ = [some (.ref b), some (.ref q), some (.ref np), some (.ref tp), some (.ref to), some (iV fs.length), u6, u7] ∧ Same HA Hz)
      ⟨_, _, rfl, Same.refl _⟩ (fun i σ Hz hi h => by obtain ⟨_, _, _, sz⟩ := h; exact sqL_of (sz _ _ eAf)) (fun i v σ Hz Hw hi h y => ?_) (fun σ Hz h => ?_)
    · obtain ⟨u6, u7, rfl, sz⟩ := h
      obtain ⟨rfl, hv⟩ := y
      rw [List.length_map] at hi
      have gx : cs[i]? = some cs[i] := List.getElem?_eq_getElem hi
      rw [List.getElem?_map, gx] at hv
      cases hv
      have hc := hcs _ (List.getElem_mem hi)
      generalize cs[i] = c at *
      have rwz := rkeep rwA (SB.of sz)
      have gnp : ((List.range 401).map fun i => iV (numAt fs p g i))[c]? = some (iV (numAt fs p g c)) := by rw [List.getElem?_map, List.getElem?_range hc]; rfl
      walk_at "rd"
      refine ⟨.ref tp, iV c, dP, .int (c : Int), rfl, mkP rwz, .int _, fun h => by (rw [rP] at h; cases h), fun _ h => by (simp [cntB] at h), fun fs' p' g' i' e1 e2 => ?_⟩
      rw [rP] at e1
      cases e1
      injection e2 with e2
      have e2 : c = i' := by omega
      subst e2
      refine ⟨by omega, fun H1' s1' => ?_⟩
      have rw1 := rkeep rwz (SB.of s1')
      have enp1 := rw1.2.2.1
      walk_at "rd"
      refine i_repE (.int _) (sdN c hc) (by omega) (by omega) ?_
      walk_at "rd"
      refine i_ixLv enp1 (by omega) (by rw [Int.toNat_natCast]; exact gnp) ?_
      walk_at "rd"
      refine i_repE (.int _) (sdN c hc) (by omega) (by omega) ?_
      walk_at "rd"
      refine ⟨rfl, ?_⟩
      rw [decide_eq_true rfl]
      walk_at "rd"
      refine ⟨.ref to, iV c, dO, .int (c : Int), rfl, mkO rw1, .int _, fun h => by (rw [rO] at h; cases h), fun _ h => by (simp [cntB] at h), fun fs' p' g' i' e1 e2 => ?_⟩
      rw [rO] at e1
      cases e1
      injection e2 with e2
      have e2 : c = i' := by omega
      subst e2
      refine ⟨by omega, fun H2' s2' => ?_⟩
      have enp2 := s2' _ _ enp1
      walk_at "rd"
      refine i_ixLv enp2 (by omega) (by rw [Int.toNat_natCast]; exact gnp) ?_
      walk_at "rd"
      rw [decide_eq_true rfl]
      walk_at "rd"
      exact sz.trans (s1'.trans s2')
    obtain ⟨u6, u7, rfl, sz⟩ := h
    have rwz := rkeep rwA (SB.of sz)
    walk_at "rd"
    refine ⟨.ref q, fs, p, g, rfl, mkPA rwz, I, fun H1' s1' => ?_⟩
    have rw1 := rkeep rwz (SB.of s1')
    walk_at "rd"
    refine ⟨.ref tp, dP, rfl, mkP rw1, fun h => by (rw [rP] at h; cases h), fun fs' p' g' e1 => ?_⟩
    rw [rP] at e1
    cases e1
    intro H2' s2'
    walk_at "rd"
    refine i_repE (.bl _) (sd_bl _) (by omega) (by omega) ?_
    walk_at "rd"
    refine i_repE (.bl _) (sd_bl _) (by omega) (by omega) ?_
    walk_at "rd"
    refine ⟨rfl, ?_⟩
    rw [decide_eq_true rfl]
    have rw2 := rkeep rw1 (SB.of s2')
    walk_at "rd"
    refine ⟨.ref to, dO, rfl, mkO rw2, fun h => by (rw [rO] at h; cases h), fun fs' p' g' e1 => ?_⟩
    rw [rO] at e1
    cases e1
    intro H3' s3'
    walk_at "rd"
    refine i_repE (.bl _) (sd_bl _) (by omega) (by omega) ?_
    walk_at "rd"
    refine i_repE (.bl _) (sd_bl _) (by omega) (by omega) ?_
    walk_at "rd"
    refine ⟨rfl, ?_⟩
    rw [decide_eq_true rfl]
    have rw3 := rkeep rw2 (SB.of s3')
    have eq3' := rw3.1
    walk_at "rd"
    refine i_repE (mkP rw3) sdP (by omega) (by omega) ?_
    walk_at "rd"
    refine newT0 (Nat.le_of_ble_eq_true rfl) fun t4 H4' nt4 s4' et4 => ?_
    walk_at "rd"
    refine i_repE (mkA (rkeep rw3 (SB.of s4')) et4) sdP (by omega) (by omega) ?_
    walk_at "rd"
    refine ⟨rfl, ?_⟩
    rw [decide_eq_true rfl]
    have sAll := uA.trans (sz.trans (s1'.trans (s2'.trans (s3'.trans s4'))))
    exact k _ ((B9.same sAll).mono (by omega)) (s09.trans (SB.of sAll))
end
end Sw
namespace Sw
open PySem PySem.Spec PyProof.Rows L2
local macro_rules | `(tactic| walk_at "hp") => `(tactic| first
  | (with_reducible assumption) | (with_reducible exact upd_same)
  | ((with_reducible refine' upd_old ?q1 ?q2); (case q1 => (with_reducible assumption)); (case q2 => walk_at "hp"))
  | ((with_reducible refine' Same.at ?q1 ?q2); (case q1 => (with_reducible assumption)); (case q2 => walk_at "hp"))
  | ((with_reducible refine' upd_skip ?q1 ?q2); (case q1 => walk_at "ne"); (case q2 => walk_at "hp"))
  | fail)
local macro_rules | `(tactic| walk_at "ne") => `(tactic| first
  | (with_reducible assumption) | (with_reducible exact Ne.symm (by assumption))
  | ((with_reducible refine' ne_of_none ?q1 ?q2); (case q2 => (with_reducible assumption)); (case q1 => walk_at "hp"))
  | fail)
local macro_rules | `(tactic| walk_at "ci") => `(tactic| first | assumption | (show (0 : Int) < _; first | decide | (with_reducible omega)) | exact ⟨by decide, by decide⟩ | exact .inl ⟨by decide, by decide⟩ | exact .inr ⟨by decide, by decide⟩)
local macro_rules | `(tactic| walk_at "ln") => `(tactic| first | (with_reducible assumption) | (with_reducible omega) | (simp only [List.length_append, List.length_take, List.length_drop, List.length_reverse, List.length_cons, List.length_nil]; with_reducible omega))
local macro_rules | `(tactic| walk_at "rd1") => `(tactic| first
  | (with_reducible refine i_seq ?_) | (with_reducible refine i_asg ?_) | (with_reducible refine i_ret ?_) | (with_reducible refine i_name ?_) | ((with_reducible refine' i_var ?q1 ?_); (case q1 => exact rfl)) | (with_reducible refine i_c ?_) | (with_reducible refine i_op ?_) | (with_reducible refine i_un ?_)
  | (with_reducible refine i_rI0 ?_) | (with_reducible refine i_cb ?_) | (with_reducible refine i_cons ?_) | (with_reducible refine i_nil ?_) | (with_reducible refine i_call ?_) | (with_reducible refine i_if ?_) | (with_reducible refine i_ifE ?_) | (with_reducible refine i_test ?_) | (with_reducible refine i_bl ?_)
  | (with_reducible refine i_and ?_) | (with_reducible refine i_or ?_) | (with_reducible refine i_not ?_) | (with_reducible refine i_lstM ?_) | (with_reducible refine i_lstLM ?_) | (with_reducible refine i_tupM ?_) | (with_reducible refine i_next ?_) | (with_reducible refine i_drop ?_) | (with_reducible refine i_sub ?_)
  | (with_reducible refine i_bm ?_) | (with_reducible refine i_sl ?_) | (with_reducible refine i_part ?_) | (with_reducible refine i_nopart ?_) | (with_reducible refine i_exI ?_) | (with_reducible refine i_chain ?_) | ((with_reducible refine' i_aug ?q1 ?_); (case q1 => exact rfl)) | (with_reducible refine i_ip ?_)
  | (with_reducible refine i_par ?_) | (with_reducible refine i_pair ?_) | (with_reducible refine i_andV ?_) | (with_reducible refine i_orV ?_) | (with_reducible refine i_notV ?_) | (with_reducible refine i_m1 ?_) | (with_reducible refine i_str ?_)
  | (with_reducible refine iteF ?_) | (with_reducible refine iteT ?_) | (with_reducible refine iteNT ?_) | (with_reducible refine iteNF ?_) | (with_reducible refine i_tyS ?_) | (with_reducible refine i_tB ?_) | (with_reducible refine i_retN ?_) | (with_reducible refine i_par3 ?_) | (with_reducible refine i_trip ?_) | (with_reducible refine i_gCons ?_) | (with_reducible refine i_gNil ?_) | (with_reducible refine i_lstRg ?_) | (with_reducible refine i_rg1 ?_)
  | (with_reducible refine i_lc ?_) | (with_reducible refine i_for ?_) | (with_reducible refine i_iList ?_) | (with_reducible refine i_iTup ?_) | (with_reducible refine i_iStr ?_) | (with_reducible refine i_iRng1 ?_) | (with_reducible refine i_iEnS ?_)
  | ((with_reducible refine' i_ixTH ?q1 ?q2 ?_); (case q1 => walk_at "hp"); (case q2 => exact rfl))
  | ((with_reducible refine' i_ixLH ?q1 ?q2 ?_); (case q1 => walk_at "hp"); (case q2 => exact rfl))
  | ((with_reducible refine i_addS ?q1 ?_); (case q1 => walk_at "ln")) | ((with_reducible refine i_lenSS ?q1 ?_); (case q1 => walk_at "ln")) | ((with_reducible refine i_slFrom ?q1 ?q2 ?_); (case q1 => walk_at "ln"); (case q2 => walk_at "ln")) | ((with_reducible refine i_slTo ?q1 ?q2 ?_); (case q1 => walk_at "ln"); (case q2 => walk_at "ln"))
  | ((with_reducible refine' i_tyL ?q1 ?_); (case q1 => walk_at "hp"))
  | ((with_reducible refine' i_gTupH ?q1 ?q2 ?_); (case q1 => walk_at "hp"); (case q2 => exact rfl))
  | (with_reducible refine i_dnewM ?_) | (with_reducible refine i_init ?_) | (with_reducible refine i_fst ?_) | (with_reducible refine i_mk ?_) | (with_reducible refine i_mkF ?_) | (with_reducible refine i_raise ?_) | (with_reducible refine i_callS ?_) | (with_reducible refine i_kwS ?_)
  | (with_reducible refine i_revT ?_) | (with_reducible refine i_kw ?_) | ((with_reducible refine' ⟨_, _, rfl, sqT_of ?q1, ?_⟩); (case q1 => walk_at "hp"))
  | (with_reducible refine i_revS ?_) | ((with_reducible refine i_revSS ?q1 ?_); (case q1 => walk_at "ln"))
  | (with_reducible refine i_startS ?_) | (with_reducible refine i_inSg ?_) | (with_reducible refine i_absN ?_) | (with_reducible refine i_min2 ?_) | (with_reducible refine i_max2 ?_) | (with_reducible refine i_min3 ?_) | (with_reducible refine i_intN ?_) | (with_reducible refine i_intNB ?_)
  | ((with_reducible refine' i_lenL ?q1 ?_); (case q1 => walk_at "hp")) | ((with_reducible refine' i_lenT ?q1 ?_); (case q1 => walk_at "hp"))
  | (with_reducible refine i_eqI ?_) | (with_reducible refine i_neI ?_) | (with_reducible refine i_eqS ?_) | (with_reducible refine i_neS ?_) | (with_reducible refine i_isNoI ?_) | (with_reducible refine i_isNoN ?_) | (with_reducible refine i_isNoR ?_)
  | ((with_reducible refine i_pow ?q1 ?q2 ?q3 ?_); (case q1 => decide); (case q2 => decide); (case q3 => (with_reducible omega)))
  | ((with_reducible refine i_rI ?q1 ?_); (case q1 => walk_at "ci"))
  | (with_reducible refine Or.inl ⟨_, rfl, ?_⟩) | (with_reducible refine Or.inr ⟨_, rfl, ?_⟩) | (with_reducible refine ⟨_, rfl, ?_⟩) | (with_reducible refine ⟨_, _, rfl, ?_⟩) | (with_reducible refine ⟨_, _, rfl, rfl, ?_⟩)
  | ((with_reducible refine' ⟨_, _, rfl, Or.inl (sqL_of ?q1), ?_⟩); (case q1 => walk_at "hp")) | ((with_reducible refine' ⟨_, _, rfl, Or.inr (sqT_of ?q1), ?_⟩); (case q1 => walk_at "hp")) | (with_reducible refine i_dget ?_) | (with_reducible refine i_disp1T ?_) | (with_reducible refine i_dcT ?_) | (with_reducible refine i_dnewT ?_) | (with_reducible refine i_fld ?_) | (with_reducible refine i_sFld ?_) | (with_reducible refine i_make ?_) | (with_reducible refine i_meth ?_) | (with_reducible refine i_star ?_) | (with_reducible refine i_isNoS ?_) | (with_reducible refine i_lc2 ?_) | (with_reducible refine i_iEnT ?_) | (with_reducible refine i_iZipT ?_) | fail)
local macro_rules | `(tactic| walk_at "rd") => `(tactic| repeat' walk_at "rd1")

theorem cutV_to' (l : List Nat) {k : Nat} (h : k ≤ l.length) : cutV (l.map iV) none (some (k : Int)) = (l.take k).map iV := by
  unfold cutV
  rw [HT.sIx_nat, HT.sIx_none, List.drop_zero, Nat.sub_zero, List.length_map, Nat.min_eq_left h, List.map_take]
theorem cutV_from' (l : List Nat) {k : Nat} (h : k ≤ l.length) : cutV (l.map iV) (some (k : Int)) none = (l.drop k).map iV := by
  unfold cutV
  rw [HT.sIx_nat, HT.sIx_none, List.length_map, Nat.min_eq_left h, ← List.map_drop, List.take_of_length_le (by rw [List.length_map, List.length_drop]; omega)]
theorem deAll_app {K : PySem.W.Frag} {H : Hp} : ∀ {xs : List V} {ds : List PyData} {ys : List V} {es : List PyData}, DeAll K H xs ds → DeAll K H ys es → DeAll K H (xs ++ ys) (ds ++ es)
  | _, _, _, _, .nil, h => h
  | _, _, _, _, .cons h1 h2, h => .cons h1 (deAll_app h2 h)
theorem sdl {ds : List PyData} (h : ∀ y ∈ ds, Sd 2 300 y) (l : ds.length ≤ 20) : Sd 4 7000 (.list ds) := by
  have := sd_lst h
  have : ds.length * (300 + 1) ≤ 20 * 301 := Nat.mul_le_mul_right _ l
  exact (sd_lst h).mono (by omega) (by omega)
theorem sd40 {fs : List Nat} (h : ∀ x ∈ fs, x ≤ 41) : ∀ y ∈ intsD fs, Sd 2 300 y := fun y hy => by
  obtain ⟨x, hx, rfl⟩ := List.mem_map.mp hy
  have := h x hx
  exact (sd_int9 (by omega)).mono (by omega) (by omega)
theorem sdi {i : Int} (h : i.natAbs < 500) : Sd 4 7000 (.int i) := (sd_int9 (by omega)).mono (by omega) (by omega)
theorem sd_d00 : Sd 2 10 (.dict [(keyD (.inl 0), .int 0)]) := ⟨by simp only [keyD, PyData.depth, PyData.depthKv]; omega, by simp only [keyD, PyData.weight, PyData.weightKv]; decide, by simp only [keyD, PyData.showable, PyData.showableKv]; decide, by simp only [keyD, PyData.leavesShort, PyData.leavesShortKv]; decide, by simp only [sok]⟩
theorem i_rep {l : Addr} {k : Nat} {x : V} {H : Hp} {Q : VK} (h : H l = some (.lst [x])) (hk : k ≤ 100) (q : ∀ p, H p = none → Q (.ref p) (upd H p (.lst (List.replicate k x)))) : rRep (.ref l) (.int (k : Int)) H Q := by
  refine ⟨l, (k : Int), [x], rfl, rfl, h, by omega, by omega, ?_, fun p np => ?_⟩
  · rw [Int.toNat_natCast]
    exact Nat.le_trans (m := 1000) (by simp; omega) (Nat.le_of_ble_eq_true rfl)
  · rw [Int.toNat_natCast, show (List.replicate k [x]).flatten = List.replicate k x by simp]
    exact q p np
/-- _law_spoiled(box, plain) -/
def spSpoil (K : PySem.W.Frag) : Sp := fun vs H Q _ => ∃ (b : Addr) (v : V) (fs : List Nat) (p g : Nat) (d : Int), vs = [.ref b, v] ∧ PAt (L2.del H b) v fs p g ∧ RowI fs p g ∧ BoxAt H b d ∧ d + 10 ≤ 1000000 ∧
  ∀ x dd Hn, De K (L2.del Hn b) x dd → Sd 10 30000 dd → (∀ ds, (dd = .tuple ds ∨ dd = .list ds) → ds.length ≤ 100) → (∀ ds r, dd = .tuple (.list ds :: r) → ds.length ≤ 100) → BoxAt Hn b (d + 10) → SB b H Hn → Q x Hn
section
variable {P : Program} {w : World} {K : PySem.W.Frag} {mg : Str → Option Value} {base : Heap} {f : Addr} {fd : FuncData}
theorem ok_spoil (F : Fun K "_law_spoiled" "_law_spoiled" s__law_spoiled f fd) (z : Z mg) (c__law_take : Cal P w K mg base "_law_take" ["box", "limit"] 1 spTake) : FnOk P w K mg base CX0 2 f fd ["box", "plain"] (spSpoil K) := by
  refine F.ok sc__law_spoiled (fun vs H Q E h => ?_) (fun cdv A outer s H vs Q E hr h => ?_)
  · obtain ⟨b, v, fs, p, g, d, rfl, _⟩ := h; rfl
  · obtain ⟨b, v, fs, p, g, d, rfl, hp, I, B, hd, k⟩ := h
    refine ⟨_, (pss_cons (ps_par3 (i := 2) (j := 3) (l := 4) rfl sc__law_spoiled.nd rfl rfl rfl (by decide) (by decide) (by decide) rfl rfl rfl (pa_cons (pe_callTy call_listL (by rfl) z.list (by decide +kernel) (pa_cons (pe_ix ix_list (pv 1) pe_int (fun _ _ => rfl)) pa_nil)) (pa_cons (pe_ix ix_list (pv 1) pe_int (fun _ _ => rfl)) (pa_cons (pe_ix ix_list (pv 1) pe_int (fun _ _ => rfl)) pa_nil))) (by rfl))
      (pss_cons (ps_par (i := 5) (j := 6) rfl sc__law_spoiled.nd rfl rfl (by decide) rfl rfl (pa_cons (pe_cal c__law_take hr (pa_cons (pv 0) (pa_cons pe_int pa_nil))) (pa_cons (pe_cal c__law_take hr (pa_cons (pv 0) (pa_cons (pe_callB call_lenQ (by rfl) z.len PySem.boot_len (pa_cons (pe_ix ix_list (pv 1) pe_int (fun _ _ => rfl)) pa_nil)) pa_nil))) pa_nil)) (by rfl))
      (pss_cons (ps_set (i := 7) sc__law_spoiled.nd rfl (.inl rfl) (pe_ix ix_list (pe_lstL (pa_cons pe_non (pa_cons pe_bl (pa_cons (pe_strS (l := [49]) (by decide +kernel)) (pa_cons (pe_un un_neg pe_int) (pa_cons (pe_lstL (pa_cons pe_int pa_nil)) (pa_cons pe_int pa_nil))))))) (pe_cal c__law_take hr (pa_cons (pv 0) (pa_cons pe_int pa_nil))) (fun _ _ => rfl)))
      (pss_cons (ps_if (pt_cmpR op_eq (pv 5) pe_int (nomark _))
        (pss_one (ps_ret (pe_tup (pa_cons (pe_op op_catL (pe_op op_catL (pe_slice sl_list (pv 2) po_none (po_some (pv 6))) (pe_lstL (pa_cons (pv 7) pa_nil))) (pe_slice sl_list (pv 2) (po_some (pe_op op_add (pv 6) pe_int)) po_none)) (pa_cons (pv 3) (pa_cons (pv 4) pa_nil))))))
        pss_nil)
      (pss_cons (ps_if (pt_cmpR op_eq (pv 5) pe_int (nomark _))
        (pss_one (ps_ret (pe_tup (pa_cons (pe_op op_catL (pe_op op_catL (pe_slice sl_list (pv 2) po_none (po_some (pv 6))) (pe_lstL (pa_cons (pe_op op_add (pe_ix ix_list (pv 2) (pv 6) (fun _ _ => rfl)) pe_int) pa_nil))) (pe_slice sl_list (pv 2) (po_some (pe_op op_add (pv 6) pe_int)) po_none)) (pa_cons (pv 3) (pa_cons (pv 4) pa_nil))))))
        pss_nil)
      (pss_cons (ps_if (pt_cmpR op_eq (pv 5) pe_int (nomark _))
        (pss_one (ps_ret (pe_tup (pa_cons (pe_revLL (pv 2)) (pa_cons (pv 3) (pa_cons (pv 4) pa_nil))))))
        pss_nil)
      (pss_cons (ps_if (pt_cmpR op_eq (pv 5) pe_int (nomark _))
        (pss_one (ps_ret (pe_tup (pa_cons (pe_op op_catL (pv 2) (pe_op op_rep (pe_lstL (pa_cons pe_int pa_nil)) (pe_op op_sub pe_int (pe_callB call_lenQ (by rfl) z.len PySem.boot_len (pa_cons (pv 2) pa_nil))))) (pa_cons (pv 3) (pa_cons (pv 4) pa_nil))))))
        pss_nil)
      (pss_cons (ps_if (pt_cmpR op_eq (pv 5) pe_int (nomark _))
        (pss_one (ps_ret (pe_tup (pa_cons (pe_lstL pa_nil) (pa_cons (pv 3) (pa_cons (pv 4) pa_nil))))))
        pss_nil)
      (pss_cons (ps_if (pt_cmpR op_eq (pv 5) pe_int (nomark _))
        (pss_one (ps_ret (pe_tup (pa_cons (pv 2) (pa_cons (pe_ix ix_list (pe_lstL (pa_cons pe_int (pa_cons pe_int (pa_cons (pe_un un_neg pe_int) (pa_cons pe_non (pa_cons pe_bl (pa_cons (pe_strS (l := [49]) (by decide +kernel)) (pa_cons (pe_lstL (pa_cons pe_int pa_nil)) pa_nil)))))))) (pe_cal c__law_take hr (pa_cons (pv 0) (pa_cons pe_int pa_nil))) (fun _ _ => rfl)) (pa_cons (pv 4) pa_nil))))))
        pss_nil)
      (pss_cons (ps_if (pt_cmpR op_eq (pv 5) pe_int (nomark _))
        (pss_one (ps_ret (pe_tup (pa_cons (pv 2) (pa_cons (pe_op op_add (pe_callB call_lenQ (by rfl) z.len PySem.boot_len (pa_cons (pv 2) pa_nil)) pe_int) (pa_cons (pv 4) pa_nil))))))
        pss_nil)
      (pss_cons (ps_if (pt_cmpR op_eq (pv 5) pe_int (nomark _))
        (pss_one (ps_ret (pe_tup (pa_cons (pv 2) (pa_cons (pv 3) (pa_cons (pe_ix ix_list (pe_lstL (pa_cons pe_int (pa_cons (pe_un un_neg pe_int) (pa_cons pe_non (pa_cons pe_bl (pa_cons (pe_strS (l := [48]) (by decide +kernel)) (pa_cons (pe_lstL (pa_cons pe_int pa_nil)) pa_nil))))))) (pe_cal c__law_take hr (pa_cons (pv 0) (pa_cons pe_int pa_nil))) (fun _ _ => rfl)) pa_nil))))))
        pss_nil)
      (pss_cons (ps_if (pt_cmpR op_eq (pv 5) pe_int (nomark _))
        (pss_one (ps_ret (pe_tup (pa_cons (pv 2) (pa_cons (pv 3) (pa_cons (pe_callB (call_max2N rfl) (by rfl) z.max_ (by decide +kernel) (pa_cons pe_int (pa_cons (pe_op op_sub (pe_op op_sub (pe_ix ix_list (pv 2) (pe_un un_neg pe_int) (fun _ _ => rfl)) (pe_ix ix_list (pv 2) (pe_op op_sub (pe_callB call_lenQ (by rfl) z.len PySem.boot_len (pa_cons (pv 2) pa_nil)) (pv 3)) (fun _ _ => rfl))) pe_int) pa_nil))) pa_nil))))))
        pss_nil)
      (pss_cons (ps_if (pt_cmpR op_eq (pv 5) pe_int (nomark _))
        (pss_one (ps_ret (pe_lstL (pa_cons (pv 2) (pa_cons (pv 3) (pa_cons (pv 4) pa_nil))))))
        pss_nil)
      (pss_cons (ps_if (pt_cmpR op_eq (pv 5) pe_int (nomark _))
        (pss_one (ps_ret (pe_ix ix_list (pe_lstL (pa_cons (pe_tup (pa_cons (pv 2) (pa_cons (pv 3) pa_nil))) (pa_cons (pe_tup (pa_cons (pv 2) (pa_cons (pv 3) (pa_cons (pv 4) (pa_cons pe_int pa_nil))))) (pa_cons (pe_tup (pa_cons (pv 3) (pa_cons (pv 2) (pa_cons (pv 4) pa_nil)))) pa_nil)))) (pe_cal c__law_take hr (pa_cons (pv 0) (pa_cons pe_int pa_nil))) (fun _ _ => rfl))))
        pss_nil)
      (pss_cons (ps_if (pt_cmpR op_eq (pv 5) pe_int (nomark _))
        (pss_one (ps_ret (pe_tup (pa_cons (pe_ix ix_list (pe_lstL (pa_cons pe_non (pa_cons (pe_strS (l := [48]) (by decide +kernel)) (pa_cons pe_int (pa_cons (pe_disp (pps_cons pe_int pe_int pps_nil) (by rfl) (by rfl) (fun z => by cases z) (by decide)) pa_nil))))) (pe_cal c__law_take hr (pa_cons (pv 0) (pa_cons pe_int pa_nil))) (fun _ _ => rfl)) (pa_cons (pv 3) (pa_cons (pv 4) pa_nil))))))
        pss_nil)
      (pss_cons (ps_if (pt_cmpR op_eq (pv 5) pe_int (nomark _))
        (pss_one (ps_ret (pe_tup (pa_cons (pe_op op_catL (pe_op op_catL (pe_slice sl_list (pv 2) po_none (po_some (pv 6))) (pe_lstL (pa_cons pe_int pa_nil))) (pe_slice sl_list (pv 2) (po_some (pe_op op_add (pv 6) pe_int)) po_none)) (pa_cons (pv 3) (pa_cons (pv 4) pa_nil))))))
        pss_nil)
      (pss_cons (ps_if (pt_cmpR op_eq (pv 5) pe_int (nomark _))
        (pss_one (ps_ret (pe_tup (pa_cons (pv 2) (pa_cons (pe_op op_add pe_int (pe_op op_mod (pe_callTy call_intN (by rfl) z.int (by decide +kernel) (pa_cons (pv 3) pa_nil)) pe_int)) (pa_cons (pv 4) pa_nil))))))
        pss_nil)
      (pss_one (ps_ret (pe_ix ix_list (pe_lstL (pa_cons pe_non (pa_cons pe_int (pa_cons (pe_strS (l := [114, 111, 119]) (by decide +kernel)) (pa_cons (pe_tup pa_nil) (pa_cons (pv 2) (pa_cons pe_bl pa_nil))))))) (pe_cal c__law_take hr (pa_cons (pv 0) (pa_cons pe_int pa_nil))) (fun _ _ => rfl))))))))))))))))))))), ?_⟩
    have l1 := I.l1
    have l8 := I.l8
    have p1 := I.p1
    have p4 := I.p4
    have pl := I.pl
    have g12 := I.g12
    obtain ⟨q, a, rfl, eq, ea, lta⟩ := id hp
    have eqf := del_sub _ _ eq
    have eaf := del_sub _ _ ea
    walk_at "rd"
    refine i_listB B (.inl (sqL_of eaf)) fun fq H1 ltf nf B1 s1 ef u1 => ?_
    have eq1 := u1 _ _ eqf
    have ea1 := u1 _ _ eaf
    walk_at "rd"
    refine ⟨b, 15, _, rfl, B1, by omega, by omega, by omega, fun way H2 y0 y1 B2 s2 => ?_⟩
    have eq2 := del_sub _ _ ((del_sb s2) _ _ (s1 _ _ eq))
    have ea2 := del_sub _ _ ((del_sb s2) _ _ (s1 _ _ ea))
    walk_at "rd"
    rw [List.length_map]
    refine ⟨b, (fs.length : Int), _, rfl, B2, by omega, by omega, by omega, fun sp H3 z0 z1 B3 s3 => ?_⟩
    obtain ⟨sp, rfl⟩ : ∃ m : Nat, sp = m := ⟨sp.toNat, by omega⟩
    walk_at "rd"
    refine i_rU ?_
    walk_at "rd"
    refine newLL B3 (Nat.le_of_ble_eq_true rfl) fun o1 H4 lt4 n4 B4 s4 e4 u4 => ?_
    walk_at "rd"
    refine newLL B4 (Nat.le_of_ble_eq_true rfl) fun o2 H5 lt5 n5 B5 s5 e5 u5 => ?_
    have n5b := box_ne B4 n5
    walk_at "rd"
    refine ⟨b, 6, _, rfl, B5, by omega, by omega, by omega, fun r HB r0 r1 BB s6 => ?_⟩
    obtain ⟨xo, od, exo, hod, sod⟩ : ∃ xo od, ([.non, .bl true, .str (S [49]), .int (-1), .ref o1, .int 41] : List V)[r.toNat]? = some xo ∧ De K (L2.del HB b) xo od ∧ Sd 2 300 od := by
      have hr : r = 0 ∨ r = 1 ∨ r = 2 ∨ r = 3 ∨ r = 4 ∨ r = 5 := by omega
      rcases hr with rfl | rfl | rfl | rfl | rfl | rfl
      · exact ⟨_, _, rfl, .non, sd_non.mono (by omega) (by omega)⟩
      · exact ⟨_, _, rfl, .bl _, (sd_bl _).mono (by omega) (by omega)⟩
      · exact ⟨_, _, rfl, .str _, (sd_str (by decide)).mono (by omega) (by decide)⟩
      · exact ⟨_, _, rfl, .int _, (sd_int9 (by decide)).mono (by omega) (by omega)⟩
      · exact ⟨_, _, rfl, .lst ((s5.trans (del_sb s6)) _ _ e4) lt4 (.cons (.int _) .nil), (sd_lst' (n := 0) (.cons (sd_int9 (by decide)) .nil)).mono (by omega) (by omega)⟩
      · exact ⟨_, _, rfl, .int _, (sd_int9 (by decide)).mono (by omega) (by omega)⟩
    refine i_ixLv (s6 _ _ n5b (del_sub _ _ e5)) r0 exo ?_
    have efB := ((del_sb s2).trans ((del_sb s3).trans (s4.trans (s5.trans (del_sb s6))))) _ _ ef
    have effB := del_sub _ _ efB
    have s0B : SB b H HB := (SB.of u1).trans (s2.trans (s3.trans ((SB.of (u4.trans u5)).trans s6)))
    have fin3 : ∀ (Hn : Hp) (t : Addr) (x0 x1 x2 : V) (d0 d1 d2 : PyData), L2.del Hn b t = some (.tup [x0, x1, x2]) → De K (L2.del Hn b) x0 d0 → De K (L2.del Hn b) x1 d1 → De K (L2.del Hn b) x2 d2 → Sd 4 7000 d0 → Sd 4 7000 d1 → Sd 4 7000 d2 → (∀ ds, d0 = .list ds → ds.length ≤ 100) → BoxAt Hn b (d + 10) → SB b H Hn → Q (.ref t) Hn := fun Hn t x0 x1 x2 d0 d1 d2 ht h0 h1 h2 a0 a1 a2 hl Bn sn => by
      refine k _ (.tuple [d0, d1, d2]) Hn (.tup (sqT_of ht) (.cons h0 (.cons h1 (.cons h2 .nil)))) ((sd_tup' (.cons a0 (.cons a1 (.cons a2 .nil)))).mono (by omega) (by omega)) (fun ds hds => ?_) (fun ds r hds => ?_) Bn sn
      · rcases hds with hds | hds
        · cases hds; simp
        · cases hds
      · cases hds; exact hl _ rfl
    have hfs : ∀ {Hn : Hp}, Same (L2.del HB b) (L2.del Hn b) → De K (L2.del Hn b) (.ref fq) (.list (intsD fs)) := fun s => .lst (s _ _ efB) ltf (ints_de fs)
    have sdf : Sd 4 7000 (.list (intsD fs)) := sdl (sd40 fun x hx => by have := I.m x hx; omega) (by rw [List.length_map]; omega)
    have lenf : ∀ ds, PyData.list (intsD fs) = .list ds → ds.length ≤ 100 := fun ds h => by cases h; rw [List.length_map]; omega
    have tk40 : ∀ y ∈ intsD (fs.take sp), Sd 2 300 y := sd40 fun x hx => by have := I.m x (List.mem_of_mem_take hx); omega
    have dr40 : ∀ y ∈ intsD (fs.drop (sp + 1)), Sd 2 300 y := sd40 fun x hx => by have := I.m x (List.mem_of_mem_drop hx); omega
    have sdm : ∀ md, Sd 2 300 md → Sd 4 7000 (.list (intsD (fs.take sp) ++ [md] ++ intsD (fs.drop (sp + 1)))) := fun md hm => by
      refine sdl (fun y hy => ?_) (by simp only [List.length_append, List.length_map, List.length_take, List.length_drop, List.length_singleton]; omega)
      rcases List.mem_append.mp hy with hy | hy
      · rcases List.mem_append.mp hy with hy | hy
        · exact tk40 y hy
        · rw [List.mem_singleton.mp hy]; exact hm
      · exact dr40 y hy
    have lenm : ∀ md ds, PyData.list (intsD (fs.take sp) ++ [md] ++ intsD (fs.drop (sp + 1))) = .list ds → ds.length ≤ 100 := fun md ds h => by cases h; simp only [List.length_append, List.length_map, List.length_take, List.length_drop, List.length_singleton]; omega
    have sdp : Sd 4 7000 (.int (p : Int)) := sdi (by omega)
    have sdg : Sd 4 7000 (.int (g : Int)) := sdi (by omega)
    walk_at "rd"
    refine iteB (fun c0 => ?_) (fun c0 => ?_)
    · skip
      walk_at "rd"
      refine i_slB BB efB (fun p1 G1 np1 np1b C1 t1 g1 w1 => ?_)
      rw [cutV_to' fs (by omega)] at g1
      have ef1 := w1 _ _ effB
      walk_at "rd"
      refine newLL C1 (Nat.le_of_ble_eq_true rfl) fun p2 G2 lt2 np2 C2 t2 g2 w2 => ?_
      refine i_catLLB C2 (t2 _ _ g1) g2 (Nat.le_trans (m := 1000) (by rw [List.length_map, List.length_take]; simp only [List.length_cons, List.length_nil]; omega) (Nat.le_of_ble_eq_true rfl)) fun p3 G3 lt3 np3 C3 t3 g3 w3 => ?_
      walk_at "rd"
      have t13 := t1.trans (t2.trans t3)
      refine i_slB C3 (t13 _ _ efB) (fun p4 G4 np4 np4b C4 t4 g4 w4 => ?_)
      rw [show (sp : Int) + 1 = ((sp + 1 : Nat) : Int) from rfl, cutV_from' fs (by omega)] at g4
      refine i_catLLB C4 (t4 _ _ g3) g4 (Nat.le_trans (m := 1000) (by rw [List.length_append, List.length_map, List.length_map, List.length_take, List.length_drop]; simp only [List.length_cons, List.length_nil]; omega) (Nat.le_of_ble_eq_true rfl)) fun p5 G5 lt5 np5 C5 t5 g5 w5 => ?_
      walk_at "rd"
      refine newT C5 (Nat.le_of_ble_eq_true rfl) fun t G6 C6 t6 g6 w6 => ?_
      have tAll := t13.trans (t4.trans (t5.trans t6))
      exact fin3 G6 t _ _ _ (.list (intsD (fs.take sp) ++ [od] ++ intsD (fs.drop (sp + 1)))) _ _ g6 (.lst (t6 _ _ g5) lt5 (deAll_app (deAll_app (ints_de _) (.cons (hod.same tAll) .nil)) (ints_de _))) (.int _) (.int _) (sdm _ sod) sdp sdg (lenm _) (C6.mono (by omega)) (s0B.trans (SB.of (w1.trans (w2.trans (w3.trans (w4.trans (w5.trans w6)))))))
    walk_at "rd"
    refine iteB (fun c1 => ?_) (fun c1 => ?_)
    · skip
      walk_at "rd"
      refine i_slB BB efB (fun p1 G1 np1 np1b C1 t1 g1 w1 => ?_)
      rw [cutV_to' fs (by omega)] at g1
      have ef1 := w1 _ _ effB
      walk_at "rd"
      refine i_ixLv ef1 (by omega) (by rw [Int.toNat_natCast]; exact getD_map (by omega)) ?_
      walk_at "rd"
      refine newLL C1 (Nat.le_of_ble_eq_true rfl) fun p2 G2 lt2 np2 C2 t2 g2 w2 => ?_
      refine i_catLLB C2 (t2 _ _ g1) g2 (Nat.le_trans (m := 1000) (by rw [List.length_map, List.length_take]; simp only [List.length_cons, List.length_nil]; omega) (Nat.le_of_ble_eq_true rfl)) fun p3 G3 lt3 np3 C3 t3 g3 w3 => ?_
      walk_at "rd"
      have t13 := t1.trans (t2.trans t3)
      refine i_slB C3 (t13 _ _ efB) (fun p4 G4 np4 np4b C4 t4 g4 w4 => ?_)
      rw [show (sp : Int) + 1 = ((sp + 1 : Nat) : Int) from rfl, cutV_from' fs (by omega)] at g4
      refine i_catLLB C4 (t4 _ _ g3) g4 (Nat.le_trans (m := 1000) (by rw [List.length_append, List.length_map, List.length_map, List.length_take, List.length_drop]; simp only [List.length_cons, List.length_nil]; omega) (Nat.le_of_ble_eq_true rfl)) fun p5 G5 lt5 np5 C5 t5 g5 w5 => ?_
      walk_at "rd"
      refine newT C5 (Nat.le_of_ble_eq_true rfl) fun t G6 C6 t6 g6 w6 => ?_
      have tAll := t13.trans (t4.trans (t5.trans t6))
      exact fin3 G6 t _ _ _ (.list (intsD (fs.take sp) ++ [.int ((fs.getD sp 0 : Nat) + 1 : Int)] ++ intsD (fs.drop (sp + 1)))) _ _ g6 (.lst (t6 _ _ g5) lt5 (deAll_app (deAll_app (ints_de _) (.cons (.int _) .nil)) (ints_de _))) (.int _) (.int _) (sdm _ ((sd_int9 (by have := I.m _ (getD_mem (fs := fs) (i := sp) (by omega)); omega)).mono (by omega) (by omega))) sdp sdg (lenm _) (C6.mono (by omega)) (s0B.trans (SB.of (w1.trans (w2.trans (w3.trans (w4.trans (w5.trans w6)))))))
    walk_at "rd"
    refine iteB (fun c2 => ?_) (fun c2 => ?_)
    · skip
      walk_at "rd"
      refine i_revLL ?_
      walk_at "rd"
      refine ⟨fq, _, rfl, sqL_of effB, fun p1 np1 lt1 => ?_⟩
      have w1 := same_upd (o := HO.lst (fs.map iV).reverse) np1
      have g1 := del_new BB np1 (o := HO.lst (fs.map iV).reverse)
      have C1 := BB.same w1
      generalize upd HB p1 (.lst (fs.map iV).reverse) = G1 at *
      rw [← List.map_reverse] at g1
      walk_at "rd"
      refine newT C1 (Nat.le_of_ble_eq_true rfl) fun t G6 C6 t6 g6 w6 => ?_
      exact fin3 G6 t _ _ _ (.list (intsD fs.reverse)) _ _ g6 (.lst (t6 _ _ g1) lt1 (ints_de _)) (.int _) (.int _) (sdl (sd40 fun x hx => by have := I.m x (List.mem_reverse.mp hx); omega) (by rw [List.length_map, List.length_reverse]; omega)) sdp sdg (fun ds h => by cases h; rw [List.length_map, List.length_reverse]; omega) (C6.mono (by omega)) (s0B.trans (SB.of (w1.trans w6)))
    walk_at "rd"
    refine iteB (fun c3 => ?_) (fun c3 => ?_)
    · skip
      walk_at "rd"
      refine newLL BB (Nat.le_of_ble_eq_true rfl) fun p2 G2 lt2 np2 C2 t2 g2 w2 => ?_
      have ef2 := w2 _ _ effB
      walk_at "rd"
      rw [List.length_map, show (9 : Int) - (fs.length : Int) = ((9 - fs.length : Nat) : Int) by omega]
      refine i_rep (del_sub _ _ g2) (by omega) fun p3 np3 => ?_
      have w3 := same_upd (o := HO.lst (List.replicate (9 - fs.length) (V.int 40))) np3
      have g3 := del_new C2 np3 (o := HO.lst (List.replicate (9 - fs.length) (V.int 40)))
      have C3 := C2.same w3
      generalize upd G2 p3 (.lst (List.replicate (9 - fs.length) (V.int 40))) = G3 at *
      have t3 : Same (L2.del G2 b) (L2.del G3 b) := del_sb (SB.of w3)
      refine i_catLLB C3 ((t2.trans t3) _ _ efB) g3 (Nat.le_trans (m := 1000) (by rw [List.length_map, List.length_replicate]; omega) (Nat.le_of_ble_eq_true rfl)) fun p5 G5 lt5 np5 C5 t5 g5 w5 => ?_
      have er : List.replicate (9 - fs.length) (V.int 40) = (List.replicate (9 - fs.length) 40).map iV := by rw [List.map_replicate]; rfl
      rw [er, ← List.map_append] at g5
      walk_at "rd"
      refine newT C5 (Nat.le_of_ble_eq_true rfl) fun t G6 C6 t6 g6 w6 => ?_
      have h41 : ∀ x ∈ fs ++ List.replicate (9 - fs.length) 40, x ≤ 41 := fun x hx => by
        rcases List.mem_append.mp hx with hx | hx
        · have := I.m x hx; omega
        · have := List.eq_of_mem_replicate hx; omega
      exact fin3 G6 t _ _ _ (.list (intsD (fs ++ List.replicate (9 - fs.length) 40))) _ _ g6 (.lst (t6 _ _ g5) lt5 (ints_de _)) (.int _) (.int _) (sdl (sd40 h41) (by rw [List.length_map, List.length_append, List.length_replicate]; omega)) sdp sdg (fun ds h => by cases h; rw [List.length_map, List.length_append, List.length_replicate]; omega) (C6.mono (by omega)) (s0B.trans (SB.of (w2.trans (w3.trans (w5.trans w6)))))
    walk_at "rd"
    refine iteB (fun c4 => ?_) (fun c4 => ?_)
    · skip
      walk_at "rd"
      refine newLL BB (Nat.le_of_ble_eq_true rfl) fun p2 G2 lt2 np2 C2 t2 g2 w2 => ?_
      walk_at "rd"
      refine newT C2 (Nat.le_of_ble_eq_true rfl) fun t G6 C6 t6 g6 w6 => ?_
      exact fin3 G6 t _ _ _ (.list []) _ _ g6 (.lst (t6 _ _ g2) lt2 .nil) (.int _) (.int _) (sdl nofun (by simp)) sdp sdg (fun ds h => by cases h; simp) (C6.mono (by omega)) (s0B.trans (SB.of (w2.trans w6)))
    walk_at "rd"
    refine iteB (fun c5 => ?_) (fun c5 => ?_)
    · skip
      walk_at "rd"
      refine i_rU ?_
      walk_at "rd"
      refine newLL BB (Nat.le_of_ble_eq_true rfl) fun p2 G2 lt2 np2 C2 t2 g2 w2 => ?_
      walk_at "rd"
      refine newLL C2 (Nat.le_of_ble_eq_true rfl) fun p3 G3 lt3 np3 C3 t3 g3 w3 => ?_
      have np3b := box_ne C2 np3
      walk_at "rd"
      refine ⟨b, 7, _, rfl, C3, by omega, by omega, by omega, fun x G4 x0 x1 C4 s4' => ?_⟩
      have tA := t2.trans (t3.trans (del_sb s4'))
      obtain ⟨xv, xd, gx, hx, sx⟩ : ∃ xv xd, ([.int 0, .int 5, .int (-1), .non, .bl true, .str (S [49]), .ref p2] : List V)[x.toNat]? = some xv ∧ De K (L2.del G4 b) xv xd ∧ Sd 4 7000 xd := by
        have hr : x = 0 ∨ x = 1 ∨ x = 2 ∨ x = 3 ∨ x = 4 ∨ x = 5 ∨ x = 6 := by omega
        rcases hr with rfl | rfl | rfl | rfl | rfl | rfl | rfl
        · exact ⟨_, _, rfl, .int _, sdi (by decide)⟩
        · exact ⟨_, _, rfl, .int _, sdi (by decide)⟩
        · exact ⟨_, _, rfl, .int _, sdi (by decide)⟩
        · exact ⟨_, _, rfl, .non, sd_non.mono (by omega) (by omega)⟩
        · exact ⟨_, _, rfl, .bl _, (sd_bl _).mono (by omega) (by omega)⟩
        · exact ⟨_, _, rfl, .str _, (sd_str (by decide)).mono (by omega) (by decide)⟩
        · exact ⟨_, _, rfl, .lst ((t3.trans (del_sb s4')) _ _ g2) lt2 (.cons (.int _) .nil), (sd_lst' (n := 0) (.cons (sd_int9 (by decide)) .nil)).mono (by omega) (by omega)⟩
      refine i_ixLv (s4' _ _ np3b (del_sub _ _ g3)) x0 gx ?_
      walk_at "rd"
      refine newT C4 (Nat.le_of_ble_eq_true rfl) fun t G6 C6 t6 g6 w6 => ?_
      have tB := tA.trans t6
      exact fin3 G6 t _ _ _ _ _ _ g6 (hfs tB) (hx.same t6) (.int _) sdf sx sdg lenf (C6.mono (by omega)) (s0B.trans ((SB.of (w2.trans w3)).trans (s4'.trans (SB.of w6))))
    walk_at "rd"
    refine iteB (fun c6 => ?_) (fun c6 => ?_)
    · skip
      walk_at "rd"
      rw [List.length_map]
      refine newT BB (Nat.le_of_ble_eq_true rfl) fun t G6 C6 t6 g6 w6 => ?_
      exact fin3 G6 t _ _ _ _ _ _ g6 (hfs t6) (.int _) (.int _) sdf (sdi (by omega)) sdg lenf (C6.mono (by omega)) (s0B.trans (SB.of w6))
    walk_at "rd"
    refine iteB (fun c7 => ?_) (fun c7 => ?_)
    · skip
      walk_at "rd"
      refine i_rU ?_
      walk_at "rd"
      refine newLL BB (Nat.le_of_ble_eq_true rfl) fun p2 G2 lt2 np2 C2 t2 g2 w2 => ?_
      walk_at "rd"
      refine newLL C2 (Nat.le_of_ble_eq_true rfl) fun p3 G3 lt3 np3 C3 t3 g3 w3 => ?_
      have np3b := box_ne C2 np3
      walk_at "rd"
      refine ⟨b, 6, _, rfl, C3, by omega, by omega, by omega, fun x G4 x0 x1 C4 s4' => ?_⟩
      have tA := t2.trans (t3.trans (del_sb s4'))
      obtain ⟨xv, xd, gx, hx, sx⟩ : ∃ xv xd, ([.int 13, .int (-1), .non, .bl true, .str (S [48]), .ref p2] : List V)[x.toNat]? = some xv ∧ De K (L2.del G4 b) xv xd ∧ Sd 4 7000 xd := by
        have hr : x = 0 ∨ x = 1 ∨ x = 2 ∨ x = 3 ∨ x = 4 ∨ x = 5 := by omega
        rcases hr with rfl | rfl | rfl | rfl | rfl | rfl
        · exact ⟨_, _, rfl, .int _, sdi (by decide)⟩
        · exact ⟨_, _, rfl, .int _, sdi (by decide)⟩
        · exact ⟨_, _, rfl, .non, sd_non.mono (by omega) (by omega)⟩
        · exact ⟨_, _, rfl, .bl _, (sd_bl _).mono (by omega) (by omega)⟩
        · exact ⟨_, _, rfl, .str _, (sd_str (by decide)).mono (by omega) (by decide)⟩
        · exact ⟨_, _, rfl, .lst ((t3.trans (del_sb s4')) _ _ g2) lt2 (.cons (.int _) .nil), (sd_lst' (n := 0) (.cons (sd_int9 (by decide)) .nil)).mono (by omega) (by omega)⟩
      refine i_ixLv (s4' _ _ np3b (del_sub _ _ g3)) x0 gx ?_
      walk_at "rd"
      refine newT C4 (Nat.le_of_ble_eq_true rfl) fun t G6 C6 t6 g6 w6 => ?_
      have tB := tA.trans t6
      exact fin3 G6 t _ _ _ _ _ _ g6 (hfs tB) (.int _) (hx.same t6) sdf sdp sx lenf (C6.mono (by omega)) (s0B.trans ((SB.of (w2.trans w3)).trans (s4'.trans (SB.of w6))))
    walk_at "rd"
    refine iteB (fun c8 => ?_) (fun c8 => ?_)
    · skip
      walk_at "rd"
      refine i_rU ?_
      refine i_ixLH effB (atI_neg1 (n := fs.length - 1) (by rw [List.length_map]; omega) (getD_map (by omega))) ?_
      walk_at "rd"
      rw [List.length_map, show (fs.length : Int) - (p : Int) = ((fs.length - p : Nat) : Int) by omega]
      refine i_ixLv effB (by omega) (by rw [Int.toNat_natCast]; exact getD_map (by omega)) ?_
      walk_at "rd"
      have m1 := I.m _ (getD_mem (fs := fs) (i := fs.length - 1) (by omega))
      refine newT BB (Nat.le_of_ble_eq_true rfl) fun t G6 C6 t6 g6 w6 => ?_
      exact fin3 G6 t _ _ _ _ _ _ g6 (hfs t6) (.int _) (.int _) sdf sdp (sdi (by omega)) lenf (C6.mono (by omega)) (s0B.trans (SB.of w6))
    walk_at "rd"
    refine iteB (fun c9 => ?_) (fun c9 => ?_)
    · skip
      walk_at "rd"
      refine newLL BB (Nat.le_of_ble_eq_true rfl) fun t G6 lt6 np6 C6 t6 g6 w6 => ?_
      refine k _ (.list [.list (intsD fs), .int (p : Int), .int (g : Int)]) G6 (.lst g6 lt6 (.cons (hfs t6) (.cons (.int _) (.cons (.int _) .nil)))) ((sd_lst' (.cons sdf (.cons sdp (.cons sdg .nil)))).mono (by omega) (by omega)) (fun ds hds => ?_) (fun ds r hds => by cases hds) (C6.mono (by omega)) (s0B.trans (SB.of w6))
      rcases hds with hds | hds
      · cases hds
      · cases hds; simp
    walk_at "rd"
    refine iteB (fun c10 => ?_) (fun c10 => ?_)
    · skip
      walk_at "rd"
      refine newT BB (Nat.le_of_ble_eq_true rfl) fun ta Ga Ca sa ga wa => ?_
      walk_at "rd"
      refine newT Ca (Nat.le_of_ble_eq_true rfl) fun tb Gb Cb sb' gb wb => ?_
      walk_at "rd"
      refine newT Cb (Nat.le_of_ble_eq_true rfl) fun tc Gc Cc sc gc wc => ?_
      walk_at "rd"
      refine newLL Cc (Nat.le_of_ble_eq_true rfl) fun p3 G3 lt3 np3 C3 t3 g3 w3 => ?_
      have np3b := box_ne Cc np3
      walk_at "rd"
      refine ⟨b, 3, _, rfl, C3, by omega, by omega, by omega, fun x G4 x0 x1 C4 s4' => ?_⟩
      have z3 := t3.trans (del_sb s4')
      have zc := sc.trans z3
      have zb := sb'.trans zc
      have za := sa.trans zb
      have hF := hfs za
      have fin : ∀ xv dd, De K (L2.del G4 b) xv dd → Sd 10 30000 dd → (∀ ds, (dd = .tuple ds ∨ dd = .list ds) → ds.length ≤ 100) → (∀ ds r, dd = .tuple (.list ds :: r) → ds.length ≤ 100) → Q xv G4 := fun xv dd h1 h2 h3 h4 =>
        k xv dd G4 h1 h2 h3 h4 (C4.mono (by omega)) (s0B.trans ((SB.of (wa.trans (wb.trans (wc.trans w3)))).trans s4'))
      have hr : x = 0 ∨ x = 1 ∨ x = 2 := by omega
      rcases hr with rfl | rfl | rfl
      · refine i_ixLv (v := .ref ta) (s4' _ _ np3b (del_sub _ _ g3)) x0 rfl ?_
        refine fin _ (.tuple [.list (intsD fs), .int (p : Int)]) (.tup (sqT_of (zb _ _ ga)) (.cons hF (.cons (.int _) .nil))) ((sd_tup' (.cons sdf (.cons sdp .nil))).mono (by omega) (by omega)) (fun ds hds => ?_) (fun ds r hds => by cases hds; exact lenf _ rfl)
        rcases hds with hds | hds <;> cases hds
        simp
      · refine i_ixLv (v := .ref tb) (s4' _ _ np3b (del_sub _ _ g3)) x0 rfl ?_
        refine fin _ (.tuple [.list (intsD fs), .int (p : Int), .int (g : Int), .int 0]) (.tup (sqT_of (zc _ _ gb)) (.cons hF (.cons (.int _) (.cons (.int _) (.cons (.int _) .nil))))) ((sd_tup' (.cons sdf (.cons sdp (.cons sdg (.cons (sdi (i := 0) (by decide)) .nil))))).mono (by omega) (by omega)) (fun ds hds => ?_) (fun ds r hds => by cases hds; exact lenf _ rfl)
        rcases hds with hds | hds <;> cases hds
        simp
      · refine i_ixLv (v := .ref tc) (s4' _ _ np3b (del_sub _ _ g3)) x0 rfl ?_
        refine fin _ (.tuple [.int (p : Int), .list (intsD fs), .int (g : Int)]) (.tup (sqT_of (z3 _ _ gc)) (.cons (.int _) (.cons hF (.cons (.int _) .nil)))) ((sd_tup' (.cons sdp (.cons sdf (.cons sdg .nil)))).mono (by omega) (by omega)) (fun ds hds => ?_) (fun ds r hds => by cases hds)
        rcases hds with hds | hds <;> cases hds
        simp
    walk_at "rd"
    refine iteB (fun c11 => ?_) (fun c11 => ?_)
    · skip
      walk_at "rd"
      walk_at "rd"
      show tDisp _ _ _ _
      intro pd npd
      refine ⟨show (upd HB pd (.dK [])) pd = some (.dK []) from upd_same, [(.inl 0, .int 0)], rfl, by decide, ?_⟩
      rw [upd_upd, show mergeK [] [((.inl 0 : Key), V.int 0)] = [(.inl 0, V.int 0)] from rfl]
      have w1 := same_upd (o := HO.dK [(.inl 0, V.int 0)]) npd
      have g1 := del_new BB npd (o := HO.dK [(.inl 0, V.int 0)])
      have C1 := BB.same w1
      generalize upd HB pd (.dK [(.inl 0, V.int 0)]) = G1 at *
      have t1 : Same (L2.del HB b) (L2.del G1 b) := del_sb (SB.of w1)
      walk_at "rd"
      refine newLL C1 (Nat.le_of_ble_eq_true rfl) fun p3 G3 lt3 np3 C3 t3 g3 w3 => ?_
      have np3b := box_ne C1 np3
      walk_at "rd"
      refine ⟨b, 4, _, rfl, C3, by omega, by omega, by omega, fun x G4 x0 x1 C4 s4' => ?_⟩
      have tA := t1.trans (t3.trans (del_sb s4'))
      obtain ⟨xv, xd, gx, hx, sx, nx⟩ : ∃ xv xd, ([.non, .str (S [48]), .int 0, .ref pd] : List V)[x.toNat]? = some xv ∧ De K (L2.del G4 b) xv xd ∧ Sd 4 7000 xd ∧ ∀ ds, xd ≠ .list ds := by
        have hr : x = 0 ∨ x = 1 ∨ x = 2 ∨ x = 3 := by omega
        rcases hr with rfl | rfl | rfl | rfl
        · exact ⟨_, _, rfl, .non, sd_non.mono (by omega) (by omega), nofun⟩
        · exact ⟨_, _, rfl, .str _, (sd_str (l := [48]) (by decide)).mono (by omega) (by decide), nofun⟩
        · exact ⟨_, _, rfl, .int _, sdi (i := 0) (by decide), nofun⟩
        · exact ⟨_, _, rfl, .dict ((t3.trans (del_sb s4')) _ _ g1) (.cons (.int _) .nil), sd_d00.mono (by omega) (by omega), nofun⟩
      refine i_ixLv (s4' _ _ np3b (del_sub _ _ g3)) x0 gx ?_
      walk_at "rd"
      refine newT C4 (Nat.le_of_ble_eq_true rfl) fun t G6 C6 t6 g6 w6 => ?_
      exact fin3 G6 t _ _ _ _ _ _ g6 (hx.same t6) (.int _) (.int _) sx sdp sdg (fun ds e => absurd e (nx ds)) (C6.mono (by omega)) (s0B.trans ((SB.of (w1.trans w3)).trans (s4'.trans (SB.of w6))))
    walk_at "rd"
    refine iteB (fun c12 => ?_) (fun c12 => ?_)
    · skip
      walk_at "rd"
      refine i_slB BB efB (fun p1 G1 np1 np1b C1 t1 g1 w1 => ?_)
      rw [cutV_to' fs (by omega)] at g1
      have ef1 := w1 _ _ effB
      walk_at "rd"
      refine newLL C1 (Nat.le_of_ble_eq_true rfl) fun p2 G2 lt2 np2 C2 t2 g2 w2 => ?_
      refine i_catLLB C2 (t2 _ _ g1) g2 (Nat.le_trans (m := 1000) (by rw [List.length_map, List.length_take]; simp only [List.length_cons, List.length_nil]; omega) (Nat.le_of_ble_eq_true rfl)) fun p3 G3 lt3 np3 C3 t3 g3 w3 => ?_
      walk_at "rd"
      have t13 := t1.trans (t2.trans t3)
      refine i_slB C3 (t13 _ _ efB) (fun p4 G4 np4 np4b C4 t4 g4 w4 => ?_)
      rw [show (sp : Int) + 1 = ((sp + 1 : Nat) : Int) from rfl, cutV_from' fs (by omega)] at g4
      refine i_catLLB C4 (t4 _ _ g3) g4 (Nat.le_trans (m := 1000) (by rw [List.length_append, List.length_map, List.length_map, List.length_take, List.length_drop]; simp only [List.length_cons, List.length_nil]; omega) (Nat.le_of_ble_eq_true rfl)) fun p5 G5 lt5 np5 C5 t5 g5 w5 => ?_
      walk_at "rd"
      refine newT C5 (Nat.le_of_ble_eq_true rfl) fun t G6 C6 t6 g6 w6 => ?_
      have tAll := t13.trans (t4.trans (t5.trans t6))
      exact fin3 G6 t _ _ _ (.list (intsD (fs.take sp) ++ [.int 40] ++ intsD (fs.drop (sp + 1)))) _ _ g6 (.lst (t6 _ _ g5) lt5 (deAll_app (deAll_app (ints_de _) (.cons (.int _) .nil)) (ints_de _))) (.int _) (.int _) (sdm _ ((sd_int9 (by decide)).mono (by omega) (by omega))) sdp sdg (lenm _) (C6.mono (by omega)) (s0B.trans (SB.of (w1.trans (w2.trans (w3.trans (w4.trans (w5.trans w6)))))))
    walk_at "rd"
    refine iteB (fun c13 => ?_) (fun c13 => ?_)
    · skip
      walk_at "rd"
      have hm := Int.emod_lt_of_pos (p : Int) (show (0 : Int) < 4 by decide)
      have hm0 := Int.emod_nonneg (p : Int) (show (4 : Int) ≠ 0 by decide)
      refine newT BB (Nat.le_of_ble_eq_true rfl) fun t G6 C6 t6 g6 w6 => ?_
      exact fin3 G6 t _ _ _ _ _ _ g6 (hfs t6) (.int _) (.int _) sdf (sdi (by omega)) sdg lenf (C6.mono (by omega)) (s0B.trans (SB.of w6))
    walk_at "rd"
    refine newT BB (Nat.le_of_ble_eq_true rfl) fun t0 G2 C2 t2 g2 w2 => ?_
    walk_at "rd"
    refine newLL C2 (Nat.le_of_ble_eq_true rfl) fun p3 G3 lt3 np3 C3 t3 g3 w3 => ?_
    have np3b := box_ne C2 np3
    walk_at "rd"
    refine ⟨b, 6, _, rfl, C3, by omega, by omega, by omega, fun x G4 x0 x1 C4 s4' => ?_⟩
    have z3 := t3.trans (del_sb s4')
    have fin : ∀ xv dd, De K (L2.del G4 b) xv dd → Sd 10 30000 dd → (∀ ds, (dd = .tuple ds ∨ dd = .list ds) → ds.length ≤ 100) → (∀ ds r, dd = .tuple (.list ds :: r) → ds.length ≤ 100) → Q xv G4 := fun xv dd h1 h2 h3 h4 =>
      k xv dd G4 h1 h2 h3 h4 (C4.mono (by omega)) (s0B.trans ((SB.of (w2.trans w3)).trans s4'))
    have at3 := s4' _ _ np3b (del_sub _ _ g3)
    have hr : x = 0 ∨ x = 1 ∨ x = 2 ∨ x = 3 ∨ x = 4 ∨ x = 5 := by omega
    rcases hr with rfl | rfl | rfl | rfl | rfl | rfl
    · refine i_ixLv (v := .non) at3 x0 rfl ?_
      exact fin _ _ .non (sd_non.mono (by omega) (by omega)) (fun ds h => by rcases h with h | h <;> cases h) (fun ds r h => by cases h)
    · refine i_ixLv (v := .int 0) at3 x0 rfl ?_
      exact fin _ _ (.int _) ((sdi (i := 0) (by decide)).mono (by omega) (by omega)) (fun ds h => by rcases h with h | h <;> cases h) (fun ds r h => by cases h)
    · refine i_ixLv (v := .str (S [114, 111, 119])) at3 x0 rfl ?_
      exact fin _ _ (.str _) ((sd_str (l := [114, 111, 119]) (by decide)).mono (by omega) (by decide)) (fun ds h => by rcases h with h | h <;> cases h) (fun ds r h => by cases h)
    · refine i_ixLv (v := .ref t0) at3 x0 rfl ?_
      exact fin _ (.tuple []) (.tup (sqT_of (z3 _ _ g2)) .nil) ((sd_tup' (n := 0) .nil).mono (by omega) (by omega)) (fun ds h => by rcases h with h | h <;> cases h; simp) (fun ds r h => by cases h)
    · refine i_ixLv (v := .ref fq) at3 x0 rfl ?_
      exact fin _ (.list (intsD fs)) (hfs (t2.trans z3)) (sdf.mono (by omega) (by omega)) (fun ds h => by
        rcases h with h | h
        · cases h
        · exact lenf _ h) (fun ds r h => by cases h)
    · refine i_ixLv (v := .bl true) at3 x0 rfl ?_
      exact fin _ _ (.bl _) ((sd_bl _).mono (by omega) (by omega)) (fun ds h => by rcases h with h | h <;> cases h) (fun ds r h => by cases h)
end
end Sw
namespace Sw
open PySem PySem.Spec PyProof.Rows L2
local macro_rules | `(tactic| walk_at "hp") => `(tactic| first
  | (with_reducible assumption) | (with_reducible exact upd_same)
  | ((with_reducible refine' upd_old ?q1 ?q2); (case q1 => (with_reducible assumption)); (case q2 => walk_at "hp"))
  | ((with_reducible refine' Same.at ?q1 ?q2); (case q1 => (with_reducible assumption)); (case q2 => walk_at "hp"))
  | ((with_reducible refine' upd_skip ?q1 ?q2); (case q1 => walk_at "ne"); (case q2 => walk_at "hp"))
  | fail)
local macro_rules | `(tactic| walk_at "ne") => `(tactic| first
  | (with_reducible assumption) | (with_reducible exact Ne.symm (by assumption))
  | ((with_reducible refine' ne_of_none ?q1 ?q2); (case q2 => (with_reducible assumption)); (case q1 => walk_at "hp"))
  | fail)
local macro_rules | `(tactic| walk_at "ci") => `(tactic| first | assumption | (show (0 : Int) < _; first | decide | (with_reducible omega)) | exact ⟨by decide, by decide⟩ | exact .inl ⟨by decide, by decide⟩ | exact .inr ⟨by decide, by decide⟩)
local macro_rules | `(tactic| walk_at "ln") => `(tactic| first | (with_reducible assumption) | (with_reducible omega) | (simp only [List.length_append, List.length_take, List.length_drop, List.length_reverse, List.length_cons, List.length_nil]; with_reducible omega))
local macro_rules | `(tactic| walk_at "rd1") => `(tactic| first
  | (with_reducible refine i_seq ?_) | (with_reducible refine i_asg ?_) | (with_reducible refine i_ret ?_) | (with_reducible refine i_name ?_) | ((with_reducible refine' i_var ?q1 ?_); (case q1 => exact rfl)) | (with_reducible refine i_c ?_) | (with_reducible refine i_op ?_) | (with_reducible refine i_un ?_)
  | (with_reducible refine i_rI0 ?_) | (with_reducible refine i_cb ?_) | (with_reducible refine i_cons ?_) | (with_reducible refine i_nil ?_) | (with_reducible refine i_call ?_) | (with_reducible refine i_if ?_) | (with_reducible refine i_ifE ?_) | (with_reducible refine i_test ?_) | (with_reducible refine i_bl ?_)
  | (with_reducible refine i_and ?_) | (with_reducible refine i_or ?_) | (with_reducible refine i_not ?_) | (with_reducible refine i_lstM ?_) | (with_reducible refine i_lstLM ?_) | (with_reducible refine i_tupM ?_) | (with_reducible refine i_next ?_) | (with_reducible refine i_drop ?_) | (with_reducible refine i_sub ?_)
  | (with_reducible refine i_bm ?_) | (with_reducible refine i_sl ?_) | (with_reducible refine i_part ?_) | (with_reducible refine i_nopart ?_) | (with_reducible refine i_exI ?_) | (with_reducible refine i_chain ?_) | ((with_reducible refine' i_aug ?q1 ?_); (case q1 => exact rfl)) | (with_reducible refine i_ip ?_)
  | (with_reducible refine i_par ?_) | (with_reducible refine i_pair ?_) | (with_reducible refine i_andV ?_) | (with_reducible refine i_orV ?_) | (with_reducible refine i_notV ?_) | (with_reducible refine i_m1 ?_) | (with_reducible refine i_str ?_)
  | (with_reducible refine iteF ?_) | (with_reducible refine iteT ?_) | (with_reducible refine iteNT ?_) | (with_reducible refine iteNF ?_) | (with_reducible refine i_tyS ?_) | (with_reducible refine i_tB ?_) | (with_reducible refine i_retN ?_) | (with_reducible refine i_par3 ?_) | (with_reducible refine i_trip ?_) | (with_reducible refine i_gCons ?_) | (with_reducible refine i_gNil ?_) | (with_reducible refine i_lstRg ?_) | (with_reducible refine i_rg1 ?_)
  | (with_reducible refine i_lc ?_) | (with_reducible refine i_for ?_) | (with_reducible refine i_iList ?_) | (with_reducible refine i_iTup ?_) | (with_reducible refine i_iStr ?_) | (with_reducible refine i_iRng1 ?_) | (with_reducible refine i_iEnS ?_)
  | ((with_reducible refine' i_ixTH ?q1 ?q2 ?_); (case q1 => walk_at "hp"); (case q2 => exact rfl))
  | ((with_reducible refine' i_ixLH ?q1 ?q2 ?_); (case q1 => walk_at "hp"); (case q2 => exact rfl))
  | ((with_reducible refine i_addS ?q1 ?_); (case q1 => walk_at "ln")) | ((with_reducible refine i_lenSS ?q1 ?_); (case q1 => walk_at "ln")) | ((with_reducible refine i_slFrom ?q1 ?q2 ?_); (case q1 => walk_at "ln"); (case q2 => walk_at "ln")) | ((with_reducible refine i_slTo ?q1 ?q2 ?_); (case q1 => walk_at "ln"); (case q2 => walk_at "ln"))
  | ((with_reducible refine' i_tyL ?q1 ?_); (case q1 => walk_at "hp"))
  | ((with_reducible refine' i_gTupH ?q1 ?q2 ?_); (case q1 => walk_at "hp"); (case q2 => exact rfl))
  | (with_reducible refine i_dnewM ?_) | (with_reducible refine i_init ?_) | (with_reducible refine i_fst ?_) | (with_reducible refine i_mk ?_) | (with_reducible refine i_mkF ?_) | (with_reducible refine i_raise ?_) | (with_reducible refine i_callS ?_) | (with_reducible refine i_kwS ?_)
  | (with_reducible refine i_revT ?_) | (with_reducible refine i_kw ?_) | ((with_reducible refine' ⟨_, _, rfl, sqT_of ?q1, ?_⟩); (case q1 => walk_at "hp"))
  | (with_reducible refine i_revS ?_) | ((with_reducible refine i_revSS ?q1 ?_); (case q1 => walk_at "ln"))
  | (with_reducible refine i_startS ?_) | (with_reducible refine i_inSg ?_) | (with_reducible refine i_absN ?_) | (with_reducible refine i_min2 ?_) | (with_reducible refine i_max2 ?_) | (with_reducible refine i_min3 ?_) | (with_reducible refine i_intN ?_) | (with_reducible refine i_intNB ?_)
  | ((with_reducible refine' i_lenL ?q1 ?_); (case q1 => walk_at "hp")) | ((with_reducible refine' i_lenT ?q1 ?_); (case q1 => walk_at "hp"))
  | (with_reducible refine i_eqI ?_) | (with_reducible refine i_neI ?_) | (with_reducible refine i_eqS ?_) | (with_reducible refine i_neS ?_) | (with_reducible refine i_isNoI ?_) | (with_reducible refine i_isNoN ?_) | (with_reducible refine i_isNoR ?_)
  | ((with_reducible refine i_pow ?q1 ?q2 ?q3 ?_); (case q1 => decide); (case q2 => decide); (case q3 => (with_reducible omega)))
  | ((with_reducible refine i_rI ?q1 ?_); (case q1 => walk_at "ci"))
  | (with_reducible refine Or.inl ⟨_, rfl, ?_⟩) | (with_reducible refine Or.inr ⟨_, rfl, ?_⟩) | (with_reducible refine ⟨_, rfl, ?_⟩) | (with_reducible refine ⟨_, _, rfl, ?_⟩) | (with_reducible refine ⟨_, _, rfl, rfl, ?_⟩)
  | ((with_reducible refine' ⟨_, _, rfl, Or.inl (sqL_of ?q1), ?_⟩); (case q1 => walk_at "hp")) | ((with_reducible refine' ⟨_, _, rfl, Or.inr (sqT_of ?q1), ?_⟩); (case q1 => walk_at "hp")) | (with_reducible refine i_dget ?_) | (with_reducible refine i_disp1T ?_) | (with_reducible refine i_dcT ?_) | (with_reducible refine i_dnewT ?_) | (with_reducible refine i_fld ?_) | (with_reducible refine i_sFld ?_) | (with_reducible refine i_make ?_) | (with_reducible refine i_meth ?_) | (with_reducible refine i_star ?_) | (with_reducible refine i_isNoS ?_) | (with_reducible refine i_lc2 ?_) | (with_reducible refine i_iEnT ?_) | (with_reducible refine i_iZipT ?_) | fail)
local macro_rules | `(tactic| walk_at "rd") => `(tactic| repeat' walk_at "rd1")

theorem i_neOne {K : PySem.W.Frag} {H : Hp} {a b : Addr} {x : V} {d : PyData} {n w : Nat} {Q : VK} (h1 : H a = some (.lst [x])) (h2 : H b = some (.lst [x])) (hx : De K H x d) (s : Sd n w d) (z : d.hasDict = false) (hn : n ≤ 40) (e : PyData.eqv d d = true) (k : Q (.bl false) H) : rNeD K (.ref a) (.ref b) H Q := by
  have sl : Sd (n + 1) (0 + (w + 1)) (.list [d]) := (sd_lst' (.cons s .nil)).mono (by omega) (by omega)
  have fl : (PyData.list [d]).hasDict = false := by simp [PyData.hasDict, PyData.hasDictAll, z]
  refine ⟨.list [d], .list [d], .lst (sqL_of h1) (.cons (hx.dp z) .nil), .lst (sqL_of h2) (.cons (hx.dp z) .nil), sl.shaped (by omega) fl, sl.shaped (by omega) fl, ?_⟩
  rw [show PyData.eqv (.list [d]) (.list [d]) = true by simp only [PyData.eqv, PyData.eqvAll, e, Bool.and_self]]
  exact k
/-- _law_spoiled_right(box, plain, thing) -/
def spSpR (K : PySem.W.Frag) : Sp := fun vs H Q _ => ∃ (b : Addr) (v x : V) (fs : List Nat) (p g : Nat) (dd : PyData) (d : Int), vs = [.ref b, v, x] ∧ PAt (L2.del H b) v fs p g ∧ RowI fs p g ∧ De K (L2.del H b) x dd ∧ Sd 10 30000 dd ∧ (∀ ds, (dd = .tuple ds ∨ dd = .list ds) → ds.length ≤ 100) ∧ (∀ ds r, dd = .tuple (.list ds :: r) → ds.length ≤ 100) ∧ BoxAt H b d ∧ d + 7 ≤ 1000000 ∧
  ∀ Hn, BoxAt Hn b (d + 7) → SB b H Hn → Q (.bl true) Hn
section
variable {P : Program} {w : World} {K : PySem.W.Frag} {mg : Str → Option Value} {base : Heap} {f : Addr} {fd : FuncData}
theorem ok_spr (F : Fun K "_law_spoiled_right" "_law_spoiled_right" s__law_spoiled_right f fd) (z : Z mg) (c__law_take : Cal P w K mg base "_law_take" ["box", "limit"] 1 spTake) (c__law_copy : Cal P w K mg base "_law_copy" ["thing"] 1 (spCopy K)) (c__law_judged : Cal P w K mg base "_law_judged" ["thing"] 2 (spRowB K)) (c_is_row : Cal P w K mg base "is_row" ["value"] 4 (spRowB K)) (c__law_told : Cal P w K mg base "_law_told" ["door", "thing", "count"] 7 (spTold K)) (q__law_refused : CalG P w K mg base "_law_refused" ["door", "thing", "count"] 8 (spRefd K)) :
    FnG P w K mg base CX0 9 f fd ["box", "plain", "thing"] (spSpR K) := by
  refine Sw.Fun.okG0 F sc__law_spoiled_right (fun vs H Q E h => ?_) (fun cdv A outer s H vs Q E hr quiet h => ?_)
  · obtain ⟨b, v, x, fs, p, g, dd, d, rfl, _⟩ := h; rfl
  · obtain ⟨b, v, x, fs, p, g, dd, d, rfl, hp, I, hx, sx, hl, hl2, B, hd, k⟩ := h
    refine ⟨_, (pss_cons (ps_if (pt_cmpR op_ne (pe_callB (call_repE quiet hr.units) (by rfl) z.repr (by decide +kernel) (pa_cons (pe_cal c_is_row hr (pa_cons (pe_cal c__law_copy hr (pa_cons (pv 2) pa_nil)) pa_nil)) pa_nil)) (pe_callB (call_repE quiet hr.units) (by rfl) z.repr (by decide +kernel) (pa_cons (pe_cal c__law_judged hr (pa_cons (pv 2) pa_nil)) pa_nil)) (nomark _))
        (pss_one (ps_ret pe_bl))
        pss_nil)
      (pss_cons (ps_set (i := 3) sc__law_spoiled_right.nd rfl (.inl rfl) (pe_ix ix_list (pe_lstL (pa_cons (pe_un un_neg pe_int) (pa_cons pe_non (pa_cons pe_bl (pa_cons (pe_strS (l := [52]) (by decide +kernel)) (pa_cons (pe_lstL (pa_cons pe_int pa_nil)) pa_nil)))))) (pe_cal c__law_take hr (pa_cons (pv 0) (pa_cons pe_int pa_nil))) (fun _ _ => rfl)))
      (C8.pss_cut (ps_if (pt_not (pt_val (pe_cal c__law_judged hr (pa_cons (pv 2) pa_nil))))
        (pss_one (ps_for PassesOwn.never rfl (pi_range1 (by rfl) z.range (pa_cons pe_int pa_nil)) (pg_name (i := 4) sc__law_spoiled_right.nd rfl (.inl rfl))
          (pss_one (ps_if (pt_not (pt_val (pe_calG q__law_refused hr quiet (pa_cons (pv 4) (pa_cons (pv 2) (pa_cons (pe_ix ix_list (pe_lstL (pa_cons (pv 3) (pa_cons pe_int pa_nil))) (pe_cal c__law_take hr (pa_cons (pv 0) (pa_cons pe_int pa_nil))) (fun _ _ => rfl)) pa_nil))))))
            (pss_one (ps_ret pe_bl))
            pss_nil))))
        pss_nil)
      (pss_cons (ps_for PassesOwn.never rfl (pi_range1 (by rfl) z.range (pa_cons pe_int pa_nil)) (pg_name (i := 4) sc__law_spoiled_right.nd rfl (.inl rfl))
        (pss_cons (ps_set (i := 5) sc__law_spoiled_right.nd rfl (.inl rfl) (pe_ifExp (pt_val (pe_callB call_isi (by rfl) z.isinstance (by decide +kernel) (pa_cons (pv 3) (pa_cons (pe_bltn (v := .ty "list") (by rfl) z.list (by decide +kernel) rfl) pa_nil)))) (pe_callTy call_listL (by rfl) z.list (by decide +kernel) (pa_cons (pv 3) pa_nil)) (pv 3)))
        (pss_cons (ps_set (i := 6) sc__law_spoiled_right.nd rfl (.inl rfl) (pe_cal c__law_told hr (pa_cons (pv 4) (pa_cons (pe_tup (pa_cons (pe_callTy call_listL (by rfl) z.list (by decide +kernel) (pa_cons (pe_ix ix_list (pv 1) pe_int (fun _ _ => rfl)) pa_nil)) (pa_cons (pe_ix ix_list (pv 1) pe_int (fun _ _ => rfl)) (pa_cons (pe_ix ix_list (pv 1) pe_int (fun _ _ => rfl)) pa_nil)))) (pa_cons (pv 5) pa_nil)))))
        (pss_cons (ps_if (PW.pt (pw_or (pt_cmpR op_ne (pe_callB call_lenQ (by rfl) z.len PySem.boot_len (pa_cons (pv 6) pa_nil)) pe_int (nomark _)) (pw_or (pt_cmpR (op_neX hr.units) (pe_ix ix_list (pv 6) pe_int (fun _ _ => rfl)) (pe_strS (l := [99, 111, 117, 110, 116]) (by decide +kernel)) (nomark _)) (pw_or1 (pt_cmpR op_ne (pe_callB (call_repE quiet hr.units) (by rfl) z.repr (by decide +kernel) (pa_cons (pe_ix ix_list (pv 6) pe_int (fun _ _ => rfl)) pa_nil)) (pe_callB (call_repE quiet hr.units) (by rfl) z.repr (by decide +kernel) (pa_cons (pv 3) pa_nil)) (nomark _))))))
          (pss_one (ps_ret pe_bl))
          pss_nil)
        (pss_one (ps_if (pt_val (pe_callB call_isi (by rfl) z.isinstance (by decide +kernel) (pa_cons (pv 3) (pa_cons (pe_bltn (v := .ty "list") (by rfl) z.list (by decide +kernel) rfl) pa_nil))))
          (pss_cons (ps_set (i := 7) sc__law_spoiled_right.nd rfl (.inl rfl) (pe_ix ix_list (pv 6) pe_int (fun _ _ => rfl)))
          (pss_cons (ps_expr (pe_bm PySem.F.plainAttrs_list PySem.F.slot_list_append PySem.F.type_list_append mt_append (pv 7) (pa_cons (pv 4) pa_nil)))
          (pss_one (ps_if (pt_cmpR (op_neD hr.units) (pe_slice sl_list (pv 5) (po_some (pe_un un_neg pe_int)) po_none) (pe_lstL (pa_cons (pv 4) pa_nil)) (nomark _))
            (pss_one (ps_ret pe_bl))
            pss_nil))))
          pss_nil))))))
      (pss_one (ps_ret pe_bl)))))), ?_⟩
    walk_at "rd"
    refine ⟨x, dd, rfl, hx.same del_sub, hl, fun y H1 s1 hy cp => ?_⟩
    walk_at "rd"
    refine ⟨y, dd, rfl, hy, fun H2 s2 => ?_⟩
    walk_at "rd"
    refine i_repE (.bl _) (sd_bl _) (by omega) (by omega) ?_
    walk_at "rd"
    have s02 := s1.trans s2
    refine ⟨x, dd, rfl, (hx.same del_sub).same s02, fun H3 s3 => ?_⟩
    walk_at "rd"
    refine i_repE (.bl _) (sd_bl _) (by omega) (by omega) ?_
    walk_at "rd"
    refine ⟨rfl, ?_⟩
    rw [decide_eq_true rfl]
    have s03 := s02.trans s3
    have B3 := B.same s03
    walk_at "rd"
    refine i_rU ?_
    walk_at "rd"
    refine newLL B3 (Nat.le_of_ble_eq_true rfl) fun o1 H4 lt4 n4 B4 s4 e4 u4 => ?_
    walk_at "rd"
    refine newLL B4 (Nat.le_of_ble_eq_true rfl) fun o2 H5 lt5 n5 B5 s5 e5 u5 => ?_
    have n5b := box_ne B4 n5
    walk_at "rd"
    refine ⟨b, 5, _, rfl, B5, by omega, by omega, by omega, fun r HB r0 r1 BB s6 => ?_⟩
    obtain ⟨xo, od, exo, hod, sod, nod, lod⟩ : ∃ xo od, ([.int (-1), .non, .bl true, .str (S [52]), .ref o1] : List V)[r.toNat]? = some xo ∧ De K (L2.del HB b) xo od ∧ Sd 2 300 od ∧ cntB od = false ∧ (tyB "list" od = false ∨ (xo = .ref o1 ∧ od = .list [.int 0])) := by
      have hr : r = 0 ∨ r = 1 ∨ r = 2 ∨ r = 3 ∨ r = 4 := by omega
      rcases hr with rfl | rfl | rfl | rfl | rfl
      · exact ⟨_, _, rfl, .int _, (sd_int9 (by decide)).mono (by omega) (by omega), rfl, .inl rfl⟩
      · exact ⟨_, _, rfl, .non, sd_non.mono (by omega) (by omega), rfl, .inl rfl⟩
      · exact ⟨_, _, rfl, .bl _, (sd_bl _).mono (by omega) (by omega), rfl, .inl rfl⟩
      · exact ⟨_, _, rfl, .str _, (sd_str (by decide)).mono (by omega) (by decide), rfl, .inl rfl⟩
      · exact ⟨_, _, rfl, .lst ((s5.trans (del_sb s6)) _ _ e4) lt4 (.cons (.int _) .nil), (sd_lst' (n := 0) (.cons (sd_int9 (by decide)) .nil)).mono (by omega) (by omega), rfl, .inr ⟨rfl, rfl⟩⟩
    refine i_ixLv (s6 _ _ n5b (del_sub _ _ e5)) r0 exo ?_
    have s0B : SB b H HB := (SB.of s03).trans ((SB.of (u4.trans u5)).trans s6)
    have hpB : PAt (L2.del HB b) v fs p g := hp.same (del_sb s0B)
    have hxB : De K (L2.del HB b) x dd := hx.same (del_sb s0B)
    have hp0 : ∀ {Hw : Hp}, SB b HB Hw → PAt Hw v fs p g := fun s => (hpB.same (del_sb s)).same del_sub
    walk_at "rd"
    refine i_cut (fun σ' H' => ∃ (u4 : Option V), σ' = [some (.ref b), some v, some x, some xo, u4, none, none, none] ∧ SB b HB H' ∧ BoxAt H' b (d + 7)) ?_ (fun σ' HC hm => ?_)
    · walk_at "rd"
      refine ⟨x, dd, rfl, hxB.same del_sub, fun H6 s6' => ?_⟩
      walk_at "rd"
      rcases er : rowOf dd with _ | rr
      · rw [show (!(none : Option (List Nat × Nat × Nat)).isSome) = true from rfl]
        walk_at "rd"
        refine i_rng (by omega) (by omega) ?_
        refine go_for walk_rangeZ (fun i σ Hz => ∃ (u4 : Option V), σ = [some (.ref b), some v, some x, some xo, u4, none, none, none] ∧ SB b HB Hz ∧ BoxAt Hz b (d + 1 + (i : Int)))
          ⟨_, rfl, SB.of s6', by rw [show d + 1 + ((0 : Nat) : Int) = d + 1 by omega]; exact BB.same s6'⟩ (fun _ _ _ _ _ => trivial) (fun i v σ Hz Hw hi h y => ?_) (fun σ Hz h => ?_)
        · obtain ⟨u4, rfl, sz, Bz⟩ := h
          obtain ⟨rfl, rfl⟩ := y
          have hi : i < 6 := hi
          walk_at "rd"
          refine newLL Bz (Nat.le_of_ble_eq_true rfl) fun l1 HD lt1 nl1 BD sD eD uD => ?_
          have nl1b := box_ne Bz nl1
          walk_at "rd"
          refine ⟨b, 2, _, rfl, BD, by omega, by omega, by omega, fun t HE t0 t1 BE sE => ?_⟩
          have szE := sz.trans ((SB.of uD).trans sE)
          obtain ⟨xt, td, ext, htd⟩ : ∃ xt td, ([xo, .int 3] : List V)[t.toNat]? = some xt ∧ De K (L2.del HE b) xt td := by
            have ht : t = 0 ∨ t = 1 := by omega
            rcases ht with rfl | rfl
            · exact ⟨_, _, rfl, hod.same (del_sb szE)⟩
            · exact ⟨_, _, rfl, .int _⟩
          refine i_ixLv (sE _ _ nl1b (del_sub _ _ eD)) t0 ext ?_
          walk_at "rd"
          refine ⟨(i : Int), x, xt, dd, td, 10, 30000, rfl, by omega, by omega, (hxB.same (del_sb szE)).same del_sub, sx, by omega, by omega, hl, hl2, er, htd.same del_sub, fun HF sF => ?_⟩
          walk_at "rd"
          exact ⟨szE.trans (SB.of sF), (BE.same sF).mono (by omega)⟩
        · obtain ⟨u4, rfl, sz, Bz⟩ := h
          walk_at "rd"
          exact ⟨sz, Bz.mono (by omega)⟩
      · rw [show (!(some rr : Option (List Nat × Nat × Nat)).isSome) = false from rfl]
        walk_at "rd"
        exact ⟨SB.of s6', (BB.same s6').mono (by omega)⟩
    obtain ⟨u4, rfl, sC, BC⟩ := hm
    have hpC := hp0 sC
    have hoC : De K HC xo od := (hod.same (del_sb sC)).same del_sub
    have rP := rowOf_mk I true
    have l8 := I.l8
    walk_at "rd"
    refine i_rng (by omega) (by omega) ?_
    refine go_for walk_rangeZ (fun i σ Hz => ∃ (u4 u5 u6 u7 : Option V), σ = [some (.ref b), some v, some x, some xo, u4, u5, u6, u7] ∧ Same HC Hz)
      ⟨_, _, _, _, rfl, Same.refl _⟩ (fun _ _ _ _ _ => trivial) (fun i v' σ Hz Hw hi h y => ?_) (fun σ Hz h => ?_)
    · obtain ⟨u4, u5, u6, u7, rfl, sz⟩ := h
      obtain ⟨rfl, rfl⟩ := y
      have hi : i < 2 := hi
      have hoz := hoC.same sz
      obtain ⟨q, a, rfl, eq, ea, lta⟩ := hpC.same sz
      walk_at "rd"
      refine hoz.isi (n := "list") (.inr (.inr (.inr (.inl rfl)))) ?_
      rcases lod with lod | ⟨rfl, rfl⟩
      · rw [lod]
        walk_at "rd"
        refine i_listL (.inl (sqL_of ea)) fun c1 nc1 lc1 => ?_
        have s2 := same_upd (o := HO.lst (fs.map iV)) nc1
        have e2 := upd_same (H := Hw) (a := c1) (o := HO.lst (fs.map iV))
        generalize upd Hw c1 (.lst (fs.map iV)) = H2' at *
        have eq2 := s2 _ _ eq
        walk_at "rd"
        refine newT0 (Nat.le_of_ble_eq_true rfl) fun tp H3' ntp s3' etp => ?_
        walk_at "rd"
        refine ⟨(i : Int), .ref tp, xo, rowD true fs p g, od, rfl, .tup (sqT_of etp) (.cons (.lst (s3' _ _ e2) lc1 (ints_de fs)) (.cons (.int _) (.cons (.int _) .nil))), hoz.same (s2.trans s3'), .inr ⟨by rw [rP]; rfl, by omega, by omega, nod, fun t HT nt lt sT et => ?_⟩⟩
        have hoT := hoz.same (s2.trans (s3'.trans sT))
        walk_at "rd"
        rw [show (!decide ((([V.str (S tCnt), xo].length : Nat) : Int) = 2)) = false from rfl]
        walk_at "rd"
        refine i_neS1 (.str _) (sd_str (l := tCnt) (by decide)) (.inr rfl) (by decide) ?_
        refine ⟨_, rfl, ?_⟩
        rw [show (!isS tCnt (.str (S tCnt))) = false by simp [isS]]
        walk_at "rd"
        refine i_repE hoT sod (by omega) (by omega) ?_
        walk_at "rd"
        refine i_repE hoT sod (by omega) (by omega) ?_
        walk_at "rd"
        refine ⟨rfl, ?_⟩
        rw [decide_eq_true rfl]
        walk_at "rd"
        refine hoT.isi (n := "list") (.inr (.inr (.inr (.inl rfl)))) ?_
        rw [lod]
        walk_at "rd"
        exact ⟨_, _, _, _, rfl, sz.trans (s2.trans (s3'.trans sT))⟩
      · rw [show tyB "list" (.list [.int 0]) = true from rfl]
        obtain ⟨o1', xs, e1, ha1, lta1, hxs⟩ := hoz.lstI
        cases e1
        have hxs' : xs = [.int 0] := by
          cases hxs with
          | cons h0 h1 => cases h1; cases h0; rfl
        subst hxs'
        walk_at "rd"
        refine i_listL (.inl (sqL_of ha1)) fun hd nhd lhd => ?_
        have s1' := same_upd (o := HO.lst [V.int 0]) nhd
        have e1' := upd_same (H := Hw) (a := hd) (o := HO.lst [V.int 0])
        generalize upd Hw hd (.lst [V.int 0]) = H1' at *
        have eq1 := s1' _ _ eq
        have ea1 := s1' _ _ ea
        walk_at "rd"
        refine i_listL (.inl (sqL_of ea1)) fun c1 nc1 lc1 => ?_
        have s2 := same_upd (o := HO.lst (fs.map iV)) nc1
        have e2 := upd_same (H := H1') (a := c1) (o := HO.lst (fs.map iV))
        generalize upd H1' c1 (.lst (fs.map iV)) = H2' at *
        have eq2 := s2 _ _ eq1
        walk_at "rd"
        refine newT0 (Nat.le_of_ble_eq_true rfl) fun tp H3' ntp s3' etp => ?_
        have ehd := (s2.trans s3') _ _ e1'
        walk_at "rd"
        refine ⟨(i : Int), .ref tp, .ref hd, rowD true fs p g, .list [.int 0], rfl, .tup (sqT_of etp) (.cons (.lst (s3' _ _ e2) lc1 (ints_de fs)) (.cons (.int _) (.cons (.int _) .nil))), .lst ehd lhd (.cons (.int _) .nil), .inr ⟨by rw [rP]; rfl, by omega, by omega, nod, fun t HT nt lt sT et => ?_⟩⟩
        have sT' := s1'.trans (s2.trans (s3'.trans sT))
        have hoT := hoz.same sT'
        have ehT := sT _ _ ehd
        walk_at "rd"
        rw [show (!decide ((([V.str (S tCnt), V.ref hd].length : Nat) : Int) = 2)) = false from rfl]
        walk_at "rd"
        refine i_neS1 (.str _) (sd_str (l := tCnt) (by decide)) (.inr rfl) (by decide) ?_
        refine ⟨_, rfl, ?_⟩
        rw [show (!isS tCnt (.str (S tCnt))) = false by simp [isS]]
        walk_at "rd"
        refine i_repE (.lst ehT lhd (.cons (.int 0) .nil)) sod (by omega) (by omega) ?_
        walk_at "rd"
        refine i_repE hoT sod (by omega) (by omega) ?_
        walk_at "rd"
        refine ⟨rfl, ?_⟩
        rw [decide_eq_true rfl]
        walk_at "rd"
        refine hoT.isi (n := "list") (.inr (.inr (.inr (.inl rfl)))) ?_
        rw [show tyB "list" (.list [.int 0]) = true from rfl]
        walk_at "rd"
        refine i_append ehT (sm100 (by simp only [List.length_cons, List.length_nil]; omega)) ?_
        have f1 := upd_same (H := HT) (a := hd) (o := HO.lst ([V.int 0] ++ [.int (i : Int)]))
        have sk : Same Hw (upd HT hd (.lst ([V.int 0] ++ [.int (i : Int)]))) := Same.set_new sT' nhd
        generalize upd HT hd (.lst ([V.int 0] ++ [.int (i : Int)])) = H4' at *
        walk_at "rd"
        refine i_rU ?_
        walk_at "rd"
        refine ⟨hd, _, rfl, sqL_of f1, fun b1 nb1 => ?_⟩
        rw [cutV_last]
        have s4' := same_upd (o := HO.lst [V.int (i : Int)]) nb1
        have g1 := upd_same (H := H4') (a := b1) (o := HO.lst [V.int (i : Int)])
        generalize upd H4' b1 (.lst [V.int (i : Int)]) = H5' at *
        walk_at "rd"
        refine newLL0 (Nat.le_of_ble_eq_true rfl) fun q1 H6' nq1 lq1 s5' e5' => ?_
        refine i_neOne (s5' _ _ g1) e5' (.int _) (sd_int9 (i := (i : Int)) (by omega)) rfl (by omega) (by simp [PyData.eqv]) ?_
        walk_at "rd"
        exact ⟨_, _, _, _, rfl, sz.trans (sk.trans (s4'.trans s5'))⟩
    · obtain ⟨u4, u5, u6, u7, rfl, sz⟩ := h
      walk_at "rd"
      exact k _ (BC.same sz) (s0B.trans (sC.trans (SB.of sz)))
end
end Sw
namespace Sw
open PySem PySem.Spec PyProof.Rows L2
local macro_rules | `(tactic| walk_at "hp") => `(tactic| first
  | (with_reducible assumption) | (with_reducible exact upd_same)
  | ((with_reducible refine' upd_old ?q1 ?q2); (case q1 => (with_reducible assumption)); (case q2 => walk_at "hp"))
  | ((with_reducible refine' Same.at ?q1 ?q2); (case q1 => (with_reducible assumption)); (case q2 => walk_at "hp"))
  | ((with_reducible refine' upd_skip ?q1 ?q2); (case q1 => walk_at "ne"); (case q2 => walk_at "hp"))
  | fail)
local macro_rules | `(tactic| walk_at "ne") => `(tactic| first
  | (with_reducible assumption) | (with_reducible exact Ne.symm (by assumption))
  | ((with_reducible refine' ne_of_none ?q1 ?q2); (case q2 => (with_reducible assumption)); (case q1 => walk_at "hp"))
  | fail)
local macro_rules | `(tactic| walk_at "ci") => `(tactic| first | assumption | (show (0 : Int) < _; first | decide | (with_reducible omega)) | exact ⟨by decide, by decide⟩ | exact .inl ⟨by decide, by decide⟩ | exact .inr ⟨by decide, by decide⟩)
local macro_rules | `(tactic| walk_at "ln") => `(tactic| first | (with_reducible assumption) | (with_reducible omega) | (simp only [List.length_append, List.length_take, List.length_drop, List.length_reverse, List.length_cons, List.length_nil]; with_reducible omega))
local macro_rules | `(tactic| walk_at "rd1") => `(tactic| first
  | (with_reducible refine i_seq ?_) | (with_reducible refine i_asg ?_) | (with_reducible refine i_ret ?_) | (with_reducible refine i_name ?_) | ((with_reducible refine' i_var ?q1 ?_); (case q1 => exact rfl)) | (with_reducible refine i_c ?_) | (with_reducible refine i_op ?_) | (with_reducible refine i_un ?_)
  | (with_reducible refine i_rI0 ?_) | (with_reducible refine i_cb ?_) | (with_reducible refine i_cons ?_) | (with_reducible refine i_nil ?_) | (with_reducible refine i_call ?_) | (with_reducible refine i_if ?_) | (with_reducible refine i_ifE ?_) | (with_reducible refine i_test ?_) | (with_reducible refine i_bl ?_)
  | (with_reducible refine i_and ?_) | (with_reducible refine i_or ?_) | (with_reducible refine i_not ?_) | (with_reducible refine i_lstM ?_) | (with_reducible refine i_lstLM ?_) | (with_reducible refine i_tupM ?_) | (with_reducible refine i_next ?_) | (with_reducible refine i_drop ?_) | (with_reducible refine i_sub ?_)
  | (with_reducible refine i_bm ?_) | (with_reducible refine i_sl ?_) | (with_reducible refine i_part ?_) | (with_reducible refine i_nopart ?_) | (with_reducible refine i_exI ?_) | (with_reducible refine i_chain ?_) | ((with_reducible refine' i_aug ?q1 ?_); (case q1 => exact rfl)) | (with_reducible refine i_ip ?_)
  | (with_reducible refine i_par ?_) | (with_reducible refine i_pair ?_) | (with_reducible refine i_andV ?_) | (with_reducible refine i_orV ?_) | (with_reducible refine i_notV ?_) | (with_reducible refine i_m1 ?_) | (with_reducible refine i_str ?_)
  | (with_reducible refine iteF ?_) | (with_reducible refine iteT ?_) | (with_reducible refine iteNT ?_) | (with_reducible refine iteNF ?_) | (with_reducible refine i_tyS ?_) | (with_reducible refine i_tB ?_) | (with_reducible refine i_retN ?_) | (with_reducible refine i_par3 ?_) | (with_reducible refine i_trip ?_) | (with_reducible refine i_gCons ?_) | (with_reducible refine i_gNil ?_) | (with_reducible refine i_lstRg ?_) | (with_reducible refine i_rg1 ?_)
  | (with_reducible refine i_lc ?_) | (with_reducible refine i_for ?_) | (with_reducible refine i_iList ?_) | (with_reducible refine i_iTup ?_) | (with_reducible refine i_iStr ?_) | (with_reducible refine i_iRng1 ?_) | (with_reducible refine i_iEnS ?_)
  | ((with_reducible refine' i_ixTH ?q1 ?q2 ?_); (case q1 => walk_at "hp"); (case q2 => exact rfl))
  | ((with_reducible refine' i_ixLH ?q1 ?q2 ?_); (case q1 => walk_at "hp"); (case q2 => exact rfl))
  | ((with_reducible refine i_addS ?q1 ?_); (case q1 => walk_at "ln")) | ((with_reducible refine i_lenSS ?q1 ?_); (case q1 => walk_at "ln")) | ((with_reducible refine i_slFrom ?q1 ?q2 ?_); (case q1 => walk_at "ln"); (case q2 => walk_at "ln")) | ((with_reducible refine i_slTo ?q1 ?q2 ?_); (case q1 => walk_at "ln"); (case q2 => walk_at "ln"))
  | ((with_reducible refine' i_tyL ?q1 ?_); (case q1 => walk_at "hp"))
  | ((with_reducible refine' i_gTupH ?q1 ?q2 ?_); (case q1 => walk_at "hp"); (case q2 => exact rfl))
  | (with_reducible refine i_dnewM ?_) | (with_reducible refine i_init ?_) | (with_reducible refine i_fst ?_) | (with_reducible refine i_mk ?_) | (with_reducible refine i_mkF ?_) | (with_reducible refine i_raise ?_) | (with_reducible refine i_callS ?_) | (with_reducible refine i_kwS ?_)
  | (with_reducible refine i_revT ?_) | (with_reducible refine i_kw ?_) | ((with_reducible refine' ⟨_, _, rfl, sqT_of ?q1, ?_⟩); (case q1 => walk_at "hp"))
  | (with_reducible refine i_revS ?_) | ((with_reducible refine i_revSS ?q1 ?_); (case q1 => walk_at "ln"))
  | (with_reducible refine i_startS ?_) | (with_reducible refine i_inSg ?_) | (with_reducible refine i_absN ?_) | (with_reducible refine i_min2 ?_) | (with_reducible refine i_max2 ?_) | (with_reducible refine i_min3 ?_) | (with_reducible refine i_intN ?_) | (with_reducible refine i_intNB ?_)
  | ((with_reducible refine' i_lenL ?q1 ?_); (case q1 => walk_at "hp")) | ((with_reducible refine' i_lenT ?q1 ?_); (case q1 => walk_at "hp"))
  | (with_reducible refine i_eqI ?_) | (with_reducible refine i_neI ?_) | (with_reducible refine i_eqS ?_) | (with_reducible refine i_neS ?_) | (with_reducible refine i_isNoI ?_) | (with_reducible refine i_isNoN ?_) | (with_reducible refine i_isNoR ?_)
  | ((with_reducible refine i_pow ?q1 ?q2 ?q3 ?_); (case q1 => decide); (case q2 => decide); (case q3 => (with_reducible omega)))
  | ((with_reducible refine i_rI ?q1 ?_); (case q1 => walk_at "ci"))
  | (with_reducible refine Or.inl ⟨_, rfl, ?_⟩) | (with_reducible refine Or.inr ⟨_, rfl, ?_⟩) | (with_reducible refine ⟨_, rfl, ?_⟩) | (with_reducible refine ⟨_, _, rfl, ?_⟩) | (with_reducible refine ⟨_, _, rfl, rfl, ?_⟩)
  | ((with_reducible refine' ⟨_, _, rfl, Or.inl (sqL_of ?q1), ?_⟩); (case q1 => walk_at "hp")) | ((with_reducible refine' ⟨_, _, rfl, Or.inr (sqT_of ?q1), ?_⟩); (case q1 => walk_at "hp")) | (with_reducible refine i_dget ?_) | (with_reducible refine i_disp1T ?_) | (with_reducible refine i_dcT ?_) | (with_reducible refine i_dnewT ?_) | (with_reducible refine i_fld ?_) | (with_reducible refine i_sFld ?_) | (with_reducible refine i_make ?_) | (with_reducible refine i_meth ?_) | (with_reducible refine i_star ?_) | (with_reducible refine i_isNoS ?_) | (with_reducible refine i_lc2 ?_) | (with_reducible refine i_iEnT ?_) | (with_reducible refine i_iZipT ?_) | fail)
local macro_rules | `(tactic| walk_at "rd") => `(tactic| repeat' walk_at "rd1")

/-- _law_right(box) -/
def spRight : Sp := fun vs H Q _ => ∃ (b : Addr) (d : Int), vs = [.ref b] ∧ BoxAt H b d ∧ d + 100 ≤ 1000000 ∧ ∀ H', SB b H H' → Q (.bl true) H'
section
variable {P : Program} {w : World} {K : PySem.W.Frag} {mg : Str → Option Value} {base : Heap} {f : Addr} {fd : FuncData}
theorem ok_right (F : Fun K "_law_right" "_law_right" s__law_right f fd) (z : Z mg) (c__law_plain : Cal P w K mg base "_law_plain" ["box"] 3 spPlain) (c__law_spoiled : Cal P w K mg base "_law_spoiled" ["box", "plain"] 2 (spSpoil K)) (q__law_row_right : CalG P w K mg base "_law_row_right" ["box", "plain"] 7 spRR) (q__law_spoiled_right : CalG P w K mg base "_law_spoiled_right" ["box", "plain", "thing"] 9 (spSpR K)) :
    FnG P w K mg base CX0 10 f fd ["box"] spRight := by
  refine Sw.Fun.okG0 F sc__law_right (fun vs H Q E h => ?_) (fun cdv A outer s H vs Q E hr quiet h => ?_)
  · obtain ⟨b, d, rfl, _⟩ := h; rfl
  · obtain ⟨b, d, rfl, B, hd, k⟩ := h
    refine ⟨_, (pss_cons (ps_par (i := 1) (j := 2) rfl sc__law_right.nd rfl rfl (by decide) rfl rfl (pa_cons (pe_cal c__law_plain hr (pa_cons (pv 0) pa_nil)) (pa_cons (pe_cal c__law_plain hr (pa_cons (pv 0) pa_nil)) pa_nil)) (by rfl))
      (pss_cons (ps_if (PW.pt (pw_or (pt_not (pt_val (pe_calG q__law_row_right hr quiet (pa_cons (pv 0) (pa_cons (pv 1) pa_nil))))) (pw_or1 (pt_not (pt_val (pe_calG q__law_row_right hr quiet (pa_cons (pv 0) (pa_cons (pv 2) pa_nil))))))))
        (pss_one (ps_ret pe_bl))
        pss_nil)
      (pss_cons (ps_for PassesOwn.never rfl (pi_range1 (by rfl) z.range (pa_cons pe_int pa_nil)) (pg_name (i := 3) sc__law_right.nd rfl (.inl rfl))
        (pss_one (ps_if (pt_not (pt_val (pe_calG q__law_spoiled_right hr quiet (pa_cons (pv 0) (pa_cons (pv 1) (pa_cons (pe_cal c__law_spoiled hr (pa_cons (pv 0) (pa_cons (pv 1) pa_nil))) pa_nil))))))
          (pss_one (ps_ret pe_bl))
          pss_nil)))
      (pss_one (ps_ret (pe_calG q__law_row_right hr quiet (pa_cons (pv 0) (pa_cons (pv 1) pa_nil)))))))), ?_⟩
    walk_at "rd"
    refine ⟨b, d, rfl, B, by omega, fun v fs p g H1 hp I B1 s1 => ?_⟩
    walk_at "rd"
    refine ⟨b, _, rfl, B1, by omega, fun v2 fs2 p2 g2 H2 hp2 I2 B2 s2 => ?_⟩
    have hpA := hp.same (del_sb s2)
    walk_at "rd"
    refine ⟨b, v, fs, p, g, _, rfl, hpA, I, B2, by omega, fun H3 B3 s3 => ?_⟩
    have hpB := hpA.same (del_sb s3)
    have hp2B := hp2.same (del_sb s3)
    walk_at "rd"
    refine ⟨b, v2, fs2, p2, g2, _, rfl, hp2B, I2, B3, by omega, fun H4 B4 s4 => ?_⟩
    have hpC := hpB.same (del_sb s4)
    have s04 := s1.trans (s2.trans (s3.trans s4))
    walk_at "rd"
    refine i_rng (by omega) (by omega) ?_
    refine go_for walk_rangeZ (fun i σ Hz => ∃ (u3 : Option V), σ = [some (.ref b), some v, some v2, u3] ∧ SB b H4 Hz ∧ BoxAt Hz b (d + 64 + 17 * (i : Int)))
      ⟨_, rfl, SB.refl _, B4.mono (by omega)⟩ (fun _ _ _ _ _ => trivial) (fun i v' σ Hz Hw hi h y => ?_) (fun σ Hz h => ?_)
    · obtain ⟨u3, rfl, sz, Bz⟩ := h
      obtain ⟨rfl, rfl⟩ := y
      have hi : i < 2 := hi
      have hpz := hpC.same (del_sb sz)
      walk_at "rd"
      refine ⟨b, v, fs, p, g, _, rfl, hpz, I, Bz, by omega, fun x dd H5 hx sx l1 l2 B5 s5 => ?_⟩
      walk_at "rd"
      refine ⟨b, v, x, fs, p, g, dd, _, rfl, hpz.same (del_sb s5), I, hx, sx, l1, l2, B5, by omega, fun H6 B6 s6 => ?_⟩
      walk_at "rd"
      exact ⟨sz.trans (s5.trans s6), B6.mono (by omega)⟩
    · obtain ⟨u3, rfl, sz, Bz⟩ := h
      walk_at "rd"
      refine ⟨b, v, fs, p, g, _, rfl, hpC.same (del_sb sz), I, Bz, by omega, fun H5 B5 s5 => ?_⟩
      walk_at "rd"
      exact k _ (s04.trans (sz.trans s5))
end
end Sw
namespace Sw
open PySem PySem.Spec PyProof.Rows L2
local macro_rules | `(tactic| walk_at "hp") => `(tactic| first
  | (with_reducible assumption) | (with_reducible exact upd_same)
  | ((with_reducible refine' upd_old ?q1 ?q2); (case q1 => (with_reducible assumption)); (case q2 => walk_at "hp"))
  | ((with_reducible refine' Same.at ?q1 ?q2); (case q1 => (with_reducible assumption)); (case q2 => walk_at "hp"))
  | ((with_reducible refine' upd_skip ?q1 ?q2); (case q1 => walk_at "ne"); (case q2 => walk_at "hp"))
  | fail)
local macro_rules | `(tactic| walk_at "ne") => `(tactic| first
  | (with_reducible assumption) | (with_reducible exact Ne.symm (by assumption))
  | ((with_reducible refine' ne_of_none ?q1 ?q2); (case q2 => (with_reducible assumption)); (case q1 => walk_at "hp"))
  | fail)
local macro_rules | `(tactic| walk_at "ci") => `(tactic| first | assumption | (show (0 : Int) < _; first | decide | (with_reducible omega)) | exact ⟨by decide, by decide⟩ | exact .inl ⟨by decide, by decide⟩ | exact .inr ⟨by decide, by decide⟩)
local macro_rules | `(tactic| walk_at "ln") => `(tactic| first | (with_reducible assumption) | (with_reducible omega) | (simp only [List.length_append, List.length_take, List.length_drop, List.length_reverse, List.length_cons, List.length_nil]; with_reducible omega))
local macro_rules | `(tactic| walk_at "rd1") => `(tactic| first
  | (with_reducible refine i_seq ?_) | (with_reducible refine i_asg ?_) | (with_reducible refine i_ret ?_) | (with_reducible refine i_name ?_) | ((with_reducible refine' i_var ?q1 ?_); (case q1 => exact rfl)) | (with_reducible refine i_c ?_) | (with_reducible refine i_op ?_) | (with_reducible refine i_un ?_)
  | (with_reducible refine i_rI0 ?_) | (with_reducible refine i_cb ?_) | (with_reducible refine i_cons ?_) | (with_reducible refine i_nil ?_) | (with_reducible refine i_call ?_) | (with_reducible refine i_if ?_) | (with_reducible refine i_ifE ?_) | (with_reducible refine i_test ?_) | (with_reducible refine i_bl ?_)
  | (with_reducible refine i_and ?_) | (with_reducible refine i_or ?_) | (with_reducible refine i_not ?_) | (with_reducible refine i_lstM ?_) | (with_reducible refine i_lstLM ?_) | (with_reducible refine i_tupM ?_) | (with_reducible refine i_next ?_) | (with_reducible refine i_drop ?_) | (with_reducible refine i_sub ?_)
  | (with_reducible refine i_bm ?_) | (with_reducible refine i_sl ?_) | (with_reducible refine i_part ?_) | (with_reducible refine i_nopart ?_) | (with_reducible refine i_exI ?_) | (with_reducible refine i_chain ?_) | ((with_reducible refine' i_aug ?q1 ?_); (case q1 => exact rfl)) | (with_reducible refine i_ip ?_)
  | (with_reducible refine i_par ?_) | (with_reducible refine i_pair ?_) | (with_reducible refine i_andV ?_) | (with_reducible refine i_orV ?_) | (with_reducible refine i_notV ?_) | (with_reducible refine i_m1 ?_) | (with_reducible refine i_str ?_)
  | (with_reducible refine iteF ?_) | (with_reducible refine iteT ?_) | (with_reducible refine iteNT ?_) | (with_reducible refine iteNF ?_) | (with_reducible refine i_tyS ?_) | (with_reducible refine i_tB ?_) | (with_reducible refine i_retN ?_) | (with_reducible refine i_par3 ?_) | (with_reducible refine i_trip ?_) | (with_reducible refine i_gCons ?_) | (with_reducible refine i_gNil ?_) | (with_reducible refine i_lstRg ?_) | (with_reducible refine i_rg1 ?_)
  | (with_reducible refine i_lc ?_) | (with_reducible refine i_for ?_) | (with_reducible refine i_iList ?_) | (with_reducible refine i_iTup ?_) | (with_reducible refine i_iStr ?_) | (with_reducible refine i_iRng1 ?_) | (with_reducible refine i_iEnS ?_)
  | ((with_reducible refine' i_ixTH ?q1 ?q2 ?_); (case q1 => walk_at "hp"); (case q2 => exact rfl))
  | ((with_reducible refine' i_ixLH ?q1 ?q2 ?_); (case q1 => walk_at "hp"); (case q2 => exact rfl))
  | ((with_reducible refine i_addS ?q1 ?_); (case q1 => walk_at "ln")) | ((with_reducible refine i_lenSS ?q1 ?_); (case q1 => walk_at "ln")) | ((with_reducible refine i_slFrom ?q1 ?q2 ?_); (case q1 => walk_at "ln"); (case q2 => walk_at "ln")) | ((with_reducible refine i_slTo ?q1 ?q2 ?_); (case q1 => walk_at "ln"); (case q2 => walk_at "ln"))
  | ((with_reducible refine' i_tyL ?q1 ?_); (case q1 => walk_at "hp"))
  | ((with_reducible refine' i_gTupH ?q1 ?q2 ?_); (case q1 => walk_at "hp"); (case q2 => exact rfl))
  | (with_reducible refine i_dnewM ?_) | (with_reducible refine i_init ?_) | (with_reducible refine i_fst ?_) | (with_reducible refine i_mk ?_) | (with_reducible refine i_mkF ?_) | (with_reducible refine i_raise ?_) | (with_reducible refine i_callS ?_) | (with_reducible refine i_kwS ?_)
  | (with_reducible refine i_revT ?_) | (with_reducible refine i_kw ?_) | ((with_reducible refine' ⟨_, _, rfl, sqT_of ?q1, ?_⟩); (case q1 => walk_at "hp"))
  | (with_reducible refine i_revS ?_) | ((with_reducible refine i_revSS ?q1 ?_); (case q1 => walk_at "ln"))
  | (with_reducible refine i_startS ?_) | (with_reducible refine i_inSg ?_) | (with_reducible refine i_absN ?_) | (with_reducible refine i_min2 ?_) | (with_reducible refine i_max2 ?_) | (with_reducible refine i_min3 ?_) | (with_reducible refine i_intN ?_) | (with_reducible refine i_intNB ?_)
  | ((with_reducible refine' i_lenL ?q1 ?_); (case q1 => walk_at "hp")) | ((with_reducible refine' i_lenT ?q1 ?_); (case q1 => walk_at "hp"))
  | (with_reducible refine i_eqI ?_) | (with_reducible refine i_neI ?_) | (with_reducible refine i_eqS ?_) | (with_reducible refine i_neS ?_) | (with_reducible refine i_isNoI ?_) | (with_reducible refine i_isNoN ?_) | (with_reducible refine i_isNoR ?_)
  | ((with_reducible refine i_pow ?q1 ?q2 ?q3 ?_); (case q1 => decide); (case q2 => decide); (case q3 => (with_reducible omega)))
  | ((with_reducible refine i_rI ?q1 ?_); (case q1 => walk_at "ci"))
  | (with_reducible refine Or.inl ⟨_, rfl, ?_⟩) | (with_reducible refine Or.inr ⟨_, rfl, ?_⟩) | (with_reducible refine ⟨_, rfl, ?_⟩) | (with_reducible refine ⟨_, _, rfl, ?_⟩) | (with_reducible refine ⟨_, _, rfl, rfl, ?_⟩)
  | ((with_reducible refine' ⟨_, _, rfl, Or.inl (sqL_of ?q1), ?_⟩); (case q1 => walk_at "hp")) | ((with_reducible refine' ⟨_, _, rfl, Or.inr (sqT_of ?q1), ?_⟩); (case q1 => walk_at "hp")) | (with_reducible refine i_dget ?_) | (with_reducible refine i_disp1T ?_) | (with_reducible refine i_dcT ?_) | (with_reducible refine i_dnewT ?_) | (with_reducible refine i_fld ?_) | (with_reducible refine i_sFld ?_) | (with_reducible refine i_make ?_) | (with_reducible refine i_meth ?_) | (with_reducible refine i_star ?_) | (with_reducible refine i_isNoS ?_) | (with_reducible refine i_lc2 ?_) | (with_reducible refine i_iEnT ?_) | (with_reducible refine i_iZipT ?_) | fail)
local macro_rules | `(tactic| walk_at "rd") => `(tactic| repeat' walk_at "rd1")

/-- law(script) -/
def spLaw (K : PySem.W.Frag) : Sp := fun vs H Q _ => ∃ (a : Addr) (ns : List Int), vs = [.ref a] ∧ SqL K H a (ns.map V.int) ∧ ∀ H', Same H H' → Q (.bl true) H'
section
variable {P : Program} {w : World} {K : PySem.W.Frag} {mg : Str → Option Value} {base : Heap} {f : Addr} {fd : FuncData}
theorem ok_law (F : Fun K "law" "law" s_law f fd) (z : Z mg) (q__law_right : CalG P w K mg base "_law_right" ["box"] 10 spRight)
    (c__law_box : Cal P w K mg base "_law_box" ["great"] 1 spBox) (c__law_cell : Cal P w K mg base "_law_cell" ["script", "k"] 1 (spCell K)) : FnG P w K mg base CX0 11 f fd ["script"] (spLaw K) := by
  refine Sw.Fun.okG0 F sc_law (fun vs H Q E h => ?_) (fun cdv A outer s H vs Q E hr quiet h => ?_)
  · obtain ⟨a, ns, rfl, _⟩ := h; rfl
  · obtain ⟨a, ns, rfl, L, k⟩ := h
    refine ⟨_, (pss_cons (ps_for PassesOwn.never rfl (pi_range1 (by rfl) z.range (pa_cons (pe_callB (call_max2N rfl) (by rfl) z.max_ (by decide +kernel) (pa_cons pe_int (pa_cons (pe_callB (call_min2N rfl) (by rfl) z.min_ (by decide +kernel) (pa_cons pe_int (pa_cons (pe_callB call_lenQ (by rfl) z.len PySem.boot_len (pa_cons (pv 0) pa_nil)) pa_nil))) pa_nil))) pa_nil)) (pg_name (i := 1) sc_law.nd rfl (.inl rfl))
        (pss_one (ps_if (pt_not (pt_val (pe_calG q__law_right hr quiet (pa_cons (pe_cal c__law_box hr (pa_cons (pe_cal c__law_cell hr (pa_cons (pv 0) (pa_cons (pv 1) pa_nil))) pa_nil)) pa_nil))))
          (pss_one (ps_ret pe_bl))
          pss_nil)))
      (pss_one (ps_ret pe_bl))), ?_⟩
    walk_at "rd"
    refine i_lenK L ?_
    walk_at "rd"
    rw [List.length_map]
    refine i_rng (by omega) (by omega) ?_
    refine go_for walk_rangeZ (fun i σ H2 => ∃ u1, σ = [some (.ref a), u1] ∧ Same H H2) ⟨none, rfl, Same.refl _⟩ (fun _ _ _ _ _ => trivial) (fun i v σ H2 H3 hi p y => ?_) (fun σ H2 p => ?_)
    · obtain ⟨u1, rfl, s2⟩ := p
      obtain ⟨rfl, rfl⟩ := y
      walk_at "rd"
      refine ⟨a, ns, i, rfl, Same.sqL s2 L, by omega, by omega, fun v H4 s4 => ?_⟩
      walk_at "rd"
      refine ⟨v, rfl, fun b H5 nb s5 B5 => ?_⟩
      walk_at "rd"
      refine ⟨b, 0, rfl, B5, by omega, fun H6 s6 => ?_⟩
      have keep : Same H H6 := fun x o e => by
        have e4 := s4 _ _ (s2 _ _ e)
        have nxb : x ≠ b := ne_of_none e4 nb
        exact s6 _ _ nxb (s5 _ _ e4)
      walk_at "rd"
      exact keep
    · obtain ⟨u1, rfl, s2⟩ := p
      walk_at "rd"
      exact k _ s2
end
end Sw
namespace Sw
open PySem PySem.Spec PyProof.Rows L2
theorem def_mk {K : PySem.W.Frag} {h : Heap} {mg : Str → Option Value} {x : Str} {st : Stmt} {f : Addr} {od an : Option Addr} {sl : Array (Option Value)} {oc kV dc pm cd ct : Value} (X : K.In h) (G : h.Ns mainGlobals mg)
    (a : PySem.W.nsIn K mainGlobals x = some (some (.ref f))) (l : K.lookup f = some ⟨oc, od, .func (PySem.W.fnOf x x (defArgs st) (defBody st) (defScope st) .none kV dc pm an cd ct), sl⟩) (c : PySem.W.codeIn K cd x = true) (k : PySem.W.keepIn K (.ref f) = true) : Def K mg x st :=
  ⟨f, _, fun_mk l c k, PySem.W.mg_of X G a⟩
theorem oex_mk {K : PySem.W.Frag} {C B N : Addr} {nm q : Str} {bs : List Value} {sn : List Str} {sub : List Value} {ab : Bool} {col : Option Bool} {dd : Option Addr} {k0 k1 k2 k3 k5 : Option Value}
    (h : K.lookup C = some (excClassObj nm q C N bs [.ref B, .type "Exception", .type "BaseException", .type "object"] true sn sub ab col dd k0 k1 k2 k3 k5 "Exception.__new__")) (sa : PySem.W.findIn K (.ref C) "__setattr__" = some (some (.builtin "object.__setattr__"))) (exC : PySem.W.subIn K (.ref C) (.type "BaseException") = some true)
    (tyC : PySem.W.typeIn K (.ref C) = some (.type "type")) (kC : PySem.W.keepIn K (.ref C) = true) : OexE K C := ⟨⟨nm, q, N, bs, [B], sn, sub, ab, col, dd, k0, k1, k2, k3, k5, h⟩, sa, exC, tyC, kC⟩
theorem exm_mk {K : PySem.W.Frag} {c : Value} (h1 : PySem.W.subIn K c (.type "BaseException") = some true) (h2 : PySem.W.kitCls K c c = some true) : PySem.W.exmOne K c c = some true := by
  unfold PySem.W.exmOne
  rw [h1]
  exact h2
theorem exn_mk {K : PySem.W.Frag} {d c : Value} (h1 : PySem.W.subIn K c (.type "BaseException") = some true) (h2 : PySem.W.kitCls K d c = some false) : PySem.W.exmOne K d c = some false := by
  unfold PySem.W.exmOne
  rw [h1]
  exact h2
/-- an own exception class, its __init__ apart -/
structure XI (x q : Str) (st : Stmt) (K : PySem.W.Frag) (mg : Str → Option Value) (C : Addr) : Prop where
  T : OexE K C
  xf : XfC K C
  no : PySem.W.findIn K (.ref C) "given" = some none
  hm : mg x = some (.ref C)
  me : PySem.W.exmOne K (.ref C) (.ref C) = some true
  ini : ∃ (fI : Addr) (fd : FuncData), PySem.W.findIn K (.ref C) "__init__" = some (some (.ref fI)) ∧ PySem.W.typeIn K (.ref fI) = some (.type "function") ∧ Fun K "__init__" q st fI fd
theorem iniq_mk {K : PySem.W.Frag} {q : Str} {st : Stmt} {C fI : Addr} {od an : Option Addr} {sl : Array (Option Value)} {oc kV dc pm cd ct : Value} (i : PySem.W.findIn K (.ref C) "__init__" = some (some (.ref fI))) (t : PySem.W.typeIn K (.ref fI) = some (.type "function"))
    (l : K.lookup fI = some ⟨oc, od, .func (PySem.W.fnOf "__init__" q (defArgs st) (defBody st) (defScope st) .none kV dc pm an cd ct), sl⟩) (c : PySem.W.codeIn K cd q = true) (k : PySem.W.keepIn K (.ref fI) = true) :
    ∃ (fI : Addr) (fd : FuncData), PySem.W.findIn K (.ref C) "__init__" = some (some (.ref fI)) ∧ PySem.W.typeIn K (.ref fI) = some (.type "function") ∧ Fun K "__init__" q st fI fd := ⟨fI, _, i, t, fun_mk l c k⟩
theorem all_mk {l : PySem.W.OpenLaw} {w : World} {K : PySem.W.Frag} {mg : Str → Option Value} {fa : Addr} (hfa : mg "law" = some (.ref fa)) (z : Z mg) {t_MOST_FIRST : Tok} (g_MOST_FIRST : mg "MOST_FIRST" = some (.int 8 t_MOST_FIRST)) {t_MOST_NUMBER : Tok} (g_MOST_NUMBER : mg "MOST_NUMBER" = some (.int 40 t_MOST_NUMBER)) {t_MOST_PERIOD : Tok} (g_MOST_PERIOD : mg "MOST_PERIOD" = some (.int 4 t_MOST_PERIOD)) {t_MOST_GAIN : Tok} (g_MOST_GAIN : mg "MOST_GAIN" = some (.int 12 t_MOST_GAIN)) {B : Addr} (ov : Over K mg B) {XR : Addr} (xi_XR : XI "InvalidRow" "InvalidRow.__init__" s_initR K mg XR) {XC : Addr} (xi_XC : XI "InvalidCount" "InvalidCount.__init__" s_initC K mg XC) (hCR : PySem.W.exmOne K (.ref XC) (.ref XR) = some false) 
    (d_is_list : Def K mg "is_list" s_is_list) (d_is_integer : Def K mg "is_integer" s_is_integer) (d_is_count : Def K mg "is_count" s_is_count) (d_check_count : Def K mg "check_count" s_check_count) (d_number_at : Def K mg "number_at" s_number_at) (d_are_numbers : Def K mg "are_numbers" s_are_numbers) (d_is_row : Def K mg "is_row" s_is_row) (d_check_row : Def K mg "check_row" s_check_row) (d_row_at : Def K mg "row_at" s_row_at) (d_is_subadditive : Def K mg "is_subadditive" s_is_subadditive) (d_built : Def K mg "built" s_built) (d_built_accepting : Def K mg "built_accepting" s_built_accepting) (d__law_cell : Def K mg "_law_cell" s__law_cell) (d__law_box : Def K mg "_law_box" s__law_box) (d__law_take : Def K mg "_law_take" s__law_take) (d__law_first : Def K mg "_law_first" s__law_first) (d__law_plain : Def K mg "_law_plain" s__law_plain) (d__law_numbers : Def K mg "_law_numbers" s__law_numbers) (d__law_is_count : Def K mg "_law_is_count" s__law_is_count) (d__law_judged : Def K mg "_law_judged" s__law_judged) (d__law_spoiled : Def K mg "_law_spoiled" s__law_spoiled) (d__law_is_subadditive : Def K mg "_law_is_subadditive" s__law_is_subadditive) (d__law_row_right : Def K mg "_law_row_right" s__law_row_right) (d__law_told : Def K mg "_law_told" s__law_told) (d__law_copy : Def K mg "_law_copy" s__law_copy) (d__law_refused : Def K mg "_law_refused" s__law_refused) (d__law_spoiled_right : Def K mg "_law_spoiled_right" s__law_spoiled_right) (d__law_right : Def K mg "_law_right" s__law_right) (d_law : Def K mg "law" s_law) :
    ∃ fd : FuncData, (∀ (s : Shared) (v : Value), BindsTo s fd ⟨[v], []⟩ [("script", v)]) ∧ ∀ base : Heap, K.In base → base.Ns mainGlobals mg → FnG l.prog w K mg base CX0 11 fa fd ["script"] (spLaw K) := by
  obtain ⟨f, fd, F, e⟩ := d_law
  cases hfa.symm.trans e
  have F0 := F
  obtain ⟨oc, od, kV, doc, pm, an, cdv, ct, osl, rfl, lk, hcd⟩ := F.ex
  refine ⟨PySem.W.fnOf "law" "law" (defArgs s_law) (defBody s_law) (defScope s_law) .none kV doc pm an cdv ct, fun s v => .of_eq rfl, fun base _ _ => ?_⟩
  have xq_XR : XQ "InvalidRow" l.prog w K mg base XR := by
    obtain ⟨fI, fdI, i1, i2, FI⟩ := xi_XR.ini
    exact ⟨xi_XR.T, xi_XR.xf, xi_XR.no, xi_XR.hm, xi_XR.me, fI, fdI, i1, i2, ok_initR FI ov, FI.binds fun _ _ _ _ _ _ us hl => match us, hl with | [_, _], _ => rfl⟩
  have xq_XC : XQ "InvalidCount" l.prog w K mg base XC := by
    obtain ⟨fI, fdI, i1, i2, FI⟩ := xi_XC.ini
    exact ⟨xi_XC.T, xi_XC.xf, xi_XC.no, xi_XC.hm, xi_XC.me, fI, fdI, i1, i2, ok_initC FI ov, FI.binds fun _ _ _ _ _ _ us hl => match us, hl with | [_, _], _ => rfl⟩
  have c_list := Sw.Def.cal (P := l.prog) (w := w) (base := base) d_is_list (ps := ["value"]) (k := 1) (sp := (spSeq K)) (fun _ _ _ _ _ _ us hl => match us, hl with | [_], _ => rfl) fun f fd F => ok_list F z
  have c_int := Sw.Def.cal (P := l.prog) (w := w) (base := base) d_is_integer (ps := ["value"]) (k := 1) (sp := (spInt K)) (fun _ _ _ _ _ _ us hl => match us, hl with | [_], _ => rfl) fun f fd F => ok_integer F z
  have c_cnt := Sw.Def.cal (P := l.prog) (w := w) (base := base) d_is_count (ps := ["value"]) (k := 2) (sp := (spCnt K)) (fun _ _ _ _ _ _ us hl => match us, hl with | [_], _ => rfl) fun f fd F => ok_count F c_int
  have x_ckc := Sw.Def.calX (P := l.prog) (w := w) (base := base) d_check_count (ps := ["count"]) (k := 3) (sp := (spCkC K XC)) (fun _ _ _ _ _ _ us hl => match us, hl with | [_], _ => rfl) fun f fd F => ok_ckC F xq_XC c_cnt
  have c_num := Sw.Def.cal (P := l.prog) (w := w) (base := base) d_number_at (ps := ["row", "many"]) (k := 1) (sp := (spNum K)) (fun _ _ _ _ _ _ us hl => match us, hl with | [_, _], _ => rfl) fun f fd F => ok_num F z
  have c_nms := Sw.Def.cal (P := l.prog) (w := w) (base := base) d_are_numbers (ps := ["value"]) (k := 3) (sp := (spNms K)) (fun _ _ _ _ _ _ us hl => match us, hl with | [_], _ => rfl) fun f fd F => ok_nms F z g_MOST_FIRST g_MOST_NUMBER c_list c_cnt
  have c_row := Sw.Def.cal (P := l.prog) (w := w) (base := base) d_is_row (ps := ["value"]) (k := 4) (sp := (spRowB K)) (fun _ _ _ _ _ _ us hl => match us, hl with | [_], _ => rfl) fun f fd F => ok_rowB F z g_MOST_PERIOD g_MOST_GAIN c_nms c_int c_cnt c_num
  have k_row := Sw.Def.calK (P := l.prog) (w := w) (base := base) d_is_row (ps := ["value"]) (ks := valKs) (k := 4) (sp := (spRowB K)) (g := one1) (gV := one1)
    (fun kV doc pm an cdv ct us ws hl => by obtain ⟨rfl, a, rfl⟩ := one1_inv hl; rfl) one1_rel fun f fd F => ok_rowB F z g_MOST_PERIOD g_MOST_GAIN c_nms c_int c_cnt c_num
  have x_ckr := Sw.Def.calX (P := l.prog) (w := w) (base := base) d_check_row (ps := ["row"]) (k := 5) (sp := (spCkR K XR)) (fun _ _ _ _ _ _ us hl => match us, hl with | [_], _ => rfl) fun f fd F => ok_ckR F xq_XR c_row
  have x_at := Sw.Def.calX (P := l.prog) (w := w) (base := base) d_row_at (ps := ["row", "many"]) (k := 6) (sp := (spAt K XR XC)) (fun _ _ _ _ _ _ us hl => match us, hl with | [_, _], _ => rfl) fun f fd F => ok_at F x_ckr x_ckc c_num
  have kx_at := Sw.Def.calKX (P := l.prog) (w := w) (base := base) d_row_at (ps := ["row", "many"]) (ks := atKs) (k := 6) (sp := (spAt K XR XC)) (g := rev2) (gV := rev2)
    (fun kV doc pm an cdv ct us ws hl => by obtain ⟨rfl, b, a, rfl⟩ := rev2_inv hl; rfl) rev2_rel fun f fd F => ok_at F x_ckr x_ckc c_num
  have x_sub := Sw.Def.calX (P := l.prog) (w := w) (base := base) d_is_subadditive (ps := ["row"]) (k := 6) (sp := (spSub K XR)) (fun _ _ _ _ _ _ us hl => match us, hl with | [_], _ => rfl) fun f fd F => ok_sub F z x_ckr c_num
  have kx_sub := Sw.Def.calKX (P := l.prog) (w := w) (base := base) d_is_subadditive (ps := ["row"]) (ks := rowKs) (k := 6) (sp := (spSub K XR)) (g := one1) (gV := one1)
    (fun kV doc pm an cdv ct us ws hl => by obtain ⟨rfl, a, rfl⟩ := one1_inv hl; rfl) one1_rel fun f fd F => ok_sub F z x_ckr c_num
  have x_blt := Sw.Def.calX (P := l.prog) (w := w) (base := base) d_built (ps := ["row"]) (k := 6) (sp := (spBad K XR)) (fun _ _ _ _ _ _ us hl => match us, hl with | [_], _ => rfl) fun f fd F => ok_built F x_ckr
  have kx_blt := Sw.Def.calKX (P := l.prog) (w := w) (base := base) d_built (ps := ["row"]) (ks := rowKs) (k := 6) (sp := (spBad K XR)) (g := one1) (gV := one1)
    (fun kV doc pm an cdv ct us ws hl => by obtain ⟨rfl, a, rfl⟩ := one1_inv hl; rfl) one1_rel fun f fd F => ok_built F x_ckr
  have x_blA := Sw.Def.calX (P := l.prog) (w := w) (base := base) d_built_accepting (ps := ["row"]) (k := 6) (sp := (spBad K XR)) (fun _ _ _ _ _ _ us hl => match us, hl with | [_], _ => rfl) fun f fd F => ok_builtA F x_ckr
  have c_cell := Sw.Def.cal (P := l.prog) (w := w) (base := base) d__law_cell (ps := ["script", "k"]) (k := 1) (sp := (spCell K)) (fun _ _ _ _ _ _ us hl => match us, hl with | [_, _], _ => rfl) fun f fd F => ok__law_cell F z
  have c_box := Sw.Def.cal (P := l.prog) (w := w) (base := base) d__law_box (ps := ["great"]) (k := 1) (sp := spBox) (fun _ _ _ _ _ _ us hl => match us, hl with | [_], _ => rfl) fun f fd F => ok__law_box F z
  have c_take := Sw.Def.cal (P := l.prog) (w := w) (base := base) d__law_take (ps := ["box", "limit"]) (k := 1) (sp := spTake) (fun _ _ _ _ _ _ us hl => match us, hl with | [_, _], _ => rfl) fun f fd F => ok__law_take F z
  have c_first := Sw.Def.cal (P := l.prog) (w := w) (base := base) d__law_first (ps := ["box"]) (k := 2) (sp := spFirst) (fun _ _ _ _ _ _ us hl => match us, hl with | [_], _ => rfl) fun f fd F => ok_first F z c_take
  have c_plain := Sw.Def.cal (P := l.prog) (w := w) (base := base) d__law_plain (ps := ["box"]) (k := 3) (sp := spPlain) (fun _ _ _ _ _ _ us hl => match us, hl with | [_], _ => rfl) fun f fd F => ok_plain F z c_take c_first
  have c_nbs := Sw.Def.cal (P := l.prog) (w := w) (base := base) d__law_numbers (ps := ["plain", "size"]) (k := 1) (sp := spNbs) (fun _ _ _ _ _ _ us hl => match us, hl with | [_, _], _ => rfl) fun f fd F => ok_nbs F z
  have c_lc := Sw.Def.cal (P := l.prog) (w := w) (base := base) d__law_is_count (ps := ["thing"]) (k := 1) (sp := (spCnt K)) (fun _ _ _ _ _ _ us hl => match us, hl with | [_], _ => rfl) fun f fd F => ok_lcount F z
  have c_jud := Sw.Def.cal (P := l.prog) (w := w) (base := base) d__law_judged (ps := ["thing"]) (k := 2) (sp := (spRowB K)) (fun _ _ _ _ _ _ us hl => match us, hl with | [_], _ => rfl) fun f fd F => ok_judged F z c_lc
  have c_spl := Sw.Def.cal (P := l.prog) (w := w) (base := base) d__law_spoiled (ps := ["box", "plain"]) (k := 2) (sp := (spSpoil K)) (fun _ _ _ _ _ _ us hl => match us, hl with | [_, _], _ => rfl) fun f fd F => ok_spoil F z c_take
  have c_lsb := Sw.Def.cal (P := l.prog) (w := w) (base := base) d__law_is_subadditive (ps := ["plain"]) (k := 2) (sp := spLSub) (fun _ _ _ _ _ _ us hl => match us, hl with | [_], _ => rfl) fun f fd F => ok_lsub F z c_nbs
  have q_rr := Sw.Def.calG (P := l.prog) (w := w) (base := base) d__law_row_right (ps := ["box", "plain"]) (k := 7) (sp := spRR) (fun _ _ _ _ _ _ us hl => match us, hl with | [_, _], _ => rfl) fun f fd F => ok_rr F z c_take c_nbs c_lsb c_row k_row x_at kx_at x_sub kx_sub
  have c_told := Sw.Def.cal (P := l.prog) (w := w) (base := base) d__law_told (ps := ["door", "thing", "count"]) (k := 7) (sp := (spTold K)) (fun _ _ _ _ _ _ us hl => match us, hl with | [_, _, _], _ => rfl) fun f fd F => ok_told F xq_XR xq_XC hCR x_at kx_at x_sub x_blt kx_blt x_blA
  have c_copy := Sw.Def.cal (P := l.prog) (w := w) (base := base) d__law_copy (ps := ["thing"]) (k := 1) (sp := (spCopy K)) (fun _ _ _ _ _ _ us hl => match us, hl with | [_], _ => rfl) fun f fd F => ok_copy F z
  have q_ref := Sw.Def.calG (P := l.prog) (w := w) (base := base) d__law_refused (ps := ["door", "thing", "count"]) (k := 8) (sp := (spRefd K)) (fun _ _ _ _ _ _ us hl => match us, hl with | [_, _, _], _ => rfl) fun f fd F => ok_refd F z c_copy c_told
  have q_spr := Sw.Def.calG (P := l.prog) (w := w) (base := base) d__law_spoiled_right (ps := ["box", "plain", "thing"]) (k := 9) (sp := (spSpR K)) (fun _ _ _ _ _ _ us hl => match us, hl with | [_, _, _], _ => rfl) fun f fd F => ok_spr F z c_take c_copy c_jud c_row c_told q_ref
  have q_right := Sw.Def.calG (P := l.prog) (w := w) (base := base) d__law_right (ps := ["box"]) (k := 10) (sp := spRight) (fun _ _ _ _ _ _ us hl => match us, hl with | [_], _ => rfl) fun f fd F => ok_right F z c_plain c_spl q_rr q_spr
  exact ok_law F0 z q_right c_box c_cell
end Sw
open PySem PySem.W PyProof.Rows
set_option maxHeartbeats 0 in
theorem PySem.Challenge.cw_spoiltways_k56_rows_of_numbers_holds : PySem.Challenge.rw_spoiltways_k56_rows_of_numbers.Holds := by
  w_on; o_law; k_head; (case hw => w_witness2)
  k_fill
  refine Sw.walk_G (l := PySem.Challenge.rw_spoiltways_k56_rows_of_numbers) (n := 63) (k := 11) (x := "script") (sp := Sw.spLaw) rfl (by decide) rfl ⟨rfl, by decide, by decide⟩ (fun w h Y => PySem.W.kIn_of Y) ?F (fun _ _ a ns hl _ hS => ⟨a, ns, rfl, hS, fun _ _ => rfl⟩)
  case F =>
    intro w mg fa h KX G hmg
    have z : Sw.Z mg := by
      refine' ⟨PySem.W.mg_none_of KX G ?z0, PySem.W.mg_none_of KX G ?z1, PySem.W.mg_none_of KX G ?z2, PySem.W.mg_none_of KX G ?z3, PySem.W.mg_none_of KX G ?z4, PySem.W.mg_none_of KX G ?z5, PySem.W.mg_none_of KX G ?z6, PySem.W.mg_none_of KX G ?z7, PySem.W.mg_none_of KX G ?z8, PySem.W.mg_none_of KX G ?z9, PySem.W.mg_none_of KX G ?z10, PySem.W.mg_none_of KX G ?z11, PySem.W.mg_none_of KX G ?z12, PySem.W.mg_none_of KX G ?z13, PySem.W.mg_none_of KX G ?z14, PySem.W.mg_none_of KX G ?z15⟩
      (case z0 => k_is)
      (case z1 => k_is)
      (case z2 => k_is)
      (case z3 => k_is)
      (case z4 => k_is)
      (case z5 => k_is)
      (case z6 => k_is)
      (case z7 => k_is)
      (case z8 => k_is)
      (case z9 => k_is)
      (case z10 => k_is)
      (case z11 => k_is)
      (case z12 => k_is)
      (case z13 => k_is)
      (case z14 => k_is)
      (case z15 => k_is)
    obtain ⟨v_MOST_FIRST, gv_MOST_FIRST, t_MOST_FIRST, rfl⟩ : ∃ v, mg "MOST_FIRST" = some v ∧ ∃ t, v = .int 8 t := by
      refine' ⟨_, PySem.W.mg_of KX G ?a, ?b⟩
      (case a => k_is)
      (case b => exact ⟨_, rfl⟩)
    obtain ⟨v_MOST_NUMBER, gv_MOST_NUMBER, t_MOST_NUMBER, rfl⟩ : ∃ v, mg "MOST_NUMBER" = some v ∧ ∃ t, v = .int 40 t := by
      refine' ⟨_, PySem.W.mg_of KX G ?a, ?b⟩
      (case a => k_is)
      (case b => exact ⟨_, rfl⟩)
    obtain ⟨v_MOST_PERIOD, gv_MOST_PERIOD, t_MOST_PERIOD, rfl⟩ : ∃ v, mg "MOST_PERIOD" = some v ∧ ∃ t, v = .int 4 t := by
      refine' ⟨_, PySem.W.mg_of KX G ?a, ?b⟩
      (case a => k_is)
      (case b => exact ⟨_, rfl⟩)
    obtain ⟨v_MOST_GAIN, gv_MOST_GAIN, t_MOST_GAIN, rfl⟩ : ∃ v, mg "MOST_GAIN" = some v ∧ ∃ t, v = .int 12 t := by
      refine' ⟨_, PySem.W.mg_of KX G ?a, ?b⟩
      (case a => k_is)
      (case b => exact ⟨_, rfl⟩)
    refine' Sw.all_mk hmg z gv_MOST_FIRST gv_MOST_NUMBER gv_MOST_PERIOD gv_MOST_GAIN ?ov ?xi_XR ?xi_XC ?hCR ?d_is_list ?d_is_integer ?d_is_count ?d_check_count ?d_number_at ?d_are_numbers ?d_is_row ?d_check_row ?d_row_at ?d_is_subadditive ?d_built ?d_built_accepting ?d__law_cell ?d__law_box ?d__law_take ?d__law_first ?d__law_plain ?d__law_numbers ?d__law_is_count ?d__law_judged ?d__law_spoiled ?d__law_is_subadditive ?d__law_row_right ?d__law_told ?d__law_copy ?d__law_refused ?d__law_spoiled_right ?d__law_right ?d_law
    case xi_XR =>
      refine' ⟨Sw.oex_mk ?h1 ?h2 ?h3 ?h4 ?h5, ⟨?f1, ?f2, ?f3, ?f4⟩, ?no, PySem.W.mg_of KX G ?hm, Sw.exm_mk ?me1 ?me2, Sw.iniq_mk ?i1 ?i2 ?i3 ?i4 ?i5⟩
      (case hm => k_is)
      (case h1 => k_is)
      (case h2 => k_is)
      (case h3 => k_is)
      (case h4 => k_is)
      (case h5 => k_is)
      (case f1 => k_is)
      (case f2 => k_is)
      (case f3 => k_is)
      (case f4 => k_is)
      (case no => k_is)
      (case me1 => k_is)
      (case me2 => first | k_is | rfl | decide +kernel)
      (case i1 => k_is)
      (case i2 => k_is)
      (case i3 => k_is)
      (case i4 => k_is)
      (case i5 => k_is)
    case xi_XC =>
      refine' ⟨Sw.oex_mk ?h1 ?h2 ?h3 ?h4 ?h5, ⟨?f1, ?f2, ?f3, ?f4⟩, ?no, PySem.W.mg_of KX G ?hm, Sw.exm_mk ?me1 ?me2, Sw.iniq_mk ?i1 ?i2 ?i3 ?i4 ?i5⟩
      (case hm => k_is)
      (case h1 => k_is)
      (case h2 => k_is)
      (case h3 => k_is)
      (case h4 => k_is)
      (case h5 => k_is)
      (case f1 => k_is)
      (case f2 => k_is)
      (case f3 => k_is)
      (case f4 => k_is)
      (case no => k_is)
      (case me1 => k_is)
      (case me2 => first | k_is | rfl | decide +kernel)
      (case i1 => k_is)
      (case i2 => k_is)
      (case i3 => k_is)
      (case i4 => k_is)
      (case i5 => k_is)
    case ov =>
      refine' ⟨PySem.W.mg_of KX G ?b1, ?b2, ?b3, ?b4, ?b5⟩
      (case b1 => k_is)
      (case b2 => k_is)
      (case b3 => k_is)
      (case b4 => k_is)
      (case b5 => k_is)
    case hCR =>
      refine' Sw.exn_mk ?n1 ?n2
      (case n1 => k_is)
      (case n2 => first | k_is | rfl | decide +kernel)
    case d_is_list =>
      refine' Sw.def_mk KX G ?a ?l ?c ?k
      (case a => k_is)
      (case l => k_is)
      (case c => k_is)
      (case k => k_is)
    case d_is_integer =>
      refine' Sw.def_mk KX G ?a ?l ?c ?k
      (case a => k_is)
      (case l => k_is)
      (case c => k_is)
      (case k => k_is)
    case d_is_count =>
      refine' Sw.def_mk KX G ?a ?l ?c ?k
      (case a => k_is)
      (case l => k_is)
      (case c => k_is)
      (case k => k_is)
    case d_check_count =>
      refine' Sw.def_mk KX G ?a ?l ?c ?k
      (case a => k_is)
      (case l => k_is)
      (case c => k_is)
      (case k => k_is)
    case d_number_at =>
      refine' Sw.def_mk KX G ?a ?l ?c ?k
      (case a => k_is)
      (case l => k_is)
      (case c => k_is)
      (case k => k_is)
    case d_are_numbers =>
      refine' Sw.def_mk KX G ?a ?l ?c ?k
      (case a => k_is)
      (case l => k_is)
      (case c => k_is)
      (case k => k_is)
    case d_is_row =>
      refine' Sw.def_mk KX G ?a ?l ?c ?k
      (case a => k_is)
      (case l => k_is)
      (case c => k_is)
      (case k => k_is)
    case d_check_row =>
      refine' Sw.def_mk KX G ?a ?l ?c ?k
      (case a => k_is)
      (case l => k_is)
      (case c => k_is)
      (case k => k_is)
    case d_row_at =>
      refine' Sw.def_mk KX G ?a ?l ?c ?k
      (case a => k_is)
      (case l => k_is)
      (case c => k_is)
      (case k => k_is)
    case d_is_subadditive =>
      refine' Sw.def_mk KX G ?a ?l ?c ?k
      (case a => k_is)
      (case l => k_is)
      (case c => k_is)
      (case k => k_is)
    case d_built =>
      refine' Sw.def_mk KX G ?a ?l ?c ?k
      (case a => k_is)
      (case l => k_is)
      (case c => k_is)
      (case k => k_is)
    case d_built_accepting =>
      refine' Sw.def_mk KX G ?a ?l ?c ?k
      (case a => k_is)
      (case l => k_is)
      (case c => k_is)
      (case k => k_is)
    case d__law_cell =>
      refine' Sw.def_mk KX G ?a ?l ?c ?k
      (case a => k_is)
      (case l => k_is)
      (case c => k_is)
      (case k => k_is)
    case d__law_box =>
      refine' Sw.def_mk KX G ?a ?l ?c ?k
      (case a => k_is)
      (case l => k_is)
      (case c => k_is)
      (case k => k_is)
    case d__law_take =>
      refine' Sw.def_mk KX G ?a ?l ?c ?k
      (case a => k_is)
      (case l => k_is)
      (case c => k_is)
      (case k => k_is)
    case d__law_first =>
      refine' Sw.def_mk KX G ?a ?l ?c ?k
      (case a => k_is)
      (case l => k_is)
      (case c => k_is)
      (case k => k_is)
    case d__law_plain =>
      refine' Sw.def_mk KX G ?a ?l ?c ?k
      (case a => k_is)
      (case l => k_is)
      (case c => k_is)
      (case k => k_is)
    case d__law_numbers =>
      refine' Sw.def_mk KX G ?a ?l ?c ?k
      (case a => k_is)
      (case l => k_is)
      (case c => k_is)
      (case k => k_is)
    case d__law_is_count =>
      refine' Sw.def_mk KX G ?a ?l ?c ?k
      (case a => k_is)
      (case l => k_is)
      (case c => k_is)
      (case k => k_is)
    case d__law_judged =>
      refine' Sw.def_mk KX G ?a ?l ?c ?k
      (case a => k_is)
      (case l => k_is)
      (case c => k_is)
      (case k => k_is)
    case d__law_spoiled =>
      refine' Sw.def_mk KX G ?a ?l ?c ?k
      (case a => k_is)
      (case l => k_is)
      (case c => k_is)
      (case k => k_is)
    case d__law_is_subadditive =>
      refine' Sw.def_mk KX G ?a ?l ?c ?k
      (case a => k_is)
      (case l => k_is)
      (case c => k_is)
      (case k => k_is)
    case d__law_row_right =>
      refine' Sw.def_mk KX G ?a ?l ?c ?k
      (case a => k_is)
      (case l => k_is)
      (case c => k_is)
      (case k => k_is)
    case d__law_told =>
      refine' Sw.def_mk KX G ?a ?l ?c ?k
      (case a => k_is)
      (case l => k_is)
      (case c => k_is)
      (case k => k_is)
    case d__law_copy =>
      refine' Sw.def_mk KX G ?a ?l ?c ?k
      (case a => k_is)
      (case l => k_is)
      (case c => k_is)
      (case k => k_is)
    case d__law_refused =>
      refine' Sw.def_mk KX G ?a ?l ?c ?k
      (case a => k_is)
      (case l => k_is)
      (case c => k_is)
      (case k => k_is)
    case d__law_spoiled_right =>
      refine' Sw.def_mk KX G ?a ?l ?c ?k
      (case a => k_is)
      (case l => k_is)
      (case c => k_is)
      (case k => k_is)
    case d__law_right =>
      refine' Sw.def_mk KX G ?a ?l ?c ?k
      (case a => k_is)
      (case l => k_is)
      (case c => k_is)
      (case k => k_is)
    case d_law =>
      refine' Sw.def_mk KX G ?a ?l ?c ?k
      (case a => k_is)
      (case l => k_is)
      (case c => k_is)
      (case k => k_is)
