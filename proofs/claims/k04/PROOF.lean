import PyProof.Rows.All
import Wide.All
import OpenK.AllK
import Wide.FinOn
import HandS.ForMost
import HandS.Wide
import HandS.Style
import HandS.IsInst
import HandS.Conv
import HandS.Walk
import HandS.Codes
import HandS.TupAny
import HandS.RaiseMore
import HandS.Flt
import HandS.Flow
import KE.GoesMore
import HandS.Ends
import HandS.ExcInit
import HandS.ExcField
import HandS.ExcOwn
import HandS.TryMany
import HandS.ExcIs
import KE.KExcIs
import HandS.Deep
import KE.KEqDict
import HandS.ListEq
import PyProof.NeKinds
import PySem.Challenge.RW_spoiltways_k04_kinds_and_passings
set_option Elab.async false
set_option linter.all false
set_option maxRecDepth 100000
set_option maxHeartbeats 4000000
namespace Sw
open PySem PySem.Spec PyProof.Rows L2

/-! ### texts as lists of signs -/
def S (l : List Nat) : Str := ⟨l.toArray⟩
theorem S_len (l : List Nat) : (S l).length = l.length := by simp [S, Str.length]
theorem S_size (l : List Nat) : (S l).cps.size = l.length := by simp [S]
theorem S_list (l : List Nat) : (S l).cps.toList = l := by simp [S]
theorem S_app (a b : List Nat) : S a ++ S b = S (a ++ b) := by
  show Str.append _ _ = _
  simp [S, Str.append]
theorem S_get (l : List Nat) (i : Nat) : (S l).cps[i]? = l[i]? := by simp [S]
theorem S_inj {a b : List Nat} : S a = S b ↔ a = b := by
  constructor
  · intro h
    have e : (S a).cps.toList = (S b).cps.toList := by rw [h]
    rwa [S_list, S_list] at e
  · rintro rfl; rfl
theorem S_dec (a b : List Nat) : decide (V.str (S a) = V.str (S b)) = decide (a = b) := by
  by_cases h : a = b
  · subst h; simp
  · rw [decide_eq_false h, decide_eq_false]
    intro e
    exact h (S_inj.mp (V.str.inj e))

/-! ### calls of own defs -/
section
variable (P : Program) (w : World) (K : PySem.W.Frag) (mg : Str → Option Value) (base : Heap)
/-- the def x of the text st stands -/
def Def (x : Str) (st : Stmt) : Prop := ∃ (f : Addr) (fd : FuncData), Fun K x x st f fd ∧ mg x = some (.ref f)
/-- the def x keeps its promise -/
def Cal (x : Str) (ps : List Str) (k : Nat) (sp : Sp) : Prop := ∃ (f : Addr) (fd : FuncData), FnOk P w K mg base CX0 k f fd ps sp ∧ mg x = some (.ref f) ∧ PySem.W.keepIn K (.ref f) = true ∧ Binds K fd ps []
end
section
variable {P : Program} {w : World} {K : PySem.W.Frag} {mg : Str → Option Value} {base : Heap}
theorem Def.cal {x : Str} {st : Stmt} {ps : List Str} {k : Nat} {sp : Sp} (d : Def K mg x st)
    (b : ∀ (kV doc pm : Value) (an : Option Addr) (cdv ct : Value) (us : List Value), us.length = ps.length → bindArgs (PySem.W.fnOf x x (defArgs st) (defBody st) (defScope st) .none kV doc pm an cdv ct) ⟨us, []⟩ = pure (ps.zip us))
    (ok : ∀ (f : Addr) (fd : FuncData), Fun K x x st f fd → FnOk P w K mg base CX0 k f fd ps sp) : Cal P w K mg base x ps k sp := by
  obtain ⟨f, fd, F, m⟩ := d
  exact ⟨f, fd, ok f fd F, m, F.kp, F.binds b⟩
end
section
variable {X : Cx} {x : Str} {ps : List Str} {k n : Nat} {sp : Sp} {e : Expr} {es : List Expr} {t : TA} {p pos : Pos}
theorem pe_cal (c : Cal X.prog X.w X.K X.mg X.base x ps k sp) (hr : Room n X.A) (ha : PA X (e :: es) t) (hg : Gl X x := by rfl) (hk : k ≤ n := by decide)
    (hdb : (x == ("__debug__" : Str)) = false := by decide) (he : starEach (e :: es) X.env = (false, eval e X.env) :: starEach es X.env := by rfl) (hpl : (backTo pos (starEach es X.env)).any (·.1) = false := by rfl) :
    PE X (.Call (.Name x p) (e :: es) [] pos) (tCall sp [] E0 t) := by
  obtain ⟨f, fd, F, m, kp, b⟩ := c
  exact pe_call F (hr.mono hk) hg m kp b .nil pass0 ha hdb he hpl
end

/-! ### answers to readings -/
section
variable {σ : L2.St} {H : Hp} {Q : VK} {D : Ends}
theorem i_seq {t u : TS} (h : t { D with nx := u D } σ H) : tSeq t u D σ H := h
theorem i_asg {te : TE} {g : TG} (h : te σ H fun x H1 => g x σ H1 D.nx) : tAsg te g D σ H := h
theorem i_name {i : Nat} {v : V} {R : L2.St → Hp → Prop} (h : R (σ.set i (some v)) H) : gName i v σ H R := h
theorem i_ret {te : TE} (h : te σ H D.rt) : tRet te D σ H := h
theorem i_var {i : Nat} {v : V} (e : σ[i]? = some (some v)) (h : Q v H) : tVar i σ H Q := ⟨v, e, h⟩
theorem i_c {v : V} (h : Q v H) : tC v σ H Q := h
theorem i_op {r : R2} {ta tb : TE} (h : ta σ H fun x H1 => tb σ H1 fun y H2 => r x y H2 Q) : tOp r ta tb σ H Q := h
theorem i_un {r : V → Hp → VK → Prop} {ta : TE} (h : ta σ H fun x H1 => r x H1 Q) : tUn r ta σ H Q := h
theorem i_rI {C : Int → Int → Prop} {g : Int → Int → V} {a b : Int} (c : C a b) (h : Q (g a b) H) : rI C g (.int a) (.int b) H Q := ⟨a, b, rfl, rfl, c, h⟩
theorem i_rI0 {g : Int → Int → V} {a b : Int} (h : Q (g a b) H) : rI0 g (.int a) (.int b) H Q := ⟨a, b, rfl, rfl, h⟩
theorem i_cb {r : List V → Hp → VK → Prop} {t : TA} (h : t σ H fun vs H1 => r vs H1 Q) : tCB r t σ H Q := h
theorem i_cons {ta : TE} {tr : TA} {R : List V → Hp → Prop} (h : ta σ H fun x H1 => tr σ H1 fun xs H2 => R (x :: xs) H2) : tCons ta tr σ H R := h
theorem i_nil {R : List V → Hp → Prop} (h : R [] H) : tNil σ H R := h
theorem i_call {sp : Sp} {dvs : List V} {E : XK} {t : TA} (h : t σ H fun vs H1 => sp (vs ++ dvs) H1 Q E) : tCall sp dvs E t σ H Q := h
theorem i_if {c : TT} {t u : TS} (h : c σ H fun b H1 => if b = true then t D σ H1 else u D σ H1) : tIfS c t u D σ H := h
theorem i_ifE {c : TT} {t u : TE} (h : c σ H fun b H1 => if b = true then t σ H1 Q else u σ H1 Q) : tIf c t u σ H Q := h
theorem i_test {t : TE} {R : Bool → Hp → Prop} (h : t σ H fun x H1 => ∃ k, x = .bl k ∧ R k H1) : tTest t σ H R := h
theorem i_bl {k : Bool} {R : Bool → Prop} (h : R k) : ∃ k', V.bl k = .bl k' ∧ R k' := ⟨k, rfl, h⟩
theorem i_and {t u : TT} {R : Bool → Hp → Prop} (h : t σ H fun c H1 => if c = true then u σ H1 R else R false H1) : tAnd t u σ H R := h
theorem i_or {t u : TT} {R : Bool → Hp → Prop} (h : t σ H fun c H1 => if c = true then R true H1 else u σ H1 R) : tOr t u σ H R := h
theorem i_not {t : TT} {R : Bool → Hp → Prop} (h : t σ H fun c H1 => R (!c) H1) : tNot t σ H R := h
theorem i_lst {t : TA} (h : t σ H fun xs H1 => xs.length ≤ sizeLine ∧ ∀ p, H1 p = none → Q (.ref p) (upd H1 p (.lst xs))) : tLst t σ H Q := h
theorem i_tup {t : TA} (h : t σ H fun xs H1 => xs.length ≤ sizeLine ∧ ∀ p, H1 p = none → Q (.ref p) (upd H1 p (.tup xs))) : tTup t σ H Q := h
theorem iteB {p : Prop} [Decidable p] {A B : Prop} (h1 : p → A) (h2 : ¬ p → B) : if decide p = true then A else B := by
  by_cases h : p
  · rw [decide_eq_true h]; exact iteT (h1 h)
  · rw [decide_eq_false h]; exact iteF (h2 h)
theorem iteC {c : Bool} {A B : Prop} (h1 : c = true → A) (h2 : c = false → B) : if c = true then A else B := by
  cases c with
  | true => exact iteT (h1 rfl)
  | false => exact iteF (h2 rfl)
/-- xs[i], xs a list of which the item is known -/
theorem i_ixL {K : PySem.W.Frag} {p : Addr} {xs : List V} {i : Int} {v : V} (h1 : SqL K H p xs) (h2 : atI xs i = some v) (h : Q v H) : rIxL K (.ref p) (.int i) H Q := ⟨p, xs, i, v, rfl, rfl, h1, h2, h⟩
theorem i_ixT {K : PySem.W.Frag} {p : Addr} {xs : List V} {i : Int} {v : V} (h1 : SqT K H p xs) (h2 : atI xs i = some v) (h : Q v H) : rIxT K (.ref p) (.int i) H Q := ⟨p, xs, i, v, rfl, rfl, h1, h2, h⟩
end

/-! ### the box of draws -/
/-- the box at b: the rest n of a great cell, whether it is one, the seed c, the draws d so far -/
structure BoxAt (H : Hp) (b : Addr) (d : Int) : Prop where
  ex : ∃ (n : Int) (g : Bool) (c e : Int), H b = some (.lst [.int n, .bl g, .int c, .int e]) ∧ 0 ≤ n ∧ 0 ≤ c ∧ c < 2147483629 ∧ 0 ≤ e ∧ e ≤ d
/-- all but the object at b is as it was -/
def SB (b : Addr) (H H' : Hp) : Prop := ∀ a o, a ≠ b → H a = some o → H' a = some o
theorem SB.refl {b : Addr} (H : Hp) : SB b H H := fun _ _ _ h => h
theorem SB.trans {b : Addr} {H H1 H2 : Hp} (x : SB b H H1) (y : SB b H1 H2) : SB b H H2 := fun a o n h => y a o n (x a o n h)
theorem SB.of {b : Addr} {H H' : Hp} (s : Same H H') : SB b H H' := fun a o _ h => s a o h
theorem SB.upd {b : Addr} {H : Hp} {o : HO} : SB b H (upd H b o) := fun a u n h => by rw [upd_ne n]; exact h
theorem BoxAt.mono {H : Hp} {b : Addr} {d d' : Int} (x : BoxAt H b d) (h : d ≤ d') : BoxAt H b d' := by
  obtain ⟨n, g, c, e, h1, h2, h3, h4, h5, h6⟩ := x.ex
  exact ⟨n, g, c, e, h1, h2, h3, h4, h5, by omega⟩
theorem BoxAt.same {H H' : Hp} {b : Addr} {d : Int} (x : BoxAt H b d) (s : Same H H') : BoxAt H' b d := by
  obtain ⟨n, g, c, e, h1, h⟩ := x.ex
  exact ⟨n, g, c, e, s _ _ h1, h⟩
theorem same_upd {H : Hp} {p : Addr} {o : HO} (h : H p = none) : Same H (upd H p o) := fun b x e => by
  rw [upd_ne (ne_of_none e h)]
  exact e
/-- _law_take(box, many): a number below many; the box is one draw further at most -/
def spTake : Sp := fun vs H Q _ => ∃ (b : Addr) (m d : Int), vs = [.ref b, .int m] ∧ BoxAt H b d ∧ d ≤ 1000000 ∧ 0 < m ∧ m < 2 ^ 64 ∧
  ∀ (r : Int) (H' : Hp), 0 ≤ r → r < m → BoxAt H' b (d + 1) → SB b H H' → Q (.int r) H'
/-- _law_box(great) -/
def spBox : Sp := fun vs H Q _ => ∃ n : Int, vs = [.int n] ∧ ∀ (b : Addr) (H' : Hp), H b = none → Same H H' → BoxAt H' b 0 → Q (.ref b) H'
/-- _law_cell(script, k) -/
def spCell (K : PySem.W.Frag) : Sp := fun vs H Q _ => ∃ (a : Addr) (ns : List Int) (k : Int), vs = [.ref a, .int k] ∧ SqL K H a (ns.map V.int) ∧ 0 ≤ k ∧ k < 1000 ∧
  ∀ (n : Int) (H' : Hp), Same H H' → Q (.int n) H'
/-! ### more answers -/
section
variable {σ : L2.St} {H : Hp} {Q : VK} {D : Ends} {K : PySem.W.Frag}
theorem i_next (h : D.nx σ H) : tNext D σ H := h
theorem i_drop {te : TE} (h : te σ H fun _ H1 => D.nx σ H1) : tDrop te D σ H := h
theorem i_sub {to ti : TE} {t : TSet} {v : V} {R : L2.St → Hp → Prop} (h : to σ H fun o H1 => ti σ H1 fun i H2 => t o i v H2 fun H3 => R σ H3) : gSub to ti t v σ H R := h
theorem i_setL {p : Addr} {xs : List V} {k : Int} {j : Nat} {v : V} {R : Hp → Prop} (h1 : H p = some (.lst xs)) (h2 : ixN xs.length k = some j) (h : R (upd H p (.lst (xs.set j v)))) : rSetL (.ref p) (.int k) v H R := ⟨p, xs, k, j, rfl, rfl, h1, h2, h⟩
theorem i_int {i : Int} (h : Q (.int i) H) : (∃ j, [V.int i] = [.int j] ∧ Q (.int j) H) ∨ ∃ k, [V.int i] = [.bl k] ∧ Q (.int (if k = true then 1 else 0)) H := .inl ⟨i, rfl, h⟩
theorem i_intB {b : Bool} (h : Q (.int (if b = true then 1 else 0)) H) : (∃ j, [V.bl b] = [.int j] ∧ Q (.int j) H) ∨ ∃ k, [V.bl b] = [.bl k] ∧ Q (.int (if k = true then 1 else 0)) H := .inr ⟨b, rfl, h⟩
theorem i_ix1 {α : Type} {P : α → Prop} {x : α} {R : α → Prop} (h : R x) : ∃ y, x = y ∧ R y := ⟨x, rfl, h⟩
theorem i_abs {i : Int} (h : Q (.int (if i < 0 then -i else i)) H) : ∃ j, [V.int i] = [.int j] ∧ Q (.int (if j < 0 then -j else j)) H := ⟨i, rfl, h⟩
theorem i_two {R : Int → Int → Prop} {i j : Int} (h : R i j) : ∃ a b, [V.int i, V.int j] = [.int a, .int b] ∧ R a b := ⟨i, j, rfl, h⟩
theorem i_one {R : Int → Prop} {i : Int} (h : R i) : ∃ a, [V.int i] = [.int a] ∧ R a := ⟨i, rfl, h⟩
theorem i_cmod {i m : Int} (h : 0 < m) : (fun (_ j : Int) => 0 < j) i m := h
theorem i_bm {T : String} {r : V → List V → Hp → VK → Prop} {to : TE} {t : TA} (h : to σ H fun x H1 => tyV K T x H1 ∧ t σ H1 fun xs H2 => r x xs H2 Q) : tBM K T r to t σ H Q := h
theorem i_tyL {p : Addr} {xs : List V} {R : Prop} (h1 : H p = some (.lst xs)) (h : R) : tyV K "list" (.ref p) H ∧ R := ⟨.inl ⟨rfl, xs, .inl (.inl h1)⟩, h⟩
theorem i_tyS {z : Str} {R : Prop} (h : R) : tyV K "str" (.str z) H ∧ R := ⟨rfl, h⟩
theorem i_append {p : Addr} {xs : List V} {y : V} (h1 : H p = some (.lst xs)) (h2 : xs.length < sizeLine) (h : Q .non (upd H p (.lst (xs ++ [y])))) : rAppend (.ref p) [y] H Q := ⟨p, xs, y, rfl, rfl, h1, h2, h⟩
theorem i_sl {r : V → Option Int → Option Int → Hp → VK → Prop} {te : TE} {tl th : TO} (h : te σ H fun x H1 => tl σ H1 fun l H2 => th σ H2 fun u H3 => r x l u H3 Q) : L2.tSl r te tl th σ H Q := h
theorem i_part {t : TE} {R : Option Int → Hp → Prop} (h : t σ H fun x H1 => ∃ i, x = .int i ∧ R (some i) H1) : tPart t σ H R := h
theorem i_nopart {R : Option Int → Hp → Prop} (h : R none H) : tNoPart σ H R := h
theorem i_exI {R : Int → Prop} {i : Int} (h : R i) : ∃ j, V.int i = .int j ∧ R j := ⟨i, rfl, h⟩
theorem i_chain {r r' : R2} {ta tb tc : TE} (h : ta σ H fun x H1 => tb σ H1 fun y H2 => r x y H2 fun z H3 => ∃ k, z = .bl k ∧ (if k = true then tc σ H3 fun w' H4 => r' y w' H4 Q else Q (.bl false) H3)) : tChain r r' ta tb tc σ H Q := h
theorem i_aug {i : Nat} {te : TE} {ti : TIp} {x : V} (e : σ[i]? = some (some x)) (h : te σ H fun y H1 => ti x y H1 fun z H2 => D.nx (σ.set i (some z)) H2) : tAug i te ti D σ H := ⟨x, e, h⟩
theorem i_ip {g : Int → Int → Int} {a b : Int} (h : Q (.int (g a b)) H) : ipI g (.int a) (.int b) H Q := ⟨a, b, rfl, rfl, h⟩
theorem i_par {i j : Nat} {ta : TA} (h : ta σ H fun vs H1 => ∃ v w, vs = [v, w] ∧ D.nx ((σ.set i (some v)).set j (some w)) H1) : tPar i j ta D σ H := h
theorem i_pair {R : V → V → Prop} {a b : V} (h : R a b) : ∃ v w, [a, b] = [v, w] ∧ R v w := ⟨a, b, rfl, h⟩
theorem i_andV {ta tb : TE} (h : ta σ H fun x H1 => ∃ c, x = .bl c ∧ if c = true then tb σ H1 Q else Q (.bl false) H1) : tAndV ta tb σ H Q := h
theorem i_orV {ta tb : TE} (h : ta σ H fun x H1 => ∃ c, x = .bl c ∧ if c = true then Q (.bl true) H1 else tb σ H1 Q) : tOrV ta tb σ H Q := h
theorem i_notV {ta : TE} (h : ta σ H fun x H1 => ∃ c, x = .bl c ∧ Q (.bl (!c)) H1) : tNotV ta σ H Q := h
theorem i_m1 {r : V → List V → Hp → VK → Prop} {to te : TE} (h : to σ H fun x H1 => (∃ a, x = .str a) ∧ te σ H1 fun y H2 => r x [y] H2 Q) : tM1 r to te σ H Q := h
theorem i_str {z : Str} {R : Prop} (h : R) : (∃ a, V.str z = .str a) ∧ R := ⟨⟨z, rfl⟩, h⟩
theorem i_len {p : Addr} {ys : List V} (h1 : SqL K H p ys ∨ SqT K H p ys) (h : Q (.int ys.length) H) : ∃ q zs, [V.ref p] = [.ref q] ∧ (SqL K H q zs ∨ SqT K H q zs) ∧ Q (.int zs.length) H := ⟨p, ys, rfl, h1, h⟩
theorem i_lenS {l : List Nat} (h1 : l.length ≤ sizeLine) (h : Q (.int (l.length : Int)) H) : ∃ z, [V.str (S l)] = [.str z] ∧ z.length ≤ sizeLine ∧ Q (.int z.length) H := ⟨S l, rfl, by rw [S_len]; exact h1, by rw [S_len]; exact h⟩
end
theorem sqL_of {K : PySem.W.Frag} {H : Hp} {a : Addr} {xs : List V} (h : H a = some (.lst xs)) : SqL K H a xs := .inl (.inl h)
theorem sqT_of {K : PySem.W.Frag} {H : Hp} {a : Addr} {xs : List V} (h : H a = some (.tup xs)) : SqT K H a xs := .inl (.inl h)
/-- the part of a text between two places -/
def cut (l : List Nat) (lo hi : Option Int) : List Nat := (l.drop (HT.sIx l.length 0 lo)).take (HT.sIx l.length l.length hi - HT.sIx l.length 0 lo)
theorem cutS_S (l : List Nat) (lo hi : Option Int) : cutS (S l) lo hi = S (cut l lo hi) := by
  unfold cutS cut
  rw [S_list, S_len]; rfl
theorem cut_from (l : List Nat) (k : Nat) : cut l (some (k : Int)) none = l.drop k := by
  unfold cut
  rw [HT.sIx_nat, HT.sIx_none]
  rcases Nat.le_total k l.length with h | h
  · rw [Nat.min_eq_left h, List.take_of_length_le (by rw [List.length_drop]; omega)]
  · rw [Nat.min_eq_right h, List.drop_length, List.drop_of_length_le h, List.take_nil]
theorem cut_to (l : List Nat) (k : Nat) : cut l none (some (k : Int)) = l.take k := by
  unfold cut
  rw [HT.sIx_nat, HT.sIx_none, List.drop_zero, Nat.sub_zero]
  rcases Nat.le_total k l.length with h | h
  · rw [Nat.min_eq_left h]
  · rw [Nat.min_eq_right h, List.take_length, List.take_of_length_le h]
theorem i_slS {l : List Nat} {lo hi : Option Int} {H : Hp} {Q : VK} (h1 : l.length ≤ sizeLine) (h : Q (.str (S (cut l lo hi))) H) : rSlS (.str (S l)) lo hi H Q := ⟨S l, rfl, by rw [S_len]; exact h1, by rw [cutS_S]; exact h⟩
theorem i_tB {t : TE} {R : Bool → Hp → Prop} {σ : L2.St} {H : Hp} (h : t σ H fun x H1 => ∃ c, x = .bl c ∧ R c H1) : tB t σ H R := h
theorem i_retN {σ : L2.St} {H : Hp} {D : Ends} (h : D.rt .non H) : tRetN D σ H := h
theorem i_par3 {i j l : Nat} {ta : TA} {σ : L2.St} {H : Hp} {D : Ends} (h : ta σ H fun vs H1 => ∃ u v w, vs = [u, v, w] ∧ D.nx (((σ.set i (some u)).set j (some v)).set l (some w)) H1) : tPar3 i j l ta D σ H := h
theorem i_trip {R : V → V → V → Prop} {a b c : V} (h : R a b c) : ∃ u v w, [a, b, c] = [u, v, w] ∧ R u v w := ⟨a, b, c, rfl, h⟩
theorem i_gTup {K : PySem.W.Frag} {n : Nat} {t : TGs} {a : Addr} {xs : List V} {σ : L2.St} {H : Hp} {R : L2.St → Hp → Prop} (h1 : SqT K H a xs) (h2 : xs.length = n) (h : t xs σ H R) : gTup K n t (.ref a) σ H R := ⟨a, xs, rfl, h1, h2, h⟩
theorem i_gCons {t : TG} {u : TGs} {v : V} {r : List V} {σ : L2.St} {H : Hp} {R : L2.St → Hp → Prop} (h : t v σ H fun σ' H' => u r σ' H' R) : gCons t u (v :: r) σ H R := ⟨v, r, rfl, h⟩
theorem i_gNil {σ : L2.St} {H : Hp} {R : L2.St → Hp → Prop} (h : R σ H) : gNil [] σ H R := ⟨rfl, h⟩
theorem i_lstRg {te : L2.St → Hp → (Int → Int → Hp → Prop) → Prop} {σ : L2.St} {H : Hp} {Q : VK} (h : te σ H fun a b H1 => RgOk a b ∧ ∀ q, H1 q = none → Q (.ref q) (upd H1 q (.lst (rgV a b)))) : tLstRg te σ H Q := h
theorem i_rg1 {ta : TE} {σ : L2.St} {H : Hp} {R : Int → Int → Hp → Prop} (h : ta σ H fun x H1 => ∃ n, x = .int n ∧ R 0 n H1) : tRg1 ta σ H R := h
theorem i_pow {g : Int → Int → V} {a b : Int} {H : Hp} {Q : VK} (h1 : 0 ≤ b) (h2 : b ≤ 1000000) (h3 : a.natAbs < 2 ^ 64) (h : Q (g a b) H) : rI CPow g (.int a) (.int b) H Q := ⟨a, b, rfl, rfl, ⟨h1, h2, h3⟩, h⟩
theorem S_le {l : List Nat} (h : l.length ≤ 100000) : (S l).length ≤ sizeLine := Nat.le_trans h (by decide)
theorem ints_get {ns : List Int} {j : Nat} {v : V} (h : (ns.map V.int)[j]? = some v) : ∃ i, ns[j]? = some i ∧ v = .int i := by
  rw [List.getElem?_map] at h
  cases e : ns[j]? with
  | none => rw [e] at h; cases h
  | some i => rw [e] at h; exact ⟨i, rfl, (Option.some.inj h).symm⟩
theorem ints_at {ns : List Int} {j : Nat} (h : j < ns.length) : (ns.map V.int)[j]? = some (.int ns[j]) := by
  rw [List.getElem?_map, List.getElem?_eq_getElem h]; rfl
theorem atI_ints {ns : List Int} {i : Int} (h0 : 0 ≤ i) (h1 : i < ns.length) : atI (ns.map V.int) i = some (.int (ns[i.toNat]'(by omega))) := by
  have h := atI_nat (xs := ns.map V.int) (ints_at (ns := ns) (show i.toNat < ns.length by omega))
  rwa [show ((i.toNat : Nat) : Int) = i by omega] at h
end Sw
namespace Sw
open PySem PySem.Spec PyProof.Rows L2
/-! ### x[::-1] of a text -/
def tRevS (te : TE) : TE := fun σ H Q => te σ H fun x H1 => ∃ l, x = .str (S l) ∧ l.length ≤ sizeLine ∧ Q (.str (S l.reverse)) H1
theorem fmap_map {α β : Type} {f : α → Option β} {g : α → β} : ∀ {l : List α}, (∀ a ∈ l, f a = some (g a)) → l.filterMap f = l.map g
  | [], _ => rfl
  | a :: l, h => by
    rw [List.filterMap_cons, h a List.mem_cons_self, List.map_cons, fmap_map fun b hb => h b (List.mem_cons_of_mem _ hb)]
theorem rev_list (l : List Nat) : ((Builtin.Str.strSliceIndices none none (-1) l.length).filterMap (l.toArray[·]?)) = l.reverse := by
  rw [PyProof.Rows.picked_rev, List.filterMap_map]
  apply List.ext_getElem?
  intro k
  have hf : List.filterMap ((fun x => l.toArray[x]?) ∘ fun k => l.length - 1 - k) (List.range l.length) = (List.range l.length).map fun k => l.getD (l.length - 1 - k) 0 := by
    refine fmap_map fun a ha => ?_
    have ha' : a < l.length := List.mem_range.mp ha
    have hb : l.length - 1 - a < l.length := by omega
    show l.toArray[l.length - 1 - a]? = some (l.getD (l.length - 1 - a) 0)
    rw [List.getElem?_toArray, List.getD_eq_getElem?_getD, List.getElem?_eq_getElem hb]
    rfl
  rw [hf, List.getElem?_map]
  by_cases hk : k < l.length
  · have hb : l.length - 1 - k < l.length := by omega
    rw [List.getElem?_range hk, List.getElem?_reverse hk]
    show some (l.getD (l.length - 1 - k) 0) = _
    rw [List.getD_eq_getElem?_getD, List.getElem?_eq_getElem hb]
    rfl
  · rw [List.getElem?_eq_none (by rw [List.length_range]; omega), List.getElem?_eq_none (by rw [List.length_reverse]; omega)]
    rfl
theorem pe_revS {X : Cx} {e : Expr} {te : TE} {k : Nat} {p1 p2 p3 pos : Pos} (he : PE X e te) :
    PE X (.Subscript e (.Slice none none (some (.UnaryOp .USub (.Constant (.int 1) k p1) p2)) p3) pos) (tRevS te) := by
  constructor
  intro pins s σ H Q I h
  refine Subscript_ (thn (he.run pins s σ H _ I h) fun v s1 ⟨x, H1, I1, r1, l, ex, hl, q⟩ => ?_)
  subst ex
  obtain ⟨tk, rfl⟩ := r1
  have st : PO X (some (.UnaryOp .USub (.Constant (.int 1) k p1) p2)) (tPart (tUn (rU fun i => .int (-i)) (tC (.int 1)))) := po_some (pe_un un_neg pe_int)
  refine wpAny_Slice (thn (po_none.run pins s1 σ H1 (fun o G => o = none ∧ G = H1) I1 ⟨rfl, rfl⟩) fun w1 s2 ⟨o1, G1, J1, z1, a1, b1⟩ => ?_)
  subst a1 b1
  refine thn (po_none.run pins s2 σ G1 (fun o G => o = none ∧ G = G1) J1 ⟨rfl, rfl⟩) fun w2 s3 ⟨o2, G2, J2, z2, a2, b2⟩ => ?_
  subst a2 b2
  refine thn (st.run pins s3 σ G2 (fun o G => o = some (-1) ∧ G = G2) J2 ⟨1, rfl, -1, rfl, rfl, rfl⟩) fun w3 s4 ⟨o3, G3, J3, z3, a3, b3⟩ => ?_
  subst a3 b3
  have J4 : Inv X pins σ G3 { s4 with heap := s4.heap.push { cls := .type "slice", data := .fields #[w1, w2, w3] } } := J3.kept (t' := s4.toks) fun b ob q => Heap.get?_push_of_some _ q
  obtain ⟨y1, rfl, f1⟩ := IsPart.raw z1
  obtain ⟨y2, rfl, f2⟩ := IsPart.raw z2
  obtain ⟨y3, rfl, f3⟩ := IsPart.raw z3
  cases y1 with
  | some y => cases f1
  | none =>
  cases y2 with
  | some y => cases f2
  | none =>
  cases y3 with
  | none => cases f3
  | some y =>
  obtain ⟨m, u⟩ := y
  have em : m = -1 := Option.some.inj f3
  subst em
  refine tail_any (T := "str") (id := _) (ops := [.str (S l) tk, .ref s4.heap.objs.size]) (typeIs_str _ _ _) F.slot_str_getitem.lookup ?_ (by with_unfolding_all rfl)
  refine wpAny_getItem_str_slice (l := none) (u := none) (st := some (-1, u)) ⟨_, Heap.get?_push_size _ rfl, rfl, rfl⟩ rfl ?_
  show Made.post (if ((-1 : Int) == 1 && (Builtin.Str.strSliceIndices none none (-1) (S l).length).length == (S l).length) = true then Made.val (.str (S l) tk)
    else Made.str ⟨((Builtin.Str.strSliceIndices none none (-1) (S l).length).filterMap ((S l).cps[·]?)).toArray⟩) (EP X pins σ Q) _
  rw [if_neg (by rw [show ((-1 : Int) == 1) = false from rfl, Bool.false_and]; exact Bool.false_ne_true)]
  have e : ((Builtin.Str.strSliceIndices none none (-1) (S l).length).filterMap ((S l).cps[·]?)) = l.reverse := by
    rw [S_len]
    exact rev_list l
  rw [e]
  refine ⟨by show (S l.reverse).length ≤ sizeLine; rw [S_len, List.length_reverse]; exact hl, .str (S l.reverse), G3, J4.tok _, ⟨_, rfl⟩, q⟩
/-! ### enumerate(text) -/
/-- a text's signs, each in a new pair with its number -/
def ItE (x : Str) : It := ⟨fun i _ => i < x.cps.size, fun i H v H' => ∃ T c, v = .ref T ∧ H T = none ∧ x.cps[i]? = some c ∧ H' = upd H T (.tup [.int (i : Nat), .str ⟨#[c]⟩]), fun i _ => i = x.cps.size⟩
theorem turn_enumS {P : Program} {w : World} {K : PySem.W.Frag} {elts : List Expr} {kk : Nat} {tpos : Pos} (x : Str) (t : Tok) (e it : Addr) (hne : e ≠ it) :
    Turn P w K (.Tuple elts kk tpos) (ItE x) [e, it] e (fun i h => (∃ old, IsEnum h e it ((i : Nat) : Int) old) ∧ h.IsStrIter it (strIterType x) x t i) := by
  refine ⟨by simp, fun i h st b hb => ?_, fun i h h' st k => ?_, ?_, ?_, fun A i s Q E st h => ?_⟩
  · obtain ⟨⟨old, he⟩, o, ho, hc, hd⟩ := st
    have e' : b = e ∨ b = it := by simpa using hb
    rcases e' with rfl | rfl
    · exact ⟨_, he, fun v q => nomatch q⟩
    · exact ⟨o, ho, fun v q => by rw [hd] at q; cases q⟩
  · obtain ⟨⟨old, he⟩, o, ho, z⟩ := st
    exact ⟨⟨old, k e (by simp) _ he⟩, o, k it (by simp) o ho, z⟩
  · rintro X rfl rfl rfl hc i pins s σ H E I hf ⟨⟨old, he⟩, hit⟩ hg
    have hh : X.A.in1.handled = none := I.ok.hd hc
    have DD := Draws.text (prog := X.prog) (w := X.w) (A := X.A.in1) hh it x t
    have l1 : e < s.heap.objs.size := Heap.lt_size he
    have l2 : it < s.heap.objs.size := by obtain ⟨_, q, _⟩ := hit; exact Heap.lt_size q
    refine wpAny_pyNext_enum_itemD DD he hit hg hne (by simpa using hne) fun v h1 tk hv ho hit' hT hsz hk => ?_
    obtain ⟨c, u, hc', rfl⟩ := hv
    refine ⟨_, rfl, wpAny_letOwnedTupleGo_enum (s := { s with heap := h1, toks := tk + 1 }) ho fun h2 he' sb => ?_⟩
    have nT := Nat.ne_of_gt l1
    have gT : h2.get? s.heap.objs.size = some { cls := .type "tuple", data := .seq #[.int i tk, .str ⟨#[c]⟩ u] } := (sb.2 _ nT).trans hT
    have fresh : H s.heap.objs.size = none := I.hok.fresh (Nat.le_refl _)
    have new : ObjOk X.prog X.w (upd H s.heap.objs.size (.tup [.int (i : Nat), .str ⟨#[c]⟩])) h2 s.heap.objs.size (.tup [.int (i : Nat), .str ⟨#[c]⟩]) :=
      ⟨Nat.le_of_ble_eq_true rfl, [.int i tk, .str ⟨#[c]⟩ u], .cons ⟨_, rfl⟩ (.cons ⟨_, rfl⟩ .nil), _, gT, rfl, _, rfl⟩
    have J : Inv X pins σ (upd H s.heap.objs.size (.tup [.int (i : Nat), .str ⟨#[c]⟩])) { s with heap := h2, toks := tk + 1 } := by
      refine I.turnedNew (ch := [e, it]) (fun b ob hb q => ?_) hf (Nat.le_refl _) new
      have n1 : b ≠ e := fun z => hb (by simp [z])
      have n2 : b ≠ it := fun z => hb (by simp [z])
      exact (sb.2 b n1).trans (hk b ob n1 n2 q)
    refine ⟨.ref s.heap.objs.size, _, J, rfl, ⟨_, c, rfl, fresh, hc', rfl⟩, ⟨⟨.str ⟨#[c]⟩ u, ?_⟩, ?_⟩, fun b hb => ?_⟩
    · rw [show ((i + 1 : Nat) : Int) = (i : Int) + 1 by omega]
      exact he'
    · obtain ⟨o, g1, g2⟩ := hit'
      exact ⟨o, (sb.2 it (Ne.symm hne)).trans g1, g2⟩
    · have lb : b < s.heap.objs.size := by
        have e' : b = e ∨ b = it := by simpa using hb
        rcases e' with rfl | rfl <;> assumption
      rw [upd_ne (Nat.ne_of_lt lb)]
      exact (hf b hb).1
  · rintro X rfl rfl rfl hc i pins s σ H E I hf ⟨⟨old, he⟩, hit⟩ hg
    have hh : X.A.in1.handled = none := I.ok.hd hc
    have DD := Draws.text (prog := X.prog) (w := X.w) (A := X.A.in1) hh it x t
    have hi : i = x.cps.size := hg
    subst hi
    obtain ⟨f0, f1, f2, f3, f4, f5⟩ := hf it (by simp)
    exact wpAny_pyNext_enum_endD DD he hit fun h1 eb => ⟨rfl, I.turned (t' := s.toks) (fun b o hb q => eb b o hb q) f0 f1 f3 f4 f5⟩
  · obtain ⟨⟨old, he⟩, _⟩ := st
    exact wpAny_pyIter_enum he h
def iEnS (ta : TA) : TI := fun σ H R => ta σ H fun vs H1 => ∃ x, vs = [.str x] ∧ R (ItE x) H1
theorem pi_enumS {X : Cx} {e : Expr} {ta : TA} {p pos tpos : Pos} {elts : List Expr} {kk : Nat} (hg : Gl X "enumerate") (hm : X.mg "enumerate" = none) (ha : PA X [e] ta) (hs : starEach [e] X.env = [(false, eval e X.env)] := by rfl) :
    PI X (.Tuple elts kk tpos) (.Call (.Name "enumerate" p) [e] [] pos) (iEnS ta) := by
  constructor
  intro pins s σ H R I h
  refine Call_ (ld_blt I hg hm boot_enumerate (PyProof.Rows.callWith_type1 (thn (ha.run pos pins s σ H _ I h) fun us s1 q1 => ?_) hs rfl))
  obtain ⟨vs, H1, I1, r1, x, rfl, q⟩ := q1
  cases r1 with
  | cons r rr =>
    cases rr
    obtain ⟨t, rfl⟩ := r
    refine call_enumerate_str fun h1 he hit hsz hk => wpAny_pyIter_enum he ?_
    have J : Inv X pins σ H1 { s1 with heap := h1 } := I1.kept (t' := s1.toks) hk
    refine ⟨s1.heap.objs.size + 1, [s1.heap.objs.size + 1, s1.heap.objs.size], _, ItE x, H1, rfl, J, turn_enumS x t _ _ (Nat.succ_ne_self _), ⟨⟨.none, he⟩, hit⟩, fun b hb => ?_, q⟩
    have lb : s1.heap.objs.size ≤ b := by
      have e' : b = s1.heap.objs.size + 1 ∨ b = s1.heap.objs.size := by simpa using hb
      rcases e' with rfl | rfl
      · exact Nat.le_succ _
      · exact Nat.le_refl _
    exact I1.fpOk lb (I1.hok.fresh lb)
theorem walk_enumS {x : Str} : Walk (ItE x) x.cps.size (fun _ => True) (fun i H v H' => ∃ T c, v = .ref T ∧ H T = none ∧ x.cps[i]? = some c ∧ H' = upd H T (.tup [.int (i : Nat), .str ⟨#[c]⟩])) :=
  ⟨fun _ _ hi _ => hi, fun _ _ => rfl, fun _ _ _ _ _ _ y => y⟩
end Sw
namespace Sw
open PySem PySem.Spec PyProof.Rows L2
/-! ### comprehensions that leave all as it was -/
theorem lc_map {J : It} {n : Nat} {G : Hp → Prop} {Y : Nat → Hp → V → Hp → Prop} {g : TG} {te : TE} {vs : List Nat} {σ : L2.St} {H1 : Hp} {D : Addr} {Qd : Hp → Prop} (w : Walk J n G Y) (f : Nat → V)
    (hn : n ≤ 1000000) (nD : H1 D = none) (hG : ∀ H, Same H1 H → G H)
    (hs : ∀ i x H H', i < n → Same H1 H → Y i H x H' → ∀ R : V → Hp → Prop, (∀ H4, Same H H4 → R (f i) H4) → g x (wipe σ vs) H' fun σ2 H2 => wipe σ2 vs = wipe σ vs ∧ te σ2 H2 R)
    (hd : ∀ H, Same H1 H → H D = some (.lst ((List.range n).map f)) → Qd H)
    (hmono : ∀ x σ H (R R' : L2.St → Hp → Prop), (∀ σ' H', R σ' H' → R' σ' H') → g x σ H R → g x σ H R') :
    ∃ W : Nat → Nat → Hp → Prop, (∃ m, W 0 m (upd H1 D (.lst []))) ∧ ∀ i m H, W i m H →
      (J.stop i H ∧ Qd H) ∨ (J.go i H ∧ ∃ Nx : Hp → Prop, (∀ H', Nx H' → ∃ m', m' < m ∧ W (i + 1) m' H') ∧ ∀ x H', J.yld i H x H' → g x (wipe σ vs) H' fun σ2 H2 => wipe σ2 vs = wipe σ vs ∧ tYes σ2 H2 fun b H3 =>
        if b = true then te σ2 H3 fun y H4 => ∃ acc, H4 D = some (.lst acc) ∧ acc.length < sizeLine ∧ Nx (upd H4 D (.lst (acc ++ [y]))) else Nx H3) := by
  refine lc_it w (fun i H => Same H1 H ∧ H D = some (.lst ((List.range i).map f))) ⟨same_upd nD, upd_same⟩ (fun i H _ p => hG H p.1) (fun i x H H' hi p y => ?_) (fun H p => hd H p.1 p.2)
  refine hmono _ _ _ _ _ (fun σ2 H2 q => ?_) (hs i x H H' hi p.1 y (fun y H4 => ∃ acc, H4 D = some (.lst acc) ∧ acc.length < sizeLine ∧ (Same H1 (upd H4 D (.lst (acc ++ [y]))) ∧ (upd H4 D (.lst (acc ++ [y]))) D = some (.lst ((List.range (i + 1)).map f)))) (fun H4 s4 => ?_))
  · refine ⟨q.1, ?_⟩
    unfold tYes
    dsimp only
    rw [if_pos rfl]
    exact q.2
  · refine ⟨_, s4 _ _ p.2, ?_, fun b o e => ?_, ?_⟩
    · rw [List.length_map, List.length_range]
      exact Nat.lt_of_lt_of_le hi (Nat.le_trans hn (by decide))
    · rw [upd_ne (ne_of_none e nD)]
      exact s4 _ _ (p.1 _ _ e)
    · rw [upd_same, List.range_succ, List.map_append]
      rfl
theorem mono_name {i : Nat} (x : V) (σ : L2.St) (H : Hp) (R R' : L2.St → Hp → Prop) (h : ∀ σ' H', R σ' H' → R' σ' H') (q : gName i x σ H R) : gName i x σ H R' := h _ _ q
theorem range_map_get {α β : Type} (l : List α) (F : Nat → β) (g : α → β) (h : ∀ i x, l[i]? = some x → F i = g x) : (List.range l.length).map F = l.map g := by
  apply List.ext_getElem?
  intro i
  rw [List.getElem?_map, List.getElem?_map]
  by_cases hi : i < l.length
  · rw [List.getElem?_range hi, List.getElem?_eq_getElem hi]
    show some (F i) = some (g l[i])
    rw [h i _ (List.getElem?_eq_getElem hi)]
  · rw [List.getElem?_eq_none (by rw [List.length_range]; omega), List.getElem?_eq_none (by omega)]; rfl
/-! ### isinstance -/
theorem i_isi {K : PySem.W.Frag} {H : Hp} {Q : VK} {x : V} {t : Value} {n : String} (b : Bool) (h1 : TyX K H x t) (h2 : PySem.W.kitOne K t (.type n) = some b) (h : Q (.bl b) H) : rIsi K [x, .ty n] H Q := ⟨x, .ty n, t, .type n, b, rfl, .ty n, h1, h2, h⟩
/-! ### texts of letters -/
def azB (l : List Nat) : Bool := l.all fun c => decide (97 ≤ c ∧ c ≤ 122)
theorem azB_app (a b : List Nat) : azB (a ++ b) = (azB a && azB b) := by simp [azB, List.all_append]
theorem azB_take {l : List Nat} (h : azB l = true) (n : Nat) : azB (l.take n) = true := by
  unfold azB at *
  rw [List.all_eq_true] at *
  exact fun x hx => h x (List.mem_of_mem_take hx)
theorem azB_drop {l : List Nat} (h : azB l = true) (n : Nat) : azB (l.drop n) = true := by
  unfold azB at *
  rw [List.all_eq_true] at *
  exact fun x hx => h x (List.mem_of_mem_drop hx)
theorem az_letters : (("abcdefghijklmnopqrstuvwxyz" : Str)).cps.toList = List.range' 97 26 := by decide +kernel
theorem az_in (c : Nat) : decide (c ∈ (("abcdefghijklmnopqrstuvwxyz" : Str)).cps.toList) = decide (97 ≤ c ∧ c ≤ 122) := by
  rw [az_letters]
  by_cases h : 97 ≤ c ∧ c ≤ 122
  · rw [decide_eq_true h, decide_eq_true]
    exact List.mem_range'_1.mpr ⟨h.1, by omega⟩
  · rw [decide_eq_false h, decide_eq_false]
    intro q
    have := List.mem_range'_1.mp q
    omega
theorem e_empty : (("" : Str)) = S [] := by decide +kernel
theorem starts_S (a b : List Nat) : Txt.startswith (S a) (S b) = decide (a.take b.length = b) := by
  unfold Txt.startswith Builtin.Str.subAt
  rw [S_len, S_len]
  show (decide (0 + b.length ≤ a.length) && ((a.toArray.extract 0 (0 + b.length)) == b.toArray)) = _
  rw [Nat.zero_add]
  have e : (a.toArray.extract 0 b.length) = (a.take b.length).toArray := by
    rw [List.extract_toArray, List.extract_eq_take_drop]
    simp
  rw [e]
  by_cases h : a.take b.length = b
  · rw [h, decide_eq_true rfl, beq_self_eq_true, Bool.and_true, decide_eq_true]
    have := congrArg List.length h
    rw [List.length_take] at this
    omega
  · rw [decide_eq_false h]
    have : ((a.take b.length).toArray == b.toArray) = false := by
      rw [beq_eq_false_iff_ne]
      intro q
      exact h (by simpa using q)
    rw [this, Bool.and_false]
/-! ### what is known of a heap stays -/
theorem Same.at {H H' : Hp} {a : Addr} {o : HO} (s : Same H H') (h : H a = some o) : H' a = some o := s a o h
theorem Same.sqT {K : PySem.W.Frag} {H H' : Hp} {a : Addr} {xs : List V} (e : Same H H') (h : SqT K H a xs) : SqT K H' a xs := by
  rcases h with (h | ⟨o, h⟩) | h
  · exact .inl (.inl (e _ _ h))
  · exact .inl (.inr ⟨o, e _ _ h⟩)
  · exact .inr h
theorem Same.sqL {K : PySem.W.Frag} {H H' : Hp} {a : Addr} {xs : List V} (e : Same H H') (h : SqL K H a xs) : SqL K H' a xs := e.seq h
theorem Same.upd_new {H H1 : Hp} {p : Addr} {o : HO} (s : Same H H1) (n : H1 p = none) : Same H (upd H1 p o) := s.trans (same_upd n)
/-- an object that is new since H is written: what was tracked at H stays -/
theorem Same.set_new {H H1 : Hp} {p : Addr} {o : HO} (s : Same H H1) (n : H p = none) : Same H (upd H1 p o) := fun b x e => by
  rw [upd_ne (ne_of_none e n)]
  exact s _ _ e
/-! ### loops and comprehensions, their source apart -/
def LcGo (J : It) (g : TG) (tt : TT) (te : TE) (vs : List Nat) (σ : L2.St) (H : Hp) (Q : VK) : Prop := tLc (fun _ H R => R J H) g tt te vs σ H Q
def ForGo (J : It) (g : TG) (tb : TS) (D : Ends) (σ : L2.St) (H : Hp) : Prop := tFor (fun _ H R => R J H) g tb D σ H
theorem i_lc {wi : TI} {g : TG} {tt : TT} {te : TE} {vs : List Nat} {σ : L2.St} {H : Hp} {Q : VK} (h : wi σ H fun J H1 => LcGo J g tt te vs σ H1 Q) : tLc wi g tt te vs σ H Q := h
theorem i_for {wi : TI} {g : TG} {tb : TS} {D : Ends} {σ : L2.St} {H : Hp} (h : wi σ H fun J H1 => ForGo J g tb D σ H1) : tFor wi g tb D σ H := h
theorem i_iList {K : PySem.W.Frag} {tl : TE} {R : It → Hp → Prop} {σ : L2.St} {H : Hp} (h : tl σ H fun x H1 => ∃ a, x = .ref a ∧ (∃ xs, SqL K H1 a xs) ∧ R (Itl K a) H1) : iList K tl σ H R := h
theorem i_iTup {K : PySem.W.Frag} {tl : TE} {R : It → Hp → Prop} {σ : L2.St} {H : Hp} (h : tl σ H fun x H1 => ∃ a, x = .ref a ∧ (∃ xs, SqT K H1 a xs) ∧ R (Itt K a) H1) : iTup K tl σ H R := h
theorem i_iStr {te : TE} {R : It → Hp → Prop} {σ : L2.St} {H : Hp} (h : te σ H fun v H1 => ∃ x, v = .str x ∧ R (Its x) H1) : iStr te σ H R := h
theorem i_iRng1 {ta : TA} {R : It → Hp → Prop} {σ : L2.St} {H : Hp} (h : ta σ H fun vs H1 => ∃ j : Int, vs = [.int j] ∧ -(2 ^ 62) ≤ j ∧ j < 2 ^ 62 ∧ R (Itr 0 j.toNat) H1) : iRng1 ta σ H R := h
theorem i_iEnS {ta : TA} {R : It → Hp → Prop} {σ : L2.St} {H : Hp} (h : ta σ H fun vs H1 => ∃ x, vs = [.str x] ∧ R (ItE x) H1) : iEnS ta σ H R := h
theorem i_rng {j : Int} {A : Prop} (h0 : 0 ≤ j) (h1 : j ≤ 1000000) (h : A) : -(2 ^ 62) ≤ j ∧ j < 2 ^ 62 ∧ A := ⟨by omega, by omega, h⟩
theorem i_sqL {K : PySem.W.Frag} {H : Hp} {a : Addr} {xs : List V} {A : Prop} (h1 : SqL K H a xs) (h : A) : (∃ xs, SqL K H a xs) ∧ A := ⟨⟨xs, h1⟩, h⟩
section
variable {J : It} {n : Nat} {G : Hp → Prop} {Y : Nat → Hp → V → Hp → Prop} {g : TG} {tt : TT} {te : TE} {tb : TS} {vs : List Nat} {σ : L2.St} {H1 : Hp} {D : Ends} {Q : VK}
theorem go_map (w : Walk J n G Y) (f : Nat → V) (hn : n ≤ 1000000) (hG : ∀ H, Same H1 H → G H)
    (hs : ∀ i x H H', i < n → Same H1 H → Y i H x H' → ∀ R : V → Hp → Prop, (∀ H4, Same H H4 → R (f i) H4) → g x (wipe σ vs) H' fun σ2 H2 => wipe σ2 vs = wipe σ vs ∧ te σ2 H2 R)
    (hmono : ∀ x σ H (R R' : L2.St → Hp → Prop), (∀ σ' H', R σ' H' → R' σ' H') → g x σ H R → g x σ H R')
    (hd : ∀ p H, H1 p = none → Same H1 H → H p = some (.lst ((List.range n).map f)) → Q (.ref p) H) : LcGo J g tYes te vs σ H1 Q :=
  fun p np => lc_map w f hn np hG hs (fun H s e => hd p H np s e) hmono
theorem go_lc (w : Walk J n G Y) (Pv : Addr → Nat → Hp → Prop) (h0 : ∀ p, H1 p = none → Pv p 0 (upd H1 p (.lst []))) (hG : ∀ p i H, i ≤ n → Pv p i H → G H)
    (hs : ∀ p, H1 p = none → ∀ i x H H', i < n → Pv p i H → Y i H x H' → g x (wipe σ vs) H' fun σ2 H2 => wipe σ2 vs = wipe σ vs ∧ tt σ2 H2 fun b H3 =>
      if b = true then te σ2 H3 fun y H4 => ∃ acc, H4 p = some (.lst acc) ∧ acc.length < sizeLine ∧ Pv p (i + 1) (upd H4 p (.lst (acc ++ [y]))) else Pv p (i + 1) H3)
    (hd : ∀ p H, H1 p = none → Pv p n H → Q (.ref p) H) : LcGo J g tt te vs σ H1 Q :=
  fun p np => lc_it w (Pv p) (h0 p np) (hG p) (hs p np) fun H q => hd p H np q
theorem go_for (w : Walk J n G Y) (Pv : Nat → L2.St → Hp → Prop) (h0 : Pv 0 σ H1) (hG : ∀ i σ H, i ≤ n → Pv i σ H → G H)
    (hs : ∀ i x σ H H', i < n → Pv i σ H → Y i H x H' → g x σ H' fun σ2 H2 => tb { D with nx := Pv (i + 1), ct := Pv (i + 1), bk := D.nx } σ2 H2) (hd : ∀ σ H, Pv n σ H → D.nx σ H) : ForGo J g tb D σ H1 :=
  for_it w Pv h0 hG hs hd
end
theorem i_all {K : PySem.W.Frag} {p : Addr} {bs : List Bool} {H : Hp} {Q : VK} (h1 : H p = some (.lst (bs.map V.bl))) (h : Q (.bl (bs.all id)) H) : rAll K [.ref p] H Q := ⟨p, bs, rfl, sqL_of h1, h⟩
theorem i_inSeq {K : PySem.W.Frag} {p : Addr} {xs : List V} {x : V} {H : Hp} {Q : VK} (h1 : SqL K H p xs ∨ SqT K H p xs) (h2 : flatV x = true) (h3 : xs.all flatV = true) (h : Q (.bl (inV x xs)) H) : rIn K false x (.ref p) H Q := ⟨p, xs, rfl, h1, h2, h3, h⟩
theorem i_ixLH {K : PySem.W.Frag} {p : Addr} {xs : List V} {i : Int} {v : V} {H : Hp} {Q : VK} (h1 : H p = some (.lst xs)) (h2 : atI xs i = some v) (h : Q v H) : rIxL K (.ref p) (.int i) H Q := i_ixL (sqL_of h1) h2 h
theorem i_ixTH {K : PySem.W.Frag} {p : Addr} {xs : List V} {i : Int} {v : V} {H : Hp} {Q : VK} (h1 : H p = some (.tup xs)) (h2 : atI xs i = some v) (h : Q v H) : rIxT K (.ref p) (.int i) H Q := i_ixT (sqT_of h1) h2 h
theorem upd_old {H : Hp} {p a : Addr} {o u : HO} (n : H p = none) (h : H a = some u) : upd H p o a = some u := by rw [upd_ne (ne_of_none h n)]; exact h
theorem upd_skip {H : Hp} {p a : Addr} {o u : HO} (n : a ≠ p) (h : H a = some u) : upd H p o a = some u := by rw [upd_ne n]; exact h
theorem iteNT {A B : Prop} (h : B) : if (!true) = true then A else B := iteF h
theorem iteNF {A B : Prop} (h : A) : if (!false) = true then A else B := iteT h
theorem iteNB {p : Prop} [Decidable p] {A B : Prop} (h1 : ¬ p → A) (h2 : p → B) : if (!decide p) = true then A else B := by
  by_cases h : p
  · rw [decide_eq_true h]; exact iteF (h2 h)
  · rw [decide_eq_false h]; exact iteT (h1 h)
theorem iteNC {c : Bool} {A B : Prop} (h1 : c = false → A) (h2 : c = true → B) : if (!c) = true then A else B := by
  cases c with
  | true => exact iteF (h2 rfl)
  | false => exact iteT (h1 rfl)
/-! ### rules whose readings have names, over texts S l -/
section
variable {X : Cx} {H : Hp} {Q : VK} {K : PySem.W.Frag}
theorem pe_strS {x : Str} {j pos} {l : List Nat} (e : x = S l) : PE X (.Constant (.str x) j pos) (tC (.str (S l))) := by rw [e]; exact pe_str
def rAddS : R2 := fun x y H Q => ∃ a b, x = .str (S a) ∧ y = .str (S b) ∧ a.length + b.length ≤ 1000000 ∧ Q (.str (S (a ++ b))) H
theorem op_addS : OpR X (binaryOp .Add) rAddS := fun pins s σ H x y v u Q I rx ry h => by
  obtain ⟨a, b, e1, e2, hz, q⟩ := h
  exact op_add_str pins s σ H x y v u Q I rx ry ⟨S a, S b, e1, e2, by rw [S_len, S_len]; exact Nat.le_trans hz (by decide), by rw [S_app]; exact q⟩
theorem i_addS {a b : List Nat} (h1 : a.length + b.length ≤ 1000000) (h : Q (.str (S (a ++ b))) H) : rAddS (.str (S a)) (.str (S b)) H Q := ⟨a, b, rfl, rfl, h1, h⟩
def rIxSS : V → V → Hp → VK → Prop := fun x y H Q => ∃ l i c, x = .str (S l) ∧ y = .int i ∧ l.length ≤ 1000000 ∧ atI l i = some c ∧ Q (.str (S [c])) H
theorem ix_S : IxR X rIxSS := fun pins s σ H x y v u b Q I rx ry hb h => by
  obtain ⟨l, i, c, e1, e2, hz, hc, q⟩ := h
  exact ix_str pins s σ H x y v u b Q I rx ry hb ⟨S l, i, c, e1, e2, by rw [S_len]; exact Nat.le_trans hz (by decide), by rw [S_list]; exact hc, q⟩
theorem i_ixSS {l : List Nat} {i : Int} {c : Nat} (h1 : l.length ≤ 1000000) (h2 : atI l i = some c) (h : Q (.str (S [c])) H) : rIxSS (.str (S l)) (.int i) H Q := ⟨l, i, c, rfl, rfl, h1, h2, h⟩
def rSlSS : V → Option Int → Option Int → Hp → VK → Prop := fun x lo hi H Q => ∃ l, x = .str (S l) ∧ l.length ≤ 1000000 ∧ Q (.str (S (cut l lo hi))) H
theorem sl_S : SlR X rSlSS := fun pins s σ H x v vl vu lo hi sl Q I rx hs pl pu h => by
  obtain ⟨l, e1, hz, q⟩ := h
  exact sl_str pins s σ H x v vl vu lo hi sl Q I rx hs pl pu ⟨S l, e1, by rw [S_len]; exact Nat.le_trans hz (by decide), by rw [cutS_S]; exact q⟩
theorem i_slFrom {l : List Nat} {k : Int} (h0 : 0 ≤ k) (h1 : l.length ≤ 1000000) (h : Q (.str (S (l.drop k.toNat))) H) : rSlSS (.str (S l)) (some k) none H Q :=
  ⟨l, rfl, h1, by rw [show k = ((k.toNat : Nat) : Int) by omega, cut_from]; exact h⟩
theorem i_slTo {l : List Nat} {k : Int} (h0 : 0 ≤ k) (h1 : l.length ≤ 1000000) (h : Q (.str (S (l.take k.toNat))) H) : rSlSS (.str (S l)) none (some k) H Q :=
  ⟨l, rfl, h1, by rw [show k = ((k.toNat : Nat) : Int) by omega, cut_to]; exact h⟩
def rLenSS : List V → Hp → VK → Prop := fun xs H Q => ∃ l, xs = [.str (S l)] ∧ l.length ≤ 1000000 ∧ Q (.int (l.length : Int)) H
theorem call_lenS : CallR X (.builtin "len") rLenSS := fun pins s σ H xs us Q I r h => by
  obtain ⟨l, e1, hz, q⟩ := h
  exact call_len_str pins s σ H xs us Q I r ⟨S l, e1, by rw [S_len]; exact Nat.le_trans hz (by decide), by rw [S_len]; exact q⟩
theorem i_lenSS {l : List Nat} (h1 : l.length ≤ 1000000) (h : Q (.int (l.length : Int)) H) : rLenSS [.str (S l)] H Q := ⟨l, rfl, h1, h⟩
def rStartS : V → List V → Hp → VK → Prop := fun x xs H Q => ∃ a b, x = .str (S a) ∧ xs = [.str (S b)] ∧ Q (.bl (decide (a.take b.length = b))) H
theorem mt_startsS : MtR X "str.startswith" rStartS := fun pins s σ H x xs v us Q I rx rv h => by
  obtain ⟨a, b, e1, e2, q⟩ := h
  exact mt_startswith pins s σ H x xs v us Q I rx rv ⟨S a, S b, e1, e2, by rw [starts_S]; exact q⟩
theorem i_startS {a b : List Nat} (h : Q (.bl (decide (a.take b.length = b))) H) : rStartS (.str (S a)) [.str (S b)] H Q := ⟨a, b, rfl, rfl, h⟩
def rInSg : R2 := fun x y H Q => ∃ (c : Nat) (z : Str), x = .str (S [c]) ∧ y = .str z ∧ Q (.bl (decide (c ∈ z.cps.toList))) H
theorem op_inSg : OpR X (compareOp .In) rInSg := op_in_sign
theorem i_inSg {c : Nat} {z : Str} (h : Q (.bl (decide (c ∈ z.cps.toList))) H) : rInSg (.str (S [c])) (.str z) H Q := ⟨c, z, rfl, rfl, h⟩
def rAbs : List V → Hp → VK → Prop := fun xs H Q => ∃ i, xs = [.int i] ∧ Q (.int (if i < 0 then -i else i)) H
theorem call_absN : CallR X (.builtin "abs") rAbs := call_abs
theorem i_absN {i : Int} (h : Q (.int (if i < 0 then -i else i)) H) : rAbs [.int i] H Q := ⟨i, rfl, h⟩
def rMin2 : List V → Hp → VK → Prop := fun xs H Q => ∃ i j, xs = [.int i, .int j] ∧ Q (.int (if j < i then j else i)) H
theorem call_min2N (hc : X.calm = true) : CallR X (.builtin "min") rMin2 := call_min2 hc
theorem i_min2 {i j : Int} (h : Q (.int (min i j)) H) : rMin2 [.int i, .int j] H Q := ⟨i, j, rfl, by
  by_cases c : j < i
  · rw [if_pos c]; rw [show min i j = j by omega] at h; exact h
  · rw [if_neg c]; rw [show min i j = i by omega] at h; exact h⟩
def rMax2 : List V → Hp → VK → Prop := fun xs H Q => ∃ i j, xs = [.int i, .int j] ∧ Q (.int (if j > i then j else i)) H
theorem call_max2N (hc : X.calm = true) : CallR X (.builtin "max") rMax2 := call_max2 hc
theorem i_max2 {i j : Int} (h : Q (.int (max i j)) H) : rMax2 [.int i, .int j] H Q := ⟨i, j, rfl, by
  by_cases c : j > i
  · rw [if_pos c]; rw [show max i j = j by omega] at h; exact h
  · rw [if_neg c]; rw [show max i j = i by omega] at h; exact h⟩
def rMin3 : List V → Hp → VK → Prop := fun xs H Q => ∃ i j k, xs = [.int i, .int j, .int k] ∧ Q (.int (min (min i j) k)) H
theorem nuMin2_int (i j : Int) : nuMin2 (.int i) (.int j) = some (.int (min i j)) := by
  show some (if decide (j < i) = true then V.int j else V.int i) = some (.int (min i j))
  by_cases c : j < i
  · rw [decide_eq_true c, if_pos rfl, show min i j = j by omega]
  · rw [decide_eq_false c, if_neg Bool.false_ne_true, show min i j = i by omega]
theorem call_min3N (hc : X.calm = true) : CallR X (.builtin "min") rMin3 := fun pins s σ H xs us Q I r h => by
  obtain ⟨i, j, k, e1, q⟩ := h
  exact call_min3Nu hc pins s σ H xs us Q I r ⟨_, _, _, _, e1, by unfold nuMin3; rw [nuMin2_int]; show nuMin2 (.int (min i j)) (.int k) = _; rw [nuMin2_int], q⟩
theorem i_min3 {i j k : Int} (h : Q (.int (min (min i j) k)) H) : rMin3 [.int i, .int j, .int k] H Q := ⟨i, j, k, rfl, h⟩
def rInt : List V → Hp → VK → Prop := fun xs H Q => (∃ i, xs = [.int i] ∧ Q (.int i) H) ∨ ∃ k, xs = [.bl k] ∧ Q (.int (if k then 1 else 0)) H
theorem call_intN : CallR X (.type "int") rInt := call_int1
theorem i_intN {i : Int} (h : Q (.int i) H) : rInt [.int i] H Q := .inl ⟨i, rfl, h⟩
theorem i_intNB {k : Bool} (h : Q (.int (if k then 1 else 0)) H) : rInt [.bl k] H Q := .inr ⟨k, rfl, h⟩
def rLenQ (K : PySem.W.Frag) : List V → Hp → VK → Prop := fun xs H Q => ∃ p ys, xs = [.ref p] ∧ (SqL K H p ys ∨ SqT K H p ys) ∧ Q (.int ys.length) H
theorem call_lenQ : CallR X (.builtin "len") (rLenQ X.K) := call_len_seq
theorem i_lenL {p : Addr} {ys : List V} (h1 : H p = some (.lst ys)) (h : Q (.int ys.length) H) : rLenQ K [.ref p] H Q := ⟨p, ys, rfl, .inl (sqL_of h1), h⟩
theorem i_lenT {p : Addr} {ys : List V} (h1 : H p = some (.tup ys)) (h : Q (.int ys.length) H) : rLenQ K [.ref p] H Q := ⟨p, ys, rfl, .inr (sqT_of h1), h⟩
theorem i_lenK {p : Addr} {ys : List V} (h1 : SqL K H p ys) (h : Q (.int ys.length) H) : rLenQ K [.ref p] H Q := ⟨p, ys, rfl, .inl h1, h⟩
theorem dec_inj {α β : Type} [DecidableEq α] [DecidableEq β] {f : α → β} (hf : ∀ a b, f a = f b → a = b) (a b : α) : decide (f a = f b) = decide (a = b) := by
  by_cases h : a = b
  · subst h; simp
  · rw [decide_eq_false h, decide_eq_false (fun e => h (hf a b e))]
theorem dec_I (a b : Int) : decide (V.int a = V.int b) = decide (a = b) := dec_inj (fun _ _ e => V.int.inj e) a b
theorem i_eqI {a b : Int} (h : Q (.bl (decide (a = b))) H) : rEq (.int a) (.int b) H Q := ⟨rfl, by rw [dec_I]; exact h⟩
theorem i_neI {a b : Int} (h : Q (.bl (!decide (a = b))) H) : rNe (.int a) (.int b) H Q := ⟨rfl, by rw [dec_I]; exact h⟩
theorem i_eqS {a b : List Nat} (h : Q (.bl (decide (a = b))) H) : rEq (.str (S a)) (.str (S b)) H Q := ⟨rfl, by rw [S_dec]; exact h⟩
theorem i_neS {a b : List Nat} (h : Q (.bl (!decide (a = b))) H) : rNe (.str (S a)) (.str (S b)) H Q := ⟨rfl, by rw [S_dec]; exact h⟩
def rIsNo : R2 := fun x y H Q => y = .non ∧ Q (.bl (decide (x = .non))) H
theorem op_isNo : OpR X (compareOp .Is) rIsNo := op_isN
theorem i_isNoI {i : Int} (h : Q (.bl false) H) : rIsNo (.int i) .non H Q := ⟨rfl, h⟩
theorem i_isNoN (h : Q (.bl true) H) : rIsNo .non .non H Q := ⟨rfl, h⟩
theorem i_isNoR {a : Addr} (h : Q (.bl false) H) : rIsNo (.ref a) .non H Q := ⟨rfl, h⟩
def rRepI : List V → Hp → VK → Prop := fun xs H Q => ∃ i, xs = [.int i] ∧ i.natAbs.log2 < 1920 ∧ Q (.str (toString i)) H
theorem call_repI : CallR X (.builtin "repr") rRepI := SkE.call_repr_int
end
theorem walk_S {l : List Nat} : Walk (Its (S l)) l.length (fun _ => True) (fun i H v H' => H' = H ∧ ∃ c, l[i]? = some c ∧ v = .str (S [c])) := by
  have w := walk_str (z := S l)
  rw [S_size] at w
  exact w.mono (fun _ _ => trivial) fun i H x H' _ _ y => by
    obtain ⟨e, c, hc, ev⟩ := y
    rw [S_get] at hc
    exact ⟨e, c, hc, ev⟩
theorem walk_eS {l : List Nat} : Walk (ItE (S l)) l.length (fun _ => True) (fun i H v H' => ∃ T c, v = .ref T ∧ H T = none ∧ l[i]? = some c ∧ H' = upd H T (.tup [.int (i : Nat), .str (S [c])])) := by
  have w := walk_enumS (x := S l)
  rw [S_size] at w
  exact w.mono (fun _ _ => trivial) fun i H x H' _ _ y => by
    obtain ⟨T, c, e, n, hc, eh⟩ := y
    rw [S_get] at hc
    exact ⟨T, c, e, n, hc, eh⟩
theorem go_while {c : TT} {tb : TS} {D : Ends} {σ : L2.St} {H : Hp} (Pv : Nat → L2.St → Hp → Prop) (m0 : Nat) (h0 : Pv m0 σ H)
    (hs : ∀ m σ H, Pv m σ H → c σ H fun b H1 => if b = true then ∃ N : L2.St → Hp → Prop, (∀ σ' H', N σ' H' → ∃ m', m' < m ∧ Pv m' σ' H') ∧ tb { D with nx := N, ct := N, bk := D.nx } σ H1 else D.nx σ H1) : tWhile c tb D σ H :=
  ⟨Pv, ⟨m0, h0⟩, hs⟩
theorem next_turn {m : Nat} {Pv : Nat → L2.St → Hp → Prop} {A : (L2.St → Hp → Prop) → Prop} (h : A fun σ' H' => ∃ m', m' < m ∧ Pv m' σ' H') : ∃ N : L2.St → Hp → Prop, (∀ σ' H', N σ' H' → ∃ m', m' < m ∧ Pv m' σ' H') ∧ A N := ⟨_, fun _ _ q => q, h⟩
def rRevS : V → Hp → VK → Prop := fun x H Q => ∃ l, x = .str (S l) ∧ l.length ≤ sizeLine ∧ Q (.str (S l.reverse)) H
theorem i_revS {te : TE} {σ : L2.St} {H : Hp} {Q : VK} (h : te σ H fun x H1 => rRevS x H1 Q) : tRevS te σ H Q := h
theorem i_revSS {l : List Nat} {H : Hp} {Q : VK} (h1 : l.length ≤ 1000000) (h : Q (.str (S l.reverse)) H) : rRevS (.str (S l)) H Q := ⟨l, rfl, Nat.le_trans h1 (by decide), h⟩
theorem i_cut {t u : TS} {D : Ends} {σ : L2.St} {H : Hp} (Mid : L2.St → Hp → Prop) (h1 : t { D with nx := Mid } σ H) (h2 : ∀ σ' H', Mid σ' H' → u D σ' H') : C8.tCut t u D σ H := ⟨Mid, h1, h2⟩
theorem i_minL {K : PySem.W.Frag} {p : Addr} {ns : List Int} {H : Hp} {Q : VK} (h1 : H p = some (.lst (ns.map V.int))) (h2 : 0 < ns.length) (h : ∀ m, m ∈ ns → (∀ y, y ∈ ns → m ≤ y) → Q (.int m) H) : rMin K [.ref p] H Q := ⟨p, ns, rfl, sqL_of h1, h2, h⟩
/-- one half of an if: what is appended, or nothing -/
theorem i_chainLL {g : Int → Int → Bool} {g' : Int → Int → Bool} {σ : L2.St} {H : Hp} {R : Bool → Hp → Prop} {i j k : Int}
    (h : R (g i j && g' j k) H) : rI0 (fun a b => .bl (g a b)) (.int i) (.int j) H fun z H3 => ∃ c, z = .bl c ∧ (if c = true then rI0 (fun a b => .bl (g' a b)) (.int j) (.int k) H3 fun x H4 => ∃ d, x = .bl d ∧ R d H4 else ∃ d, V.bl false = .bl d ∧ R d H3) := by
  refine ⟨i, j, rfl, rfl, g i j, rfl, ?_⟩
  cases e : g i j with
  | true => rw [e] at h; exact iteT ⟨j, k, rfl, rfl, g' j k, rfl, h⟩
  | false => rw [e] at h; exact iteF ⟨false, rfl, h⟩
theorem walk_rangeZ {n : Nat} : Walk (Itr 0 n) n (fun _ => True) (YFn fun i => .int (i : Int)) :=
  (walk_range (lo := 0) (n := n)).mono (fun _ h => h) fun i H x H' _ _ y => ⟨y.1, by rw [y.2]; show V.int (0 + (i : Int)) = V.int (i : Int); rw [Int.zero_add]⟩
theorem i_ixLI {K : PySem.W.Frag} {p : Addr} {ns : List Int} {i v : Int} {H : Hp} {Q : VK} (h1 : H p = some (.lst (ns.map V.int))) (h0 : 0 ≤ i) (h2 : ns[i.toNat]? = some v) (h : Q (.int v) H) : rIxL K (.ref p) (.int i) H Q := by
  refine i_ixLH h1 ?_ h
  have e := atI_nat (xs := ns.map V.int) (j := i.toNat) (v := .int v) (by rw [List.getElem?_map, h2]; rfl)
  rwa [show ((i.toNat : Nat) : Int) = i by omega] at e
theorem i_ixSI {l : List Nat} {i : Int} {c : Nat} {H : Hp} {Q : VK} (h0 : 0 ≤ i) (h2 : l[i.toNat]? = some c) (h1 : l.length ≤ 1000000) (h : Q (.str (S [c])) H) : rIxSS (.str (S l)) (.int i) H Q := by
  refine i_ixSS h1 ?_ h
  have e := atI_nat (xs := l) (j := i.toNat) (v := c) h2
  rwa [show ((i.toNat : Nat) : Int) = i by omega] at e
theorem i_appI {p : Addr} {ns : List Int} {v : Int} {H : Hp} {Q : VK} (h1 : H p = some (.lst (ns.map V.int))) (h2 : ns.length ≤ 1000000) (h : Q .non (upd H p (.lst ((ns ++ [v]).map V.int)))) : rAppend (.ref p) [.int v] H Q := by
  refine i_append h1 (by rw [List.length_map]; exact Nat.lt_of_le_of_lt h2 (by decide)) ?_
  rw [List.map_append] at h
  exact h
theorem i_gTupH {K : PySem.W.Frag} {n : Nat} {t : TGs} {a : Addr} {xs : List V} {σ : L2.St} {H : Hp} {R : L2.St → Hp → Prop} (h1 : H a = some (.tup xs)) (h2 : xs.length = n) (h : t xs σ H R) : gTup K n t (.ref a) σ H R := ⟨a, xs, rfl, sqT_of h1, h2, h⟩
theorem join_S (ws : List (List Nat)) : Txt.join (S []) (ws.map S) = S ws.flatten := by
  unfold Txt.join
  rw [StrLaws.glued_eq_join]
  induction ws with
  | nil => rfl
  | cons w ws ih =>
    cases ws with
    | nil => simp [Str.join]
    | cons v ws =>
      show S w ++ S [] ++ Str.join (S []) ((v :: ws).map S) = _
      rw [ih, S_app, S_app, List.append_nil]
      rfl
theorem sum_lens (ws : List (List Nat)) : ((ws.map S).map (·.length)).sum = ws.flatten.length := by
  induction ws with
  | nil => rfl
  | cons w ws ih =>
    rw [List.map_cons, List.map_cons, List.sum_cons, ih, List.flatten_cons, List.length_append, S_len]
def rJoinS (K : PySem.W.Frag) : V → List V → Hp → VK → Prop := fun x xs H Q => ∃ p, ∃ ws : List (List Nat), x = .str (S []) ∧ xs = [.ref p] ∧ (SqL K H p (ws.map fun l => .str (S l)) ∨ SqT K H p (ws.map fun l => .str (S l))) ∧ ws.flatten.length ≤ 1000000 ∧ Q (.str (S ws.flatten)) H
theorem mt_joinS {X : Cx} : MtR X "str.join" (rJoinS X.K) := fun pins s σ H x xs v us Q I rx rv h => by
  obtain ⟨p, ws, e1, e2, hp, hl, q⟩ := h
  have e3 : (ws.map fun l => V.str (S l)) = (ws.map S).map V.str := by rw [List.map_map]; rfl
  rw [e3] at hp
  refine mt_join pins s σ H x xs v us Q I rx rv ⟨S [], p, ws.map S, e1, e2, hp, ?_, by rw [join_S]; exact q⟩
  rw [sum_lens, show (S []).length = 0 from rfl, Nat.mul_zero, Nat.add_zero]
  omega
theorem i_joinS {K : PySem.W.Frag} {p : Addr} {ws : List (List Nat)} {H : Hp} {Q : VK} (h1 : H p = some (.lst (ws.map fun l => .str (S l)))) (h2 : ws.flatten.length ≤ 1000000) (h : Q (.str (S ws.flatten)) H) : rJoinS K (.str (S [])) [.ref p] H Q :=
  ⟨p, ws, rfl, rfl, .inl (sqL_of h1), h2, h⟩
theorem atI_neg1 {α : Type} {xs : List α} {v : α} {n : Nat} (h : xs.length = n + 1) (h2 : xs[n]? = some v) : atI xs (-1) = some v := by
  have e : xs = xs.dropLast ++ [v] := by
    have hne : xs ≠ [] := by intro z; rw [z] at h; cases h
    have := List.dropLast_concat_getLast hne
    have e2 : xs.getLast hne = v := by
      rw [List.getLast_eq_getElem]
      have := List.getElem?_eq_some_iff.mp h2
      obtain ⟨_, q⟩ := this
      simpa [h] using q
    rw [e2] at this
    exact this.symm
  rw [e]
  exact atI_last _ _
theorem i_ixLv {K : PySem.W.Frag} {p : Addr} {xs : List V} {i : Int} {v : V} {H : Hp} {Q : VK} (h1 : H p = some (.lst xs)) (h0 : 0 ≤ i) (h2 : xs[i.toNat]? = some v) (h : Q v H) : rIxL K (.ref p) (.int i) H Q := by
  refine i_ixLH h1 ?_ h
  have e := atI_nat (xs := xs) (j := i.toNat) (v := v) h2
  rwa [show ((i.toNat : Nat) : Int) = i by omega] at e
theorem i_rU {g : Int → V} {i : Int} {H : Hp} {Q : VK} (h : Q (g i) H) : rU g (.int i) H Q := ⟨i, rfl, h⟩
end Sw
namespace Sw
open PySem PySem.Spec PyProof.Rows L2
/-! ### t[::-1] of a tuple -/
theorem back_adjust (n : Nat) : Builtin.Slice.sliceAdjust none none (-1) (n : Int) = ((n : Int) - 1, -1) := by
  unfold Builtin.Slice.sliceAdjust
  simp
theorem back_places (n : Nat) : Builtin.Slice.slicePlaces ((n : Int) - 1) (-1) (-1) = n := by
  unfold Builtin.Slice.slicePlaces
  simp only [show ¬ ((-1 : Int) > 0) by decide, if_false]
  split <;> simp <;> omega
theorem fm_congr {α β : Type} {f g : α → Option β} : ∀ {l : List α}, (∀ a ∈ l, f a = g a) → l.filterMap f = l.filterMap g
  | [], _ => rfl
  | a :: l, h => by
    rw [List.filterMap_cons, List.filterMap_cons, h a List.mem_cons_self, fm_congr fun b hb => h b (List.mem_cons_of_mem _ hb)]
theorem back_pick {α : Type} (l : List α) : ((List.range l.length).filterMap fun (k : Nat) => l.toArray[(((l.length : Int) - 1) + (k : Int) * (-1)).toNat]?) = l.reverse := by
  have e : ∀ k ∈ List.range l.length, l.toArray[(((l.length : Int) - 1) + (k : Int) * (-1)).toNat]? = l.reverse[k]? := by
    intro k hk
    have hk := List.mem_range.mp hk
    rw [List.getElem?_reverse hk, List.getElem?_toArray]
    congr 1
    omega
  rw [fm_congr e]
  have h2 : ∀ m : List α, (List.range m.length).filterMap (fun k => m[k]?) = m := by
    intro m
    induction m with
    | nil => rfl
    | cons a m ih =>
      rw [List.length_cons, List.range_succ_eq_map, List.filterMap_cons, List.filterMap_map]
      show a :: List.filterMap ((fun k => (a :: m)[k]?) ∘ Nat.succ) (List.range m.length) = a :: m
      congr 1
  have := h2 l.reverse
  rwa [List.length_reverse] at this
theorem getItem_tuple_back {prog : Program} {w : World} {A : Around} {E : Value → Shared → Prop} {s : Shared} {t sl : Addr} {ys : List Value} {u : Tok} {Q : Value → Shared → Prop} (ht : IsTup s.heap t ys.toArray)
    (hs : ∃ os, s.heap.get? sl = some os ∧ os.cls = .type "slice" ∧ os.data = .fields #[.none, .none, .int (-1) u])
    (h : Q (.ref s.heap.objs.size) { s with heap := s.heap.push { cls := .type "tuple", data := .seq ys.reverse.toArray } }) (hz : ys.length ≤ sizeLine) : wpAny (model prog w) A (getItem (.ref t) (.ref sl)) Q E s := by
  have hno' : sizeOk (.seq ys.reverse.toArray) := by
    show ys.reverse.toArray.size ≤ sizeLine
    rw [List.size_toArray, List.length_reverse]
    exact hz
  obtain ⟨os, hos, hcs, hds⟩ := hs
  have hTs : s.TypeIs (.ref sl) "slice" := ⟨os, hos, hcs⟩
  unfold getItem
  try with_reducible refine wpAny_holding ?_
  first | refine wpAny_bind (wpAny_pure ?_) | skip
  refine wpAny_bind (wpAny_sequenceKey ht.typeIs (by decide) ?_)
  refine wpAny_bind (wpAny_callSpecial?_slot (name := Str.ofString "__getitem__") ht.typeIs PyProof.Rows.slot_tuple_getitem (wpAny_call_entry PyProof.Rows.slot_tuple_getitem ht.typeIs entry_tuple_getitem ?_ (args_tuple_getitem _ _)))
  show wpAny _ _ (Builtin.Tuple.tupleItemsOf (.ref t) >>= _) _ _ s
  refine wpAny_bind (tupleItemsOf_ ht ?_)
  refine wpAny_bind (wpAny_typeOf hTs ?_)
  rw [if_pos (by decide)]
  have ap : ∀ {R : Int × Int × Nat → Shared → Prop}, R (((ys.toArray.size : Nat) : Int) - 1, -1, ys.toArray.size) s → wpAny (model prog w) A.in1 (Builtin.Slice.sliceApplied (.ref sl) (pure ((ys.toArray.size : Nat) : Int))) R E s := by
    intro R hR
    unfold Builtin.Slice.sliceApplied Builtin.Slice.sliceFields
    refine wpAny_bind (wpAny_bind (wpAny_field hos hds (x := .none) rfl (wpAny_bind (wpAny_field hos hds (x := .none) rfl (wpAny_bind (wpAny_field hos hds (x := .int (-1) u) rfl (wpAny_pure ?_)))))))
    refine wpAny_bind (slicePart_int ?_)
    show wpAny _ _ (if ((-1 : Int) == 0) = true then _ else _) _ _ s
    rw [if_neg (by decide)]
    refine wpAny_bind (slicePart_none (wpAny_bind (slicePart_none (wpAny_bind (wpAny_pure ?_)))))
    show wpAny _ _ (match Builtin.Slice.sliceAdjust none none (-1) ((ys.toArray.size : Nat) : Int) with | (lo, hi) => pure (lo, (-1 : Int), Builtin.Slice.slicePlaces lo hi (-1))) _ _ s
    rw [back_adjust]
    show wpAny _ _ (pure (((ys.toArray.size : Nat) : Int) - 1, (-1 : Int), Builtin.Slice.slicePlaces (((ys.toArray.size : Nat) : Int) - 1) (-1) (-1))) _ _ s
    rw [back_places]
    exact wpAny_pure hR
  refine wpAny_bind (ap ?_)
  show wpAny _ _ (if (((ys.toArray.size : Nat) : Int) - 1 == 0 && (-1 : Int) == 1 && ys.toArray.size == ys.toArray.size) = true then _ else _) _ _ s
  rw [if_neg (by simp)]
  have e := back_pick ys
  rw [show ys.length = ys.toArray.size from List.size_toArray.symm] at e
  rw [e]
  first
    | exact wpAny_bind (m := Builtin.Tuple.tupleExact _) (wpAny_newObj_type (wpAny_pure ⟨_, rfl, wpAny_pure h⟩) hno')
    | exact wpAny_bind (m := Builtin.Tuple.tupleExact _) (wpAny_newObj_type (wpAny_bind (wpAny_pure (wpAny_pure ⟨_, rfl, wpAny_pure h⟩))) hno')
    | exact wpAny_bind (wpAny_bind (m := Builtin.Tuple.tupleExact _) (wpAny_newObj_type (wpAny_pure (wpAny_pure ⟨_, rfl, wpAny_pure h⟩)) hno'))
def tRevT (K : PySem.W.Frag) (te : TE) : TE := fun σ H Q => te σ H fun x H1 => ∃ a xs, x = .ref a ∧ SqT K H1 a xs ∧ ∀ p, H1 p = none → Q (.ref p) (upd H1 p (.tup xs.reverse))
theorem Vals.back {xs : List V} {us : List Value} (r : Vals xs us) : Vals xs.reverse us.reverse := by
  induction r with
  | nil => exact .nil
  | cons r1 _ ih =>
    rw [List.reverse_cons, List.reverse_cons]
    exact ih.append (.cons r1 .nil)
theorem pe_revT {X : Cx} {e : Expr} {te : TE} {k : Nat} {p1 p2 p3 pos : Pos} (he : PE X e te) :
    PE X (.Subscript e (.Slice none none (some (.UnaryOp .USub (.Constant (.int 1) k p1) p2)) p3) pos) (tRevT X.K te) := by
  constructor
  intro pins s σ H Q I h
  refine Subscript_ (thn (he.run pins s σ H _ I h) fun v s1 ⟨x, H1, I1, r1, a, xs, ex, hx, q⟩ => ?_)
  subst ex
  cases r1
  have st : PO X (some (.UnaryOp .USub (.Constant (.int 1) k p1) p2)) (tPart (tUn (rU fun i => .int (-i)) (tC (.int 1)))) := po_some (pe_un un_neg pe_int)
  refine wpAny_Slice (thn (po_none.run pins s1 σ H1 (fun o G => o = none ∧ G = H1) I1 ⟨rfl, rfl⟩) fun w1 s2 ⟨o1, G1, J1, z1, a1, b1⟩ => ?_)
  subst a1 b1
  refine thn (po_none.run pins s2 σ G1 (fun o G => o = none ∧ G = G1) J1 ⟨rfl, rfl⟩) fun w2 s3 ⟨o2, G2, J2, z2, a2, b2⟩ => ?_
  subst a2 b2
  refine thn (st.run pins s3 σ G2 (fun o G => o = some (-1) ∧ G = G2) J2 ⟨1, rfl, -1, rfl, rfl, rfl⟩) fun w3 s4 ⟨o3, G3, J3, z3, a3, b3⟩ => ?_
  subst a3 b3
  have J4 : Inv X pins σ G3 { s4 with heap := s4.heap.push { cls := .type "slice", data := .fields #[w1, w2, w3] } } := J3.kept (t' := s4.toks) fun b ob q => Heap.get?_push_of_some _ q
  obtain ⟨y1, rfl, f1⟩ := IsPart.raw z1
  obtain ⟨y2, rfl, f2⟩ := IsPart.raw z2
  obtain ⟨y3, rfl, f3⟩ := IsPart.raw z3
  cases y1 with
  | some y => cases f1
  | none =>
  cases y2 with
  | some y => cases f2
  | none =>
  cases y3 with
  | none => cases f3
  | some y =>
  obtain ⟨m, u⟩ := y
  have em : m = -1 := Option.some.inj f3
  subst em
  obtain ⟨its, r, ht, hz⟩ := J4.tuple hx
  refine tail_any (T := "tuple") (id := _) (ops := [.ref a, .ref s4.heap.objs.size]) ht.typeIs PyProof.Rows.slot_tuple_getitem.lookup ?_ (by with_unfolding_all rfl)
  have hz' : its.length ≤ sizeLine := by rw [← r.length]; exact hz
  refine getItem_tuple_back (u := u) ht ⟨_, Heap.get?_push_size _ rfl, rfl, rfl⟩ ?_ hz'
  refine ⟨.ref _, _, J4.laid (t' := s4.toks) (o := .tup xs.reverse) (fun b ob q => Heap.get?_push_of_some _ q) (Nat.le_refl _) ?_, rfl, q _ (J4.hok.fresh (Nat.le_refl _))⟩
  exact ⟨by rw [List.length_reverse]; exact hz, _, Vals.back r, IsTup.new _ _⟩
theorem i_revT {K : PySem.W.Frag} {te : TE} {σ : L2.St} {H : Hp} {Q : VK} (h : te σ H fun x H1 => ∃ a xs, x = .ref a ∧ SqT K H1 a xs ∧ ∀ p, H1 p = none → Q (.ref p) (upd H1 p (.tup xs.reverse))) : tRevT K te σ H Q := h
/-! ### text * int -/
def rMulS : R2 := fun x y H Q => ∃ (l : List Nat) (n : Nat), x = .str (S l) ∧ y = .int (n : Int) ∧ l.length ≤ 1000 ∧ n ≤ 1000 ∧ Q (.str (S (List.replicate n l).flatten)) H
theorem mul_S (l : List Nat) (n : Nat) : Txt.mul (S l) (n : Int) = S (List.replicate n l).flatten := by
  unfold Txt.mul
  by_cases h0 : n = 0
  · subst h0; simp [S, Str.empty]
  · rw [if_neg (by omega)]
    by_cases h1 : (((n : Int) == 1 || (S l).length == 0) = true)
    · rw [if_pos h1]
      rcases Bool.or_eq_true_iff.mp h1 with h1 | h1
      · have : n = 1 := by have := eq_of_beq h1; omega
        subst this; simp
      · have e : l = [] := by have := eq_of_beq h1; rw [S_len] at this; exact List.length_eq_zero_iff.mp this
        subst e
        simp
    · rw [if_neg h1]
      show (⟨(List.replicate n l.toArray).foldl (· ++ ·) #[]⟩ : Str) = ⟨(List.replicate n l).flatten.toArray⟩
      congr 1
      have : ∀ (m : Nat) (b : Array Nat), (List.replicate m l.toArray).foldl (· ++ ·) b = b ++ (List.replicate m l).flatten.toArray := by
        intro m
        induction m with
        | zero => intro b; simp
        | succ m ih =>
          intro b
          rw [List.replicate_succ, List.foldl_cons, ih, List.replicate_succ, List.flatten_cons]
          simp
      rw [this]
      simp
theorem op_mulS {X : Cx} : OpR X (binaryOp .Mult) rMulS := fun pins s σ H x y v u Q I rx ry h => by
  obtain ⟨l, n, rfl, rfl, h1, h2, q⟩ := h
  obtain ⟨t, rfl⟩ := rx
  obtain ⟨t', rfl⟩ := ry
  refine SB.mul ⟨?_, ?_, ?_⟩ fun t' tk => ⟨.str (S (List.replicate n l).flatten), H, I.tok _, ⟨_, by rw [mul_S]⟩, q⟩
  · rw [Bool.or_eq_false_iff]; exact ⟨decide_eq_false (by omega), decide_eq_false (by omega)⟩
  · intro hn _
    rw [S_len]
    have : (n : Int) * (l.length : Int) ≤ 2 ^ 63 - 1 := by
      have := Nat.mul_le_mul h2 h1
      have e : (n : Int) * (l.length : Int) = ((n * l.length : Nat) : Int) := by simp
      rw [e]; omega
    have := (Int.le_ediv_iff_mul_le (a := (l.length : Int)) (b := 2 ^ 63 - 1) (c := (n : Int)) (by omega)).mpr (by rw [Int.mul_comm]; exact this)
    omega
  · intro _ _
    rw [S_len, Int.toNat_natCast]
    have := Nat.mul_le_mul h1 h2
    unfold Builtin.Str.tooLong
    exact decide_eq_false (by rw [show sizeLine = 16777216 from rfl]; omega)
theorem i_mulS {l : List Nat} {n : Nat} {H : Hp} {Q : VK} (h1 : l.length ≤ 1000) (h2 : n ≤ 1000) (h : Q (.str (S (List.replicate n l).flatten)) H) : rMulS (.str (S l)) (.int (n : Int)) H Q := ⟨l, n, rfl, rfl, h1, h2, h⟩
/-! ### a def called by names alone -/
def tKw (sp : Sp) (gV : List V → List V → List V) (tk : TA) : TE := fun σ H Q => tk σ H fun zs H1 => sp (gV [] zs) H1 Q E0
section
variable (P : Program) (w : World) (K : PySem.W.Frag) (mg : Str → Option Value) (base : Heap)
def CalK (x : Str) (ps : List Str) (k : Nat) (sp : Sp) (ks : List Str) (g : List Value → List Value → List Value) (gV : List V → List V → List V) : Prop := ∃ (f : Addr) (fd : FuncData), FnOk P w K mg base CX0 k f fd ps sp ∧ mg x = some (.ref f) ∧ PySem.W.keepIn K (.ref f) = true ∧ KBinds K fd ps ks g gV
end
theorem Def.calK {P : Program} {w : World} {K : PySem.W.Frag} {mg : Str → Option Value} {base : Heap} {x : Str} {st : Stmt} {ps ks : List Str} {k : Nat} {sp : Sp} {g : List Value → List Value → List Value} {gV : List V → List V → List V} (d : Def K mg x st)
    (b : ∀ (kV doc pm : Value) (an : Option Addr) (cdv ct : Value) (us ws : List Value), (g us ws).length = ps.length → bindArgs (PySem.W.fnOf x x (defArgs st) (defBody st) (defScope st) .none kV doc pm an cdv ct) ⟨us, ks.zip ws⟩ = pure (ps.zip (g us ws)))
    (rel : ∀ {vs : List V} {us : List Value} {zs : List V} {ws : List Value}, Vals vs us → Vals zs ws → Vals (gV vs zs) (g us ws))
    (ok : ∀ (f : Addr) (fd : FuncData), Fun K x x st f fd → FnOk P w K mg base CX0 k f fd ps sp) : CalK P w K mg base x ps k sp ks g gV := by
  obtain ⟨f, fd, F, m⟩ := d
  have O := ok f fd F
  have kp := F.kp
  obtain ⟨oc, od, kV, doc, pm, an, cdv, ct, osl, rfl, lk, hcd⟩ := F.ex
  exact ⟨f, _, O, m, kp, fun s us ws _ hl => .of_eq (b kV doc pm an cdv ct us ws hl), rel⟩
section
variable {X : Cx} {x : Str} {ps ks : List Str} {k n : Nat} {sp : Sp} {g : List Value → List Value → List Value} {gV : List V → List V → List V} {kws : List Keyword} {tk : TA} {p pos : Pos}
theorem pe_calK (c : CalK X.prog X.w X.K X.mg X.base x ps k sp ks g gV) (hr : Room n X.A) (hkw : PK X kws tk) (hg : Gl X x := by rfl) (hk : k ≤ n := by decide)
    (hall : (backToKw pos (keywordEach kws X.env)).all (·.1.isSome) = true := by rfl) (hks : (backToKw pos (keywordEach kws X.env)).filterMap (·.1) = ks := by rfl) (hdb : (x == ("__debug__" : Str)) = false := by decide)
    (hpl : ((backTo pos (starEach [] X.env)).any (·.1) || (backToKw pos (keywordEach kws X.env)).any (·.1.isNone)) = false := by rfl) :
    PE X (.Call (.Name x p) [] kws pos) (tKw sp gV tk) := by
  obtain ⟨f, fd, F, m, kp, b⟩ := c
  refine ⟨fun pins s σ H Q I h => ?_⟩
  refine wpAny_Call_Name_kw (ld_glob I hg m ?_ hdb)
  refine PySem.W.callWith_KW0 (h₀ := X.base) I.ok.mod.kin kp hall (thn (hkw.run pos pins s σ H _ I h) fun ws s2 ⟨zs, H2, I2, rz, q2⟩ => ⟨I2.kIn, ?_⟩) hpl
  rw [hks]
  exact run_fnk F (hr.mono hk) b pass0 I2 .nil rz q2
theorem i_kw {σ : L2.St} {H : Hp} {Q : VK} (h : tk σ H fun zs H1 => sp (gV [] zs) H1 Q E0) : tKw sp gV tk σ H Q := h
end
end Sw
namespace Sw
open PySem PySem.Spec PyProof.Rows L2
/-! ### promises of defs that are called where nothing is being shown (repr) -/
structure FnG (P : Program) (w : World) (K : PySem.W.Frag) (mg : Str → Option Value) (base : Heap) (CX : CXT) (k : Nat) (f : Addr) (fd : FuncData) (ps : List Str) (sp : Sp) : Prop where
  len : ∀ xs M R X, sp xs M R X → xs.length = ps.length
  go : ∀ (A : Around) (out : List Env) (t : Shared) (M : Hp) (args : Args) (us : List Value) (xs : List V) (R : VK) (X : XK), Room k A → A.guards = some [] → Env0 P w K mg base A out t M → BindsTo t fd args (ps.zip us) → Vals xs us → sp xs M R X →
    codeAny (model P w) A (.call (.ref f) args) (CR CX out P w M t R X) t
section
variable {P : Program} {w : World} {K : PySem.W.Frag} {mg : Str → Option Value} {base : Heap} {CX : CXT} {k : Nat} {f : Addr} {fd : FuncData} {ps : List Str} {sp : Sp}
theorem FnG.of (F : FnOk P w K mg base CX k f fd ps sp) : FnG P w K mg base CX k f fd ps sp := ⟨F.len, fun A out t M args us xs R X room _ => F.run A out t M args us xs R X room⟩
theorem FnG.low {j : Nat} (F : FnG P w K mg base CX j f fd ps sp) (h : j ≤ k) : FnG P w K mg base CX k f fd ps sp := ⟨F.len, fun A out t M args us xs R X room => F.go A out t M args us xs R X (room.mono h)⟩
theorem Fun.okG {x qual : Str} {st : Stmt} {N : List Str} (F : Fun K x qual st f fd) (S : FnScope N ps (defScope st)) (len : ∀ xs M R X, sp xs M R X → xs.length = ps.length)
    (body : ∀ (cdv : Value) (A : Around) (out : List Env) (t : Shared) (M : Hp) (xs : List V) (R : VK) (X : XK), Room k (A.deeper (envOfC qual (defScope st) t.heap.objs.size f cdv)) → A.guards = some [] → sp xs M R X →
      ∃ r, PSs (cxOf CX P w K mg base N qual (defScope st) f cdv A out t M X) (defBody st) r ∧ r { nx := fun _ M' => R .non M', rt := R } (start N xs) M) : FnG P w K mg base CX (k + 1) f fd ps sp := by
  obtain ⟨oc, od, kV, doc, pm, an, cdv, ct, osl, rfl, found, coded⟩ := F.ex
  constructor
  · exact len
  intro A out t M args us xs R X room quiet env bind rel prom
  have count := len xs M R X prom
  have inHeap := env.mod.kin.keeps fun b o e => (env.bs b o e).1
  have quota := env.mod.nolimit.keeps fun b o e => (env.bs b o e).1
  have kinds : ∀ z ∈ ps.zip us, (defScope st).names.lookup z.1 = some .local ∨ ((defScope st).names.lookup z.1 = some .cell ∧ ((cellsFrom (t.heap.objs.size + 1) (defScope st).names []).lookup z.1).isSome = true) := by
    rintro ⟨n, v⟩ hz
    have hn := (List.of_mem_zip hz).1
    rcases S.par n hn with l | c
    · left; exact l
    · right; exact ⟨c, PySem.W.cellsFrom_some _ _ _ (.inl c)⟩
  apply codeAny_call_function room.depth (inHeap _ _ found) rfl S.co S.gen rfl (PySem.W.codeRec_of inHeap coded) (bind _ _ _ _ ?_)
  apply wpAny_newFunctionEnv_cells S.kind kinds
  intro env2 e2 t1 entry
  subst e2
  refine ⟨quota.keeps entry.toInCall.keep, codeAny_func ?_⟩
  obtain ⟨r, hr, runs⟩ := body cdv A out t M xs R X (room.deeper _) quiet prom
  have I := inv_start (CX := CX) (E := X) S room.hd env count rel entry
  apply wpAny_mono (hr.run [] t1 (start N xs) M _ I runs)
  · intro fl t' leaves
    cases fl with
    | ret u =>
      obtain ⟨v, σ', M', J, rv, q⟩ := leaves
      exact ⟨v, M', J.os, J.bare, J.base, J.hok, rv, q⟩
    | next =>
      obtain ⟨σ', M', J, q⟩ := leaves
      exact ⟨V.non, M', J.os, J.bare, J.base, J.hok, rfl, q⟩
    | brk => obtain ⟨_, _, _, q⟩ := leaves; exact q.elim
    | cont => obtain ⟨_, _, _, q⟩ := leaves; exact q.elim
  · exact fun _ _ z => z
end
section
variable {X : Cx} {ps : List Str} {k : Nat} {f : Addr} {fd : FuncData} {sp : Sp} {ds : List Value} {dvs : List V} {CX : CXT} {E : XK}
theorem run_G {pins : List (Addr × Obj)} {σ : L2.St} {M : Hp} {t : Shared} {R : VK} {us : List Value} {xs : List V} (F : FnG X.prog X.w X.K X.mg X.base CX k f fd ps sp) (room : Room k X.A) (quiet : X.A.guards = some []) (b : Binds X.K fd ps ds) (hd : Vals dvs ds) (px : Passes CX X E)
    (I : Inv X pins σ M t) (r : Vals xs us) (h : sp (xs ++ dvs) M R E) : wpAny (model X.prog X.w) X.A (call (.ref f) us) (EP X pins σ R) X.xe t := by
  have both := r.append hd
  have count : (us ++ ds).length = ps.length := both.length.symm.trans (F.len _ _ _ _ h)
  apply wpAny_call
  apply codeAny_mono (F.go X.A X.stack t M ⟨us, []⟩ (us ++ ds) (xs ++ dvs) R E room quiet I.env0 (b t us I.kIn count) both h)
  intro o t' q
  rcases o with e | fl
  · exact px pins σ M t e t' I q
  · cases fl with
    | ret u => exact I.after q
    | next => exact q.elim
    | brk => exact q.elim
    | cont => exact q.elim
end
section
variable (P : Program) (w : World) (K : PySem.W.Frag) (mg : Str → Option Value) (base : Heap)
def CalG (x : Str) (ps : List Str) (k : Nat) (sp : Sp) : Prop := ∃ (f : Addr) (fd : FuncData), FnG P w K mg base CX0 k f fd ps sp ∧ mg x = some (.ref f) ∧ PySem.W.keepIn K (.ref f) = true ∧ Binds K fd ps []
end
theorem Def.calG {P : Program} {w : World} {K : PySem.W.Frag} {mg : Str → Option Value} {base : Heap} {x : Str} {st : Stmt} {ps : List Str} {k : Nat} {sp : Sp} (d : Def K mg x st)
    (b : ∀ (kV doc pm : Value) (an : Option Addr) (cdv ct : Value) (us : List Value), us.length = ps.length → bindArgs (PySem.W.fnOf x x (defArgs st) (defBody st) (defScope st) .none kV doc pm an cdv ct) ⟨us, []⟩ = pure (ps.zip us))
    (ok : ∀ (f : Addr) (fd : FuncData), Fun K x x st f fd → FnG P w K mg base CX0 k f fd ps sp) : CalG P w K mg base x ps k sp := by
  obtain ⟨f, fd, F, m⟩ := d
  exact ⟨f, fd, ok f fd F, m, F.kp, F.binds b⟩
theorem pe_calG {X : Cx} {x : Str} {ps : List Str} {k n : Nat} {sp : Sp} {e : Expr} {es : List Expr} {t : TA} {p pos : Pos} (c : CalG X.prog X.w X.K X.mg X.base x ps k sp) (hr : Room n X.A) (quiet : X.A.guards = some []) (ha : PA X (e :: es) t) (hg : Gl X x := by rfl) (hk : k ≤ n := by decide)
    (hdb : (x == ("__debug__" : Str)) = false := by decide) (he : starEach (e :: es) X.env = (false, eval e X.env) :: starEach es X.env := by rfl) (hpl : (backTo pos (starEach es X.env)).any (·.1) = false := by rfl) :
    PE X (.Call (.Name x p) (e :: es) [] pos) (tCall sp [] E0 t) := by
  obtain ⟨f, fd, F, m, kp, b⟩ := c
  constructor
  intro pins s σ M R I h
  apply wpAny_Call_Name_kw (ld_glob I hg m ?_ hdb)
  exact PySem.W.callWith_K (h₀ := X.base) I.ok.mod.kin kp (thn (ha.run pos pins s σ M _ I h) fun us s1 ⟨xs, M1, I1, r, q⟩ => ⟨I1.kIn, run_G F (hr.mono hk) quiet b .nil pass0 I1 r q⟩) he hpl
/-! ### repr of data -/
def rRepD (K : PySem.W.Frag) : List V → Hp → VK → Prop := fun xs M R => ∃ x d, xs = [x] ∧ Dp K M x d ∧ d.showable = true ∧ d.hasDict = false ∧ d.depth ≤ 60 ∧ d.shown.length ≤ sizeLine ∧ R (.str d.shown) M
theorem call_repD {X : Cx} (quiet : X.A.guards = some []) (hu : X.A.units + 64 < cLine) : CallR X (.builtin "repr") (rRepD X.K) := by
  intro pins s σ M xs us R I r h
  obtain ⟨x, d, rfl, hd, sh, nd, dp, sz, q⟩ := h
  obtain ⟨u, rfl, ru⟩ := vals1 r
  obtain ⟨as, rd⟩ := Dp.reads I d x u hd ru
  cases hd with
  | non =>
    cases ru
    exact PySem.P.repr_of_none ⟨.str (PyData.shown .none), M, I.tok _, ⟨_, by simp only [PyData.shown]; rfl⟩, q⟩
  | bl b =>
    cases ru
    exact PySem.P.repr_of_bool ⟨.str (PyData.shown (.bool b)), M, I.tok _, ⟨_, by simp only [PyData.shown]; rfl⟩, q⟩
  | int i =>
    obtain ⟨t, rfl⟩ := ru
    exact PySem.P.repr_of_int (of_decide_eq_true (by simpa only [PyData.showable] using sh)) ⟨.str (PyData.shown (.int i)), M, I.tok _, ⟨_, by simp only [PyData.shown]; rfl⟩, q⟩
  | str z =>
    obtain ⟨t, rfl⟩ := ru
    exact PySem.P.repr_of_str ⟨.str (PyData.shown (.str z)), M, I.tok _, ⟨_, by simp only [PyData.shown]; rfl⟩, q⟩ (by simpa only [PyData.shown] using sz)
  | lst h1 h2 =>
    cases ru
    exact repr_of_reads' rd sh (PyData.noDict_hsm nd) quiet (by omega) (fun _ _ e => e) (fun h' t tk keep => ⟨.str _, M, I.kept (t' := tk) keep, ⟨t, rfl⟩, q⟩) sz
  | tup h1 h2 =>
    cases ru
    exact repr_of_reads' rd sh (PyData.noDict_hsm nd) quiet (by omega) (fun _ _ e => e) (fun h' t tk keep => ⟨.str _, M, I.kept (t' := tk) keep, ⟨t, rfl⟩, q⟩) sz
end Sw
namespace Sw
open PySem PySem.Spec PyProof.Rows L2
/-! ### the end of a law whose def is called where nothing is being shown -/
theorem law_G {P : Program} {w : World} {K : PySem.W.Frag} {mg mb : Str → Option Value} {k : Nat} {fa a : Addr} {fd : FuncData} {x : Str} {sp : Sp} {t : Shared} {vs : List Value} {ns : List Int}
    (inK : K.In t.heap) (gl : t.heap.Ns mainGlobals mg) (bl : t.heap.Ns builtinsNs mb) (bb : ∀ y : Str, y ≠ "__name__" → mb y = bootBuiltins y) (lim : t.heap.NoLimit) (quietGens : t.gens = #[])
    (script : t.heap.get? a = some { cls := .type "list", data := .seq vs.toArray }) (nums : IntsAre vs ns) (short : ns.length ≤ sizeLine) (room : Room k callerA)
    (F : ∀ base : Heap, K.In base → base.Ns mainGlobals mg → FnG P w K mg base CX0 k fa fd [x] sp) (bind : ∀ (s : Shared) (u : Value), BindsTo s fd ⟨[u], []⟩ [(x, u)])
    (prom : ∀ M : Hp, Only M → SqL K M a (ns.map V.int) → sp [.ref a] M (fun v _ => v = .bl true) E0) :
    codeAny (model P w) callerA (.call (.ref fa) ⟨[.ref a], []⟩) (fun r s' => r = .ok (.ret (.bool true)) ∧ OldK t.heap s'.heap ∧ s'.os = t.os ∧ AllBare s'.gens) t := by
  have vals := vals_ints nums
  have sameLen := nums.length
  -- tracked: the script alone, and only if the module does not hold it already
  let M : Hp := fun b => if b = a ∧ K.lookup a = none then some (.frz { cls := .type "list", data := .seq vs.toArray } (.lst (ns.map V.int))) else none
  have at_a : ∀ {b : Addr} {o : HO}, M b = some o → b = a ∧ K.lookup a = none ∧ o = .frz { cls := .type "list", data := .seq vs.toArray } (.lst (ns.map V.int)) := by
    intro b o q
    by_cases c : b = a ∧ K.lookup a = none
    · have q' := (if_pos c).symm.trans q
      exact ⟨c.1, c.2, (Option.some.inj q').symm⟩
    · have q' := (if_neg c).symm.trans q
      cases q'
  have only : Only M := by
    intro b
    by_cases c : b = a ∧ K.lookup a = none
    · right; exact ⟨_, _, if_pos c⟩
    · left; exact if_neg c
  have ok : HOk P w M t.heap := by
    intro b o q
    obtain ⟨rfl, _, rfl⟩ := at_a q
    exact ⟨script, by rw [List.length_map]; exact short, vs, _, vals, script⟩
  have known : SqL K M a (ns.map V.int) := by
    cases hk : K.lookup a with
    | none => exact .inl (.inr ⟨_, if_pos ⟨rfl, hk⟩⟩)
    | some o =>
      have e := inK a o hk
      rw [script] at e
      cases e
      exact .inr ⟨_, vs.toArray, _, hk, rfl, rfl, rfl, by rw [List.size_toArray, sameLen]; exact short, by simpa using vals⟩
  have under : ∀ {b : Addr} {o : Obj}, t.heap.get? b = some o → M b = none → (hidT t.heap M).get? b = some o := fun e n => hidT_get e n
  have dictFree : ∀ {b : Addr} {o : Obj} {es : Array DictEntry} {n : Nat}, t.heap.get? b = some o → o.data = .dict es n → M b = none := by
    intro b o es n e hd
    rcases q : M b with _ | u
    · rfl
    · obtain ⟨rfl, _, _⟩ := at_a q
      rw [script] at e
      cases e
      cases hd
  have names : ∀ {b : Addr} {m : Str → Option Value}, t.heap.Ns b m → (hidT t.heap M).Ns b m := by
    rintro b m ⟨o, es, n, e, hd, r⟩
    exact ⟨o, es, n, under e (dictFree e hd), hd, r⟩
  have baseIn : K.In (hidT t.heap M) := by
    intro b o e
    apply under (inK b o e)
    rcases q : M b with _ | u
    · rfl
    · obtain ⟨rfl, no, _⟩ := at_a q
      rw [no] at e
      cases e
  obtain ⟨mc, lim1, lim2⟩ := lim
  have env : Env0 P w K mg (hidT t.heap M) callerA [] t M :=
    ⟨rfl, ⟨baseIn, names gl, ⟨mb, names bl, bb⟩, ⟨mc, names lim1, lim2⟩⟩, fun b o e => of_hidT e, Nat.le_of_eq (hidT_size _ _), trivial, (fun b z => by have y : b ∈ ([] : List Addr) := z; simp at y), ok, .of_eq quietGens⟩
  apply codeAny_mono ((F _ baseIn (names gl)).go callerA [] t M ⟨[.ref a], []⟩ [.ref a] [.ref a] _ _ room rfl env (bind t (.ref a)) (.cons rfl .nil) (prom M only known))
  intro r s' q
  rcases r with e | fl
  · exact q.elim
  · cases fl with
    | next => exact q.elim
    | brk => exact q.elim
    | cont => exact q.elim
    | ret u =>
      obtain ⟨v, M', os, bare, un, ok', rel, said⟩ := q
      have said' : v = .bl true := said
      subst said'
      have isTrue : u = Value.bool true := rel
      subst isTrue
      refine ⟨rfl, OldK.of_keep ?_, os, bare⟩
      intro b o e
      rcases q : M b with _ | u
      · exact un.keep b o e q (fun z => by have y : b ∈ ([] : List Addr) := z; simp at y) (by simp)
      · obtain ⟨rfl, _, rfl⟩ := at_a q
        obtain ⟨e1, _⟩ := ok _ _ q
        obtain ⟨e2, _⟩ := ok' _ _ (un.frzs _ _ _ q)
        rw [e] at e1
        cases e1
        exact e2
theorem walk_G {l : PySem.W.OpenLaw} {n k : Nat} {q : Program} {loose : List Str} {XP : (Str → Option Value) → Heap → Prop} {YP : World → Heap → Prop} {d : DefRec} {K : Params → PySem.W.Frag} {sp : PySem.W.Frag → Sp} {x : Str}
    (many : l.most = some n) (few : n ≤ sizeLine) (plain : d.params.defaults = []) (room : Room k callerA) (inK : ∀ (w : World) (h : Heap), YP w h → (K w.params).In h)
    (F : ∀ (w : World) (mg : Str → Option Value) (fa : Addr) (h : Heap), (K w.params).In h → h.Ns mainGlobals mg → mg d.name = some (.ref fa) →
      ∃ fd : FuncData, (∀ (s : Shared) (u : Value), BindsTo s fd ⟨[u], []⟩ [(x, u)]) ∧ ∀ base : Heap, (K w.params).In base → base.Ns mainGlobals mg → FnG l.prog w (K w.params) mg base CX0 k fa fd [x] (sp (K w.params)))
    (prom : ∀ (K : PySem.W.Frag) (M : Hp) (a : Addr) (ns : List Int), ns.length ≤ n → Only M → SqL K M a (ns.map V.int) → sp K [.ref a] M (fun v _ => v = .bl true) E0) :
    PySem.W.WalkO q loose XP YP l.row.toRowW d [] (fun f vs => PySem.call f vs) := by
  apply Att.attach_call many plain
  intro w s₀ t mg mb fa o pm cd doc a vs ns G Y _ _ _ named script nums short gens
  have kin := inK w _ Y
  obtain ⟨fd, bind, hF⟩ := F w mg fa _ kin G.T.g named
  exact law_G kin G.T.g G.T.b G.T.builtins G.T.nolimit gens script nums (Nat.le_trans short few) room hF bind fun M o s => prom _ M a ns short o s
end Sw
/-! own exceptions over Exception, by own classes between, with own fields -/
namespace PySem
namespace SwE
open PySem.W PySem.Calls PyProof.Rows PySem.HandSPX
abbrev exT : List Value := [.type "Exception", .type "BaseException", .type "object"]
def over (rs : List Addr) : List Value := rs.map Value.ref ++ exT
theorem over_pass (self : Value) : ∀ rs : List Addr, refuseLoop self "__setattr__" (over rs) = pure ()
  | [] => F.store_Exception.passes self
  | r :: rs => by
    show refuseLoop self "__setattr__" (.ref r :: over rs) = pure ()
    rw [refuseLoop_ref]
    exact over_pass self rs
theorem over_has (T : String) : ∀ rs : List Addr, (over rs).contains (.type T) = exT.contains (.type T)
  | [] => rfl
  | r :: rs => by
    show (Value.ref r :: over rs).contains (.type T) = exT.contains (.type T)
    rw [List.contains_cons, over_has T rs]
    rfl
theorem over_cons (r : Addr) (rs : List Addr) : Value.ref r :: over rs = over (r :: rs) := rfl
section
open Builtin Builtin.ObjectAttr
variable {prog : Program} {w : World} {A : Around} {E : Value → Shared → Prop} {R : Result → Shared → Prop} {hp : Heap} {g : Array GenState} {d : Drawn} {t : Nat} {os : OsState}
/-- the first field of such an exception -/
theorem first_field {K : W.Frag} {name : Str} {tk : Tok} {v : Value} {x C : Addr} {fv : Array Value} {cd : ClassData} {rs : List Addr}
    (inK : K.In hp) (here : hp.get? x = some { cls := .ref C, data := .fields fv }) (cls : W.clsIn K C = some cd) (mro : cd.mro = over rs) (dict : cd.hasDict = true) (none' : W.findIn K (.ref C) name = some none)
    (hq : ∀ h' tk' dx, (∀ b o, b ≠ x → hp.get? b = some o → h'.get? b = some o) → hp.objs.size ≤ dx → dx ≠ x → h'.get? x = some { cls := .ref C, dict := some dx, data := .fields fv } →
      h'.Ns1 dx (fun y => if y = name then some v else none) → R (.ok (.ret .none)) ⟨h', g, d, tk', os⟩) :
    codeAny (model prog w) A (.call (.builtin "object.__setattr__") ⟨[.ref x, .str name tk, v], []⟩) R ⟨hp, g, d, t, os⟩ := by
  have inst : W.InstAt hp x { cls := .ref C, data := .fields fv } C none := ⟨here, rfl, rfl, trivial⟩
  have facts := F.store_object
  have isObj : cd.mro.contains (.type "object") = true := by rw [mro, over_has]; decide +kernel
  have notEmpty : cd.mro.isEmpty = false := by rw [mro]; cases rs <;> rfl
  have apart : x ≠ hp.objs.size := Nat.ne_of_lt (Heap.lt_size here)
  have sub : W.Looks (model prog w) hp (isInstance (.ref x) (.type "object")) true := inst.type.andThen (W.looks_mroIn inK (by unfold W.mroIn; rw [cls, Option.bind_some, if_neg (by rw [notEmpty]; decide), isObj]))
  apply codeAny_call_builtin facts.slot.plain facts.entry (@W.check_slot (model prog w) _ _ ⟨hp, g, d, t, os⟩ "object.__setattr__" "object" "__setattr__" (.ref x) [.str name tk, v] [] _ facts.kind facts.split sub (facts.args (.ref x) (.str name tk) v) ?_)
  have looksMro : W.Looks (model prog w) hp (mroOf (.ref C)) cd.mro := (W.looks_clsIn inK cls).andThen .now
  have noTaker : W.Looks (model prog w) hp (storeTaker? none) none := .now
  have looksCls : W.Looks (model prog w) hp (classData C) cd := W.looks_clsIn inK cls
  rw [W.osa_eq, refuse_eq]
  refine wpAny_bind (wpAny_bind (inst.type.at (wpAny_bind (looksMro.at ?_))))
  rw [mro, over_pass]
  refine wpAny_pure (wpAny_bind (inst.type.at (wpAny_bind ((W.looks_findIn inK none').at (wpAny_bind (noTaker.at ?_))))))
  show wpAny _ _ (storeInOwnDict (.ref x) (.ref C) (.str name tk) name v false) _ _ _
  obtain ⟨nm, bs, mr, ns, qn, hd, sn, sb, ab, col, del⟩ := cd
  dsimp only at dict
  subst dict
  unfold storeInOwnDict ownDictForStores
  repeat (first | with_reducible refine store_in_new ?_ ?_ | with_reducible refine wpAny_loadPart_at here ?_ | with_reducible refine looksCls.at ?_ | wp_step)
  · exact ⟨_, #[], _, (Heap.get?_update_ne _ _ _ _ apart.symm).trans (Heap.get?_push_at rfl rfl), rfl, fun e he => absurd he (by simp), fun _ => rfl⟩
  · intro h' tk' named same
    have still : (hp.push { cls := .type "dict", data := .dict #[] }).get? x = some { cls := .ref C, data := .fields fv } := Heap.get?_push_of_some _ here
    apply hq h' tk' hp.objs.size ?_ (Nat.le_refl _) apart.symm ?_ named
    · intro b o hb ho
      exact (same.2 b (Nat.ne_of_lt (Heap.lt_size ho))).trans ((Heap.get?_update_ne _ _ _ _ hb).trans (Heap.get?_push_of_some _ ho))
    · exact (same.2 x apart).trans (Heap.get?_update_self _ still rfl)
end
end SwE
end PySem
namespace Sw
open PySem PySem.Spec PyProof.Rows L2 PySem.SwE
/-- what the written part says of an own exception class over Exception -/
structure OexE (K : PySem.W.Frag) (C : Addr) : Prop where
  cls : ∃ nm q N bs rs sn sub ab col dd k0 k1 k2 k3 k5, K.lookup C = some (excClassObj nm q C N bs (over rs) true sn sub ab col dd k0 k1 k2 k3 k5 "Exception.__new__")
  sa : PySem.W.findIn K (.ref C) "__setattr__" = some (some (.builtin "object.__setattr__"))
  exC : PySem.W.subIn K (.ref C) (.type "BaseException") = some true
  tyC : PySem.W.typeIn K (.ref C) = some (.type "type")
  kC : PySem.W.keepIn K (.ref C) = true
section
variable {X : Cx} {pins : List (Addr × Obj)} {σ : L2.St} {H : Hp} {s : Shared} {a C dx : Addr} {f : Str} {y : V} {u : Value} {fs : List (Str × V)} {Q : Unit → Shared → Prop} {E : Value → Shared → Prop} {A : Around}
theorem field_new (T : OexE X.K C) (I : Inv X pins σ H s) (e : H a = some (exo a C none)) (no : PySem.W.findIn X.K (.ref C) f = some none) (ry : RelV y u)
    (h : ∀ dx s', H dx = none → dx ≠ a → Inv X pins σ (upd (upd H dx (exd dx [(f, y)])) a (exo a C (some dx))) s' → Q () s') : wpAny (model X.prog X.w) A (setAttr (.ref a) f u) Q E s := by
  obtain ⟨nm, q, N, bs, rs, sn, sub, ab, col, dd, k0, k1, k2, k3, k5, hC⟩ := T.cls
  have data : PySem.W.clsIn X.K C = some { name := nm, bases := bs, mro := .ref C :: over rs, ns := N, qualname := q, hasDict := true, slotNames := sn, subclasses := sub, abstract := ab, collection := col, hasDel := false } := by
    unfold PySem.W.clsIn
    rw [hC] <;> rfl
  obtain ⟨t1, there⟩ := exo_at I.hok e
  obtain ⟨hp, g, d, t, os⟩ := s
  apply PySem.W.set_plain I.kIn (ox := { cls := .ref C, dict := none, data := .fields #[.ref t1, .none, .none, .none, .bool false, .none] }) (od := none) ⟨there, rfl, rfl, trivial⟩ T.sa
  apply first_field I.kIn there data (over_cons C rs) rfl no
  intro h' tk' dx keep new apart now named
  have free : H dx = none := I.hok.fresh new
  have notNew : ∀ {b : Addr} {o : Obj}, hp.get? b = some o → b ≠ dx := fun z => Nat.ne_of_lt (Nat.lt_of_lt_of_le (Heap.lt_size z) new)
  have notIt : ∀ {b : Addr}, H b = none → b ≠ a := by
    rintro b n rfl
    rw [e] at n
    cases n
  have un : Un X.fs [] H (upd (upd H dx (exd dx [(f, y)])) a (exo a C (some dx))) hp h' := by
    constructor
    · exact fun b o z n _ _ => keep b o (notIt n) z
    · exact fun b o z n _ _ => ⟨o.slots, keep b o (notIt n) z⟩
    · intro b o z n _
      rw [upd_ne (notIt n), upd_ne (notNew z)]
      exact n
    · intro b o z _
      by_cases c : b = a
      · exact ⟨_, by rw [c]; exact now⟩
      · exact ⟨o, keep b o c z⟩
    · intro b xs z
      rw [upd_ne (at_ne e z exo_tup), upd_ne (ne_of_none z free)]
      exact z
    · intro b o v z
      rw [upd_ne (at_ne e z exo_frz), upd_ne (ne_of_none z free)]
      exact z
    · exact fun b ps z => ⟨#[], by rw [upd_ne (at_ne e z exo_tbl), upd_ne (ne_of_none z free), z]; simp⟩
  apply h dx _ free apart
  apply I.un (t' := tk') un
  intro b o z
  by_cases c : b = a
  · subst c
    rw [upd_same] at z
    cases z
    exact exo_ok now
  · rw [upd_ne c] at z
    by_cases c2 : b = dx
    · subst c2
      rw [upd_same] at z
      cases z
      exact exd_ok named (relO_put (fs := []) ry fun g => True.intro)
    · rw [upd_ne c2] at z
      apply (I.hok b o z).stay
      · intro cc v hc zz
        apply keep cc v _ zz
        rcases hc with hc | hc
        · rw [hc]; exact c
        · exact at_ne e hc exo_own
      · intro cc hc
        rw [upd_ne (at_ne e hc exo_own), upd_ne (ne_of_none hc free)]
        exact hc
      · intro cc xs hc
        rw [upd_ne (at_ne e hc exo_tup), upd_ne (ne_of_none hc free)]
        exact hc
/-- Exception.__init__(self, ..): nothing of it is told -/
theorem init_plain {us : List Value} {R : Value → Shared → Prop} (T : OexE X.K C) (I : Inv X pins σ H s) (e : H a = some (exo a C none)) (few : us.length ≤ sizeLine) (h : ∀ s', Inv X pins σ H s' → R .none s') :
    wpAny (model X.prog X.w) A (call (.builtin "Exception.__init__") (.ref a :: us)) R E s := by
  obtain ⟨nm, q, N, bs, rs, sn, sub, ab, col, dd, k0, k1, k2, k3, k5, hC⟩ := T.cls
  obtain ⟨t1, there⟩ := exo_at I.hok e
  obtain ⟨hp, g, d, t, os⟩ := s
  apply wpAny_call (PySem.HandSPX.init_base F.excBase_Exception (fun Y => over_has Y rs) (I.kIn _ _ hC) there few ?_)
  intro h' t2 keep now
  have J := I.write (t' := t) (x := a) (e := a) (o := exo a C none) (by rw [e]; exact True.intro) (.inl rfl) keep ⟨_, now⟩ (exo_ok now)
  have same : upd H a (exo a C none) = H := by
    funext b
    by_cases c : b = a
    · rw [c, upd_same, e]
    · rw [upd_ne c]
  rw [same] at J
  exact h _ J
end
/-- B.__init__(self, ..), B's own one being Exception's -/
def tInit (K : PySem.W.Frag) (ta : TA) : TE := fun σ H Q => ta σ H fun vs H1 => ∃ (a C : Addr) (ws : List V), vs = .ref a :: ws ∧ ws.length ≤ 1000 ∧ OexE K C ∧ H1 a = some (exo a C none) ∧ Q .non H1
/-- self.f = e, the first field -/
def tFst (K : PySem.W.Frag) (f : Str) (to te : TE) : TS := fun D σ H => te σ H fun y H1 => to σ H1 fun x H2 => ∃ a C : Addr, x = .ref a ∧ OexE K C ∧ PySem.W.findIn K (.ref C) f = some none ∧
  H2 a = some (exo a C none) ∧ ∀ dx, H2 dx = none → dx ≠ a → D.nx σ (upd (upd H2 dx (exd dx [(f, y)])) a (exo a C (some dx)))
section
variable {X : Cx} {o e : Expr} {es : List Expr} {to te : TE} {ta : TA} {f : Str} {p p' p1 p2 pos : Pos}
theorem ps_fst (ho : PE X o to) (he : PE X e te) (hs : swapsWith e (some (.Attribute o f p')) pos.line X.env = pure false := by rfl) : PS X (.Assign [.Attribute o f p'] e pos) (tFst X.K f to te) := by
  constructor
  intro pins s σ H D I h
  apply plainObj_wpAny_Assign_Attribute (thn (he.run pins s σ H _ I h) fun v s1 ⟨y, H1, I1, r1, q1⟩ => thn (ho.run pins s1 σ H1 _ I1 q1) fun u s2 ⟨x, H2, I2, r2, a, C, ex, T, no, ea, q⟩ => ?_) hs
  subst ex
  obtain rfl : u = Value.ref a := r2
  exact field_new T I2 ea no r1 fun dx s' n ne J => ⟨σ, _, J, q dx n ne⟩
theorem ps_init {x : Str} {B : Addr} {pl : Sem Bool} (hg : Gl X x) (hm : X.mg x = some (.ref B)) (ga : PySem.W.specialIn X.K (.ref B) "__getattribute__" = some (some (.builtin "type.__getattribute__"))) (tyB : PySem.W.typeIn X.K (.ref B) = some (.type "type"))
    (rd : PySem.W.readsIn X.K B (.type "type") = true) (fi : PySem.W.findCls X.K (.ref B) (.type "type") "__init__" = some (.val (.builtin "Exception.__init__"))) (ha : PA X (e :: es) ta)
    (hc : eval (.Call (.Attribute (.Name x p1) "__init__" p2) (e :: es) [] pos) X.env = (do
      let ov ← eval (.Name x p1) X.env
      standAt p2.atName
      let (f, first) ← holding [ov] (getMethod ov "__init__" pl)
      callWith pos f first (backTo pos (starEach (e :: es) X.env)) (backToKw pos (keywordEach [] X.env))) := by rfl)
    (hdb : (x == ("__debug__" : Str)) = false := by decide)
    (he : starEach (e :: es) X.env = (false, eval e X.env) :: starEach es X.env := by rfl) (hpl : (backTo pos (starEach es X.env)).any (·.1) = false := by rfl) :
    PE X (.Call (.Attribute (.Name x p1) "__init__" p2) (e :: es) [] pos) (tInit X.K ta) := by
  constructor
  intro pins s σ H Q I h
  apply PySem.W.methodCall_KW (ld_glob I hg hm ?_ hdb) hc
  apply PySem.W.method_cls I.kIn ga
  apply PySem.W.cls_value I.kIn rd fi (by decide +kernel)
  show wpAny _ _ (callWith pos (Value.builtin "Exception.__init__") [] (backTo pos (starEach (e :: es) X.env)) []) _ _ _
  apply PyProof.Rows.callWith_method1 (thn (ha.run pos pins _ σ H _ (I.tok _) h) fun us s1 ⟨vs, H1, I1, r1, a, C, ws, ev, hl, T, ea, q⟩ => ?_) he hpl
  subst ev
  cases r1 with
  | @cons _ u0 _ ur ra rest =>
    obtain rfl : u0 = Value.ref a := ra
    have few : ur.length ≤ sizeLine := by
      rw [← Paired.length rest, sizeLine_eq]
      omega
    exact init_plain T I1 ea few fun s' J => ⟨.non, H1, J, rfl, q⟩
end
end Sw
namespace Sw
open PySem PySem.Spec PyProof.Rows L2 PySem.SwE
section
variable {X : Cx} {e : Expr} {es : List Expr} {ta : TA} {p pos : Pos} {CX : CXT} {x : Str} {C fI : Addr} {k : Nat} {fd : FuncData} {ps : List Str} {sp : Sp}
/-- C(e, ..), C an own exception class over Exception whose __init__ keeps sp -/
theorem pmk_E (T : OexE X.K C) (iC : PySem.W.findIn X.K (.ref C) "__init__" = some (some (.ref fI))) (tI : PySem.W.typeIn X.K (.ref fI) = some (.type "function")) (F1 : FnOk X.prog X.w X.K X.mg X.base CX k fI fd ps sp) (room : Room (k + 1) X.A) (bd : Binds X.K fd ps [])
    (px : Passes CX X E0) (hm : X.mg x = some (.ref C)) (ha : PA X (e :: es) ta) (hg : Gl X x := by rfl)
    (hdb : (x == ("__debug__" : Str)) = false := by decide) (he : starEach (e :: es) X.env = (false, eval e X.env) :: starEach es X.env := by rfl) (hpl : (backTo pos (starEach es X.env)).any (·.1) = false := by rfl) :
    PMk X (.Call (.Name x p) (e :: es) [] pos) (tMkO C sp [] ta) := by
  intro pins s σ H Q I h
  obtain ⟨nm, q, N, bs, rs, sn, sub, ab, col, dd, k0, k1, k2, k3, k5, hC⟩ := T.cls
  refine wpAny_Call_Name_kw (ld_glob I hg hm ?_ hdb)
  refine PySem.W.callWith_K (h₀ := X.base) I.ok.mod.kin T.kC (thn (ha.run pos pins s σ H _ I h) fun us s1 ⟨vs, H1, I1, r1, few, q1⟩ => ⟨I1.kIn, ?_⟩) he hpl
  show wpAny _ _ (call (.ref C) us) _ _ _
  obtain ⟨hp, g, dr, tk, os⟩ := s1
  have le : hp.objs.size ≤ hp.objs.size + 1 := Nat.le_succ _
  have free : H1 (hp.objs.size + 1) = none := I1.hok.fresh le
  have said := q1 (hp.objs.size + 1) free
  have keep : ∀ b o, hp.get? b = some o → ((hp.push (PySem.W.kdv_tup us)).push (PySem.HandSPX.excO C hp.objs.size)).get? b = some o := fun b o z => Heap.get?_push_of_some _ (Heap.get?_push_of_some _ z)
  have made : ((hp.push (PySem.W.kdv_tup us)).push (PySem.HandSPX.excO C hp.objs.size)).get? (hp.objs.size + 1) = some (PySem.HandSPX.excO C hp.objs.size) := by heap_get
  have I2 : Inv X pins σ (upd H1 (hp.objs.size + 1) (exo (hp.objs.size + 1) C none)) ⟨(hp.push (PySem.W.kdv_tup us)).push (PySem.HandSPX.excO C hp.objs.size), g, dr, tk, os⟩ :=
    I1.laid (t' := tk) (a := hp.objs.size + 1) (o := exo (hp.objs.size + 1) C none) (h' := (hp.push (PySem.W.kdv_tup us)).push (PySem.HandSPX.excO C hp.objs.size)) keep le (exo_ok made)
  have both : Vals (V.ref (hp.objs.size + 1) :: (vs ++ [])) (Value.ref (hp.objs.size + 1) :: (us ++ [])) := .cons rfl (r1.append .nil)
  have count : (Value.ref (hp.objs.size + 1) :: us ++ []).length = ps.length := by
    have z := both.length
    rw [F1.len _ _ _ _ said] at z
    exact z.symm
  have bound := bd _ (Value.ref (hp.objs.size + 1) :: us) I2.kIn count
  rw [List.cons_append] at bound
  have few' : us.length ≤ sizeLine := by
    rw [← Paired.length r1, sizeLine_eq]
    omega
  refine wpAny_call (PySem.HandSPX.call_own F.excBase_Exception (fun Y => over_has Y rs) (I1.kIn _ _ hC) (PySem.W.looks_findIn I1.kIn iC) (fun self => PySem.W.bind_fn I1.kIn self tI) few' (codeAny_mono (F1.run _ X.stack _ _ ⟨Value.ref (hp.objs.size + 1) :: us, []⟩ (Value.ref (hp.objs.size + 1) :: (us ++ [])) _ _ E0
    (room.make C us []) (I2.env0.make C us []) bound both said) fun r s' z => ?_))
  rcases r with er | fl
  · exact px pins σ _ _ er s' I2 z
  · cases fl with
    | next => exact z.elim
    | brk => exact z.elim
    | cont => exact z.elim
    | ret u =>
      obtain ⟨v, H2, os2, bare, un, ok, rv, ev, d, fs, ea, ed, hd1, q2⟩ := z
      subst ev
      obtain ⟨h2, g2, d2, t2, os'⟩ := s'
      exact ⟨rv, mk_end (raises_own T.exC T.tyC) I1 le keep un ok os2 bare ea ed hd1 q2⟩
end
end Sw
namespace Sw
open PySem PySem.Spec PyProof.Rows L2 PySem.SwE
/-! ### defs that may let out an exception -/
theorem Fun.okX {P : Program} {w : World} {K : PySem.W.Frag} {mg : Str → Option Value} {base : Heap} {k : Nat} {f : Addr} {fd : FuncData} {ps : List Str} {sp : Sp} {x qual : Str} {st : Stmt} {N : List Str} (F : Fun K x qual st f fd) (S : FnScope N ps (defScope st)) (len : ∀ xs M R X, sp xs M R X → xs.length = ps.length)
    (body : ∀ (cdv : Value) (A : Around) (out : List Env) (t : Shared) (M : Hp) (xs : List V) (R : VK) (E : XK), Room k (A.deeper (envOfC qual (defScope st) t.heap.objs.size f cdv)) → sp xs M R E →
      Takes (cxOf (L2.CX P w) P w K mg base N qual (defScope st) f cdv A out t M E) (fun cls d _ M' => E cls d M') →
      ∃ r, PSs (cxOf (L2.CX P w) P w K mg base N qual (defScope st) f cdv A out t M E) (defBody st) r ∧ r { nx := fun _ M' => R .non M', rt := R } (start N xs) M) : FnOk P w K mg base (L2.CX P w) (k + 1) f fd ps sp := by
  obtain ⟨oc, od, kV, doc, pm, an, cdv, ct, osl, rfl, found, coded⟩ := F.ex
  exact fn_of found coded S len fun A out t M xs R E room prom => body cdv A out t M xs R E room prom (takes_of rfl rfl rfl rfl)
section
variable (P : Program) (w : World) (K : PySem.W.Frag) (mg : Str → Option Value) (base : Heap)
def CalX (x : Str) (ps : List Str) (k : Nat) (sp : Sp) : Prop := ∃ (f : Addr) (fd : FuncData), FnOk P w K mg base (L2.CX P w) k f fd ps sp ∧ mg x = some (.ref f) ∧ PySem.W.keepIn K (.ref f) = true ∧ Binds K fd ps []
def CalKX (x : Str) (ps : List Str) (k : Nat) (sp : Sp) (ks : List Str) (g : List Value → List Value → List Value) (gV : List V → List V → List V) : Prop := ∃ (f : Addr) (fd : FuncData), FnOk P w K mg base (L2.CX P w) k f fd ps sp ∧ mg x = some (.ref f) ∧ PySem.W.keepIn K (.ref f) = true ∧ KBinds K fd ps ks g gV
end
section
variable {P : Program} {w : World} {K : PySem.W.Frag} {mg : Str → Option Value} {base : Heap} {x : Str} {st : Stmt} {ps ks : List Str} {k : Nat} {sp : Sp}
theorem Def.calX (d : Def K mg x st)
    (b : ∀ (kV doc pm : Value) (an : Option Addr) (cdv ct : Value) (us : List Value), us.length = ps.length → bindArgs (PySem.W.fnOf x x (defArgs st) (defBody st) (defScope st) .none kV doc pm an cdv ct) ⟨us, []⟩ = pure (ps.zip us))
    (ok : ∀ (f : Addr) (fd : FuncData), Fun K x x st f fd → FnOk P w K mg base (L2.CX P w) k f fd ps sp) : CalX P w K mg base x ps k sp := by
  obtain ⟨f, fd, F, m⟩ := d
  exact ⟨f, fd, ok f fd F, m, F.kp, F.binds b⟩
theorem Def.calKX {g : List Value → List Value → List Value} {gV : List V → List V → List V} (d : Def K mg x st)
    (b : ∀ (kV doc pm : Value) (an : Option Addr) (cdv ct : Value) (us ws : List Value), (g us ws).length = ps.length → bindArgs (PySem.W.fnOf x x (defArgs st) (defBody st) (defScope st) .none kV doc pm an cdv ct) ⟨us, ks.zip ws⟩ = pure (ps.zip (g us ws)))
    (rel : ∀ {vs : List V} {us : List Value} {zs : List V} {ws : List Value}, Vals vs us → Vals zs ws → Vals (gV vs zs) (g us ws))
    (ok : ∀ (f : Addr) (fd : FuncData), Fun K x x st f fd → FnOk P w K mg base (L2.CX P w) k f fd ps sp) : CalKX P w K mg base x ps k sp ks g gV := by
  obtain ⟨f, fd, F, m⟩ := d
  have O := ok f fd F
  have kp := F.kp
  obtain ⟨oc, od, kV, doc, pm, an, cdv, ct, osl, rfl, lk, hcd⟩ := F.ex
  exact ⟨f, _, O, m, kp, fun s us ws _ hl => .of_eq (b kV doc pm an cdv ct us ws hl), rel⟩
end
def tKwS (sp : Sp) (gV : List V → List V → List V) (E : L2.St → XK) (tk : TA) : TE := fun σ H Q => tk σ H fun zs H1 => sp (gV [] zs) H1 Q (E σ)
section
variable {X : Cx} {x : Str} {ps ks : List Str} {k n : Nat} {sp : Sp} {e : Expr} {es : List Expr} {t : TA} {p pos : Pos} {W : WX} {g : List Value → List Value → List Value} {gV : List V → List V → List V} {kws : List Keyword}
theorem pe_calX (c : CalX X.prog X.w X.K X.mg X.base x ps k sp) (hr : Room n X.A) (tk : Takes X W) (ha : PA X (e :: es) t) (hg : Gl X x := by rfl) (hk : k ≤ n := by decide)
    (hdb : (x == ("__debug__" : Str)) = false := by decide) (he : starEach (e :: es) X.env = (false, eval e X.env) :: starEach es X.env := by rfl) (hpl : (backTo pos (starEach es X.env)).any (·.1) = false := by rfl) :
    PE X (.Call (.Name x p) (e :: es) [] pos) (tCallS sp (WE W) t) := by
  obtain ⟨f, fd, F, m, kp, b⟩ := c
  exact pe_callS F (hr.mono hk) hg m kp b (passAt tk) ha hdb he hpl
theorem i_callS {σ : L2.St} {H : Hp} {Q : VK} {E : L2.St → XK} (h : t σ H fun vs H1 => sp vs H1 Q (E σ)) : tCallS sp E t σ H Q := h
theorem pe_calKX (c : CalKX X.prog X.w X.K X.mg X.base x ps k sp ks g gV) (hr : Room n X.A) (tk : Takes X W) (hkw : PK X kws t) (hg : Gl X x := by rfl) (hk : k ≤ n := by decide)
    (hall : (backToKw pos (keywordEach kws X.env)).all (·.1.isSome) = true := by rfl) (hks : (backToKw pos (keywordEach kws X.env)).filterMap (·.1) = ks := by rfl) (hdb : (x == ("__debug__" : Str)) = false := by decide)
    (hpl : ((backTo pos (starEach [] X.env)).any (·.1) || (backToKw pos (keywordEach kws X.env)).any (·.1.isNone)) = false := by rfl) :
    PE X (.Call (.Name x p) [] kws pos) (tKwS sp gV (WE W) t) := by
  obtain ⟨f, fd, F, m, kp, b⟩ := c
  constructor
  intro pins s σ H Q I h
  apply wpAny_Call_Name_kw (ld_glob I hg m ?_ hdb)
  refine PySem.W.callWith_KW0 (h₀ := X.base) I.ok.mod.kin kp hall (thn (hkw.run pos pins s σ H _ I h) fun ws s2 ⟨zs, H2, I2, rz, q⟩ => ⟨I2.kIn, ?_⟩) hpl
  rw [hks]
  have rel := b.rel (vs := []) (us := []) .nil rz
  have count : (g [] ws).length = ps.length := by rw [← rel.length]; exact F.len _ _ _ _ q
  apply wpAny_call
  apply codeAny_mono (F.run X.A X.stack s2 H2 ⟨[], ks.zip ws⟩ (g [] ws) (gV [] zs) Q (WE W σ) (hr.mono hk) I2.env0 (b.to s2 [] ws I2.kIn count) rel q)
  intro o s' z
  rcases o with er | fl
  · exact passAt tk σ pins H2 s2 er s' I2 z
  · cases fl with
    | ret u => exact I2.after z
    | next => exact z.elim
    | brk => exact z.elim
    | cont => exact z.elim
theorem i_kwS {σ : L2.St} {H : Hp} {Q : VK} {E : L2.St → XK} (h : t σ H fun zs H1 => sp (gV [] zs) H1 Q (E σ)) : tKwS sp gV E t σ H Q := h
end
theorem takes_none {X : Cx} : Takes X (fun _ _ _ _ => False) := fun u s' z => by
  obtain ⟨a, B, sI, pins, σ, H, cls, d, e, I, nb, up, sky, na, os, ag, w⟩ := z
  exact w.elim
end Sw
namespace Sw
open PySem PySem.Spec PyProof.Rows L2 PySem.SwE
/-- InvalidText.__init__(self, given) -/
def spInit (K : PySem.W.Frag) : Sp := fun vs H Q _ => ∃ (a C : Addr) (v : V), vs = [.ref a, v] ∧ H a = some (exo a C none) ∧ OexE K C ∧ PySem.W.findIn K (.ref C) "given" = some none ∧
  ∀ dx, H dx = none → dx ≠ a → Q .non (upd (upd H dx (exd dx [("given", v)])) a (exo a C (some dx)))
/-- what the written part says of the class that is called over -/
structure Over (K : PySem.W.Frag) (mg : Str → Option Value) (B : Addr) : Prop where
  hm : mg "CodecError" = some (.ref B)
  ga : PySem.W.specialIn K (.ref B) "__getattribute__" = some (some (.builtin "type.__getattribute__"))
  ty : PySem.W.typeIn K (.ref B) = some (.type "type")
  rd : PySem.W.readsIn K B (.type "type") = true
  fi : PySem.W.findCls K (.ref B) (.type "type") "__init__" = some (.val (.builtin "Exception.__init__"))
theorem i_init {K : PySem.W.Frag} {ta : TA} {σ : L2.St} {H : Hp} {Q : VK} (h : ta σ H fun vs H1 => ∃ (a C : Addr) (ws : List V), vs = .ref a :: ws ∧ ws.length ≤ 1000 ∧ OexE K C ∧ H1 a = some (exo a C none) ∧ Q .non H1) : tInit K ta σ H Q := h
theorem i_fst {K : PySem.W.Frag} {f : Str} {to te : TE} {D : Ends} {σ : L2.St} {H : Hp} (h : te σ H fun y H1 => to σ H1 fun x H2 => ∃ a C : Addr, x = .ref a ∧ OexE K C ∧ PySem.W.findIn K (.ref C) f = some none ∧
  H2 a = some (exo a C none) ∧ ∀ dx, H2 dx = none → dx ≠ a → D.nx σ (upd (upd H2 dx (exd dx [(f, y)])) a (exo a C (some dx)))) : tFst K f to te D σ H := h
/-- the class InvalidText, as it stands behind the top -/
structure XT (P : Program) (w : World) (K : PySem.W.Frag) (mg : Str → Option Value) (base : Heap) (C : Addr) : Prop where
  T : OexE K C
  xf : XfC K C
  no : PySem.W.findIn K (.ref C) "given" = some none
  hm : mg "InvalidText" = some (.ref C)
  me : PySem.W.exmOne K (.ref C) (.ref C) = some true
  ini : ∃ (fI : Addr) (fd : FuncData), PySem.W.findIn K (.ref C) "__init__" = some (some (.ref fI)) ∧ PySem.W.typeIn K (.ref fI) = some (.type "function") ∧ FnOk P w K mg base CX0 1 fI fd ["self", "given"] (spInit K) ∧ Binds K fd ["self", "given"] []
theorem pmk_T {X : Cx} {C : Addr} {n : Nat} {e : Expr} {te : TE} {p pos : Pos} (xt : XT X.prog X.w X.K X.mg X.base C) (hr : Room n X.A) (he : PE X e te) (hn : 2 ≤ n := by decide) (hg : Gl X "InvalidText" := by rfl)
    (he2 : starEach [e] X.env = (false, eval e X.env) :: starEach [] X.env := by rfl) : PMk X (.Call (.Name "InvalidText" p) [e] [] pos) (tMkO C (spInit X.K) [] (tCons te tNil)) := by
  obtain ⟨fI, fd, h1, h2, h3, h4⟩ := xt.ini
  exact pmk_E xt.T h1 h2 h3 (hr.mono hn) h4 pass0 xt.hm (pa_cons he pa_nil he2) hg (by decide) he2 (by rfl)
def Thrown (K : PySem.W.Frag) (C : Addr) (vs : List V) (H1 : Hp) (Q : XK) : Prop := vs.length ≤ 1000 ∧ ∀ a, H1 a = none → spInit K (.ref a :: (vs ++ [])) (upd H1 a (exo a C none))
  (fun v H2 => v = .non ∧ ∃ (d : Addr) (fs : List (Str × V)), H2 a = some (exo a C (some d)) ∧ H2 d = some (exd d fs) ∧ H1 d = none ∧ Q (.ref C) (some d) (upd (del H2 a) d (.xd fs))) (fun _ _ _ => False)
theorem i_mk {K : PySem.W.Frag} {C : Addr} {ta : TA} {σ : L2.St} {H : Hp} {Q : XK} (h : ta σ H fun vs H1 => Thrown K C vs H1 Q) : tMkO C (spInit K) [] ta σ H Q := h
def tRs (t : L2.St → Hp → XK → Prop) (W : WX) : TS := fun _ σ H => t σ H fun cls d H' => W cls d σ H'
theorem ps_rs {X : Cx} {W : WX} {e : Expr} {t : L2.St → Hp → XK → Prop} {pos : Pos} (hc : X.calm = true) (tk : Takes X W) (he : PMk X e t) : PS X (.Raise (some e) none pos) (tRs t W) := L2.ps_raise hc tk he
theorem i_raise {t : L2.St → Hp → XK → Prop} {W : WX} {D : Ends} {σ : L2.St} {H : Hp} (h : t σ H fun cls d H' => W cls d σ H') : tRs t W D σ H := h
theorem i_thrown {K : PySem.W.Frag} {C : Addr} {v : V} {H1 : Hp} {Q : XK} (T : OexE K C) (no : PySem.W.findIn K (.ref C) "given" = some none) (h : ∀ dx, H1 dx = none → Q (.ref C) (some dx) (upd H1 dx (.xd [("given", v)]))) : Thrown K C [v] H1 Q := by
  refine ⟨by simp, fun a na => ⟨a, C, v, rfl, upd_same, T, no, fun dx nx ne => ⟨rfl, dx, [("given", v)], upd_same, ?_, ?_, ?_⟩⟩⟩
  · rw [upd_ne ne, upd_same]
  · rw [upd_ne ne] at nx; exact nx
  · rw [upd_ne ne] at nx
    have e : upd (del (upd (upd (upd H1 a (exo a C none)) dx (exd dx [("given", v)])) a (exo a C (some dx))) a) dx (.xd [("given", v)]) = upd H1 dx (.xd [("given", v)]) := by
      funext b
      by_cases c : b = dx
      · rw [c, upd_same, upd_same]
      · rw [upd_ne c, upd_ne c]
        by_cases c2 : b = a
        · rw [c2, del_same, na]
        · rw [del_ne c2, upd_ne c2, upd_ne c, upd_ne c2]
    rw [e]
    exact h dx nx
theorem i_dnew {σ : L2.St} {H : Hp} {Q : VK} (h : ∀ p, H p = none → Q (.ref p) (upd H p (.dK []))) : tDNewK σ H Q := h
end Sw
namespace Sw
open PySem PySem.Spec PyProof.Rows L2
/-! ### try with several clauses that name the error -/
inductive AsOk (X : Cx) (Wo : WX) : List ExceptHandler → (Ends → WX) → Prop
  | nil : AsOk X Wo [] fun _ => Wo
  | cons {x n : Str} {c : Value} {i : Nat} {ts : Addr → Value → Option Addr → TS} {st : Stmt} {more : List Stmt} {p1 p2 : Pos} {hds : List ExceptHandler} {W : Ends → WX}
      (hi : X.N[i]? = some n) (hl : X.env.kindOf n = some .local) (hc : Names X x c)
      (su : ∀ (a : Addr) (o : Obj) (cls : Value) (d : Option Addr) (pn : List (Addr × Obj)), Zc cls d o → (∃ vs, o.data = .fields vs) → PSs (X.suite a ((a, o) :: pn)) (st :: more) (ts a cls d))
      (rest : AsOk X Wo hds W) : AsOk X Wo (.ExceptHandler (some (.Name x p1)) (some n) (st :: more) p2 :: hds) fun D => wAs X.K c i ts (W D) D
theorem ps_tries {X : Cx} {Wo : WX} {W : Ends → WX} {body : List Stmt} {h₀ : ExceptHandler} {hds : List ExceptHandler} {pos : Pos} {tb : WX → TS} (hs : X.stack = X.env :: X.outer) (hf : X.env.frame = some X.env.locals) (nd : X.N.Nodup) (tk : Takes X Wo)
    (hb : ∀ (V : WX) (pn : List (Addr × Obj)) (xe : Value → Shared → Prop), Takes (X.tr pn xe) V → PassesOwn (model X.prog X.w) X.A X.env xe → PSs (X.tr pn xe) body (tb V))
    (hh : AsOk X Wo (h₀ :: hds) W) : PS X (.Try body (h₀ :: hds) [] [] pos) fun D σ H => tb (W D) D σ H := by
  constructor
  intro pins s σ H D I h
  have ok := I.ok
  have fr : X.A.frames = some (X.env :: X.outer) := by rw [← hs]; exact ok.frames
  let after : Value → Shared → Prop := fun e s₁ => wpAny (model X.prog X.w) X.A (noteFrame e X.env) (fun _ s₂ => wpAny (model X.prog X.w) X.A (setFlight e none) (fun _ s₃ => wpAny (model X.prog X.w) X.A (handleBy e X.env (h₀ :: hds)) (SP X pins D) X.xe s₃) X.xe s₂) X.xe s₁
  have run := (hb (W D) (X.pn ++ pins) after (fun u s' air => ?_) PassesOwn.looking).run [] s σ H D (I.toTry _) h
  · refine wpAny_Try_except (wpAny_mono run (fun f s1 z => ?_) fun _ _ z => z)
    cases f <;> obtain ⟨_, _, z⟩ := z
    · exact wpAny_execs_nil ⟨_, _, z.1.ofTry ok, z.2⟩
    · exact ⟨_, _, z.1.ofTry ok, z.2⟩
    · exact ⟨_, _, z.1.ofTry ok, z.2⟩
    · obtain ⟨H', J, r, q⟩ := z
      exact ⟨_, _, _, J.ofTry ok, r, q⟩
  · obtain ⟨a, B, sI, pins', σ', H', cls, d, rfl, J0, nb, up, sky, na, os, ag, w⟩ := air
    have J := J0.ofTry ok
    show wpAny (model X.prog X.w) X.A (noteFrame (.ref a) X.env) _ _ _
    refine Sky.land Zc.steady fr hf (by rw [← hs]; exact sky) fun h3 fl3 up3 => ?_
    have J3 : Inv X pins σ' H' { s' with heap := h3 } := J.landed nb fl3.1 (up.trans up3) os ag
    obtain ⟨o3, vs3, ho3, z3, d3⟩ := fl3.there
    have out : a ∉ frs (X.env :: X.outer) := fun hm => by
      obtain ⟨_, o', e', hn⟩ := fl3.2.2.1.mem hm
      cases ho3.symm.trans e'
      exact hn _ d3
    have nL : a ≠ X.env.locals := fun z => out (List.mem_filterMap.mpr ⟨_, List.mem_cons_self, by rw [hf, z]⟩)
    have nF : a ∉ X.fs := fun hm => by
      obtain ⟨e, he, q⟩ := List.mem_filterMap.mp hm
      exact out (List.mem_filterMap.mpr ⟨e, List.mem_cons_of_mem _ he, q⟩)
    have S3 := J3.suite ho3 d3 na nL nF
    clear h
    revert w
    generalize h₀ :: hds = all at hh
    intro w
    induction hh with
    | nil =>
      refine wpAny_handleBy_nil ?_
      obtain ⟨_, _, _, o, vs, T, _, _, g1, _, g2, g3, _⟩ := id fl3
      unfold PySem.passOn
      refine wpAny_bind (wpAny_field g1 g2 g3 ?_)
      rw [if_neg (by simp : ¬ (Value.ref T == Value.none) = true)]
      have away : wpAny (model X.prog X.w) X.A (setFlight (.ref a) X.env.frame) (fun _ s4 => wpAny (model X.prog X.w) X.A (throw (.ref a) : Sem Flow) (SP X pins D) X.xe s4) X.xe { s' with heap := h3 } := by
        rw [hf]
        exact HandSPX.setFlight_upZ fl3 fun h4 hh4 up4 => wpAny_throw (tk _ _ ⟨a, B, sI, pins, σ', H', cls, d, rfl, J, nb, (up.trans up3).trans up4, .inr (.inr (by rw [hs]; exact hh4)), na, os, ag, w⟩)
      first | exact wpAny_bind (wpAny_pure (wpAny_bind away)) | exact wpAny_bind away
    | @cons x n c i ts st more p1 p2 hds W hi hl hc su rest ih =>
      obtain ⟨b, hb1, yes, no⟩ := w
      refine wpAny_handleBy_cons (codeAny_handlers_test ?_) (by intro q; cases q)
      have ty : PySem.W.Looks (model X.prog X.w) h3 (typeOf (.ref a)) cls := fun _ _ _ s k q => wpAny_typeOf_ref (k _ _ ho3) (by rw [z3.1]; exact q)
      have hit := PySem.W.exm_one (M := model X.prog X.w) J3.kIn ty hb1
      have name : ∀ {Q E : Value → Shared → Prop}, Q c { s' with heap := h3 } → wpAny (model X.prog X.w) (X.A.mark (some (.ref a))) (eval (.Name x p1) X.env) Q E { s' with heap := h3 } := fun q => by
        obtain ⟨hg, hd, ⟨hm⟩ | ⟨hm, hv, hn⟩⟩ := hc
        · exact ld_glob (X := X.suite a ((a, o3) :: (X.pn ++ pins))) S3 hg (by assumption) q hd
        · exact ld_blt (X := X.suite a ((a, o3) :: (X.pn ++ pins))) S3 hg hm hv q hn hd
      refine name (hit.here ?_)
      cases b with
      | false => exact ih (no rfl)
      | true =>
        refine codeAny_handlers_suite_as (HandSPX.lands_againZ fl3 fun h4 fl4 up4 => ?_)
        obtain ⟨o4, vs4, ho4, z4, d4⟩ := fl4.there
        have J4 : Inv X pins σ' H' { s' with heap := h4 } := J.landed nb fl4.1 ((up.trans up3).trans up4) os ag
        refine store_ok (X := X.suite a ((a, o4) :: (X.pn ++ pins))) (v := .ref a) (J4.suite ho4 d4 na nL nF) nd hi (.inl hl) rfl (fun s5 S5 => ?_) (.inr hl)
        refine wpAny_mono ((su a o4 cls d (X.pn ++ pins) z4 ⟨_, d4⟩).run [] s5 _ H' _ S5 (yes rfl a na)) (fun f s6 z => ?_) fun _ _ z => z.elim
        have bye : ∀ {σ6 : L2.St} {H6 : Hp} {Q : Shared → Prop}, Inv (X.suite a ((a, o4) :: (X.pn ++ pins))) [] σ6 H6 s6 → (∀ s7, Inv X pins (σ6.set i none) H6 s7 → Q s7) →
            wpAny (model X.prog X.w) X.A (do bindName X.env n .none; unbindBehindTheSuite X.env n p2) (fun _ s7 => Q s7) X.xe s6 := fun S6 hq => gone_ok (S6.unsuite ok) nd hi hl hq
        cases f <;> obtain ⟨_, _, z⟩ := z
        · exact bye z.1 fun s7 J7 => ⟨_, _, J7, z.2⟩
        · exact bye z.1 fun s7 J7 => ⟨_, _, J7, z.2⟩
        · exact bye z.1 fun s7 J7 => ⟨_, _, J7, z.2⟩
        · obtain ⟨H6, S6, r6, q6⟩ := z
          exact bye S6 fun s7 J7 => ⟨_, _, _, J7, r6, q6⟩
end Sw
namespace Sw
open PySem PySem.Spec PyProof.Rows L2
/-- isinstance(e, c), e the caught error, its fields at d -/
def rIsEd (K : PySem.W.Frag) (a : Addr) (cls : Value) (d : Option Addr) : List V → Hp → VK → Prop := fun xs H Q => ∃ (D c dd : Addr) (fs : List (Str × V)) (b : Bool), xs = [.ref a, .ref c] ∧ cls = .ref D ∧ ExcC K D ∧ d = some dd ∧ H dd = some (.xd fs) ∧ PySem.W.kitOne K (.ref D) (.ref c) = some b ∧ Q (.bl b) H
theorem call_isEd {X : Cx} {a : Addr} {oe : Obj} {cls : Value} {d : Option Addr} {pn : List (Addr × Obj)} (hz : Zc cls d oe) (hf : ∃ vs, oe.data = .fields vs) : CallR (X.suite a ((a, oe) :: pn)) (.builtin "isinstance") (rIsEd X.K a cls d) := by
  intro pins s σ H xs us Q I r h
  obtain ⟨D, c, dd, fs, b, rfl, rfl, C, rfl, ea, e, q⟩ := h
  cases r with
  | cons rx rr =>
    cases rr with
    | cons rt rr =>
      cases rr
      cases rx
      cases rt
      obtain ⟨hget, _⟩ := I.pin (a, oe) (List.mem_append.mpr (.inl List.mem_cons_self))
      obtain ⟨vs, hv⟩ := hf
      have hx : ObjOk X.prog X.w H s.heap dd (.xd fs) := I.hok dd _ ea
      obtain ⟨mA, hns, hr⟩ := hx
      obtain ⟨od, ho, hl⟩ := lookIn_ns hns
      have J : PySem.W.InstAt s.heap a oe D (some od) := ⟨hget, hz.1, by unfold PySem.W.notCls; rw [hv] <;> rfl, by rw [hz.2]; exact ho⟩
      exact PySem.W.kia_one (PySem.W.kitx_exc (by obtain ⟨cd, hc, _⟩ := PySem.W.any_some C.hd; rw [hc]; rfl) C.hg C.hk C.hs C.ha C.hn C.ht C.hm) I.kIn J e (fun z => nomatch z) fun tk => ⟨.bl b, H, I.kept (t' := tk) fun _ _ z => z, rfl, q⟩
end Sw
namespace Sw
open PySem PySem.Spec PyProof.Rows L2
/-! ### data with dicts in it -/
def keyD : Key → PyData
  | .inl i => .int i
  | .inr x => .str x
mutual
inductive De (K : PySem.W.Frag) (H : Hp) : V → PyData → Prop
  | non : De K H .non .none
  | bl (b : Bool) : De K H (.bl b) (.bool b)
  | int (i : Int) : De K H (.int i) (.int i)
  | str (x : Str) : De K H (.str x) (.str x)
  | lst {a : Addr} {xs : List V} {ds : List PyData} : H a = some (.lst xs) → sysModules < a → DeAll K H xs ds → De K H (.ref a) (.list ds)
  | tup {a : Addr} {xs : List V} {ds : List PyData} : SqT K H a xs → DeAll K H xs ds → De K H (.ref a) (.tuple ds)
  | dict {a : Addr} {kvs : List (Key × V)} {ds : List (PyData × PyData)} : H a = some (.dK kvs) → DeKv K H kvs ds → De K H (.ref a) (.dict ds)
inductive DeAll (K : PySem.W.Frag) (H : Hp) : List V → List PyData → Prop
  | nil : DeAll K H [] []
  | cons {v : V} {vs : List V} {d : PyData} {ds : List PyData} : De K H v d → DeAll K H vs ds → DeAll K H (v :: vs) (d :: ds)
inductive DeKv (K : PySem.W.Frag) (H : Hp) : List (Key × V) → List (PyData × PyData) → Prop
  | nil : DeKv K H [] []
  | cons {k : Key} {v : V} {vs : List (Key × V)} {d : PyData} {ds : List (PyData × PyData)} : De K H v d → DeKv K H vs ds → DeKv K H ((k, v) :: vs) ((keyD k, d) :: ds)
end
theorem key_reads {h : Heap} {k : Key} {u : Value} (e : keyIs k u = true) : Reads h u (keyD k) [] := by
  rcases keyIs_shape e with ⟨i, t, rfl, rfl⟩ | ⟨x, t, rfl, rfl⟩
  · exact .int i t
  · exact .str x t
section
variable {X : Cx} {pins : List (Addr × Obj)} {σ : L2.St} {H : Hp} {s : Shared}
mutual
theorem De.reads (I : Inv X pins σ H s) : ∀ (d : PyData) (v : V) (u : Value), De X.K H v d → RelV v u → ∃ as, Reads s.heap u d as ∧ sysModules ∉ as
  | .none, _, _, h, r => by
    cases h
    cases r
    exact ⟨_, Reads.none, by simp⟩
  | .bool b, _, _, h, r => by
    cases h
    cases r
    exact ⟨_, Reads.bool b, by simp⟩
  | .int i, _, _, h, r => by
    cases h
    obtain ⟨t, rfl⟩ := r
    exact ⟨_, Reads.int i t, by simp⟩
  | .str x, _, _, h, r => by
    cases h
    obtain ⟨t, rfl⟩ := r
    exact ⟨_, Reads.str x t, by simp⟩
  | .list ds, _, _, h, r => by
    cases h with
    | lst hs hlt ha =>
      cases r
      obtain ⟨its, rv, ⟨o, n, ho, hc, _, hd⟩, _⟩ := I.list (.inl (.inl hs))
      obtain ⟨as, hr, hn⟩ := De.readsAll I ds _ its ha rv
      exact ⟨_, Reads.list ho hc hd hr, by
        intro z
        rcases List.mem_cons.mp z with z | z
        · exact Nat.lt_irrefl _ (z ▸ hlt)
        · exact hn z⟩
  | .tuple ds, _, _, h, r => by
    cases h with
    | tup hs ha =>
      cases r
      obtain ⟨its, rv, ⟨o, ho, hc, n, hd⟩, _⟩ := I.tuple hs
      obtain ⟨as, hr, hn⟩ := De.readsAll I ds _ its ha rv
      exact ⟨_, Reads.tuple ho hc hd hr, hn⟩
  | .dict ds, _, _, h, r => by
    cases h with
    | dict hs ha =>
      cases r
      obtain ⟨_, notSys, vs, kv, o, es, ep, ho, ex, hd, _, pr, _⟩ : ObjOk X.prog X.w H s.heap _ (.dK _) := I.hok _ _ hs
      obtain ⟨as, bs, hr1, hr2, hn1, hn2⟩ := De.readsKv I ds _ vs es.toList ha kv pr
      exact ⟨_, Reads.dict ho ex.1 hd hr1 hr2, by
        intro z
        rcases List.mem_append.mp z with z | z
        · rcases List.mem_cons.mp z with z | z
          · rw [← z] at notSys
            exact absurd notSys (by decide)
          · exact hn1 z
        · exact hn2 z⟩
theorem De.readsAll (I : Inv X pins σ H s) : ∀ (ds : List PyData) (vs : List V) (us : List Value), DeAll X.K H vs ds → Vals vs us → ∃ as, ReadsAll s.heap us ds as ∧ sysModules ∉ as
  | [], _, _, h, r => by
    cases h
    cases r
    exact ⟨_, ReadsAll.nil, by simp⟩
  | d :: ds, _, _, h, r => by
    cases h with
    | cons h1 h2 =>
      cases r with
      | cons r1 r2 =>
        obtain ⟨as, q1, n1⟩ := De.reads I d _ _ h1 r1
        obtain ⟨bs, q2, n2⟩ := De.readsAll I ds _ _ h2 r2
        exact ⟨_, ReadsAll.cons q1 q2, fun z => (List.mem_append.mp z).elim n1 n2⟩
theorem De.readsKv (I : Inv X pins σ H s) : ∀ (ds : List (PyData × PyData)) (kvs : List (Key × V)) (vs : List (Key × Value)) (es : List DictEntry), DeKv X.K H kvs ds → KV kvs vs → Pairs (mixKind X.prog X.w) es vs →
    ∃ as bs, ReadsAll s.heap (es.map (·.key)) (ds.map (·.1)) as ∧ ReadsAll s.heap (es.map (·.val)) (ds.map (·.2)) bs ∧ sysModules ∉ as ∧ sysModules ∉ bs
  | [], _, _, _, h, r, p => by
    cases h
    cases r
    cases p
    exact ⟨_, _, ReadsAll.nil, ReadsAll.nil, by simp, by simp⟩
  | d :: ds, _, _, _, h, r, p => by
    cases h with
    | cons h1 h2 =>
      cases r with
      | cons r1 r2 =>
        cases p with
        | cons p1 p2 p3 =>
          obtain ⟨as, q1, n1⟩ := De.reads I _ _ _ h1 r1.2
          obtain ⟨bs, cs, q2, q3, n2, n3⟩ := De.readsKv I _ _ _ _ h2 r2 p3
          refine ⟨[] ++ bs, as ++ cs, ?_, ?_, by simpa using n2, fun z => (List.mem_append.mp z).elim n1 n3⟩
          · rw [List.map_cons, List.map_cons]
            refine .cons (key_reads ?_) q2
            have e := r1.1
            dsimp only at e
            rw [e]
            exact p1
          · rw [List.map_cons, List.map_cons]
            refine .cons ?_ q3
            rw [p2]
            exact q1
end
/-! ### small data -/
mutual
def sok : PyData → Bool
  | .str z => PyData.strOk z
  | .list xs => sokAll xs
  | .tuple xs => sokAll xs
  | _ => true
def sokAll : List PyData → Bool
  | [] => true
  | x :: xs => sok x && sokAll xs
end
mutual
theorem sok_lay : ∀ {d : PyData}, sok d = true → d.hasDict = false → d.canLay0 = true
  | .none, _, _ => by simp only [PyData.canLay0]
  | .bool _, _, _ => by simp only [PyData.canLay0]
  | .int _, _, _ => by simp only [PyData.canLay0]
  | .str z, h, _ => by simp only [PyData.canLay0]; simpa only [sok] using h
  | .list xs, h, z => by
    simp only [PyData.canLay0]
    exact sokAll_lay (by simpa only [sok] using h) (by simpa only [PyData.hasDict] using z)
  | .tuple xs, h, z => by
    simp only [PyData.canLay0]
    exact sokAll_lay (by simpa only [sok] using h) (by simpa only [PyData.hasDict] using z)
  | .dict _, _, z => by simp only [PyData.hasDict] at z; cases z
theorem sokAll_lay : ∀ {ds : List PyData}, sokAll ds = true → PyData.hasDictAll ds = false → PyData.canLayAll0 ds = true
  | [], _, _ => by simp only [PyData.canLayAll0]
  | d :: ds, h, z => by
    simp only [sokAll, Bool.and_eq_true] at h
    simp only [PyData.hasDictAll, Bool.or_eq_false_iff] at z
    simp only [PyData.canLayAll0, sok_lay h.1 z.1, sokAll_lay h.2 z.2, Bool.and_self]
end
structure Sd (n w : Nat) (d : PyData) : Prop where
  dep : d.depth ≤ n
  wei : d.weight ≤ w
  sh : d.showable = true
  ls : d.leavesShort 60 = true
  ok : sok d = true
structure SdAll (n w : Nat) (ds : List PyData) : Prop where
  dep : PyData.depthAll ds ≤ n
  wei : PyData.weightAll ds ≤ w
  sh : PyData.showableAll ds = true
  ls : PyData.leavesShortAll 60 ds = true
  ok : sokAll ds = true
theorem Sd.mono {n w n' w' : Nat} {d : PyData} (s : Sd n w d) (h1 : n ≤ n') (h2 : w ≤ w') : Sd n' w' d := ⟨Nat.le_trans s.dep h1, Nat.le_trans s.wei h2, s.sh, s.ls, s.ok⟩
theorem SdAll.mono {n w n' w' : Nat} {d : List PyData} (s : SdAll n w d) (h1 : n ≤ n') (h2 : w ≤ w') : SdAll n' w' d := ⟨Nat.le_trans s.dep h1, Nat.le_trans s.wei h2, s.sh, s.ls, s.ok⟩
theorem SdAll.nil {n : Nat} : SdAll n 0 [] := ⟨by simp only [PyData.depthAll]; omega, by simp only [PyData.weightAll]; omega, by simp only [PyData.showableAll], by simp only [PyData.leavesShortAll], by simp only [sokAll]⟩
theorem SdAll.cons {n w v : Nat} {d : PyData} {ds : List PyData} (h : Sd n w d) (k : SdAll n v ds) : SdAll n (w + 1 + v) (d :: ds) := by
  obtain ⟨a1, a2, a3, a4, a5⟩ := h
  obtain ⟨b1, b2, b3, b4, b5⟩ := k
  exact ⟨by simp only [PyData.depthAll]; omega, by simp only [PyData.weightAll]; omega, by simp only [PyData.showableAll, a3, b3, Bool.and_self], by simp only [PyData.leavesShortAll, a4, b4, Bool.and_self], by simp only [sokAll, a5, b5, Bool.and_self]⟩
theorem SdAll.inv {n w : Nat} {d : PyData} {ds : List PyData} (h : SdAll n w (d :: ds)) : ∃ u v, u + 1 + v ≤ w ∧ Sd n u d ∧ SdAll n v ds := by
  obtain ⟨a1, a2, a3, a4, a5⟩ := h
  simp only [PyData.depthAll] at a1
  simp only [PyData.weightAll] at a2
  simp only [PyData.showableAll, Bool.and_eq_true] at a3
  simp only [PyData.leavesShortAll, Bool.and_eq_true] at a4
  simp only [sokAll, Bool.and_eq_true] at a5
  exact ⟨d.weight, PyData.weightAll ds, by omega, ⟨by omega, Nat.le_refl _, a3.1, a4.1, a5.1⟩, ⟨by omega, Nat.le_refl _, a3.2, a4.2, a5.2⟩⟩
theorem SdAll.app {n : Nat} : ∀ {w v : Nat} {ds es : List PyData}, SdAll n w ds → SdAll n v es → SdAll n (w + v) (ds ++ es)
  | _, _, [], _, _, k => k.mono (Nat.le_refl _) (by omega)
  | _, _, d :: ds, es, h, k => by
    obtain ⟨a, b, hab, h1, h2⟩ := h.inv
    exact (SdAll.cons h1 (h2.app k)).mono (Nat.le_refl _) (by omega)
theorem SdAll.take {n : Nat} : ∀ {w : Nat} {ds : List PyData} (k : Nat), SdAll n w ds → SdAll n w (ds.take k)
  | _, ds, 0, _ => by rw [List.take_zero]; exact SdAll.nil.mono (Nat.le_refl _) (by omega)
  | _, [], k + 1, h => by rw [List.take_nil]; exact h
  | _, d :: ds, k + 1, h => by
    obtain ⟨a, b, hab, h1, h2⟩ := h.inv
    rw [List.take_succ_cons]
    exact (SdAll.cons h1 (h2.take k)).mono (Nat.le_refl _) (by omega)
theorem SdAll.drop {n : Nat} : ∀ {w : Nat} {ds : List PyData} (k : Nat), SdAll n w ds → SdAll n w (ds.drop k)
  | _, ds, 0, h => h
  | _, [], k + 1, h => by rw [List.drop_nil]; exact h
  | _, d :: ds, k + 1, h => by
    obtain ⟨a, b, hab, h1, h2⟩ := h.inv
    rw [List.drop_succ_cons]
    exact (h2.drop k).mono (Nat.le_refl _) (by omega)
theorem SdAll.get {n : Nat} : ∀ {w : Nat} {ds : List PyData} {d : PyData}, SdAll n w ds → d ∈ ds → Sd n w d
  | _, d :: ds, e, h, hm => by
    obtain ⟨a, b, hab, h1, h2⟩ := h.inv
    rcases List.mem_cons.mp hm with rfl | hm
    · exact h1.mono (Nat.le_refl _) (by omega)
    · exact (h2.get hm).mono (Nat.le_refl _) (by omega)
theorem sd_all {n w : Nat} : ∀ {ds : List PyData}, (∀ d ∈ ds, Sd n w d) → SdAll n (ds.length * (w + 1)) ds
  | [], _ => SdAll.nil.mono (Nat.le_refl _) (by omega)
  | d :: ds, h => (SdAll.cons (h d List.mem_cons_self) (sd_all (ds := ds) fun x hx => h x (List.mem_cons_of_mem _ hx))).mono (Nat.le_refl _) (by rw [List.length_cons, Nat.succ_mul]; omega)
theorem sd_lst' {n w : Nat} {ds : List PyData} (h : SdAll n w ds) : Sd (n + 1) w (.list ds) := by
  obtain ⟨b1, b2, b3, b4, b5⟩ := h
  exact ⟨by simp only [PyData.depth]; omega, by simp only [PyData.weight]; exact b2, by simp only [PyData.showable, b3], by simp only [PyData.leavesShort, b4], by simp only [sok, b5]⟩
theorem sd_tup' {n w : Nat} {ds : List PyData} (h : SdAll n w ds) : Sd (n + 1) w (.tuple ds) := by
  obtain ⟨b1, b2, b3, b4, b5⟩ := h
  exact ⟨by simp only [PyData.depth]; omega, by simp only [PyData.weight]; exact b2, by simp only [PyData.showable, b3], by simp only [PyData.leavesShort, b4], by simp only [sok, b5]⟩
theorem sd_lst {n w : Nat} {ds : List PyData} (h : ∀ d ∈ ds, Sd n w d) : Sd (n + 1) (ds.length * (w + 1)) (.list ds) := sd_lst' (sd_all h)
theorem sd_tup {n w : Nat} {ds : List PyData} (h : ∀ d ∈ ds, Sd n w d) : Sd (n + 1) (ds.length * (w + 1)) (.tuple ds) := sd_tup' (sd_all h)
theorem Sd.tupI {n w : Nat} {ds : List PyData} (s : Sd (n + 1) w (.tuple ds)) : SdAll n w ds := by
  obtain ⟨b1, b2, b3, b4, b5⟩ := s
  simp only [PyData.depth] at b1
  exact ⟨by omega, by simpa only [PyData.weight] using b2, by simpa only [PyData.showable] using b3, by simpa only [PyData.leavesShort] using b4, by simpa only [sok] using b5⟩
theorem Sd.lstI {n w : Nat} {ds : List PyData} (s : Sd (n + 1) w (.list ds)) : SdAll n w ds := by
  obtain ⟨b1, b2, b3, b4, b5⟩ := s
  simp only [PyData.depth] at b1
  exact ⟨by omega, by simpa only [PyData.weight] using b2, by simpa only [PyData.showable] using b3, by simpa only [PyData.leavesShort] using b4, by simpa only [sok] using b5⟩
theorem sd_non : Sd 0 0 .none := ⟨by simp only [PyData.depth]; omega, by simp only [PyData.weight]; omega, by simp only [PyData.showable], by simp only [PyData.leavesShort], by simp only [sok]⟩
theorem sd_bl (b : Bool) : Sd 0 0 (.bool b) := ⟨by simp only [PyData.depth]; omega, by simp only [PyData.weight]; omega, by simp only [PyData.showable], by simp only [PyData.leavesShort], by simp only [sok]⟩
theorem sd_emp : Sd 1 0 (.dict []) := ⟨by simp only [PyData.depth, PyData.depthKv]; omega, by simp only [PyData.weight, PyData.weightKv]; omega, by simp only [PyData.showable, PyData.showableKv], by simp only [PyData.leavesShort, PyData.leavesShortKv], by simp only [sok]⟩
theorem strOk_lt' {l : List Nat} (h : ∀ c ∈ l, c ≤ 1000) : PyData.strOk (S l) = true := by
  unfold PyData.strOk
  rw [Array.all_eq_true]
  intro i hi
  have q := h (l[i]'(by simpa [S] using hi)) (List.getElem_mem _)
  have e : (S l).cps[i] = l[i]'(by simpa [S] using hi) := by simp [S]
  rw [e]
  exact decide_eq_true (by omega)
theorem sd_str {l : List Nat} (h : ∀ c ∈ l, c ≤ 1000) : Sd 0 l.length (.str (S l)) := by
  refine ⟨by simp only [PyData.depth]; omega, by simp only [PyData.weight, S_size]; omega, by simp only [PyData.showable], ?_, by simp only [sok]; exact strOk_lt' h⟩
  simp only [PyData.leavesShort]
  rw [List.all_eq_true]
  intro c hc
  have : c ∈ l := by simpa [S] using hc
  exact decide_eq_true (by have := h c this; omega)
theorem sd_intW {i : Int} {n k : Nat} (h : i.natAbs < 10 ^ 40) (h2 : i.natAbs < 2 ^ k) : Sd 0 k (.int i) := by
  refine ⟨by simp only [PyData.depth]; omega, ?_, ?_, ?_, by simp only [sok]⟩
  · simp only [PyData.weight]
    split
    · omega
    · rename_i z
      have z' : i.natAbs ≠ 0 := by
        intro e
        have : i = 0 := by omega
        rw [this] at z
        exact z rfl
      have := (Nat.log2_lt z' (k := k)).mpr h2
      omega
  · simp only [PyData.showable]
    refine decide_eq_true ?_
    by_cases z : i.natAbs = 0
    · rw [z]; decide
    · have := (Nat.log2_lt z (k := 139)).mpr (Nat.lt_of_lt_of_le h (by decide))
      omega
  · simp only [PyData.leavesShort]
    have e := int_text_length_le10 (k := 40) (by decide) h
    refine decide_eq_true ?_
    show (Str.ofString (toString i)).length ≤ 60
    rw [PySem.ofString_length]
    omega
theorem sd_int {i : Int} (h : i.natAbs < 10 ^ 40) : Sd 0 140 (.int i) := sd_intW (n := 0) h (Nat.lt_of_lt_of_le h (by decide))
/-- an int of a few digits -/
theorem sd_int9 {i : Int} (h : i.natAbs < 512) : Sd 0 9 (.int i) := sd_intW (n := 0) (Nat.lt_of_lt_of_le h (by decide)) (by omega)
theorem Sd.len {n w : Nat} {d : PyData} (s : Sd n w d) (hw : w ≤ 270000) : d.shown.length ≤ sizeLine := by
  have := PyData.shown_le 60 (by omega) d s.ls
  have h2 := s.wei
  have : d.shown.length ≤ 62 * 270000 + 60 := Nat.le_trans this (by omega)
  exact Nat.le_trans this (by decide)
end
def rRepE (K : PySem.W.Frag) : List V → Hp → VK → Prop := fun xs M R => ∃ x d n w, xs = [x] ∧ (De K M x d ∨ (Dp K M x d ∧ d.hasDict = false)) ∧ Sd n w d ∧ n ≤ 60 ∧ w ≤ 270000 ∧ R (.str d.shown) M
theorem call_repE {X : Cx} (quiet : X.A.guards = some []) (hu : X.A.units + 64 < cLine) : CallR X (.builtin "repr") (rRepE X.K) := by
  intro pins s σ M xs us R I r h
  obtain ⟨x, d, n, w, rfl, hd, sd, hn, hw, q⟩ := h
  obtain ⟨u, rfl, ru⟩ := vals1 r
  have sz := sd.len hw
  have dp := sd.dep
  rcases hd with hd | ⟨hd, nd⟩
  rotate_left
  · obtain ⟨as, rd⟩ := Dp.reads I d x u hd ru
    cases hd with
    | non =>
      cases ru
      exact PySem.P.repr_of_none ⟨.str (PyData.shown .none), M, I.tok _, ⟨_, by simp only [PyData.shown]; rfl⟩, q⟩
    | bl b =>
      cases ru
      exact PySem.P.repr_of_bool ⟨.str (PyData.shown (.bool b)), M, I.tok _, ⟨_, by simp only [PyData.shown]; rfl⟩, q⟩
    | int i =>
      obtain ⟨t, rfl⟩ := ru
      exact PySem.P.repr_of_int (of_decide_eq_true (by simpa only [PyData.showable] using sd.sh)) ⟨.str (PyData.shown (.int i)), M, I.tok _, ⟨_, by simp only [PyData.shown]; rfl⟩, q⟩
    | str z =>
      obtain ⟨t, rfl⟩ := ru
      exact PySem.P.repr_of_str ⟨.str (PyData.shown (.str z)), M, I.tok _, ⟨_, by simp only [PyData.shown]; rfl⟩, q⟩ (by simpa only [PyData.shown] using sz)
    | lst h1 h2 =>
      cases ru
      exact repr_of_reads' rd sd.sh (PyData.noDict_hsm nd) quiet (by omega) (fun _ _ e => e) (fun h' t tk keep => ⟨.str _, M, I.kept (t' := tk) keep, ⟨t, rfl⟩, q⟩) sz
    | tup h1 h2 =>
      cases ru
      exact repr_of_reads' rd sd.sh (PyData.noDict_hsm nd) quiet (by omega) (fun _ _ e => e) (fun h' t tk keep => ⟨.str _, M, I.kept (t' := tk) keep, ⟨t, rfl⟩, q⟩) sz
  obtain ⟨as, rd, nn⟩ := De.reads I d x u hd ru
  cases hd with
  | non =>
    cases ru
    exact PySem.P.repr_of_none ⟨.str (PyData.shown .none), M, I.tok _, ⟨_, by simp only [PyData.shown]; rfl⟩, q⟩
  | bl b =>
    cases ru
    exact PySem.P.repr_of_bool ⟨.str (PyData.shown (.bool b)), M, I.tok _, ⟨_, by simp only [PyData.shown]; rfl⟩, q⟩
  | int i =>
    obtain ⟨t, rfl⟩ := ru
    exact PySem.P.repr_of_int (of_decide_eq_true (by simpa only [PyData.showable] using sd.sh)) ⟨.str (PyData.shown (.int i)), M, I.tok _, ⟨_, by simp only [PyData.shown]; rfl⟩, q⟩
  | str z =>
    obtain ⟨t, rfl⟩ := ru
    exact PySem.P.repr_of_str ⟨.str (PyData.shown (.str z)), M, I.tok _, ⟨_, by simp only [PyData.shown]; rfl⟩, q⟩ (by simpa only [PyData.shown] using sz)
  | lst h1 h0 h2 =>
    cases ru
    exact repr_of_reads' rd sd.sh (fun _ => nn) quiet (by omega) (fun _ _ e => e) (fun h' t tk keep => ⟨.str _, M, I.kept (t' := tk) keep, ⟨t, rfl⟩, q⟩) sz
  | tup h1 h2 =>
    cases ru
    exact repr_of_reads' rd sd.sh (fun _ => nn) quiet (by omega) (fun _ _ e => e) (fun h' t tk keep => ⟨.str _, M, I.kept (t' := tk) keep, ⟨t, rfl⟩, q⟩) sz
  | dict h1 h2 =>
    cases ru
    exact repr_of_reads' rd sd.sh (fun _ => nn) quiet (by omega) (fun _ _ e => e) (fun h' t tk keep => ⟨.str _, M, I.kept (t' := tk) keep, ⟨t, rfl⟩, q⟩) sz
theorem i_repE {K : PySem.W.Frag} {M : Hp} {x : V} {d : PyData} {n w : Nat} {R : VK} (h : De K M x d) (s : Sd n w d) (hn : n ≤ 60 := by omega) (hw : w ≤ 270000 := by omega) (k : R (.str d.shown) M) : rRepE K [x] M R := ⟨x, d, n, w, rfl, .inl h, s, hn, hw, k⟩
theorem i_repP {K : PySem.W.Frag} {M : Hp} {x : V} {d : PyData} {n w : Nat} {R : VK} (h : Dp K M x d) (z : d.hasDict = false) (s : Sd n w d) (hn : n ≤ 60 := by omega) (hw : w ≤ 270000 := by omega) (k : R (.str d.shown) M) : rRepE K [x] M R := ⟨x, d, n, w, rfl, .inr ⟨h, z⟩, s, hn, hw, k⟩
/-! ### what is kept -/
mutual
theorem De.same {K : PySem.W.Frag} {H H' : Hp} (s : Same H H') : ∀ {v : V} {d : PyData}, De K H v d → De K H' v d
  | _, _, .non => .non
  | _, _, .bl b => .bl b
  | _, _, .int i => .int i
  | _, _, .str x => .str x
  | _, _, .lst h1 h0 h2 => .lst (s _ _ h1) h0 (DeAll.same s h2)
  | _, _, .tup h1 h2 => .tup (Same.sqT s h1) (DeAll.same s h2)
  | _, _, .dict h1 h2 => .dict (s _ _ h1) (DeKv.same s h2)
theorem DeAll.same {K : PySem.W.Frag} {H H' : Hp} (s : Same H H') : ∀ {vs : List V} {ds : List PyData}, DeAll K H vs ds → DeAll K H' vs ds
  | _, _, .nil => .nil
  | _, _, .cons h1 h2 => .cons (De.same s h1) (DeAll.same s h2)
theorem DeKv.same {K : PySem.W.Frag} {H H' : Hp} (s : Same H H') : ∀ {vs : List (Key × V)} {ds : List (PyData × PyData)}, DeKv K H vs ds → DeKv K H' vs ds
  | _, _, .nil => .nil
  | _, _, .cons h1 h2 => .cons (De.same s h1) (DeKv.same s h2)
end
theorem DeAll.len {K : PySem.W.Frag} {H : Hp} : ∀ {vs : List V} {ds : List PyData}, DeAll K H vs ds → vs.length = ds.length
  | _, _, .nil => rfl
  | _, _, .cons _ h2 => by rw [List.length_cons, List.length_cons, h2.len]
theorem DeAll.get {K : PySem.W.Frag} {H : Hp} : ∀ {vs : List V} {ds : List PyData} {i : Nat} {v : V}, DeAll K H vs ds → vs[i]? = some v → ∃ d, ds[i]? = some d ∧ De K H v d
  | _, _, _, _, .nil, e => by simp at e
  | _, _, 0, _, .cons h1 _, e => by simp at e; subst e; exact ⟨_, rfl, h1⟩
  | _, _, i + 1, v, .cons _ h2, e => by
    obtain ⟨d, h1, h3⟩ := h2.get (i := i) (v := v) (by simpa using e)
    exact ⟨d, by simpa using h1, h3⟩
theorem DeAll.app {K : PySem.W.Frag} {H : Hp} : ∀ {vs ws : List V} {ds es : List PyData}, DeAll K H vs ds → DeAll K H ws es → DeAll K H (vs ++ ws) (ds ++ es)
  | _, _, _, _, .nil, h => h
  | _, _, _, _, .cons h1 h2, h => .cons h1 (h2.app h)
theorem DeAll.take {K : PySem.W.Frag} {H : Hp} : ∀ {vs : List V} {ds : List PyData} (n : Nat), DeAll K H vs ds → DeAll K H (vs.take n) (ds.take n)
  | _, _, 0, _ => by rw [List.take_zero, List.take_zero]; exact .nil
  | _, _, n + 1, .nil => by rw [List.take_nil, List.take_nil]; exact .nil
  | _, _, n + 1, .cons h1 h2 => .cons h1 (h2.take n)
theorem DeAll.drop {K : PySem.W.Frag} {H : Hp} : ∀ {vs : List V} {ds : List PyData} (n : Nat), DeAll K H vs ds → DeAll K H (vs.drop n) (ds.drop n)
  | _, _, 0, h => h
  | _, _, n + 1, .nil => by rw [List.drop_nil, List.drop_nil]; exact .nil
  | _, _, n + 1, .cons _ h2 => h2.drop n
mutual
theorem De.dp {K : PySem.W.Frag} {H : Hp} : ∀ {v : V} {d : PyData}, De K H v d → d.hasDict = false → Dp K H v d
  | _, _, .non, _ => .non
  | _, _, .bl b, _ => .bl b
  | _, _, .int i, _ => .int i
  | _, _, .str x, _ => .str x
  | _, _, .lst h1 _ h2, z => .lst (.inl (.inl h1)) (h2.dp (by simpa only [PyData.hasDict] using z))
  | _, _, .tup h1 h2, z => .tup h1 (h2.dp (by simpa only [PyData.hasDict] using z))
  | _, _, .dict _ _, z => by simp only [PyData.hasDict] at z; cases z
theorem DeAll.dp {K : PySem.W.Frag} {H : Hp} : ∀ {vs : List V} {ds : List PyData}, DeAll K H vs ds → PyData.hasDictAll ds = false → DpAll K H vs ds
  | _, _, .nil, _ => .nil
  | _, _, .cons h1 h2, z => by
    simp only [PyData.hasDictAll, Bool.or_eq_false_iff] at z
    exact .cons (h1.dp z.1) (h2.dp z.2)
end
theorem Sd.shaped {n w : Nat} {d : PyData} (s : Sd n w d) (h : n ≤ 60) (z : d.hasDict = false) : SeqAt.shaped d = true := by
  show (PyData.canLay0 d && decide (PyData.depth d ≤ 64)) = true
  rw [sok_lay s.ok z, Bool.true_and]
  exact decide_eq_true (Nat.le_trans s.dep (by omega))
theorem i_eqE {K : PySem.W.Frag} {H : Hp} {x y : V} {d e : PyData} {Q : VK} {n w m u : Nat} (h1 : De K H x d) (h2 : De K H y e) (s1 : Sd n w d) (s2 : Sd m u e) (z1 : d.hasDict = false) (z2 : e.hasDict = false) (k : Q (.bl (PyData.eqv d e)) H) (hn : n ≤ 60 := by omega) (hm : m ≤ 60 := by omega) : rEqD K x y H Q :=
  ⟨d, e, h1.dp z1, h2.dp z2, s1.shaped hn z1, s2.shaped hm z2, k⟩
theorem i_neE {K : PySem.W.Frag} {H : Hp} {x y : V} {d e : PyData} {Q : VK} {n w m u : Nat} (h1 : De K H x d) (h2 : De K H y e) (s1 : Sd n w d) (s2 : Sd m u e) (z1 : d.hasDict = false) (z2 : e.hasDict = false) (k : Q (.bl (!PyData.eqv d e)) H) (hn : n ≤ 60 := by omega) (hm : m ≤ 60 := by omega) : rNeD K x y H Q :=
  ⟨d, e, h1.dp z1, h2.dp z2, s1.shaped hn z1, s2.shaped hm z2, k⟩
/-! ### isinstance of data -/
def tyB : String → PyData → Bool
  | "int", .int _ => true
  | "int", .bool _ => true
  | "bool", .bool _ => true
  | "str", .str _ => true
  | "list", .list _ => true
  | "tuple", .tuple _ => true
  | _, _ => false
theorem tyx_tup {K : PySem.W.Frag} {H : Hp} {a : Addr} {xs : List V} (h : SqT K H a xs) : TyX K H (.ref a) (.type "tuple") := by
  rcases h with (h | ⟨o, h⟩) | ⟨o, its, n, h, c, _⟩
  · exact .base (.tup h)
  · exact .fTuple h
  · exact .kTuple h c
theorem De.isi {K : PySem.W.Frag} {H : Hp} {v : V} {d : PyData} {Q : VK} {n : String} (h : De K H v d) (hn : n = "int" ∨ n = "bool" ∨ n = "str" ∨ n = "list" ∨ n = "tuple") (k : Q (.bl (tyB n d)) H) : rIsi K [v, .ty n] H Q := by
  cases h with
  | non => rcases hn with rfl | rfl | rfl | rfl | rfl <;> exact i_isi _ (.base .non) (kit_ty (by first | (show _ = some true; decide +kernel) | (show _ = some false; decide +kernel))) k
  | bl b => rcases hn with rfl | rfl | rfl | rfl | rfl <;> exact i_isi _ (.base (.bl _)) (kit_ty (by first | (show _ = some true; decide +kernel) | (show _ = some false; decide +kernel))) k
  | int i => rcases hn with rfl | rfl | rfl | rfl | rfl <;> exact i_isi _ (.base (.int _)) (kit_ty (by first | (show _ = some true; decide +kernel) | (show _ = some false; decide +kernel))) k
  | str x => rcases hn with rfl | rfl | rfl | rfl | rfl <;> exact i_isi _ (.base (.str _)) (kit_ty (by first | (show _ = some true; decide +kernel) | (show _ = some false; decide +kernel))) k
  | lst h1 _ h2 => rcases hn with rfl | rfl | rfl | rfl | rfl <;> exact i_isi _ (.base (.lst h1)) (kit_ty (by first | (show _ = some true; decide +kernel) | (show _ = some false; decide +kernel))) k
  | tup h1 h2 => rcases hn with rfl | rfl | rfl | rfl | rfl <;> exact i_isi _ (tyx_tup h1) (kit_ty (by first | (show _ = some true; decide +kernel) | (show _ = some false; decide +kernel))) k
  | dict h1 h2 => rcases hn with rfl | rfl | rfl | rfl | rfl <;> exact i_isi _ (.base (.dK h1)) (kit_ty (by first | (show _ = some true; decide +kernel) | (show _ = some false; decide +kernel))) k
theorem De.tupI {K : PySem.W.Frag} {H : Hp} {v : V} {ds : List PyData} (h : De K H v (.tuple ds)) : ∃ a xs, v = .ref a ∧ SqT K H a xs ∧ DeAll K H xs ds := by
  cases h with | tup h1 h2 => exact ⟨_, _, rfl, h1, h2⟩
theorem De.lstI {K : PySem.W.Frag} {H : Hp} {v : V} {ds : List PyData} (h : De K H v (.list ds)) : ∃ a xs, v = .ref a ∧ H a = some (.lst xs) ∧ sysModules < a ∧ DeAll K H xs ds := by
  cases h with | lst h1 h0 h2 => exact ⟨_, _, rfl, h1, h0, h2⟩
theorem De.intI {K : PySem.W.Frag} {H : Hp} {v : V} {i : Int} (h : De K H v (.int i)) : v = .int i := by cases h; rfl
section
variable {X : Cx} {es : List Expr} {t : TA} {pos : Pos}
def tLstL (t : TA) : TE := fun σ H Q => t σ H fun xs H1 => xs.length ≤ sizeLine ∧ ∀ p, H1 p = none → sysModules < p → Q (.ref p) (upd H1 p (.lst xs))
theorem pe_lstL (h : PA X es t) : PE X (.List es pos) (tLstL t) := by
  refine ⟨fun pins s σ H Q I hq => ?_⟩
  refine wpAny_List_spliced (thn (h.run pos pins s σ H _ I hq) fun us s1 ⟨xs, H1, I1, r, z, q⟩ => ⟨by rw [← r.length]; exact z, ?_⟩)
  have hf : H1 s1.heap.objs.size = none := I1.hok.fresh (Nat.le_refl _)
  refine ⟨.ref s1.heap.objs.size, upd H1 s1.heap.objs.size (.lst xs), I1.laid (t' := s1.toks) (fun b u e => Heap.get?_push_of_some _ e) (Nat.le_refl _) ?_, rfl, q _ hf I1.big⟩
  exact ⟨z, us, 0, r, Heap.get?_push_size _ rfl⟩
theorem i_lstL {σ : L2.St} {H : Hp} {Q : VK} (h : t σ H fun xs H1 => xs.length ≤ sizeLine ∧ ∀ p, H1 p = none → sysModules < p → Q (.ref p) (upd H1 p (.lst xs))) : tLstL t σ H Q := h
def rListL (K : PySem.W.Frag) : List V → Hp → VK → Prop := fun xs H Q => ∃ p ys, xs = [.ref p] ∧ (SqL K H p ys ∨ SqT K H p ys) ∧ ∀ l, H l = none → sysModules < l → Q (.ref l) (upd H l (.lst ys))
theorem call_listL : CallR X (.type "list") (rListL X.K) := by
  intro pins s σ H xs us Q I r h
  obtain ⟨p, ys, rfl, hq, q⟩ := h
  obtain ⟨u, rfl, rx⟩ := vals1 r
  cases rx
  have fin : ∀ (its : List Value), Vals ys its → ys.length ≤ sizeLine → ∀ (h' : Heap) (c' : Nat), (∀ b o', s.heap.get? b = some o' → h'.get? b = some o') →
      h'.get? s.heap.objs.size = some { cls := .type "list", dict := none, data := .seq its.toArray c', slots := #[] } → EP X pins σ Q (.ref s.heap.objs.size) { s with heap := h' } := fun its r' hz h' c' kp e =>
    ⟨.ref s.heap.objs.size, _, I.laid (t' := s.toks) kp (Nat.le_refl _) (show ObjOk X.prog X.w _ h' _ (.lst ys) from ⟨hz, its, c', r', e⟩), rfl, q _ (I.hok.fresh (Nat.le_refl _)) I.big⟩
  rcases hq with hq | hq
  · obtain ⟨its, r', pl, hz⟩ := I.list hq
    have hlen := r'.length
    obtain ⟨o, ho, hc, n, hd⟩ := pl.isList
    exact call_list_seq p (.inl rfl) ho hc hd (fun h' c' kp e => fin its r' hz h' c' kp e) (by simp only [List.size_toArray] <;> omega)
  · obtain ⟨its, r', pl, hz⟩ := I.tuple hq
    have hlen := r'.length
    obtain ⟨o, ho, hc, n, hd⟩ := pl
    exact call_list_seq p (.inr rfl) ho hc hd (fun h' c' kp e => fin its r' hz h' c' kp e) (by simp only [List.size_toArray] <;> omega)
theorem i_listL {K : PySem.W.Frag} {p : Addr} {ys : List V} {H : Hp} {Q : VK} (h : SqL K H p ys ∨ SqT K H p ys) (k : ∀ l, H l = none → sysModules < l → Q (.ref l) (upd H l (.lst ys))) : rListL K [.ref p] H Q := ⟨p, ys, rfl, h, k⟩
end
end Sw
namespace PySem.SeqAt
open MeetsSeq PySem
theorem dict_eq_declines_str (l : Addr) (es : Array DictEntry) (n : Nat) (dd : Option Addr) (sl : Array (Option Value)) (b : Str) (u : Tok) :
    Meets (Builtin.«dict.__eq__» ⟨[.ref l, .str b u], []⟩) (fun _ R s => s.heap.get? l = some { cls := .type "dict", dict := dd, data := .dict es n, slots := sl } ∧ R (.ok (.ret .notImplemented)) s) :=
  .of_wp fun prog w A R s h => by obtain ⟨hp, g, d, tk, os⟩ := s; obtain ⟨hl, h⟩ := h; have f1 := F.sub_str_dict; wp_walk using wpAny_loadPart' hl, wpAny_load hl; exact ⟨_, rfl, h⟩
theorem str_eq_declines_dict (b : Str) (u : Tok) (l : Addr) (c : Value) (es : Array DictEntry) (n : Nat) (dd : Option Addr) (sl : Array (Option Value)) :
    Meets (Builtin.«str.__eq__» ⟨[.str b u, .ref l], []⟩) (fun _ R s => s.heap.get? l = some { cls := c, dict := dd, data := .dict es n, slots := sl } ∧ R (.ok (.ret .notImplemented)) s) :=
  .of_wp fun prog w A R s h => by obtain ⟨hp, g, d, tk, os⟩ := s; obtain ⟨hl, h⟩ := h; wp_walk using wpAny_loadPart' hl, wpAny_load hl; exact ⟨_, rfl, h⟩
theorem dict_ne_declines_str (l : Addr) (es : Array DictEntry) (n : Nat) (dd : Option Addr) (sl : Array (Option Value)) (b : Str) (u : Tok) :
    Meets (Builtin.«dict.__ne__» ⟨[.ref l, .str b u], []⟩) (fun _ R s => s.heap.get? l = some { cls := .type "dict", dict := dd, data := .dict es n, slots := sl } ∧ R (.ok (.ret .notImplemented)) s) :=
  .of_wp fun prog w A R s h => by obtain ⟨hp, g, d, tk, os⟩ := s; obtain ⟨hl, h⟩ := h; have f1 := F.sub_str_dict; wp_walk using wpAny_loadPart' hl, wpAny_load hl; exact ⟨_, rfl, h⟩
theorem str_ne_declines_dict (b : Str) (u : Tok) (l : Addr) (c : Value) (es : Array DictEntry) (n : Nat) (dd : Option Addr) (sl : Array (Option Value)) :
    Meets (Builtin.«str.__ne__» ⟨[.str b u, .ref l], []⟩) (fun _ R s => s.heap.get? l = some { cls := c, dict := dd, data := .dict es n, slots := sl } ∧ R (.ok (.ret .notImplemented)) s) :=
  .of_wp fun prog w A R s h => by obtain ⟨hp, g, d, tk, os⟩ := s; obtain ⟨hl, h⟩ := h; wp_walk using wpAny_loadPart' hl, wpAny_load hl; exact ⟨_, rfl, h⟩
section
variable {A : Around} {s : Shared}
theorem RcAt.dict_str {l : Addr} {es : Array DictEntry} {n : Nat} {o : Obj} (b : Str) (u : Tok) (ho : s.heap.get? l = some o) (hc : o.cls = .type "dict") (hd : o.data = .dict es n) (hu : A.units < cLine) : RcAt A s (.ref l) (.str b u) false := fun prog w E Q h => by
  obtain ⟨cls, dd, data, sl⟩ := o
  simp only at hc hd
  subst hc hd
  exact rc_eq_decline_or (k := false) ⟨_, ho, rfl⟩ (typeIs_str s b u) (by decide) F.sub_str_dict F.slot_dict_eq F.slot_str_eq_refl
    (fun _ hq => call_meets F.slot_dict_eq ⟨_, ho, rfl⟩ F.entry_dict_eq (F.args_dict_eq_2 _ _) (dict_eq_declines_str l es n dd sl b u) ⟨ho, hq⟩)
    (fun _ hq => call_meets F.slot_str_eq_refl (typeIs_str s b u) F.entry_str_eq (F.args_str_eq_2 _ _) (str_eq_declines_dict b u l (.type "dict") es n dd sl) ⟨ho, hq⟩)
    (fun _ hq => wpAny_of_eq (rfl : isSame (.ref l) (.str b u) = pure false) hq) (.inr hu) h
theorem RcNeAt.dict_str {l : Addr} {es : Array DictEntry} {n : Nat} {o : Obj} (b : Str) (u : Tok) (ho : s.heap.get? l = some o) (hc : o.cls = .type "dict") (hd : o.data = .dict es n) (hu : A.units < cLine) : RcNeAt A s (.ref l) (.str b u) true := fun prog w E Q h => by
  obtain ⟨cls, dd, data, sl⟩ := o
  simp only at hc hd
  subst hc hd
  exact rc_ne_decline_or (k := false) ⟨_, ho, rfl⟩ (typeIs_str s b u) (by decide) F.sub_str_dict F.slot_dict_ne F.slot_str_ne_refl
    (fun _ hq => call_meets F.slot_dict_ne ⟨_, ho, rfl⟩ F.entry_dict_ne (F.args_dict_ne_2 _ _) (dict_ne_declines_str l es n dd sl b u) ⟨ho, hq⟩)
    (fun _ hq => call_meets F.slot_str_ne_refl (typeIs_str s b u) F.entry_str_ne (F.args_str_ne_2 _ _) (str_ne_declines_dict b u l (.type "dict") es n dd sl) ⟨ho, hq⟩)
    (fun _ hq => wpAny_of_eq (rfl : isSame (.ref l) (.str b u) = pure false) hq) (.inr hu) h
end
end PySem.SeqAt
namespace Sw
open PySem PySem.Spec PyProof.Rows L2
section
variable {X : Cx}
/-- x == y, x data, y data; a dict and a text are unlike -/
def rEqX (K : PySem.W.Frag) : R2 := fun x y H Q => rEqD K x y H Q ∨ ∃ a kvs z, x = .ref a ∧ H a = some (.dK kvs) ∧ y = .str z ∧ Q (.bl false) H
def rNeX (K : PySem.W.Frag) : R2 := fun x y H Q => rNeD K x y H Q ∨ ∃ a kvs z, x = .ref a ∧ H a = some (.dK kvs) ∧ y = .str z ∧ Q (.bl true) H
theorem op_eqX (hu : X.A.units + 64 < cLine) : OpR X (compareOp .Eq) (rEqX X.K) := by
  intro pins s σ H x y v u Q I rx ry h
  rcases h with h | ⟨a, kvs, z, rfl, ha, rfl, q⟩
  · exact op_eqD hu pins s σ H x y v u Q I rx ry h
  · cases rx
    obtain ⟨t, rfl⟩ := ry
    obtain ⟨_, notSys, vs, kv, o, es, ep, ho, ex, hd, _, pr, _⟩ : ObjOk X.prog X.w H s.heap _ (.dK _) := I.hok _ _ ha
    exact SeqAt.RcAt.dict_str z t ho ex.1 hd (by omega) _ _ _ _ ⟨.bl _, H, I, rfl, q⟩
theorem op_neX (hu : X.A.units + 64 < cLine) : OpR X (compareOp .NotEq) (rNeX X.K) := by
  intro pins s σ H x y v u Q I rx ry h
  rcases h with h | ⟨a, kvs, z, rfl, ha, rfl, q⟩
  · exact op_neD hu pins s σ H x y v u Q I rx ry h
  · cases rx
    obtain ⟨t, rfl⟩ := ry
    obtain ⟨_, notSys, vs, kv, o, es, ep, ho, ex, hd, _, pr, _⟩ : ObjOk X.prog X.w H s.heap _ (.dK _) := I.hok _ _ ha
    exact SeqAt.RcNeAt.dict_str z t ho ex.1 hd (by omega) _ _ _ _ ⟨.bl _, H, I, rfl, q⟩
/-- x in y, y a tuple of data -/
def rInT (K : PySem.W.Frag) : R2 := fun x y H Q => ∃ d ds, Dp K H x d ∧ Dp K H y (.tuple ds) ∧ SeqAt.shaped d = true ∧ SeqAt.shaped (.tuple ds) = true ∧ PyData.depthAll ds ≤ 10 ∧ Q (.bl (ds.any fun z => PyData.eqv z d)) H
theorem op_inT (hu : X.A.units + 64 < cLine) : OpR X (compareOp .In) (rInT X.K) := by
  intro pins s σ H x y v u Q I rx ry h
  obtain ⟨d, ds, hd, he, sd, se, dp, q⟩ := h
  obtain ⟨as, r1⟩ := Dp.reads I d x v hd rx
  obtain ⟨bs, r2⟩ := Dp.reads I (.tuple ds) y u he ry
  exact SeqAt.in_tuple_reads r2 r1 (SeqAt.canLay_of_shaped se) (SeqAt.canLay_of_shaped sd) (by have := Nat.min_le_left (PyData.depthAll ds) d.depth; omega) ⟨.bl _, H, I, rfl, q⟩
end
/-- whether data is the text l -/
def isS (l : List Nat) : PyData → Bool
  | .str z => decide (z = S l)
  | _ => false
theorem eqv_str_r (d : PyData) (l : List Nat) : PyData.eqv d (.str (S l)) = isS l d := by
  cases d <;> simp [PyData.eqv, isS] <;> rfl
theorem eqv_str_l (d : PyData) (l : List Nat) : PyData.eqv (.str (S l)) d = isS l d := by
  cases d with
  | str z =>
    simp only [PyData.eqv, isS]
    by_cases h : z = S l
    · rw [h, decide_eq_true rfl]; exact beq_self_eq_true _
    · rw [decide_eq_false h]; exact beq_eq_false_iff_ne.mpr (Ne.symm h)
  | _ => simp [PyData.eqv, isS]
theorem dp_strs' {K : PySem.W.Frag} {H : Hp} : ∀ ws : List (List Nat), DpAll K H (ws.map fun l => V.str (S l)) (ws.map fun l => PyData.str (S l))
  | [] => .nil
  | l :: ws => .cons (.str _) (dp_strs' ws)
/-- data without a dict inside, or an empty dict -/
def Ok1 (d : PyData) : Prop := d = .dict [] ∨ d.hasDict = false
theorem i_eqS1 {K : PySem.W.Frag} {H : Hp} {x : V} {d : PyData} {l : List Nat} {Q : VK} {n w : Nat} (h : De K H x d) (s : Sd n w d) (o : Ok1 d) (hl : ∀ c ∈ l, c ≤ 1000) (k : Q (.bl (isS l d)) H) (hn : n ≤ 60 := by omega) : rEqX K x (.str (S l)) H Q := by
  rcases o with rfl | z
  · cases h with | dict h1 h2 => exact .inr ⟨_, _, _, rfl, h1, rfl, k⟩
  · refine .inl (i_eqE h (.str _) s (sd_str hl) z (by simp only [PyData.hasDict]) ?_ hn)
    rw [eqv_str_r]
    exact k
theorem i_neS1 {K : PySem.W.Frag} {H : Hp} {x : V} {d : PyData} {l : List Nat} {Q : VK} {n w : Nat} (h : De K H x d) (s : Sd n w d) (o : Ok1 d) (hl : ∀ c ∈ l, c ≤ 1000) (k : Q (.bl (!isS l d)) H) (hn : n ≤ 60 := by omega) : rNeX K x (.str (S l)) H Q := by
  rcases o with rfl | z
  · cases h with | dict h1 h2 => exact .inr ⟨_, _, _, rfl, h1, rfl, k⟩
  · refine .inl (i_neE h (.str _) s (sd_str hl) z (by simp only [PyData.hasDict]) ?_ hn)
    rw [eqv_str_r]
    exact k
theorem i_inT {K : PySem.W.Frag} {H : Hp} {x : V} {d : PyData} {Q : VK} {n w : Nat} {a : Addr} (ls : List (List Nat)) (h : De K H x d) (s : Sd n w d) (z : d.hasDict = false) (hl : ∀ l ∈ ls, ∀ c ∈ l, c ≤ 1000) (ha : H a = some (.tup (ls.map fun l => .str (S l)))) (k : Q (.bl (ls.any fun l => isS l d)) H) (hn : n ≤ 60 := by omega) : rInT K x (.ref a) H Q := by
  refine ⟨d, ls.map fun l => .str (S l), h.dp z, .tup (sqT_of ha) (dp_strs' ls), s.shaped hn z, ?_, ?_, ?_⟩
  · have s2 : Sd 1 _ (.tuple (ls.map fun l => .str (S l))) := sd_tup (n := 0) (w := (ls.map List.length).foldr max 0) fun d hd => by
      obtain ⟨l, hl2, rfl⟩ := List.mem_map.mp hd
      refine (sd_str (hl l hl2)).mono (by omega) ?_
      clear hd hl k ha
      induction ls with
      | nil => cases hl2
      | cons y ys ih =>
        rw [List.map_cons, List.foldr_cons]
        rcases List.mem_cons.mp hl2 with rfl | hl2
        · exact Nat.le_max_left _ _
        · exact Nat.le_trans (ih hl2) (Nat.le_max_right _ _)
    refine s2.shaped (by omega) ?_
    simp only [PyData.hasDict]
    clear s2 hl k ha
    induction ls with
    | nil => rfl
    | cons y ys ih => simp only [List.map_cons, PyData.hasDictAll, PyData.hasDict, ih, Bool.or_self]
  · have : ∀ ks : List (List Nat), PyData.depthAll (ks.map fun l => PyData.str (S l)) = 0 := by
      intro ks
      induction ks with
      | nil => simp only [List.map_nil, PyData.depthAll]
      | cons y ys ih => simp only [List.map_cons, PyData.depthAll, PyData.depth, ih]; omega
    rw [this]; omega
  · rw [List.any_map]
    simp only [Function.comp_def, eqv_str_l]
    exact k
end Sw
namespace Sw
open PySem PySem.Spec PyProof.Rows L2
/-! ### kinds and passings as data -/
abbrev tLost : List Nat := [108, 111, 115, 116]
abbrev tPut : List Nat := [112, 117, 116]
abbrev tTurned : List Nat := [116, 117, 114, 110, 101, 100]
abbrev tSame : List Nat := [115, 97, 109, 101]
def isI : PyData → Bool
  | .int _ => true
  | _ => false
def isX (m : Int) : PyData → Bool
  | .int i => decide (0 ≤ i) && decide (i < m)
  | _ => false
def isG : PyData → Bool
  | .int i => decide (1 ≤ i) && decide (i ≤ 5)
  | _ => false
def kindB (m : Int) : PyData → Bool
  | .tuple [a, b] => isX m b && (isS tLost a || isS tPut a)
  | .tuple [a, b, c] => isX m b && isX m c && (isS tTurned a && !PyData.eqv b c)
  | _ => false
def sameB (m : Int) : PyData → Bool
  | .tuple [a, b] => isS tSame a && isX m b
  | _ => false
def passB (m : Int) : PyData → Bool
  | .tuple ds => ds.all fun s => sameB m s || kindB m s
  | _ => false
/-- the number of signs, if the data is one -/
def sgn (e : PyData) : Option Int := match e with
  | .int m => if 1 ≤ m ∧ m ≤ 5 then some m else none
  | _ => none
def onG (e : PyData) (b : Int → Bool) : Bool := match sgn e with
  | some m => b m
  | none => false
theorem sgn_some {e : PyData} {m : Int} (h : sgn e = some m) : e = .int m ∧ 1 ≤ m ∧ m ≤ 5 := by
  unfold sgn at h
  split at h
  · split at h
    · cases h; exact ⟨rfl, by assumption⟩
    · cases h
  · cases h
theorem isG_sgn (e : PyData) : isG e = (sgn e).isSome := by
  cases e <;> simp only [isG, sgn, Option.isSome]
  rename_i i
  by_cases h : 1 ≤ i ∧ i ≤ 5
  · rw [if_pos h, decide_eq_true h.1, decide_eq_true h.2]; rfl
  · rw [if_neg h, Bool.and_eq_false_iff]
    by_cases h1 : 1 ≤ i
    · exact .inr (decide_eq_false fun q => h ⟨h1, q⟩)
    · exact .inl (decide_eq_false h1)
/-- a step or what is told in its place: each part is without a dict, or is an empty one; a word ahead of one number has no dict -/
structure StOk (d : PyData) : Prop where
  parts : ∀ ds, d = .tuple ds → ∀ y ∈ ds, Ok1 y
  two : ∀ a b, d = .tuple [a, b] → isI b = true → a.hasDict = false
structure PsOk (d : PyData) : Prop where
  st : StOk d
  all : ∀ ds, d = .tuple ds → ∀ y ∈ ds, StOk y
theorem StOk.flat {d : PyData} (h : d.hasDict = false) : StOk d := by
  have p : ∀ ds, d = .tuple ds → ∀ y ∈ ds, y.hasDict = false := by
    rintro ds rfl y hy
    simp only [PyData.hasDict] at h
    induction ds with
    | nil => cases hy
    | cons z zs ih =>
      simp only [PyData.hasDictAll, Bool.or_eq_false_iff] at h
      rcases List.mem_cons.mp hy with rfl | hy
      · exact h.1
      · exact ih h.2 hy
  exact ⟨fun ds e y hy => .inr (p ds e y hy), fun a b e _ => p _ e _ List.mem_cons_self⟩
theorem hasDict_tup {ds : List PyData} : (PyData.tuple ds).hasDict = false ↔ ∀ y ∈ ds, y.hasDict = false := by
  simp only [PyData.hasDict]
  induction ds with
  | nil => simp [PyData.hasDictAll]
  | cons z zs ih => simp only [PyData.hasDictAll, Bool.or_eq_false_iff, ih, List.mem_cons, forall_eq_or_imp]
theorem PsOk.flat {d : PyData} (h : d.hasDict = false) : PsOk d := by
  refine ⟨.flat h, ?_⟩
  rintro ds rfl y hy
  exact .flat (hasDict_tup.mp h y hy)
theorem StOk.emp : StOk (.dict []) := ⟨fun ds e => by (cases e), fun a b e => by (cases e)⟩
theorem PsOk.emp : PsOk (.dict []) := ⟨.emp, fun ds e => by (cases e)⟩
end Sw
namespace Sw
open PySem PySem.Spec PyProof.Rows L2
theorem Sd.tupI' {n w : Nat} {ds : List PyData} (s : Sd n w (.tuple ds)) : SdAll n w ds := (Sd.tupI (n := n) (s.mono (by omega) (Nat.le_refl _)))
theorem Sd.lstI' {n w : Nat} {ds : List PyData} (s : Sd n w (.list ds)) : SdAll n w ds := (Sd.lstI (n := n) (s.mono (by omega) (Nat.le_refl _)))
theorem i_yes {σ : L2.St} {H : Hp} {R : Bool → Hp → Prop} (h : R true H) : tYes σ H R := h
/-! ### parts of tuples -/
theorem i_slTF {K : PySem.W.Frag} {a : Addr} {xs : List V} {k : Nat} {H : Hp} {Q : VK} (h : SqT K H a xs) (q : ∀ b H', Same H H' → SqT K H' b (xs.drop k) → Q (.ref b) H') : rSlA K (.ref a) (some (k : Int)) none H Q := by
  refine ⟨a, xs, rfl, h, fun e => ?_, fun e p np => ?_⟩
  · rw [HT.sIx_nat] at e
    refine q _ _ (Same.refl _) ?_
    by_cases hk : k = 0
    · rw [hk, List.drop_zero]; exact h
    · have : xs = [] := List.eq_nil_of_length_eq_zero (by omega)
      rw [this, List.drop_nil]; rw [this] at h; exact h
  · have : cutV xs (some (k : Int)) none = xs.drop k := by
      unfold cutV
      rw [HT.sIx_nat, HT.sIx_none]
      by_cases hk : k ≤ xs.length
      · rw [Nat.min_eq_left hk, List.take_of_length_le (by rw [List.length_drop]; omega)]
      · rw [Nat.min_eq_right (by omega), List.drop_of_length_le (by omega), List.drop_of_length_le (by omega), List.take_nil]
    rw [this]
    exact q _ _ (same_upd np) (sqT_of upd_same)
theorem i_slTT {K : PySem.W.Frag} {a : Addr} {xs : List V} {k : Nat} {H : Hp} {Q : VK} (h : SqT K H a xs) (q : ∀ b H', Same H H' → SqT K H' b (xs.take k) → Q (.ref b) H') : rSlA K (.ref a) none (some (k : Int)) H Q := by
  refine ⟨a, xs, rfl, h, fun e => ?_, fun e p np => ?_⟩
  · rw [HT.sIx_nat, HT.sIx_none] at e
    refine q _ _ (Same.refl _) ?_
    rw [List.take_of_length_le (by omega)]; exact h
  · have : cutV xs none (some (k : Int)) = xs.take k := by
      unfold cutV
      rw [HT.sIx_nat, HT.sIx_none, List.drop_zero, Nat.sub_zero]
      by_cases hk : k ≤ xs.length
      · rw [Nat.min_eq_left hk]
      · rw [Nat.min_eq_right (by omega), List.take_length, List.take_of_length_le (by omega)]
    rw [this]
    exact q _ _ (same_upd np) (sqT_of upd_same)
theorem i_catT {K : PySem.W.Frag} {a b : Addr} {xs ys : List V} {H : Hp} {Q : VK} (h : SqT K H a xs) (h2 : SqT K H b ys) (l : xs.length + ys.length ≤ sizeLine) (q : ∀ c H', Same H H' → SqT K H' c (xs ++ ys) → Q (.ref c) H') : rCatA K (.ref a) (.ref b) H Q := by
  refine ⟨a, b, xs, ys, rfl, rfl, h, h2, l, fun e => ?_, fun e1 e2 => ?_, fun e1 e2 p np => ?_⟩
  · rw [e] at q; exact q _ _ (Same.refl _) h2
  · rw [e2, List.append_nil] at q; exact q _ _ (Same.refl _) h
  · exact q _ _ (same_upd np) (sqT_of upd_same)
theorem inV_two (n i j : Int) : inV (.int n) [.int i, .int j] = (decide (n = i) || decide (n = j)) := by
  show (i == n || (j == n || false)) = _
  rw [Bool.or_false]
  congr 1
  · by_cases h : n = i
    · rw [h, decide_eq_true rfl]; exact beq_self_eq_true _
    · rw [decide_eq_false h]; exact beq_eq_false_iff_ne.mpr (Ne.symm h)
  · by_cases h : n = j
    · rw [h, decide_eq_true rfl]; exact beq_self_eq_true _
    · rw [decide_eq_false h]; exact beq_eq_false_iff_ne.mpr (Ne.symm h)
theorem i_ixTn {K : PySem.W.Frag} {p : Addr} {xs : List V} {k : Nat} {v : V} {H : Hp} {Q : VK} (h1 : SqT K H p xs) (h2 : xs[k]? = some v) (h : Q v H) : rIxT K (.ref p) (.int (k : Int)) H Q := by
  refine i_ixT h1 ?_ h
  have : k < xs.length := by
    rcases Nat.lt_or_ge k xs.length with q | q
    · exact q
    · rw [List.getElem?_eq_none q] at h2; cases h2
  unfold atI ixN
  rw [if_pos (by omega), if_pos (by omega), Int.toNat_natCast]
  exact h2
theorem i_lenSqT {K : PySem.W.Frag} {p : Addr} {xs : List V} {H : Hp} {Q : VK} (h1 : SqT K H p xs) (h : Q (.int xs.length) H) : rLenQ K [.ref p] H Q := ⟨p, xs, rfl, .inr h1, h⟩
theorem DeAll.getD {K : PySem.W.Frag} {H : Hp} {vs : List V} {ds : List PyData} {i : Nat} {v : V} (h : DeAll K H vs ds) (e : vs[i]? = some v) : De K H v (ds.getD i .none) := by
  obtain ⟨d, h1, h2⟩ := h.get e
  rw [List.getD_eq_getElem?_getD, h1]; exact h2
theorem map_getD {α : Type} (ds : List PyData) (g : PyData → α) : (List.range ds.length).map (fun i => g (ds.getD i .none)) = ds.map g := range_map_get ds _ g fun i x hx => by rw [List.getD_eq_getElem?_getD, hx]; rfl
end Sw
namespace Sw
open PySem PySem.Spec PyProof.Rows L2
/-! ### data without lists stays while a list changes -/
mutual
def noL : PyData → Bool
  | .list _ => false
  | .tuple xs => noLAll xs
  | .dict [] => true
  | .dict _ => false
  | _ => true
def noLAll : List PyData → Bool
  | [] => true
  | x :: xs => noL x && noLAll xs
end
/-- all is kept but the list at p -/
def KeepP (p : Addr) (H H' : Hp) : Prop := ∀ a o, (a ≠ p ∨ ∀ xs, o ≠ .lst xs) → H a = some o → H' a = some o
theorem keepP_upd {H : Hp} {p : Addr} {xs ys : List V} (h : H p = some (.lst xs)) : KeepP p H (upd H p (.lst ys)) := fun a o q e => by
  by_cases c : a = p
  · subst c
    rw [h] at e
    cases e
    exact (q.elim (fun q => q rfl) fun q => q _ rfl).elim
  · rw [L2.upd_ne c]; exact e
theorem Same.keepP {H H' : Hp} {p : Addr} (s : Same H H') : KeepP p H H' := fun a o _ e => s a o e
theorem KeepP.trans {H1 H2 H3 : Hp} {p : Addr} (s : KeepP p H1 H2) (t : KeepP p H2 H3) : KeepP p H1 H3 := fun a o q e => t a o q (s a o q e)
theorem KeepP.sqT {K : PySem.W.Frag} {H H' : Hp} {p a : Addr} {xs : List V} (k : KeepP p H H') (h : SqT K H a xs) : SqT K H' a xs := by
  rcases h with (h | ⟨o, h⟩) | h
  · exact .inl (.inl (k _ _ (.inr fun _ => HO.noConfusion) h))
  · exact .inl (.inr ⟨o, k _ _ (.inr fun _ => HO.noConfusion) h⟩)
  · exact .inr h
mutual
theorem De.keep {K : PySem.W.Frag} {H H' : Hp} {p : Addr} (s : KeepP p H H') : ∀ {v : V} {d : PyData}, De K H v d → noL d = true → De K H' v d
  | _, _, .non, _ => .non
  | _, _, .bl b, _ => .bl b
  | _, _, .int i, _ => .int i
  | _, _, .str x, _ => .str x
  | _, _, .lst h1 h0 h2, n => by simp [noL] at n
  | _, _, .tup h1 h2, n => .tup (s.sqT h1) (DeAll.keep s h2 (by simpa only [noL] using n))
  | _, _, .dict h1 (.nil), n => .dict (s _ _ (.inr fun _ => HO.noConfusion) h1) .nil
  | _, _, .dict h1 (.cons _ _), n => by simp [noL] at n
theorem DeAll.keep {K : PySem.W.Frag} {H H' : Hp} {p : Addr} (s : KeepP p H H') : ∀ {vs : List V} {ds : List PyData}, DeAll K H vs ds → noLAll ds = true → DeAll K H' vs ds
  | _, _, .nil, _ => .nil
  | _, _, .cons h1 h2, n => by
    simp only [noLAll, Bool.and_eq_true] at n
    exact .cons (De.keep s h1 n.1) (DeAll.keep s h2 n.2)
end
theorem noLAll_iff {ds : List PyData} : noLAll ds = true ↔ ∀ d ∈ ds, noL d = true := by
  induction ds with
  | nil => simp [noLAll]
  | cons d ds ih => simp only [noLAll, Bool.and_eq_true, ih, List.mem_cons, forall_eq_or_imp]
theorem push_de {K : PySem.W.Frag} {H : Hp} {t p : Addr} {vs : List V} {ds : List PyData} {o : HO} {d : PyData} (hp : H p = some (.lst vs)) (hd : DeAll K H vs ds) (nl : noLAll ds = true) (nt : H t = none) (new : De K (upd H t o) (.ref t) d) (nd : noL d = true) :
    DeAll K (upd (upd H t o) p (.lst (vs ++ [.ref t]))) (vs ++ [.ref t]) (ds ++ [d]) := by
  have hp2 := upd_old (o := o) nt hp
  have k := keepP_upd (ys := vs ++ [.ref t]) hp2
  exact ((hd.same (same_upd nt)).keep k nl).app (.cons (new.keep k nd) .nil)
theorem push_val {K : PySem.W.Frag} {H : Hp} {p : Addr} {vs : List V} {ds : List PyData} {v : V} {d : PyData} (hp : H p = some (.lst vs)) (hd : DeAll K H vs ds) (nl : noLAll ds = true) (new : De K H v d) (nd : noL d = true) :
    DeAll K (upd H p (.lst (vs ++ [v]))) (vs ++ [v]) (ds ++ [d]) := by
  have k := keepP_upd (ys := vs ++ [v]) hp
  exact (hd.keep k nl).app (.cons (new.keep k nd) .nil)
end Sw
namespace Sw
open PySem PySem.Spec PyProof.Rows L2 PySem.SwE
/-- an own exception class with the one attribute given, named x, as it stands behind the top -/
structure XQ (x : Str) (P : Program) (w : World) (K : PySem.W.Frag) (mg : Str → Option Value) (base : Heap) (C : Addr) : Prop where
  T : OexE K C
  xf : XfC K C
  no : PySem.W.findIn K (.ref C) "given" = some none
  hm : mg x = some (.ref C)
  me : PySem.W.exmOne K (.ref C) (.ref C) = some true
  ini : ∃ (fI : Addr) (fd : FuncData), PySem.W.findIn K (.ref C) "__init__" = some (some (.ref fI)) ∧ PySem.W.typeIn K (.ref fI) = some (.type "function") ∧ FnOk P w K mg base CX0 1 fI fd ["self", "given"] (spInit K) ∧ Binds K fd ["self", "given"] []
theorem pmk_Q {X : Cx} {x : Str} {C : Addr} {n : Nat} {e : Expr} {te : TE} {p pos : Pos} (xt : XQ x X.prog X.w X.K X.mg X.base C) (hr : Room n X.A) (he : PE X e te) (hn : 2 ≤ n := by decide) (hg : Gl X x := by rfl)
    (hdb : (x == ("__debug__" : Str)) = false := by decide) (he2 : starEach [e] X.env = (false, eval e X.env) :: starEach [] X.env := by rfl) : PMk X (.Call (.Name x p) [e] [] pos) (tMkO C (spInit X.K) [] (tCons te tNil)) := by
  obtain ⟨fI, fd, h1, h2, h3, h4⟩ := xt.ini
  exact pmk_E xt.T h1 h2 h3 (hr.mono hn) h4 pass0 xt.hm (pa_cons he pa_nil he2) hg hdb he2 (by rfl)
theorem names_Q {x : Str} {P : Program} {w : World} {K : PySem.W.Frag} {mg : Str → Option Value} {base : Heap} {X : Cx} {C : Addr} (xt : XQ x P w K mg base C) (hm : X.mg = mg := by rfl) (hg : Gl X x := by rfl) (hd : (x == ("__debug__" : Str)) = false := by decide) : Names X x (.ref C) := ⟨hg, hd, .inl (by rw [hm]; exact xt.hm)⟩
end Sw
namespace Sw
open PySem PySem.Spec PyProof.Rows L2
/-! ### heaps beside the box of draws -/
theorem del_sb {b : Addr} {H H' : Hp} (s : SB b H H') : Same (L2.del H b) (L2.del H' b) := fun a o e => by
  by_cases c : a = b
  · subst c; rw [L2.del_same] at e; cases e
  · rw [L2.del_ne c] at e ⊢; exact s a o c e
theorem del_sub {b : Addr} {H : Hp} : Same (L2.del H b) H := fun a o e => by
  by_cases c : a = b
  · subst c; rw [L2.del_same] at e; cases e
  · rw [L2.del_ne c] at e; exact e
theorem box_some {H : Hp} {b : Addr} {d : Int} (B : BoxAt H b d) : ∃ o, H b = some o := by obtain ⟨_, _, _, _, e, _⟩ := B.ex; exact ⟨_, e⟩
theorem box_ne {H : Hp} {b p : Addr} {d : Int} (B : BoxAt H b d) (n : H p = none) : p ≠ b := by
  rintro rfl
  obtain ⟨o, e⟩ := box_some B
  rw [n] at e; cases e
theorem del_new {H : Hp} {b p : Addr} {d : Int} {o : HO} (B : BoxAt H b d) (n : H p = none) : L2.del (upd H p o) b p = some o := by rw [L2.del_ne (box_ne B n)]; exact upd_same
theorem BoxAt.upd_ne' {H : Hp} {b p : Addr} {d : Int} {o : HO} (B : BoxAt H b d) (h : p ≠ b) : BoxAt (upd H p o) b d := by
  obtain ⟨n, g, c, e, hb, hr⟩ := B.ex
  exact ⟨n, g, c, e, by rw [L2.upd_ne (Ne.symm h)]; exact hb, hr⟩
/-- a new thing is made and told -/
def NewT (xs : List V) (H : Hp) (Q : VK) : Prop := xs.length ≤ sizeLine ∧ ∀ p, H p = none → Q (.ref p) (upd H p (.tup xs))
def NewL (xs : List V) (H : Hp) (Q : VK) : Prop := xs.length ≤ sizeLine ∧ ∀ p, H p = none → Q (.ref p) (upd H p (.lst xs))
def NewLL (xs : List V) (H : Hp) (Q : VK) : Prop := xs.length ≤ sizeLine ∧ ∀ p, H p = none → sysModules < p → Q (.ref p) (upd H p (.lst xs))
def NewD (H : Hp) (Q : VK) : Prop := ∀ p, H p = none → Q (.ref p) (upd H p (.dK []))
section
variable {σ : L2.St} {H : Hp} {Q : VK} {b : Addr} {d : Int} {t : TA} {xs : List V}
theorem i_tupM (h : t σ H fun xs H1 => NewT xs H1 Q) : tTup t σ H Q := h
theorem i_lstM (h : t σ H fun xs H1 => NewL xs H1 Q) : tLst t σ H Q := h
theorem i_lstLM (h : t σ H fun xs H1 => NewLL xs H1 Q) : tLstL t σ H Q := h
theorem i_dnewM (h : NewD H Q) : tDNewK σ H Q := h
theorem newT (B : BoxAt H b d) (l : xs.length ≤ sizeLine) (k : ∀ p H', BoxAt H' b d → Same (L2.del H b) (L2.del H' b) → L2.del H' b p = some (.tup xs) → Same H H' → Q (.ref p) H') : NewT xs H Q :=
  ⟨l, fun p n => k p _ (B.same (same_upd n)) (del_sb (SB.of (same_upd n))) (del_new B n) (same_upd n)⟩
theorem newL (B : BoxAt H b d) (l : xs.length ≤ sizeLine) (k : ∀ p H', BoxAt H' b d → Same (L2.del H b) (L2.del H' b) → L2.del H' b p = some (.lst xs) → Same H H' → Q (.ref p) H') : NewL xs H Q :=
  ⟨l, fun p n => k p _ (B.same (same_upd n)) (del_sb (SB.of (same_upd n))) (del_new B n) (same_upd n)⟩
theorem newLL (B : BoxAt H b d) (l : xs.length ≤ sizeLine) (k : ∀ p H', sysModules < p → H p = none → BoxAt H' b d → Same (L2.del H b) (L2.del H' b) → L2.del H' b p = some (.lst xs) → Same H H' → Q (.ref p) H') : NewLL xs H Q :=
  ⟨l, fun p n lt => k p _ lt n (B.same (same_upd n)) (del_sb (SB.of (same_upd n))) (del_new B n) (same_upd n)⟩
theorem newD (B : BoxAt H b d) (k : ∀ p H', BoxAt H' b d → Same (L2.del H b) (L2.del H' b) → L2.del H' b p = some (.dK []) → Same H H' → Q (.ref p) H') : NewD H Q :=
  fun p n => k p _ (B.same (same_upd n)) (del_sb (SB.of (same_upd n))) (del_new B n) (same_upd n)
/-- without a box -/
theorem newT0 (l : xs.length ≤ sizeLine) (k : ∀ p H', H p = none → Same H H' → H' p = some (.tup xs) → Q (.ref p) H') : NewT xs H Q := ⟨l, fun p n => k p _ n (same_upd n) upd_same⟩
theorem newL0 (l : xs.length ≤ sizeLine) (k : ∀ p H', H p = none → Same H H' → H' p = some (.lst xs) → Q (.ref p) H') : NewL xs H Q := ⟨l, fun p n => k p _ n (same_upd n) upd_same⟩
theorem newLL0 (l : xs.length ≤ sizeLine) (k : ∀ p H', H p = none → sysModules < p → Same H H' → H' p = some (.lst xs) → Q (.ref p) H') : NewLL xs H Q := ⟨l, fun p n lt => k p _ n lt (same_upd n) upd_same⟩
theorem newD0 (k : ∀ p H', H p = none → Same H H' → H' p = some (.dK []) → Q (.ref p) H') : NewD H Q := fun p n => k p _ n (same_upd n) upd_same
end
/-! ### odd values -/
/-- H' has all of G but the lists that lie in H0 -/
def Kept (H0 G H' : Hp) : Prop := ∀ a o, G a = some o → ((∀ xs, o ≠ .lst xs) ∨ H0 a = none) → H' a = some o
theorem Kept.refl (H0 G : Hp) : Kept H0 G G := fun _ _ e _ => e
theorem Kept.same {H0 G G' H' : Hp} (k : Kept H0 G' H') (s : Same G G') : Kept H0 G H' := fun a o e q => k a o (s a o e) q
theorem Kept.sqT {K : PySem.W.Frag} {H0 H H' : Hp} {a : Addr} {xs : List V} (k : Kept H0 H H') (h : SqT K H a xs) : SqT K H' a xs := by
  rcases h with (h | ⟨o, h⟩) | h
  · exact .inl (.inl (k _ _ h (.inl fun _ => HO.noConfusion)))
  · exact .inl (.inr ⟨o, k _ _ h (.inl fun _ => HO.noConfusion)⟩)
  · exact .inr h
mutual
theorem De.kept {K : PySem.W.Frag} {H0 H H' : Hp} (s : Kept H0 H H') : ∀ {v : V} {d : PyData}, De K H v d → noL d = true → De K H' v d
  | _, _, .non, _ => .non
  | _, _, .bl b, _ => .bl b
  | _, _, .int i, _ => .int i
  | _, _, .str x, _ => .str x
  | _, _, .lst h1 h0 h2, n => by simp [noL] at n
  | _, _, .tup h1 h2, n => .tup (s.sqT h1) (DeAll.kept s h2 (by simpa only [noL] using n))
  | _, _, .dict h1 (.nil), n => .dict (s _ _ h1 (.inl fun _ => HO.noConfusion)) .nil
  | _, _, .dict h1 (.cons _ _), n => by simp [noL] at n
theorem DeAll.kept {K : PySem.W.Frag} {H0 H H' : Hp} (s : Kept H0 H H') : ∀ {vs : List V} {ds : List PyData}, DeAll K H vs ds → noLAll ds = true → DeAll K H' vs ds
  | _, _, .nil, _ => .nil
  | _, _, .cons h1 h2, n => by
    simp only [noLAll, Bool.and_eq_true] at n
    exact .cons (De.kept s h1 n.1) (DeAll.kept s h2 n.2)
end
section
variable {K : PySem.W.Frag} {H0 G G' : Hp} {v x : V} {p : Addr} {xs : List V}
/-- what may lie in a told tuple: data of little size without a dict, its lists not in H0 -/
def AtomV (K : PySem.W.Frag) (H0 G : Hp) (v : V) : Prop := ∃ d, (∀ H', Kept H0 G H' → De K H' v d) ∧ d.hasDict = false ∧ Sd 3 170 d
/-- the same without lists -/
def AtomN (K : PySem.W.Frag) (H0 G : Hp) (v : V) : Prop := ∃ d, (∀ H', Kept H0 G H' → De K H' v d) ∧ d.hasDict = false ∧ Sd 3 170 d ∧ noL d = true
def AllA (K : PySem.W.Frag) (H0 G : Hp) : List V → Prop
  | [] => True
  | x :: xs => AtomV K H0 G x ∧ AllA K H0 G xs
def AllN (K : PySem.W.Frag) (H0 G : Hp) : List V → Prop
  | [] => True
  | x :: xs => AtomN K H0 G x ∧ AllN K H0 G xs
theorem AtomV.same (h : AtomV K H0 G v) (s : Same G G') : AtomV K H0 G' v := by
  obtain ⟨d, h1, h2, h3⟩ := h
  exact ⟨d, fun H' k => h1 H' (k.same s), h2, h3⟩
theorem AtomN.same (h : AtomN K H0 G v) (s : Same G G') : AtomN K H0 G' v := by
  obtain ⟨d, h1, h2, h3, h4⟩ := h
  exact ⟨d, fun H' k => h1 H' (k.same s), h2, h3, h4⟩
theorem AtomN.va (h : AtomN K H0 G v) : AtomV K H0 G v := by
  obtain ⟨d, h1, h2, h3, _⟩ := h
  exact ⟨d, h1, h2, h3⟩
theorem AllN.va : ∀ {vs : List V}, AllN K H0 G vs → AllA K H0 G vs
  | [], _ => trivial
  | _ :: _, h => ⟨h.1.va, AllN.va h.2⟩
theorem AllN.same (s : Same G G') : ∀ {vs : List V}, AllN K H0 G vs → AllN K H0 G' vs
  | [], _ => trivial
  | _ :: _, h => ⟨h.1.same s, AllN.same s h.2⟩
theorem AtomV.str {l : List Nat} (h : ∀ c ∈ l, c ≤ 1000) (n : l.length ≤ 20) : AtomV K H0 G (.str (S l)) := ⟨_, fun _ _ => .str _, by simp only [PyData.hasDict], (sd_str h).mono (by omega) (by omega)⟩
theorem AtomV.int {i : Int} (h : i.natAbs < 10 ^ 40) : AtomV K H0 G (.int i) := ⟨_, fun _ _ => .int _, by simp only [PyData.hasDict], (sd_int h).mono (by omega) (by omega)⟩
theorem AtomV.bl (c : Bool) : AtomV K H0 G (.bl c) := ⟨_, fun _ _ => .bl _, by simp only [PyData.hasDict], (sd_bl c).mono (by omega) (by omega)⟩
theorem AtomV.non : AtomV K H0 G .non := ⟨_, fun _ _ => .non, by simp only [PyData.hasDict], sd_non.mono (by omega) (by omega)⟩
theorem AtomN.str {l : List Nat} (h : ∀ c ∈ l, c ≤ 1000) (n : l.length ≤ 20) : AtomN K H0 G (.str (S l)) := ⟨_, fun _ _ => .str _, by simp only [PyData.hasDict], (sd_str h).mono (by omega) (by omega), rfl⟩
theorem AtomN.int {i : Int} (h : i.natAbs < 10 ^ 40) : AtomN K H0 G (.int i) := ⟨_, fun _ _ => .int _, by simp only [PyData.hasDict], (sd_int h).mono (by omega) (by omega), rfl⟩
theorem AtomN.deD {d : PyData} (h : De K G v d) (z : d.hasDict = false) (s : Sd 3 170 d) (n : noL d = true) : AtomN K H0 G v := ⟨d, fun _ k => h.kept k n, z, s, n⟩
theorem AtomN.tupD {ds : List PyData} (h : G p = some (.tup xs)) (a : DeAll K G xs ds) (z : (PyData.tuple ds).hasDict = false) (s : Sd 3 170 (.tuple ds)) (n : noLAll ds = true) : AtomN K H0 G (.ref p) := .deD (.tup (sqT_of h) a) z s (by simpa only [noL] using n)
theorem AtomV.lst {i : Int} (h : G p = some (.lst [.int i])) (lt : sysModules < p) (n : H0 p = none) (hi : i.natAbs < 10 ^ 20) : AtomV K H0 G (.ref p) := by
  have si : Sd 2 140 (.int i) := (sd_int (Nat.lt_of_lt_of_le hi (by decide))).mono (by omega) (by omega)
  exact ⟨.list [.int i], fun H' k => .lst (k _ _ h (.inr n)) lt (.cons (.int _) .nil), by simp only [PyData.hasDict, PyData.hasDictAll, Bool.or_self], (sd_lst' (.cons si .nil)).mono (by omega) (by omega)⟩
theorem AtomV.tup {i : Int} (h : G p = some (.tup [.int i])) (hi : i.natAbs < 10 ^ 20) : AtomV K H0 G (.ref p) := by
  have si : Sd 2 140 (.int i) := (sd_int (Nat.lt_of_lt_of_le hi (by decide))).mono (by omega) (by omega)
  exact (AtomN.tupD h (.cons (.int _) .nil) (by simp only [PyData.hasDict, PyData.hasDictAll, Bool.or_self]) ((sd_tup' (.cons si .nil)).mono (by omega) (by omega)) rfl).va
theorem AtomV.tupS {l : List Nat} (h : G p = some (.tup [.str (S l)])) (h1 : ∀ c ∈ l, c ≤ 1000) (h2 : l.length ≤ 20) : AtomV K H0 G (.ref p) :=
  (AtomN.tupD h (.cons (.str _) .nil) (by simp only [PyData.hasDict, PyData.hasDictAll, Bool.or_self]) ((sd_tup' (n := 2) (.cons ((sd_str h1).mono (by omega) (Nat.le_refl _)) .nil)).mono (by omega) (by omega)) rfl).va
theorem AllA.data : ∀ {vs : List V}, AllA K H0 G vs → ∃ ds, (∀ H', Kept H0 G H' → DeAll K H' vs ds) ∧ ds.length = vs.length ∧ (∀ d ∈ ds, d.hasDict = false ∧ Sd 3 170 d)
  | [], _ => ⟨[], fun _ _ => .nil, rfl, fun d h => by cases h⟩
  | v :: vs, h => by
    obtain ⟨d, h1, h2, h3⟩ := h.1
    obtain ⟨ds, k1, kl, k2⟩ := AllA.data h.2
    exact ⟨d :: ds, fun H' k => .cons (h1 H' k) (k1 H' k), by rw [List.length_cons, List.length_cons, kl], fun x hx => (List.mem_cons.mp hx).elim (fun e => e ▸ ⟨h2, h3⟩) (k2 x)⟩
theorem AllN.data : ∀ {vs : List V}, AllN K H0 G vs → ∃ ds, (∀ H', Kept H0 G H' → DeAll K H' vs ds) ∧ ds.length = vs.length ∧ (∀ d ∈ ds, d.hasDict = false ∧ Sd 3 170 d ∧ noL d = true)
  | [], _ => ⟨[], fun _ _ => .nil, rfl, fun d h => by cases h⟩
  | v :: vs, h => by
    obtain ⟨d, h1, h2, h3, h4⟩ := h.1
    obtain ⟨ds, k1, kl, k2⟩ := AllN.data h.2
    exact ⟨d :: ds, fun H' k => .cons (h1 H' k) (k1 H' k), by rw [List.length_cons, List.length_cons, kl], fun x hx => (List.mem_cons.mp hx).elim (fun e => e ▸ ⟨h2, h3, h4⟩) (k2 x)⟩
/-- what may lie in a told list -/
def LsOk (d : PyData) : Prop := ∀ ds, d = .list ds → noLAll ds = true
/-- a value that may be told for a step -/
def OddV (K : PySem.W.Frag) (H0 G : Hp) (v : V) : Prop := ∃ d, (∀ H', Kept H0 G H' → De K H' v d) ∧ Ok1 d ∧ Sd 4 1000 d ∧ LsOk d
theorem OddV.same (h : OddV K H0 G v) (s : Same G G') : OddV K H0 G' v := by
  obtain ⟨d, h1, h2, h3, h4⟩ := h
  exact ⟨d, fun H' k => h1 H' (k.same s), h2, h3, h4⟩
theorem OddV.atom (h : AtomN K H0 G v) : OddV K H0 G v := by
  obtain ⟨d, h1, h2, h3, h4⟩ := h
  exact ⟨d, h1, .inr h2, h3.mono (by omega) (by omega), fun ds e => by rw [e] at h4; simp [noL] at h4⟩
theorem OddV.non : OddV K H0 G .non := ⟨_, fun _ _ => .non, .inr (by simp only [PyData.hasDict]), sd_non.mono (by omega) (by omega), fun ds e => by cases e⟩
theorem OddV.bl (c : Bool) : OddV K H0 G (.bl c) := ⟨_, fun _ _ => .bl c, .inr (by simp only [PyData.hasDict]), (sd_bl c).mono (by omega) (by omega), fun ds e => by cases e⟩
theorem OddV.emp (h : G p = some (.dK [])) : OddV K H0 G (.ref p) := ⟨_, fun _ k => .dict (k _ _ h (.inl fun _ => HO.noConfusion)) .nil, .inl rfl, sd_emp.mono (by omega) (by omega), fun ds e => by cases e⟩
theorem OddV.tupS (h : SqT K G p xs) (l : xs.length ≤ 5) (a : AllA K H0 G xs) : OddV K H0 G (.ref p) := by
  obtain ⟨ds, h1, hl, h2⟩ := a.data
  refine ⟨_, fun H' k => .tup (k.sqT h) (h1 H' k), .inr (hasDict_tup.mpr fun y hy => (h2 y hy).1), (sd_tup fun d hd => (h2 d hd).2).mono (by omega) ?_, fun ds e => by cases e⟩
  rw [hl]
  exact Nat.le_trans (Nat.mul_le_mul_right _ l) (by decide)
theorem OddV.tup (h : G p = some (.tup xs)) (l : xs.length ≤ 5) (a : AllA K H0 G xs) : OddV K H0 G (.ref p) := .tupS (sqT_of h) l a
theorem OddV.lst (h : G p = some (.lst xs)) (lt : sysModules < p) (n : H0 p = none) (l : xs.length ≤ 5) (a : AllN K H0 G xs) : OddV K H0 G (.ref p) := by
  obtain ⟨ds, h1, hl, h2⟩ := a.data
  have z : ∀ y ∈ ds, y.hasDict = false := fun y hy => (h2 y hy).1
  refine ⟨_, fun H' k => .lst (k _ _ h (.inr n)) lt (h1 H' k), .inr ?_, (sd_lst fun d hd => (h2 d hd).2.1).mono (by omega) ?_, fun es e => ?_⟩
  · have := hasDict_tup.mpr z
    simpa only [PyData.hasDict] using this
  · rw [hl]
    exact Nat.le_trans (Nat.mul_le_mul_right _ l) (by decide)
  · cases e; exact noLAll_iff.mpr fun y hy => (h2 y hy).2.2
def Odds (K : PySem.W.Frag) (H0 G : Hp) (vs : List V) : Prop := ∀ v ∈ vs, OddV K H0 G v
theorem Odds.nil : Odds K H0 G [] := fun v h => by cases h
theorem Odds.same {vs : List V} (h : Odds K H0 G vs) (s : Same G G') : Odds K H0 G' vs := fun v hv => (h v hv).same s
theorem Odds.snoc {vs : List V} (h : Odds K H0 G vs) (o : OddV K H0 G v) : Odds K H0 G (vs ++ [v]) := fun x hx => (List.mem_append.mp hx).elim (h x) fun q => by rw [List.mem_singleton.mp q]; exact o
theorem Odds.app {vs ws : List V} (h : Odds K H0 G vs) (o : Odds K H0 G ws) : Odds K H0 G (vs ++ ws) := fun x hx => (List.mem_append.mp hx).elim (h x) (o x)
end
theorem fresh0 {b p : Addr} {d : Int} {H0 H : Hp} (s : SB b H0 H) (B : BoxAt H b d) (n : H p = none) : H0 p = none := by
  have npb := box_ne B n
  rcases e : H0 p with _ | o
  · rfl
  · rw [s _ _ npb e] at n; cases n
section
variable {K : PySem.W.Frag} {H : Hp} {Q : VK} {b : Addr} {d : Int}
theorem i_listB {p : Addr} {ys : List V} (B : BoxAt H b d) (h : SqL K H p ys ∨ SqT K H p ys) (k : ∀ l H', sysModules < l → H l = none → BoxAt H' b d → Same (L2.del H b) (L2.del H' b) → L2.del H' b l = some (.lst ys) → Same H H' → Q (.ref l) H') : rListL K [.ref p] H Q :=
  i_listL h fun l n lt => k l _ lt n (B.same (same_upd n)) (del_sb (SB.of (same_upd n))) (del_new B n) (same_upd n)
theorem i_catB {a c : Addr} {xs ys : List V} (B : BoxAt H b d) (h : SqT K (L2.del H b) a xs) (h2 : SqT K (L2.del H b) c ys) (l : xs.length + ys.length ≤ sizeLine) (k : ∀ t H', BoxAt H' b d → Same (L2.del H b) (L2.del H' b) → SqT K (L2.del H' b) t (xs ++ ys) → Same H H' → Q (.ref t) H') : rCatA K (.ref a) (.ref c) H Q := by
  refine ⟨a, c, xs, ys, rfl, rfl, Same.sqT del_sub h, Same.sqT del_sub h2, l, fun e => ?_, fun e1 e2 => ?_, fun e1 e2 p np => ?_⟩
  · rw [e] at k; exact k _ _ B (Same.refl _) h2 (Same.refl _)
  · rw [e2, List.append_nil] at k; exact k _ _ B (Same.refl _) h (Same.refl _)
  · exact k _ _ (B.same (same_upd np)) (del_sb (SB.of (same_upd np))) (sqT_of (del_new B np)) (same_upd np)
theorem i_sl1B {a : Addr} {xs : List V} (B : BoxAt H b d) (h : SqT K H a xs) (l : 2 ≤ xs.length) (k : ∀ t H', BoxAt H' b d → Same (L2.del H b) (L2.del H' b) → L2.del H' b t = some (.tup (xs.take 1)) → Same H H' → Q (.ref t) H') : rSlA K (.ref a) none (some 1) H Q := by
  refine ⟨a, xs, rfl, h, fun e => ?_, fun e p np => ?_⟩
  · rw [show (some (1 : Int)) = some ((1 : Nat) : Int) from rfl, HT.sIx_nat] at e
    omega
  · have : cutV xs none (some 1) = xs.take 1 := by
      unfold cutV
      rw [show (some (1 : Int)) = some ((1 : Nat) : Int) from rfl, HT.sIx_nat, HT.sIx_none, List.drop_zero, Nat.sub_zero, Nat.min_eq_left (by omega)]
    rw [this]
    exact k _ _ (B.same (same_upd np)) (del_sb (SB.of (same_upd np))) (del_new B np) (same_upd np)
theorem i_slTB {a : Addr} {xs : List V} {n : Nat} (B : BoxAt H b d) (h : SqT K (L2.del H b) a xs) (k : ∀ t H', BoxAt H' b d → Same (L2.del H b) (L2.del H' b) → SqT K (L2.del H' b) t (xs.take n) → Same H H' → Q (.ref t) H') : rSlA K (.ref a) none (some (n : Int)) H Q := by
  refine ⟨a, xs, rfl, Same.sqT del_sub h, fun e => ?_, fun e p np => ?_⟩
  · rw [HT.sIx_nat, HT.sIx_none] at e
    refine k _ _ B (Same.refl _) ?_ (Same.refl _)
    rw [List.take_of_length_le (by omega)]; exact h
  · have : cutV xs none (some (n : Int)) = xs.take n := by
      unfold cutV
      rw [HT.sIx_nat, HT.sIx_none, List.drop_zero, Nat.sub_zero]
      by_cases hk : n ≤ xs.length
      · rw [Nat.min_eq_left hk]
      · rw [Nat.min_eq_right (by omega), List.take_length, List.take_of_length_le (by omega)]
    rw [this]
    exact k _ _ (B.same (same_upd np)) (del_sb (SB.of (same_upd np))) (sqT_of (del_new B np)) (same_upd np)
theorem i_slFB {a : Addr} {xs : List V} {n : Nat} (B : BoxAt H b d) (h : SqT K (L2.del H b) a xs) (k : ∀ t H', BoxAt H' b d → Same (L2.del H b) (L2.del H' b) → SqT K (L2.del H' b) t (xs.drop n) → Same H H' → Q (.ref t) H') : rSlA K (.ref a) (some (n : Int)) none H Q := by
  refine ⟨a, xs, rfl, Same.sqT del_sub h, fun e => ?_, fun e p np => ?_⟩
  · rw [HT.sIx_nat] at e
    refine k _ _ B (Same.refl _) ?_ (Same.refl _)
    by_cases hk : n = 0
    · rw [hk, List.drop_zero]; exact h
    · have : xs = [] := List.eq_nil_of_length_eq_zero (by omega)
      rw [this, List.drop_nil]; rw [this] at h; exact h
  · have : cutV xs (some (n : Int)) none = xs.drop n := by
      unfold cutV
      rw [HT.sIx_nat, HT.sIx_none]
      by_cases hk : n ≤ xs.length
      · rw [Nat.min_eq_left hk, List.take_of_length_le (by rw [List.length_drop]; omega)]
      · rw [Nat.min_eq_right (by omega), List.drop_of_length_le (by omega), List.drop_of_length_le (by omega), List.take_nil]
    rw [this]
    exact k _ _ (B.same (same_upd np)) (del_sb (SB.of (same_upd np))) (sqT_of (del_new B np)) (same_upd np)
theorem i_catLB {a c : Addr} {xs ys : List V} (B : BoxAt H b d) (h : L2.del H b a = some (.lst xs)) (h2 : L2.del H b c = some (.lst ys)) (l : xs.length + ys.length ≤ sizeLine) (k : ∀ t H', BoxAt H' b d → Same (L2.del H b) (L2.del H' b) → L2.del H' b t = some (.lst (xs ++ ys)) → Same H H' → Q (.ref t) H') : rCat (.ref a) (.ref c) H Q :=
  ⟨a, c, xs, ys, rfl, rfl, del_sub _ _ h, del_sub _ _ h2, l, fun p np => k _ _ (B.same (same_upd np)) (del_sb (SB.of (same_upd np))) (del_new B np) (same_upd np)⟩
end
end Sw
namespace Sw
open PySem PySem.Spec PyProof.Rows L2
/-! ### [e for a in xs for b in ys if c] -/
def Lc2Go (J : It) (g : TG) (tt : TT) (wi1 : TI) (g1 : TG) (tt1 : TT) (te : TE) (vs vs1 : List Nat) (σ : L2.St) (H1 : Hp) (Q : VK) : Prop := ∀ D, H1 D = none → ∃ W : Nat → Nat → Hp → Prop, (∃ m, W 0 m (upd H1 D (.lst []))) ∧ ∀ i m H, W i m H →
  (J.stop i H ∧ Q (.ref D) H) ∨ (J.go i H ∧ ∃ Nx : Hp → Prop, (∀ H', Nx H' → ∃ m', m' < m ∧ W (i + 1) m' H') ∧ ∀ x H', J.yld i H x H' → g x (wipe σ vs) H' fun σ2 H2 => wipe σ2 vs = wipe σ vs ∧ tt σ2 H2 fun b H3 =>
    if b = true then wi1 σ2 H3 fun J1 H4 => ∃ W1 : Nat → Nat → Hp → Prop, (∃ m, W1 0 m H4) ∧ ∀ j k H, W1 j k H →
      (J1.stop j H ∧ Nx H) ∨ (J1.go j H ∧ ∃ Nx1 : Hp → Prop, (∀ H', Nx1 H' → ∃ k', k' < k ∧ W1 (j + 1) k' H') ∧ ∀ x H', J1.yld j H x H' → g1 x (wipe σ2 vs1) H' fun σ3 H5 => wipe σ3 vs1 = wipe σ2 vs1 ∧ tt1 σ3 H5 fun b H6 =>
        if b = true then te σ3 H6 fun y H7 => ∃ acc, H7 D = some (.lst acc) ∧ acc.length < sizeLine ∧ Nx1 (upd H7 D (.lst (acc ++ [y]))) else Nx1 H6)
    else Nx H3)
theorem i_lc2 {wi wi1 : TI} {g g1 : TG} {tt tt1 : TT} {te : TE} {vs vs1 : List Nat} {σ : L2.St} {H : Hp} {Q : VK} (h : wi σ H fun J H1 => Lc2Go J g tt wi1 g1 tt1 te vs vs1 σ H1 Q) : tLc2 wi g tt wi1 g1 tt1 te vs vs1 σ H Q := h
/-- the inner walk -/
structure In2Go (J1 : It) (n1 : Nat) (G1 : Hp → Prop) (Y1 : Nat → Hp → V → Hp → Prop) (g1 : TG) (tt1 : TT) (te : TE) (vs1 : List Nat) (σ2 : L2.St) (p : Addr) (H4 : Hp) (Pw : Nat → Hp → Prop) (Nx : Hp → Prop) : Prop where
  w : Walk J1 n1 G1 Y1
  h0 : Pw 0 H4
  hG : ∀ j H, j ≤ n1 → Pw j H → G1 H
  hs : ∀ j x H H', j < n1 → Pw j H → Y1 j H x H' → g1 x (wipe σ2 vs1) H' fun σ3 H5 => wipe σ3 vs1 = wipe σ2 vs1 ∧ tt1 σ3 H5 fun b H6 =>
    if b = true then te σ3 H6 fun y H7 => ∃ acc, H7 p = some (.lst acc) ∧ acc.length < sizeLine ∧ Pw (j + 1) (upd H7 p (.lst (acc ++ [y]))) else Pw (j + 1) H6
  hd : ∀ H, Pw n1 H → Nx H
theorem go_lc2 {J : It} {n : Nat} {G : Hp → Prop} {Y : Nat → Hp → V → Hp → Prop} {g : TG} {tt : TT} {wi1 : TI} {g1 : TG} {tt1 : TT} {te : TE} {vs vs1 : List Nat} {σ : L2.St} {H1 : Hp} {Q : VK} (w : Walk J n G Y) (Pv : Addr → Nat → Hp → Prop) (h0 : ∀ p, H1 p = none → Pv p 0 (upd H1 p (.lst []))) (hG : ∀ p i H, i ≤ n → Pv p i H → G H)
    (hs : ∀ p, H1 p = none → ∀ i x H H', i < n → Pv p i H → Y i H x H' → g x (wipe σ vs) H' fun σ2 H2 => wipe σ2 vs = wipe σ vs ∧ tt σ2 H2 fun b H3 =>
      if b = true then wi1 σ2 H3 fun J1 H4 => ∃ n1 G1 Y1 Pw, In2Go J1 n1 G1 Y1 g1 tt1 te vs1 σ2 p H4 Pw (Pv p (i + 1)) else Pv p (i + 1) H3)
    (hd : ∀ p H, H1 p = none → Pv p n H → Q (.ref p) H) (monoI : ∀ σ2 H3 (R R' : It → Hp → Prop), (∀ J1 H4, R J1 H4 → R' J1 H4) → wi1 σ2 H3 R → wi1 σ2 H3 R')
    (mono1 : ∀ x σ H (R R' : L2.St → Hp → Prop), (∀ σ' H', R σ' H' → R' σ' H') → g x σ H R → g x σ H R') (mono2 : ∀ σ H (R R' : Bool → Hp → Prop), (∀ b H', R b H' → R' b H') → tt σ H R → tt σ H R') : Lc2Go J g tt wi1 g1 tt1 te vs vs1 σ H1 Q := by
  intro p np
  refine ⟨fun i m H => m = n - i ∧ i ≤ n ∧ Pv p i H, ⟨n, by simp, Nat.zero_le _, h0 p np⟩, ?_⟩
  rintro i m H ⟨rfl, hi, pv⟩
  have q := hG p i H hi pv
  by_cases hlt : i < n
  · refine .inr ⟨w.goes i H hlt q, Pv p (i + 1), fun H' p' => ⟨n - (i + 1), by omega, rfl, hlt, p'⟩, fun x H' y => ?_⟩
    refine mono1 _ _ _ _ _ (fun σ2 H2 h => ⟨h.1, mono2 _ _ _ _ (fun b H3 h => ?_) h.2⟩) (hs p np i x H H' hlt pv (w.yields i H x H' hlt q y))
    by_cases hb : b = true
    · rw [if_pos hb] at h ⊢
      refine monoI _ _ _ _ (fun J1 H4 h => ?_) h
      obtain ⟨n1, G1, Y1, Pw, I⟩ := h
      refine ⟨fun j m H => m = n1 - j ∧ j ≤ n1 ∧ Pw j H, ⟨n1, by simp, Nat.zero_le _, I.h0⟩, ?_⟩
      rintro j m H ⟨rfl, hj, pw⟩
      have q := I.hG j H hj pw
      by_cases hlt : j < n1
      · exact .inr ⟨I.w.goes j H hlt q, Pw (j + 1), fun H' p' => ⟨n1 - (j + 1), by omega, rfl, hlt, p'⟩, fun x H' y => I.hs j x H H' hlt pw (I.w.yields j H x H' hlt q y)⟩
      · have e : j = n1 := by omega
        subst e
        exact .inl ⟨I.w.stops H q, I.hd H pw⟩
    · rw [if_neg hb] at h ⊢
      exact h
  · have e : i = n := by omega
    subst e
    exact .inl ⟨w.stops H q, hd p H np pv⟩
theorem mono_yes (σ : L2.St) (H : Hp) (R R' : Bool → Hp → Prop) (h : ∀ b H', R b H' → R' b H') (q : tYes σ H R) : tYes σ H R' := h _ _ q
end Sw
namespace Sw
open PySem PySem.Spec PyProof.Rows L2
/-! ### calls by names -/
def rev2 {α : Type} : List α → List α → List α
  | [], [b, a] => [a, b]
  | _, _ => []
theorem rev2_inv {α : Type} {us ws : List α} (h : (rev2 us ws).length = 2) : us = [] ∧ ∃ b a, ws = [b, a] := by
  unfold rev2 at h
  split at h
  · exact ⟨rfl, _, _, rfl⟩
  · cases h
theorem rev2_rel {vs : List V} {us : List Value} {zs : List V} {ws : List Value} (r : Vals vs us) (r2 : Vals zs ws) : Vals (rev2 vs zs) (rev2 us ws) := by
  unfold rev2
  cases r with
  | cons _ _ => exact .nil
  | nil =>
    cases r2 with
    | nil => exact .nil
    | cons a r2 =>
      cases r2 with
      | nil => exact .nil
      | cons b r2 =>
        cases r2 with
        | nil => exact .cons b (.cons a .nil)
        | cons _ _ => exact .nil
def one1 {α : Type} : List α → List α → List α
  | [], [a] => [a]
  | _, _ => []
theorem one1_inv {α : Type} {us ws : List α} (h : (one1 us ws).length = 1) : us = [] ∧ ∃ a, ws = [a] := by
  unfold one1 at h
  split at h
  · exact ⟨rfl, _, rfl⟩
  · cases h
theorem one1_rel {vs : List V} {us : List Value} {zs : List V} {ws : List Value} (r : Vals vs us) (r2 : Vals zs ws) : Vals (one1 vs zs) (one1 us ws) := by
  unfold one1
  cases r with
  | cons _ _ => exact .nil
  | nil =>
    cases r2 with
    | nil => exact .nil
    | cons a r2 =>
      cases r2 with
      | nil => exact .cons a .nil
      | cons _ _ => exact .nil
end Sw
namespace Sw
open PySem PySem.Spec PyProof.Rows L2
theorem Fun.okG0 {P : Program} {w : World} {K : PySem.W.Frag} {mg : Str → Option Value} {base : Heap} {k : Nat} {f : Addr} {fd : FuncData} {ps : List Str} {sp : Sp} {x qual : Str} {st : Stmt} {N : List Str} (F : Fun K x qual st f fd) (S : FnScope N ps (defScope st)) (len : ∀ xs M R X, sp xs M R X → xs.length = ps.length)
    (body : ∀ (cdv : Value) (A : Around) (out : List Env) (t : Shared) (M : Hp) (xs : List V) (R : VK) (X : XK), Room k (A.deeper (envOfC qual (defScope st) t.heap.objs.size f cdv)) → A.guards = some [] → sp xs M R X →
      ∃ r, PSs (cxOf CX0 P w K mg base N qual (defScope st) f cdv A out t M X).nox (defBody st) r ∧ r { nx := fun _ M' => R .non M', rt := R } (start N xs) M) : FnG P w K mg base CX0 (k + 1) f fd ps sp :=
  Sw.Fun.okG F S len fun cdv A out t M xs R X room quiet prom => by
    obtain ⟨r, h, q⟩ := body cdv A out t M xs R X room quiet prom
    exact ⟨r, h.nox, q⟩
end Sw
namespace Sw
open PySem PySem.Spec PyProof.Rows L2
local macro_rules | `(tactic| walk_at "hp") => `(tactic| first
  | (with_reducible assumption) | (with_reducible exact upd_same)
  | ((with_reducible refine' upd_old ?q1 ?q2); (case q1 => (with_reducible assumption)); (case q2 => walk_at "hp"))
  | ((with_reducible refine' Same.at ?q1 ?q2); (case q1 => (with_reducible assumption)); (case q2 => walk_at "hp"))
  | ((with_reducible refine' upd_skip ?q1 ?q2); (case q1 => walk_at "ne"); (case q2 => walk_at "hp"))
  | fail)
local macro_rules | `(tactic| walk_at "ne") => `(tactic| first
  | (with_reducible assumption) | (with_reducible exact Ne.symm (by assumption))
  | ((with_reducible refine' ne_of_none ?q1 ?q2); (case q2 => (with_reducible assumption)); (case q1 => walk_at "hp"))
  | fail)
local macro_rules | `(tactic| walk_at "ci") => `(tactic| first | assumption | (show (0 : Int) < _; first | decide | (with_reducible omega)) | exact ⟨by decide, by decide⟩ | exact .inl ⟨by decide, by decide⟩ | exact .inr ⟨by decide, by decide⟩)
local macro_rules | `(tactic| walk_at "ln") => `(tactic| first | (with_reducible assumption) | (with_reducible omega) | (simp only [List.length_append, List.length_take, List.length_drop, List.length_reverse, List.length_cons, List.length_nil]; with_reducible omega))
local macro_rules | `(tactic| walk_at "rd1") => `(tactic| first
  | (with_reducible refine i_seq ?_) | (with_reducible refine i_asg ?_) | (with_reducible refine i_ret ?_) | (with_reducible refine i_name ?_) | ((with_reducible refine' i_var ?q1 ?_); (case q1 => exact rfl)) | (with_reducible refine i_c ?_) | (with_reducible refine i_op ?_) | (with_reducible refine i_un ?_)
  | (with_reducible refine i_rI0 ?_) | (with_reducible refine i_cb ?_) | (with_reducible refine i_cons ?_) | (with_reducible refine i_nil ?_) | (with_reducible refine i_call ?_) | (with_reducible refine i_if ?_) | (with_reducible refine i_ifE ?_) | (with_reducible refine i_test ?_) | (with_reducible refine i_bl ?_)
  | (with_reducible refine i_and ?_) | (with_reducible refine i_or ?_) | (with_reducible refine i_not ?_) | (with_reducible refine i_lst ?_) | (with_reducible refine i_tup ?_) | (with_reducible refine i_next ?_) | (with_reducible refine i_drop ?_) | (with_reducible refine i_sub ?_)
  | (with_reducible refine i_bm ?_) | (with_reducible refine i_sl ?_) | (with_reducible refine i_part ?_) | (with_reducible refine i_nopart ?_) | (with_reducible refine i_exI ?_) | (with_reducible refine i_chain ?_) | ((with_reducible refine' i_aug ?q1 ?_); (case q1 => exact rfl)) | (with_reducible refine i_ip ?_)
  | (with_reducible refine i_par ?_) | (with_reducible refine i_pair ?_) | (with_reducible refine i_andV ?_) | (with_reducible refine i_orV ?_) | (with_reducible refine i_notV ?_) | (with_reducible refine i_m1 ?_) | (with_reducible refine i_str ?_)
  | (with_reducible refine iteF ?_) | (with_reducible refine iteT ?_) | (with_reducible refine iteNT ?_) | (with_reducible refine iteNF ?_) | (with_reducible refine i_tyS ?_) | (with_reducible refine i_tB ?_) | (with_reducible refine i_retN ?_) | (with_reducible refine i_par3 ?_) | (with_reducible refine i_trip ?_) | (with_reducible refine i_gCons ?_) | (with_reducible refine i_gNil ?_) | (with_reducible refine i_lstRg ?_) | (with_reducible refine i_rg1 ?_)
  | (with_reducible refine i_lc ?_) | (with_reducible refine i_for ?_) | (with_reducible refine i_iList ?_) | (with_reducible refine i_iTup ?_) | (with_reducible refine i_iStr ?_) | (with_reducible refine i_iRng1 ?_) | (with_reducible refine i_iEnS ?_)
  | ((with_reducible refine' i_ixTH ?q1 ?q2 ?_); (case q1 => walk_at "hp"); (case q2 => exact rfl))
  | ((with_reducible refine' i_ixLH ?q1 ?q2 ?_); (case q1 => walk_at "hp"); (case q2 => exact rfl))
  | ((with_reducible refine i_addS ?q1 ?_); (case q1 => walk_at "ln")) | ((with_reducible refine i_lenSS ?q1 ?_); (case q1 => walk_at "ln")) | ((with_reducible refine i_slFrom ?q1 ?q2 ?_); (case q1 => walk_at "ln"); (case q2 => walk_at "ln")) | ((with_reducible refine i_slTo ?q1 ?q2 ?_); (case q1 => walk_at "ln"); (case q2 => walk_at "ln"))
  | ((with_reducible refine' i_tyL ?q1 ?_); (case q1 => walk_at "hp"))
  | ((with_reducible refine' i_gTupH ?q1 ?q2 ?_); (case q1 => walk_at "hp"); (case q2 => exact rfl))
  | (with_reducible refine i_dnew ?_) | (with_reducible refine i_init ?_) | (with_reducible refine i_fst ?_) | (with_reducible refine i_mk ?_) | (with_reducible refine i_raise ?_) | (with_reducible refine i_callS ?_) | (with_reducible refine i_kwS ?_)
  | (with_reducible refine i_revT ?_) | (with_reducible refine i_kw ?_) | ((with_reducible refine' ⟨_, _, rfl, sqT_of ?q1, ?_⟩); (case q1 => walk_at "hp"))
  | (with_reducible refine i_revS ?_) | ((with_reducible refine i_revSS ?q1 ?_); (case q1 => walk_at "ln"))
  | (with_reducible refine i_startS ?_) | (with_reducible refine i_inSg ?_) | (with_reducible refine i_absN ?_) | (with_reducible refine i_min2 ?_) | (with_reducible refine i_max2 ?_) | (with_reducible refine i_min3 ?_) | (with_reducible refine i_intN ?_) | (with_reducible refine i_intNB ?_)
  | ((with_reducible refine' i_lenL ?q1 ?_); (case q1 => walk_at "hp")) | ((with_reducible refine' i_lenT ?q1 ?_); (case q1 => walk_at "hp"))
  | (with_reducible refine i_eqI ?_) | (with_reducible refine i_neI ?_) | (with_reducible refine i_eqS ?_) | (with_reducible refine i_neS ?_) | (with_reducible refine i_isNoI ?_) | (with_reducible refine i_isNoN ?_) | (with_reducible refine i_isNoR ?_)
  | ((with_reducible refine i_pow ?q1 ?q2 ?q3 ?_); (case q1 => decide); (case q2 => decide); (case q3 => (with_reducible omega)))
  | ((with_reducible refine i_rI ?q1 ?_); (case q1 => walk_at "ci"))
  | (with_reducible refine Or.inl ⟨_, rfl, ?_⟩) | (with_reducible refine Or.inr ⟨_, rfl, ?_⟩) | (with_reducible refine ⟨_, rfl, ?_⟩) | (with_reducible refine ⟨_, _, rfl, ?_⟩) | (with_reducible refine ⟨_, _, rfl, rfl, ?_⟩)
  | ((with_reducible refine' ⟨_, _, rfl, Or.inl (sqL_of ?q1), ?_⟩); (case q1 => walk_at "hp")) | ((with_reducible refine' ⟨_, _, rfl, Or.inr (sqT_of ?q1), ?_⟩); (case q1 => walk_at "hp")) | fail)
local macro_rules | `(tactic| walk_at "rd") => `(tactic| repeat' walk_at "rd1")

def topS (i : Nat) : Stmt := PySem.Challenge.pw_spoiltways_k04_kinds_and_passings.main.body.getD i (.Pass ⟨0, 0, 0, 0⟩)
abbrev s_is_integer : Stmt := topS 6
abbrev n_is_integer : List Str := ["value"]
theorem sc_is_integer : FnScope n_is_integer ["value"] (defScope s_is_integer) := ⟨rfl, rfl, rfl, by decide +kernel, rfl, by decide +kernel, by decide +kernel⟩
abbrev s_is_index : Stmt := topS 7
abbrev n_is_index : List Str := ["value", "many"]
theorem sc_is_index : FnScope n_is_index ["value", "many"] (defScope s_is_index) := ⟨rfl, rfl, rfl, by decide +kernel, rfl, by decide +kernel, by decide +kernel⟩
abbrev s_is_signs : Stmt := topS 8
abbrev n_is_signs : List Str := ["value"]
theorem sc_is_signs : FnScope n_is_signs ["value"] (defScope s_is_signs) := ⟨rfl, rfl, rfl, by decide +kernel, rfl, by decide +kernel, by decide +kernel⟩
abbrev s_is_sign : Stmt := topS 9
abbrev n_is_sign : List Str := ["value", "signs"]
theorem sc_is_sign : FnScope n_is_sign ["value", "signs"] (defScope s_is_sign) := ⟨rfl, rfl, rfl, by decide +kernel, rfl, by decide +kernel, by decide +kernel⟩
abbrev s_check_signs : Stmt := topS 10
abbrev n_check_signs : List Str := ["signs"]
theorem sc_check_signs : FnScope n_check_signs ["signs"] (defScope s_check_signs) := ⟨rfl, rfl, rfl, by decide +kernel, rfl, by decide +kernel, by decide +kernel⟩
abbrev s_is_kind : Stmt := topS 12
abbrev n_is_kind : List Str := ["value", "signs", "part"]
theorem sc_is_kind : FnScope n_is_kind ["value", "signs"] (defScope s_is_kind) := ⟨rfl, rfl, rfl, by decide +kernel, rfl, by decide +kernel, by decide +kernel⟩
abbrev s_all_kinds : Stmt := topS 13
abbrev n_all_kinds : List Str := ["signs", "lost", "a", "put", "b"]
theorem sc_all_kinds : FnScope n_all_kinds ["signs"] (defScope s_all_kinds) := ⟨rfl, rfl, rfl, by decide +kernel, rfl, by decide +kernel, by decide +kernel⟩
abbrev s_is_same : Stmt := topS 14
abbrev n_is_same : List Str := ["value", "signs"]
theorem sc_is_same : FnScope n_is_same ["value", "signs"] (defScope s_is_same) := ⟨rfl, rfl, rfl, by decide +kernel, rfl, by decide +kernel, by decide +kernel⟩
abbrev s_is_passing : Stmt := topS 15
abbrev n_is_passing : List Str := ["value", "signs", "step"]
theorem sc_is_passing : FnScope n_is_passing ["value", "signs"] (defScope s_is_passing) := ⟨rfl, rfl, rfl, by decide +kernel, rfl, by decide +kernel, by decide +kernel⟩
abbrev s_check_passing : Stmt := topS 16
abbrev n_check_passing : List Str := ["passing", "signs"]
theorem sc_check_passing : FnScope n_check_passing ["passing", "signs"] (defScope s_check_passing) := ⟨rfl, rfl, rfl, by decide +kernel, rfl, by decide +kernel, by decide +kernel⟩
abbrev s_sent : Stmt := topS 17
abbrev n_sent : List Str := ["passing", "step"]
theorem sc_sent : FnScope n_sent ["passing"] (defScope s_sent) := ⟨rfl, rfl, rfl, by decide +kernel, rfl, by decide +kernel, by decide +kernel⟩
abbrev s_came : Stmt := topS 18
abbrev n_came : List Str := ["passing", "step"]
theorem sc_came : FnScope n_came ["passing"] (defScope s_came) := ⟨rfl, rfl, rfl, by decide +kernel, rfl, by decide +kernel, by decide +kernel⟩
abbrev s_errors_in : Stmt := topS 19
abbrev n_errors_in : List Str := ["passing", "step"]
theorem sc_errors_in : FnScope n_errors_in ["passing"] (defScope s_errors_in) := ⟨rfl, rfl, rfl, by decide +kernel, rfl, by decide +kernel, by decide +kernel⟩
abbrev s__law_cell : Stmt := topS 21
abbrev n__law_cell : List Str := ["script", "k"]
theorem sc__law_cell : FnScope n__law_cell ["script", "k"] (defScope s__law_cell) := ⟨rfl, rfl, rfl, by decide +kernel, rfl, by decide +kernel, by decide +kernel⟩
abbrev s__law_box : Stmt := topS 22
abbrev n__law_box : List Str := ["great"]
theorem sc__law_box : FnScope n__law_box ["great"] (defScope s__law_box) := ⟨rfl, rfl, rfl, by decide +kernel, rfl, by decide +kernel, by decide +kernel⟩
abbrev s__law_take : Stmt := topS 23
abbrev n__law_take : List Str := ["box", "many", "digit", "mixed"]
theorem sc__law_take : FnScope n__law_take ["box", "many"] (defScope s__law_take) := ⟨rfl, rfl, rfl, by decide +kernel, rfl, by decide +kernel, by decide +kernel⟩
abbrev s__law_mixed : Stmt := topS 24
abbrev n__law_mixed : List Str := ["box", "items", "left", "found"]
theorem sc__law_mixed : FnScope n__law_mixed ["box", "items"] (defScope s__law_mixed) := ⟨rfl, rfl, rfl, by decide +kernel, rfl, by decide +kernel, by decide +kernel⟩
abbrev s__law_is_signs : Stmt := topS 25
abbrev n__law_is_signs : List Str := ["value"]
theorem sc__law_is_signs : FnScope n__law_is_signs ["value"] (defScope s__law_is_signs) := ⟨rfl, rfl, rfl, by decide +kernel, rfl, by decide +kernel, by decide +kernel⟩
abbrev s__law_is_sign : Stmt := topS 26
abbrev n__law_is_sign : List Str := ["value", "signs"]
theorem sc__law_is_sign : FnScope n__law_is_sign ["value", "signs"] (defScope s__law_is_sign) := ⟨rfl, rfl, rfl, by decide +kernel, rfl, by decide +kernel, by decide +kernel⟩
abbrev s__law_is_kind : Stmt := topS 27
abbrev n__law_is_kind : List Str := ["value", "signs"]
theorem sc__law_is_kind : FnScope n__law_is_kind ["value", "signs"] (defScope s__law_is_kind) := ⟨rfl, rfl, rfl, by decide +kernel, rfl, by decide +kernel, by decide +kernel⟩
abbrev s__law_is_passing : Stmt := topS 28
abbrev n__law_is_passing : List Str := ["value", "signs", "step", "same"]
theorem sc__law_is_passing : FnScope n__law_is_passing ["value", "signs"] (defScope s__law_is_passing) := ⟨rfl, rfl, rfl, by decide +kernel, rfl, by decide +kernel, by decide +kernel⟩
abbrev s__law_step : Stmt := topS 29
abbrev n__law_step : List Str := ["box", "signs", "way", "a", "b"]
theorem sc__law_step : FnScope n__law_step ["box", "signs"] (defScope s__law_step) := ⟨rfl, rfl, rfl, by decide +kernel, rfl, by decide +kernel, by decide +kernel⟩
abbrev s__law_passing : Stmt := topS 30
abbrev n__law_passing : List Str := ["box", "signs", "many", "k"]
theorem sc__law_passing : FnScope n__law_passing ["box", "signs"] (defScope s__law_passing) := ⟨rfl, rfl, rfl, by decide +kernel, rfl, by decide +kernel, by decide +kernel⟩
abbrev s__law_odd : Stmt := topS 31
abbrev n__law_odd : List Str := ["box", "step", "signs", "word", "a", "way", "menu"]
theorem sc__law_odd : FnScope n__law_odd ["box", "step", "signs"] (defScope s__law_odd) := ⟨rfl, rfl, rfl, by decide +kernel, rfl, by decide +kernel, by decide +kernel⟩
abbrev s__law_near : Stmt := topS 32
abbrev n__law_near : List Str := ["box", "passing", "signs", "way", "at", "menu", "step"]
theorem sc__law_near : FnScope n__law_near ["box", "passing", "signs"] (defScope s__law_near) := ⟨rfl, rfl, rfl, by decide +kernel, rfl, by decide +kernel, by decide +kernel⟩
abbrev s__law_ask : Stmt := topS 33
abbrev n__law_ask : List Str := ["door", "value", "e"]
theorem sc__law_ask : FnScope n__law_ask ["door", "value"] (defScope s__law_ask) := ⟨rfl, rfl, rfl, by decide +kernel, rfl, by decide +kernel, by decide +kernel⟩
abbrev s__law_doors_right : Stmt := topS 34
abbrev n__law_doors_right : List Str := ["value", "due", "step", "door", "given", "told"]
theorem sc__law_doors_right : FnScope n__law_doors_right ["value"] (defScope s__law_doors_right) := ⟨rfl, rfl, rfl, by decide +kernel, rfl, by decide +kernel, by decide +kernel⟩
abbrev s__law_all_right : Stmt := topS 35
abbrev n__law_all_right : List Str := ["signs", "wrong", "due", "a", "b", "told", "kind", "e"]
theorem sc__law_all_right : FnScope n__law_all_right ["signs", "wrong"] (defScope s__law_all_right) := ⟨rfl, rfl, rfl, by decide +kernel, rfl, by decide +kernel, by decide +kernel⟩
abbrev s__law_right : Stmt := topS 36
abbrev n__law_right : List Str := ["box", "signs", "passing", "near", "text", "wrong", "value", "k", "steps", "step"]
theorem sc__law_right : FnScope n__law_right ["box"] (defScope s__law_right) := ⟨rfl, rfl, rfl, by decide +kernel, rfl, by decide +kernel, by decide +kernel⟩
abbrev s_law : Stmt := topS 37
abbrev n_law : List Str := ["script", "k"]
theorem sc_law : FnScope n_law ["script"] (defScope s_law) := ⟨rfl, rfl, rfl, by decide +kernel, rfl, by decide +kernel, by decide +kernel⟩
/-- names that stay the built-in ones -/
structure Z (mg : Str → Option Value) : Prop where
  abs : mg "abs" = none
  all : mg "all" = none
  bool : mg "bool" = none
  enumerate : mg "enumerate" = none
  int : mg "int" = none
  isinstance : mg "isinstance" = none
  len : mg "len" = none
  list : mg "list" = none
  max_ : mg "max" = none
  min_ : mg "min" = none
  range : mg "range" = none
  repr : mg "repr" = none
  str : mg "str" = none
  sum : mg "sum" = none
  tuple : mg "tuple" = none
end Sw
namespace Sw
open PySem PySem.Spec PyProof.Rows L2
local macro_rules | `(tactic| walk_at "hp") => `(tactic| first
  | (with_reducible assumption) | (with_reducible exact upd_same)
  | ((with_reducible refine' upd_old ?q1 ?q2); (case q1 => (with_reducible assumption)); (case q2 => walk_at "hp"))
  | ((with_reducible refine' Same.at ?q1 ?q2); (case q1 => (with_reducible assumption)); (case q2 => walk_at "hp"))
  | ((with_reducible refine' upd_skip ?q1 ?q2); (case q1 => walk_at "ne"); (case q2 => walk_at "hp"))
  | fail)
local macro_rules | `(tactic| walk_at "ne") => `(tactic| first
  | (with_reducible assumption) | (with_reducible exact Ne.symm (by assumption))
  | ((with_reducible refine' ne_of_none ?q1 ?q2); (case q2 => (with_reducible assumption)); (case q1 => walk_at "hp"))
  | fail)
local macro_rules | `(tactic| walk_at "ci") => `(tactic| first | assumption | (show (0 : Int) < _; first | decide | (with_reducible omega)) | exact ⟨by decide, by decide⟩ | exact .inl ⟨by decide, by decide⟩ | exact .inr ⟨by decide, by decide⟩)
local macro_rules | `(tactic| walk_at "ln") => `(tactic| first | (with_reducible assumption) | (with_reducible omega) | (simp only [List.length_append, List.length_take, List.length_drop, List.length_reverse, List.length_cons, List.length_nil]; with_reducible omega))
local macro_rules | `(tactic| walk_at "rd1") => `(tactic| first
  | (with_reducible refine i_seq ?_) | (with_reducible refine i_asg ?_) | (with_reducible refine i_ret ?_) | (with_reducible refine i_name ?_) | ((with_reducible refine' i_var ?q1 ?_); (case q1 => exact rfl)) | (with_reducible refine i_c ?_) | (with_reducible refine i_op ?_) | (with_reducible refine i_un ?_)
  | (with_reducible refine i_rI0 ?_) | (with_reducible refine i_cb ?_) | (with_reducible refine i_cons ?_) | (with_reducible refine i_nil ?_) | (with_reducible refine i_call ?_) | (with_reducible refine i_if ?_) | (with_reducible refine i_ifE ?_) | (with_reducible refine i_test ?_) | (with_reducible refine i_bl ?_)
  | (with_reducible refine i_and ?_) | (with_reducible refine i_or ?_) | (with_reducible refine i_not ?_) | (with_reducible refine i_lst ?_) | (with_reducible refine i_tup ?_) | (with_reducible refine i_next ?_) | (with_reducible refine i_drop ?_) | (with_reducible refine i_sub ?_)
  | (with_reducible refine i_bm ?_) | (with_reducible refine i_sl ?_) | (with_reducible refine i_part ?_) | (with_reducible refine i_nopart ?_) | (with_reducible refine i_exI ?_) | (with_reducible refine i_chain ?_) | ((with_reducible refine' i_aug ?q1 ?_); (case q1 => exact rfl)) | (with_reducible refine i_ip ?_)
  | (with_reducible refine i_par ?_) | (with_reducible refine i_pair ?_) | (with_reducible refine i_andV ?_) | (with_reducible refine i_orV ?_) | (with_reducible refine i_notV ?_) | (with_reducible refine i_m1 ?_) | (with_reducible refine i_str ?_)
  | (with_reducible refine iteF ?_) | (with_reducible refine iteT ?_) | (with_reducible refine iteNT ?_) | (with_reducible refine iteNF ?_) | (with_reducible refine i_tyS ?_) | (with_reducible refine i_tB ?_) | (with_reducible refine i_retN ?_) | (with_reducible refine i_par3 ?_) | (with_reducible refine i_trip ?_) | (with_reducible refine i_gCons ?_) | (with_reducible refine i_gNil ?_) | (with_reducible refine i_lstRg ?_) | (with_reducible refine i_rg1 ?_)
  | (with_reducible refine i_lc ?_) | (with_reducible refine i_for ?_) | (with_reducible refine i_iList ?_) | (with_reducible refine i_iTup ?_) | (with_reducible refine i_iStr ?_) | (with_reducible refine i_iRng1 ?_) | (with_reducible refine i_iEnS ?_)
  | ((with_reducible refine' i_ixTH ?q1 ?q2 ?_); (case q1 => walk_at "hp"); (case q2 => exact rfl))
  | ((with_reducible refine' i_ixLH ?q1 ?q2 ?_); (case q1 => walk_at "hp"); (case q2 => exact rfl))
  | ((with_reducible refine i_addS ?q1 ?_); (case q1 => walk_at "ln")) | ((with_reducible refine i_lenSS ?q1 ?_); (case q1 => walk_at "ln")) | ((with_reducible refine i_slFrom ?q1 ?q2 ?_); (case q1 => walk_at "ln"); (case q2 => walk_at "ln")) | ((with_reducible refine i_slTo ?q1 ?q2 ?_); (case q1 => walk_at "ln"); (case q2 => walk_at "ln"))
  | ((with_reducible refine' i_tyL ?q1 ?_); (case q1 => walk_at "hp"))
  | ((with_reducible refine' i_gTupH ?q1 ?q2 ?_); (case q1 => walk_at "hp"); (case q2 => exact rfl))
  | (with_reducible refine i_dnew ?_) | (with_reducible refine i_init ?_) | (with_reducible refine i_fst ?_) | (with_reducible refine i_mk ?_) | (with_reducible refine i_raise ?_) | (with_reducible refine i_callS ?_) | (with_reducible refine i_kwS ?_)
  | (with_reducible refine i_revT ?_) | (with_reducible refine i_kw ?_) | ((with_reducible refine' ⟨_, _, rfl, sqT_of ?q1, ?_⟩); (case q1 => walk_at "hp"))
  | (with_reducible refine i_revS ?_) | ((with_reducible refine i_revSS ?q1 ?_); (case q1 => walk_at "ln"))
  | (with_reducible refine i_startS ?_) | (with_reducible refine i_inSg ?_) | (with_reducible refine i_absN ?_) | (with_reducible refine i_min2 ?_) | (with_reducible refine i_max2 ?_) | (with_reducible refine i_min3 ?_) | (with_reducible refine i_intN ?_) | (with_reducible refine i_intNB ?_)
  | ((with_reducible refine' i_lenL ?q1 ?_); (case q1 => walk_at "hp")) | ((with_reducible refine' i_lenT ?q1 ?_); (case q1 => walk_at "hp"))
  | (with_reducible refine i_eqI ?_) | (with_reducible refine i_neI ?_) | (with_reducible refine i_eqS ?_) | (with_reducible refine i_neS ?_) | (with_reducible refine i_isNoI ?_) | (with_reducible refine i_isNoN ?_) | (with_reducible refine i_isNoR ?_)
  | ((with_reducible refine i_pow ?q1 ?q2 ?q3 ?_); (case q1 => decide); (case q2 => decide); (case q3 => (with_reducible omega)))
  | ((with_reducible refine i_rI ?q1 ?_); (case q1 => walk_at "ci"))
  | (with_reducible refine Or.inl ⟨_, rfl, ?_⟩) | (with_reducible refine Or.inr ⟨_, rfl, ?_⟩) | (with_reducible refine ⟨_, rfl, ?_⟩) | (with_reducible refine ⟨_, _, rfl, ?_⟩) | (with_reducible refine ⟨_, _, rfl, rfl, ?_⟩)
  | ((with_reducible refine' ⟨_, _, rfl, Or.inl (sqL_of ?q1), ?_⟩); (case q1 => walk_at "hp")) | ((with_reducible refine' ⟨_, _, rfl, Or.inr (sqT_of ?q1), ?_⟩); (case q1 => walk_at "hp")) | fail)
local macro_rules | `(tactic| walk_at "rd") => `(tactic| repeat' walk_at "rd1")

/-! ### the exceptions that tell a bad value -/
abbrev s_initS : Stmt := inClass (topS 3) 0
abbrev s_initP : Stmt := inClass (topS 2) 0
abbrev n_init : List Str := ["self", "given"]
theorem sc_initS : FnScope n_init ["self", "given"] (defScope s_initS) := ⟨rfl, rfl, rfl, by decide +kernel, rfl, by decide +kernel, by decide +kernel⟩
theorem sc_initP : FnScope n_init ["self", "given"] (defScope s_initP) := ⟨rfl, rfl, rfl, by decide +kernel, rfl, by decide +kernel, by decide +kernel⟩
section
variable {P : Program} {w : World} {K : PySem.W.Frag} {mg : Str → Option Value} {base : Heap} {f : Addr} {fd : FuncData}
theorem ok_initS {B : Addr} (F : Fun K "__init__" "InvalidSigns.__init__" s_initS f fd) (o : Over K mg B) : FnOk P w K mg base CX0 1 f fd ["self", "given"] (spInit K) := by
  refine F.ok sc_initS (fun vs H Q E h => ?_) (fun cdv A outer s H vs Q E hr h => ?_)
  · obtain ⟨a, C, v, rfl, _⟩ := h; rfl
  · obtain ⟨a, C, v, rfl, ha, T, no, k⟩ := h
    refine ⟨_, (pss_cons (ps_expr (ps_init (by rfl) o.hm o.ga o.ty o.rd o.fi (pa_cons (pv 0) (pa_cons pe_str pa_nil))))
      (pss_one (ps_fst (pv 0) (pv 1)))), ?_⟩
    walk_at "rd"
    refine ⟨a, C, _, rfl, by simp, T, ha, ?_⟩
    walk_at "rd"
    exact ⟨a, C, rfl, T, no, ha, fun dx n ne => k dx n ne⟩
theorem ok_initP {B : Addr} (F : Fun K "__init__" "InvalidPassing.__init__" s_initP f fd) (o : Over K mg B) : FnOk P w K mg base CX0 1 f fd ["self", "given"] (spInit K) := by
  refine F.ok sc_initP (fun vs H Q E h => ?_) (fun cdv A outer s H vs Q E hr h => ?_)
  · obtain ⟨a, C, v, rfl, _⟩ := h; rfl
  · obtain ⟨a, C, v, rfl, ha, T, no, k⟩ := h
    refine ⟨_, (pss_cons (ps_expr (ps_init (by rfl) o.hm o.ga o.ty o.rd o.fi (pa_cons (pv 0) (pa_cons pe_str pa_nil))))
      (pss_one (ps_fst (pv 0) (pv 1)))), ?_⟩
    walk_at "rd"
    refine ⟨a, C, _, rfl, by simp, T, ha, ?_⟩
    walk_at "rd"
    exact ⟨a, C, rfl, T, no, ha, fun dx n ne => k dx n ne⟩
end
end Sw
namespace Sw
open PySem PySem.Spec PyProof.Rows L2
local macro_rules | `(tactic| walk_at "hp") => `(tactic| first
  | (with_reducible assumption) | (with_reducible exact upd_same)
  | ((with_reducible refine' upd_old ?q1 ?q2); (case q1 => (with_reducible assumption)); (case q2 => walk_at "hp"))
  | ((with_reducible refine' Same.at ?q1 ?q2); (case q1 => (with_reducible assumption)); (case q2 => walk_at "hp"))
  | ((with_reducible refine' upd_skip ?q1 ?q2); (case q1 => walk_at "ne"); (case q2 => walk_at "hp"))
  | fail)
local macro_rules | `(tactic| walk_at "ne") => `(tactic| first
  | (with_reducible assumption) | (with_reducible exact Ne.symm (by assumption))
  | ((with_reducible refine' ne_of_none ?q1 ?q2); (case q2 => (with_reducible assumption)); (case q1 => walk_at "hp"))
  | fail)
local macro_rules | `(tactic| walk_at "ci") => `(tactic| first | assumption | (show (0 : Int) < _; first | decide | (with_reducible omega)) | exact ⟨by decide, by decide⟩ | exact .inl ⟨by decide, by decide⟩ | exact .inr ⟨by decide, by decide⟩)
local macro_rules | `(tactic| walk_at "ln") => `(tactic| first | (with_reducible assumption) | (with_reducible omega) | (simp only [List.length_append, List.length_take, List.length_drop, List.length_reverse, List.length_cons, List.length_nil]; with_reducible omega))
local macro_rules | `(tactic| walk_at "rd1") => `(tactic| first
  | (with_reducible refine i_seq ?_) | (with_reducible refine i_asg ?_) | (with_reducible refine i_ret ?_) | (with_reducible refine i_name ?_) | ((with_reducible refine' i_var ?q1 ?_); (case q1 => exact rfl)) | (with_reducible refine i_c ?_) | (with_reducible refine i_op ?_) | (with_reducible refine i_un ?_)
  | (with_reducible refine i_rI0 ?_) | (with_reducible refine i_cb ?_) | (with_reducible refine i_cons ?_) | (with_reducible refine i_nil ?_) | (with_reducible refine i_call ?_) | (with_reducible refine i_if ?_) | (with_reducible refine i_ifE ?_) | (with_reducible refine i_test ?_) | (with_reducible refine i_bl ?_)
  | (with_reducible refine i_and ?_) | (with_reducible refine i_or ?_) | (with_reducible refine i_not ?_) | (with_reducible refine i_lst ?_) | (with_reducible refine i_tup ?_) | (with_reducible refine i_next ?_) | (with_reducible refine i_drop ?_) | (with_reducible refine i_sub ?_)
  | (with_reducible refine i_bm ?_) | (with_reducible refine i_sl ?_) | (with_reducible refine i_part ?_) | (with_reducible refine i_nopart ?_) | (with_reducible refine i_exI ?_) | (with_reducible refine i_chain ?_) | ((with_reducible refine' i_aug ?q1 ?_); (case q1 => exact rfl)) | (with_reducible refine i_ip ?_)
  | (with_reducible refine i_par ?_) | (with_reducible refine i_pair ?_) | (with_reducible refine i_andV ?_) | (with_reducible refine i_orV ?_) | (with_reducible refine i_notV ?_) | (with_reducible refine i_m1 ?_) | (with_reducible refine i_str ?_)
  | (with_reducible refine iteF ?_) | (with_reducible refine iteT ?_) | (with_reducible refine iteNT ?_) | (with_reducible refine iteNF ?_) | (with_reducible refine i_tyS ?_) | (with_reducible refine i_tB ?_) | (with_reducible refine i_retN ?_) | (with_reducible refine i_par3 ?_) | (with_reducible refine i_trip ?_) | (with_reducible refine i_gCons ?_) | (with_reducible refine i_gNil ?_) | (with_reducible refine i_lstRg ?_) | (with_reducible refine i_rg1 ?_)
  | (with_reducible refine i_lc ?_) | (with_reducible refine i_for ?_) | (with_reducible refine i_iList ?_) | (with_reducible refine i_iTup ?_) | (with_reducible refine i_iStr ?_) | (with_reducible refine i_iRng1 ?_) | (with_reducible refine i_iEnS ?_)
  | ((with_reducible refine' i_ixTH ?q1 ?q2 ?_); (case q1 => walk_at "hp"); (case q2 => exact rfl))
  | ((with_reducible refine' i_ixLH ?q1 ?q2 ?_); (case q1 => walk_at "hp"); (case q2 => exact rfl))
  | ((with_reducible refine i_addS ?q1 ?_); (case q1 => walk_at "ln")) | ((with_reducible refine i_lenSS ?q1 ?_); (case q1 => walk_at "ln")) | ((with_reducible refine i_slFrom ?q1 ?q2 ?_); (case q1 => walk_at "ln"); (case q2 => walk_at "ln")) | ((with_reducible refine i_slTo ?q1 ?q2 ?_); (case q1 => walk_at "ln"); (case q2 => walk_at "ln"))
  | ((with_reducible refine' i_tyL ?q1 ?_); (case q1 => walk_at "hp"))
  | ((with_reducible refine' i_gTupH ?q1 ?q2 ?_); (case q1 => walk_at "hp"); (case q2 => exact rfl))
  | (with_reducible refine i_dnew ?_) | (with_reducible refine i_init ?_) | (with_reducible refine i_fst ?_) | (with_reducible refine i_mk ?_) | (with_reducible refine i_raise ?_) | (with_reducible refine i_callS ?_) | (with_reducible refine i_kwS ?_)
  | (with_reducible refine i_revT ?_) | (with_reducible refine i_kw ?_) | ((with_reducible refine' ⟨_, _, rfl, sqT_of ?q1, ?_⟩); (case q1 => walk_at "hp"))
  | (with_reducible refine i_revS ?_) | ((with_reducible refine i_revSS ?q1 ?_); (case q1 => walk_at "ln"))
  | (with_reducible refine i_startS ?_) | (with_reducible refine i_inSg ?_) | (with_reducible refine i_absN ?_) | (with_reducible refine i_min2 ?_) | (with_reducible refine i_max2 ?_) | (with_reducible refine i_min3 ?_) | (with_reducible refine i_intN ?_) | (with_reducible refine i_intNB ?_)
  | ((with_reducible refine' i_lenL ?q1 ?_); (case q1 => walk_at "hp")) | ((with_reducible refine' i_lenT ?q1 ?_); (case q1 => walk_at "hp"))
  | (with_reducible refine i_eqI ?_) | (with_reducible refine i_neI ?_) | (with_reducible refine i_eqS ?_) | (with_reducible refine i_neS ?_) | (with_reducible refine i_isNoI ?_) | (with_reducible refine i_isNoN ?_) | (with_reducible refine i_isNoR ?_)
  | ((with_reducible refine i_pow ?q1 ?q2 ?q3 ?_); (case q1 => decide); (case q2 => decide); (case q3 => (with_reducible omega)))
  | ((with_reducible refine i_rI ?q1 ?_); (case q1 => walk_at "ci"))
  | (with_reducible refine Or.inl ⟨_, rfl, ?_⟩) | (with_reducible refine Or.inr ⟨_, rfl, ?_⟩) | (with_reducible refine ⟨_, rfl, ?_⟩) | (with_reducible refine ⟨_, _, rfl, ?_⟩) | (with_reducible refine ⟨_, _, rfl, rfl, ?_⟩)
  | ((with_reducible refine' ⟨_, _, rfl, Or.inl (sqL_of ?q1), ?_⟩); (case q1 => walk_at "hp")) | ((with_reducible refine' ⟨_, _, rfl, Or.inr (sqT_of ?q1), ?_⟩); (case q1 => walk_at "hp")) | fail)
local macro_rules | `(tactic| walk_at "rd") => `(tactic| repeat' walk_at "rd1")

section
variable {P : Program} {w : World} {K : PySem.W.Frag} {mg : Str → Option Value} {base : Heap} {f : Addr} {fd : FuncData}
theorem ok__law_take (F : Fun K "_law_take" "_law_take" s__law_take f fd) (z : Z mg) : FnOk P w K mg base CX0 1 f fd ["box", "many"] spTake := by
  refine F.ok sc__law_take (fun vs H Q E h => ?_) (fun cdv A outer s H vs Q E hr h => ?_)
  · obtain ⟨b, m, d, rfl, _⟩ := h; rfl
  · obtain ⟨b, m, d, rfl, B, hd, hm, hm2, k⟩ := h
    obtain ⟨n, g, c, e, hb, hn, hc0, hc1, he0, he1⟩ := B.ex
    have L : SqL K H b [.int n, .bl g, .int c, .int e] := .inl (.inl hb)
    refine ⟨_, (pss_cons (ps_if (PW.pt (pw_and (pt_val (pe_ix ix_list (pv 0) pe_int (fun _ _ => rfl))) (pw_and1 (pt_cmpR op_gt (pe_ix ix_list (pv 0) pe_int (fun _ _ => rfl)) pe_int (nomark _)))))
        (pss_cons (ps_set (i := 2) sc__law_take.nd rfl (.inl rfl) (pe_op op_mod (pe_callTy call_intN (by rfl) z.int (by decide +kernel) (pa_cons (pe_ix ix_list (pv 0) pe_int (fun _ _ => rfl)) pa_nil)) (pv 1)))
        (pss_cons (ps_asg (pe_op op_fdivW (pe_ix ix_list (pv 0) pe_int (fun _ _ => rfl)) (pv 1)) (pg_sub (pv 0) pe_int set_list))
        (pss_one (ps_ret (pv 2)))))
        pss_nil)
      (pss_cons (ps_asg (pe_op op_add (pe_ix ix_list (pv 0) pe_int (fun _ _ => rfl)) pe_int) (pg_sub (pv 0) pe_int set_list))
      (pss_cons (ps_set (i := 3) sc__law_take.nd rfl (.inl rfl) (pe_op op_mod (pe_callTy call_intN (by rfl) z.int (by decide +kernel) (pa_cons (pe_op op_pow (pe_op op_add (pe_op op_add (pe_ix ix_list (pv 0) pe_int (fun _ _ => rfl)) (pe_op op_mul pe_int (pe_ix ix_list (pv 0) pe_int (fun _ _ => rfl)))) pe_int) pe_int) pa_nil)) pe_int))
      (pss_one (ps_ret (pe_op op_mod (pe_op op_fdiv (pe_op op_mod (pe_callTy call_intN (by rfl) z.int (by decide +kernel) (pa_cons (pe_op op_pow (pe_op op_add (pe_op op_mul (pv 3) pe_int) (pe_op op_mul pe_int (pe_ix ix_list (pv 0) pe_int (fun _ _ => rfl)))) pe_int) pa_nil)) pe_int) pe_int) (pv 1))))))), ?_⟩
    walk_at "rd"
    refine iteC (fun hg => ?_) (fun hg => ?_)
    · walk_at "rd"
      refine iteB (fun h0 => ?_) (fun h0 => ?_)
      · walk_at "rd"
        refine i_rI (wide_div hm (by omega : m.natAbs < 2 ^ 64) (by decide) (by decide)) ?_
        walk_at "rd"
        refine i_setL hb rfl ?_
        walk_at "rd"
        refine k _ _ (Int.emod_nonneg _ (by omega)) (Int.emod_lt_of_pos _ hm) ⟨n / m, g, c, e, upd_same, Int.ediv_nonneg hn (by omega), hc0, hc1, he0, by omega⟩ SB.upd
      · walk_at "rd"
        refine i_setL hb rfl ?_
        walk_at "rd"
        exact k _ _ (Int.emod_nonneg _ (by omega)) (Int.emod_lt_of_pos _ hm) ⟨n, g, c, e + 1, upd_same, hn, hc0, hc1, by omega, by omega⟩ SB.upd
    · walk_at "rd"
      refine i_setL hb rfl ?_
      walk_at "rd"
      exact k _ _ (Int.emod_nonneg _ (by omega)) (Int.emod_lt_of_pos _ hm) ⟨n, g, c, e + 1, upd_same, hn, hc0, hc1, by omega, by omega⟩ SB.upd
theorem ok__law_box (F : Fun K "_law_box" "_law_box" s__law_box f fd) (z : Z mg) : FnOk P w K mg base CX0 1 f fd ["great"] spBox := by
  refine F.ok sc__law_box (fun vs H Q E h => ?_) (fun cdv A outer s H vs Q E hr h => ?_)
  · obtain ⟨n, rfl, _⟩ := h; rfl
  · obtain ⟨n, rfl, k⟩ := h
    refine ⟨_, (pss_one (ps_ret (pe_lst (pa_cons (pe_callB call_absN (by rfl) z.abs (by decide +kernel) (pa_cons (pv 0) pa_nil)) (pa_cons (pe_cmpR op_ge (pe_callB call_absN (by rfl) z.abs (by decide +kernel) (pa_cons (pv 0) pa_nil)) (pe_op op_pow pe_int pe_int) (nomark _)) (pa_cons (pe_op op_mod (pe_callTy call_intN (by rfl) z.int (by decide +kernel) (pa_cons (pe_callB call_absN (by rfl) z.abs (by decide +kernel) (pa_cons (pv 0) pa_nil)) pa_nil)) pe_int) (pa_cons pe_int pa_nil))))))), ?_⟩
    walk_at "rd"
    have q0 := Int.emod_nonneg (if n < 0 then -n else n) (show (2147483629 : Int) ≠ 0 by decide)
    have q1 := Int.emod_lt_of_pos (if n < 0 then -n else n) (show (0 : Int) < 2147483629 by decide)
    refine ⟨Nat.le_of_ble_eq_true rfl, fun p np => ?_⟩
    refine k p _ np (same_upd np) ⟨_, _, _, _, upd_same, by split <;> omega, q0, q1, by omega, by omega⟩
theorem ok__law_cell (F : Fun K "_law_cell" "_law_cell" s__law_cell f fd) (z : Z mg) : FnOk P w K mg base CX0 1 f fd ["script", "k"] (spCell K) := by
  refine F.ok sc__law_cell (fun vs H Q E h => ?_) (fun cdv A outer s H vs Q E hr h => ?_)
  · obtain ⟨a, ns, j, rfl, _⟩ := h; rfl
  · obtain ⟨a, ns, j, rfl, L, h0, h1, k⟩ := h
    refine ⟨_, (pss_one (ps_ret (pe_ifExp (pt_cmpR op_lt (pv 1) (pe_callB call_lenQ (by rfl) z.len PySem.boot_len (pa_cons (pv 0) pa_nil)) (nomark _)) (pe_ix ix_list (pv 0) (pv 1) (fun _ _ => rfl)) (pe_op op_add (pe_op op_mul pe_int (pv 1)) (pe_op op_mod (pe_callB (cr_sum rfl) (by rfl) z.sum (by decide +kernel) (pa_cons (pe_slice sl_list (pv 0) po_none (po_some pe_int)) pa_nil)) pe_int))))), ?_⟩
    walk_at "rd"
    refine i_lenK L ?_
    walk_at "rd"
    rw [List.length_map]
    refine iteB (fun hlt => ?_) (fun hlt => ?_)
    · walk_at "rd"
      refine i_ixL L (atI_ints h0 hlt) ?_
      exact k _ _ (Same.refl _)
    · walk_at "rd"
      refine ⟨a, _, rfl, L, fun p np => ?_⟩
      walk_at "rd"
      have e : cutV (ns.map V.int) none (some 1) = (ns.take 1).map V.int := by
        unfold cutV
        rw [show HT.sIx (ns.map V.int).length (ns.map V.int).length (some 1) = min 1 (ns.map V.int).length from HT.sIx_nat _ _ 1, HT.sIx_none, List.drop_zero, Nat.sub_zero, List.map_take]
        rcases Nat.le_total 1 (ns.map V.int).length with q | q
        · rw [Nat.min_eq_left q]
        · rw [Nat.min_eq_right q, List.take_length, List.take_of_length_le q]
      rw [e]
      refine ⟨p, ns.take 1, rfl, sqL_of upd_same, ?_⟩
      walk_at "rd"
      exact k _ _ (same_upd np)
end
end Sw
namespace Sw
open PySem PySem.Spec PyProof.Rows L2
local macro_rules | `(tactic| walk_at "hp") => `(tactic| first
  | (with_reducible assumption) | (with_reducible exact upd_same)
  | ((with_reducible refine' upd_old ?q1 ?q2); (case q1 => (with_reducible assumption)); (case q2 => walk_at "hp"))
  | ((with_reducible refine' Same.at ?q1 ?q2); (case q1 => (with_reducible assumption)); (case q2 => walk_at "hp"))
  | ((with_reducible refine' upd_skip ?q1 ?q2); (case q1 => walk_at "ne"); (case q2 => walk_at "hp"))
  | fail)
local macro_rules | `(tactic| walk_at "ne") => `(tactic| first
  | (with_reducible assumption) | (with_reducible exact Ne.symm (by assumption))
  | ((with_reducible refine' ne_of_none ?q1 ?q2); (case q2 => (with_reducible assumption)); (case q1 => walk_at "hp"))
  | fail)
local macro_rules | `(tactic| walk_at "ci") => `(tactic| first | assumption | (show (0 : Int) < _; first | decide | (with_reducible omega)) | exact ⟨by decide, by decide⟩ | exact .inl ⟨by decide, by decide⟩ | exact .inr ⟨by decide, by decide⟩)
local macro_rules | `(tactic| walk_at "ln") => `(tactic| first | (with_reducible assumption) | (with_reducible omega) | (simp only [List.length_append, List.length_take, List.length_drop, List.length_reverse, List.length_cons, List.length_nil]; with_reducible omega))
local macro_rules | `(tactic| walk_at "rd1") => `(tactic| first
  | (with_reducible refine i_seq ?_) | (with_reducible refine i_asg ?_) | (with_reducible refine i_ret ?_) | (with_reducible refine i_name ?_) | ((with_reducible refine' i_var ?q1 ?_); (case q1 => exact rfl)) | (with_reducible refine i_c ?_) | (with_reducible refine i_op ?_) | (with_reducible refine i_un ?_)
  | (with_reducible refine i_rI0 ?_) | (with_reducible refine i_cb ?_) | (with_reducible refine i_cons ?_) | (with_reducible refine i_nil ?_) | (with_reducible refine i_call ?_) | (with_reducible refine i_if ?_) | (with_reducible refine i_ifE ?_) | (with_reducible refine i_test ?_) | (with_reducible refine i_bl ?_)
  | (with_reducible refine i_and ?_) | (with_reducible refine i_or ?_) | (with_reducible refine i_not ?_) | (with_reducible refine i_lst ?_) | (with_reducible refine i_tup ?_) | (with_reducible refine i_next ?_) | (with_reducible refine i_drop ?_) | (with_reducible refine i_sub ?_)
  | (with_reducible refine i_bm ?_) | (with_reducible refine i_sl ?_) | (with_reducible refine i_part ?_) | (with_reducible refine i_nopart ?_) | (with_reducible refine i_exI ?_) | (with_reducible refine i_chain ?_) | ((with_reducible refine' i_aug ?q1 ?_); (case q1 => exact rfl)) | (with_reducible refine i_ip ?_)
  | (with_reducible refine i_par ?_) | (with_reducible refine i_pair ?_) | (with_reducible refine i_andV ?_) | (with_reducible refine i_orV ?_) | (with_reducible refine i_notV ?_) | (with_reducible refine i_m1 ?_) | (with_reducible refine i_str ?_)
  | (with_reducible refine iteF ?_) | (with_reducible refine iteT ?_) | (with_reducible refine iteNT ?_) | (with_reducible refine iteNF ?_) | (with_reducible refine i_tyS ?_) | (with_reducible refine i_tB ?_) | (with_reducible refine i_retN ?_) | (with_reducible refine i_par3 ?_) | (with_reducible refine i_trip ?_) | (with_reducible refine i_gCons ?_) | (with_reducible refine i_gNil ?_) | (with_reducible refine i_lstRg ?_) | (with_reducible refine i_rg1 ?_)
  | (with_reducible refine i_lc ?_) | (with_reducible refine i_for ?_) | (with_reducible refine i_iList ?_) | (with_reducible refine i_iTup ?_) | (with_reducible refine i_iStr ?_) | (with_reducible refine i_iRng1 ?_) | (with_reducible refine i_iEnS ?_)
  | ((with_reducible refine' i_ixTH ?q1 ?q2 ?_); (case q1 => walk_at "hp"); (case q2 => exact rfl))
  | ((with_reducible refine' i_ixLH ?q1 ?q2 ?_); (case q1 => walk_at "hp"); (case q2 => exact rfl))
  | ((with_reducible refine i_addS ?q1 ?_); (case q1 => walk_at "ln")) | ((with_reducible refine i_lenSS ?q1 ?_); (case q1 => walk_at "ln")) | ((with_reducible refine i_slFrom ?q1 ?q2 ?_); (case q1 => walk_at "ln"); (case q2 => walk_at "ln")) | ((with_reducible refine i_slTo ?q1 ?q2 ?_); (case q1 => walk_at "ln"); (case q2 => walk_at "ln"))
  | ((with_reducible refine' i_tyL ?q1 ?_); (case q1 => walk_at "hp"))
  | ((with_reducible refine' i_gTupH ?q1 ?q2 ?_); (case q1 => walk_at "hp"); (case q2 => exact rfl))
  | (with_reducible refine i_dnew ?_) | (with_reducible refine i_init ?_) | (with_reducible refine i_fst ?_) | (with_reducible refine i_mk ?_) | (with_reducible refine i_raise ?_) | (with_reducible refine i_callS ?_) | (with_reducible refine i_kwS ?_)
  | (with_reducible refine i_revT ?_) | (with_reducible refine i_kw ?_) | ((with_reducible refine' ⟨_, _, rfl, sqT_of ?q1, ?_⟩); (case q1 => walk_at "hp"))
  | (with_reducible refine i_revS ?_) | ((with_reducible refine i_revSS ?q1 ?_); (case q1 => walk_at "ln"))
  | (with_reducible refine i_startS ?_) | (with_reducible refine i_inSg ?_) | (with_reducible refine i_absN ?_) | (with_reducible refine i_min2 ?_) | (with_reducible refine i_max2 ?_) | (with_reducible refine i_min3 ?_) | (with_reducible refine i_intN ?_) | (with_reducible refine i_intNB ?_)
  | ((with_reducible refine' i_lenL ?q1 ?_); (case q1 => walk_at "hp")) | ((with_reducible refine' i_lenT ?q1 ?_); (case q1 => walk_at "hp"))
  | (with_reducible refine i_eqI ?_) | (with_reducible refine i_neI ?_) | (with_reducible refine i_eqS ?_) | (with_reducible refine i_neS ?_) | (with_reducible refine i_isNoI ?_) | (with_reducible refine i_isNoN ?_) | (with_reducible refine i_isNoR ?_)
  | ((with_reducible refine i_pow ?q1 ?q2 ?q3 ?_); (case q1 => decide); (case q2 => decide); (case q3 => (with_reducible omega)))
  | ((with_reducible refine i_rI ?q1 ?_); (case q1 => walk_at "ci"))
  | (with_reducible refine Or.inl ⟨_, rfl, ?_⟩) | (with_reducible refine Or.inr ⟨_, rfl, ?_⟩) | (with_reducible refine ⟨_, rfl, ?_⟩) | (with_reducible refine ⟨_, _, rfl, ?_⟩) | (with_reducible refine ⟨_, _, rfl, rfl, ?_⟩)
  | ((with_reducible refine' ⟨_, _, rfl, Or.inl (sqL_of ?q1), ?_⟩); (case q1 => walk_at "hp")) | ((with_reducible refine' ⟨_, _, rfl, Or.inr (sqT_of ?q1), ?_⟩); (case q1 => walk_at "hp")) | fail)
local macro_rules | `(tactic| walk_at "rd") => `(tactic| repeat' walk_at "rd1")

/-- is_integer(value) -/
def spInt (K : PySem.W.Frag) : Sp := fun vs H Q _ => ∃ x d, vs = [x] ∧ De K H x d ∧ Q (.bl (isI d)) H
/-- is_index(value, many) -/
def spIdx (K : PySem.W.Frag) : Sp := fun vs H Q _ => ∃ x d m, vs = [x, .int m] ∧ De K H x d ∧ Q (.bl (isX m d)) H
/-- is_signs(value) -/
def spSg (K : PySem.W.Frag) : Sp := fun vs H Q _ => ∃ x d, vs = [x] ∧ De K H x d ∧ Q (.bl (isG d)) H
/-- is_kind(value, signs) -/
def spKind (K : PySem.W.Frag) : Sp := fun vs H Q _ => ∃ x y d e n w, vs = [x, y] ∧ De K H x d ∧ Sd n w d ∧ n ≤ 50 ∧ StOk d ∧ De K H y e ∧ ∀ H', Same H H' → Q (.bl (onG e fun m => kindB m d)) H'
theorem kindB_no {m : Int} {ds : List PyData} (h : ds.length = 2 ∨ ds.length = 3) (e : (ds.drop 1).all (isX m) = false) : kindB m (.tuple ds) = false := by
  rcases ds with _ | ⟨x1, _ | ⟨x2, _ | ⟨x3, _ | ⟨x4, ys⟩⟩⟩⟩
  · rfl
  · rfl
  · simp only [List.drop_succ_cons, List.drop_zero, List.all_cons, List.all_nil, Bool.and_true] at e
    simp only [kindB, e, Bool.false_and]
  · simp only [List.drop_succ_cons, List.drop_zero, List.all_cons, List.all_nil, Bool.and_true] at e
    simp only [kindB, e, Bool.false_and]
  · rfl
theorem eqv_int (i j : Int) : PyData.eqv (.int i) (.int j) = decide (i = j) := by
  simp only [PyData.eqv]
  by_cases h : i = j
  · rw [h, decide_eq_true rfl]; exact beq_self_eq_true _
  · rw [decide_eq_false h]; exact beq_eq_false_iff_ne.mpr h
theorem tyB_int (d : PyData) : (tyB "int" d && !tyB "bool" d) = isI d := by cases d <;> rfl
theorem De.intB {K : PySem.W.Frag} {H : Hp} {x : V} {d : PyData} (h : De K H x d) (h2 : isI d = true) : ∃ i, d = .int i ∧ x = .int i := by
  cases h with
  | int i => exact ⟨i, rfl, rfl⟩
  | _ => cases h2
section
variable {P : Program} {w : World} {K : PySem.W.Frag} {mg : Str → Option Value} {base : Heap} {f : Addr} {fd : FuncData}
theorem ok_integer (F : Fun K "is_integer" "is_integer" s_is_integer f fd) (z : Z mg) : FnOk P w K mg base CX0 1 f fd ["value"] (spInt K) := by
  refine F.ok sc_is_integer (fun vs H Q E h => ?_) (fun cdv A outer s H vs Q E hr h => ?_)
  · obtain ⟨x, d, rfl, _⟩ := h; rfl
  · obtain ⟨x, d, rfl, hx, k⟩ := h
    refine ⟨_, (pss_one (ps_ret (pe_and (pe_callB call_isi (by rfl) z.isinstance (by decide +kernel) (pa_cons (pv 0) (pa_cons (pe_bltn (v := .ty "int") (by rfl) z.int (by decide +kernel) rfl) pa_nil))) (pe_one (pe_not (pe_callB call_isi (by rfl) z.isinstance (by decide +kernel) (pa_cons (pv 0) (pa_cons (pe_bltn (v := .ty "bool") (by rfl) z.bool (by decide +kernel) rfl) pa_nil)))))))), ?_⟩
    walk_at "rd"
    refine hx.isi (by simp) ?_
    walk_at "rd"
    rcases e : tyB "int" d with _ | _
    · rw [← tyB_int, e] at k
      walk_at "rd"
      exact k
    · rw [← tyB_int, e] at k
      walk_at "rd"
      refine hx.isi (by simp) ?_
      walk_at "rd"
      exact k
theorem ok_index (F : Fun K "is_index" "is_index" s_is_index f fd) (c_is_integer : Cal P w K mg base "is_integer" ["value"] 1 (spInt K)) : FnOk P w K mg base CX0 2 f fd ["value", "many"] (spIdx K) := by
  refine F.ok sc_is_index (fun vs H Q E h => ?_) (fun cdv A outer s H vs Q E hr h => ?_)
  · obtain ⟨x, d, m, rfl, _⟩ := h; rfl
  · obtain ⟨x, d, m, rfl, hx, k⟩ := h
    refine ⟨_, (pss_one (ps_ret (pe_and (pe_cal c_is_integer hr (pa_cons (pv 0) pa_nil)) (pe_one (pe_chain op_le op_lt pe_int (pv 0) (pv 1)))))), ?_⟩
    walk_at "rd"
    refine ⟨x, d, rfl, hx, ?_⟩
    walk_at "rd"
    rcases e : isI d with _ | _
    · have : isX m d = false := by cases d <;> first | rfl | cases e
      rw [this] at k
      walk_at "rd"
      exact k
    · obtain ⟨i, rfl, rfl⟩ := hx.intB e
      walk_at "rd"
      simp only [isX] at k
      refine iteB (fun q => ?_) (fun q => ?_)
      · rw [decide_eq_true q] at k
        walk_at "rd"
        exact k
      · rw [decide_eq_false q] at k
        exact k
theorem ok_signs (F : Fun K "is_signs" "is_signs" s_is_signs f fd) (c_is_integer : Cal P w K mg base "is_integer" ["value"] 1 (spInt K)) {t5 : Tok} (g_MOST_SIGNS : mg "MOST_SIGNS" = some (.int 5 t5)) : FnOk P w K mg base CX0 2 f fd ["value"] (spSg K) := by
  refine F.ok sc_is_signs (fun vs H Q E h => ?_) (fun cdv A outer s H vs Q E hr h => ?_)
  · obtain ⟨x, d, rfl, _⟩ := h; rfl
  · obtain ⟨x, d, rfl, hx, k⟩ := h
    refine ⟨_, (pss_one (ps_ret (pe_and (pe_cal c_is_integer hr (pa_cons (pv 0) pa_nil)) (pe_one (pe_chain op_le op_le pe_int (pv 0) (pe_glob (v := .int 5) rfl g_MOST_SIGNS ⟨_, rfl⟩)))))), ?_⟩
    walk_at "rd"
    refine ⟨x, d, rfl, hx, ?_⟩
    walk_at "rd"
    rcases e : isI d with _ | _
    · have : isG d = false := by cases d <;> first | rfl | cases e
      rw [this] at k
      walk_at "rd"
      exact k
    · obtain ⟨i, rfl, rfl⟩ := hx.intB e
      walk_at "rd"
      simp only [isG] at k
      refine iteB (fun q => ?_) (fun q => ?_)
      · rw [decide_eq_true q] at k
        walk_at "rd"
        exact k
      · rw [decide_eq_false q] at k
        exact k
theorem ok_sign (F : Fun K "is_sign" "is_sign" s_is_sign f fd) (c_is_index : Cal P w K mg base "is_index" ["value", "many"] 2 (spIdx K)) : FnOk P w K mg base CX0 3 f fd ["value", "signs"] (spIdx K) := by
  refine F.ok sc_is_sign (fun vs H Q E h => ?_) (fun cdv A outer s H vs Q E hr h => ?_)
  · obtain ⟨x, d, m, rfl, _⟩ := h; rfl
  · obtain ⟨x, d, m, rfl, hx, k⟩ := h
    refine ⟨_, (pss_one (ps_ret (pe_cal c_is_index hr (pa_cons (pv 0) (pa_cons (pv 1) pa_nil))))), ?_⟩
    walk_at "rd"
    exact ⟨x, d, m, rfl, hx, k⟩
theorem ok_kind (F : Fun K "is_kind" "is_kind" s_is_kind f fd) (z : Z mg) (c_is_signs : Cal P w K mg base "is_signs" ["value"] 2 (spSg K)) (c_is_sign : Cal P w K mg base "is_sign" ["value", "signs"] 3 (spIdx K)) : FnOk P w K mg base CX0 4 f fd ["value", "signs"] (spKind K) := by
  refine F.ok sc_is_kind (fun vs H Q E h => ?_) (fun cdv A outer s H vs Q E hr h => ?_)
  · obtain ⟨x, y, d, e, _, _, rfl, _⟩ := h; rfl
  · obtain ⟨x, y, d, e, n, w, rfl, hx, sx, hn, ok, hy, k⟩ := h
    refine ⟨_, (pss_cons (ps_if (PW.pt (pw_or (pt_not (pt_val (pe_cal c_is_signs hr (pa_cons (pv 1) pa_nil)))) (pw_or (pt_not (pt_val (pe_callB call_isi (by rfl) z.isinstance (by decide +kernel) (pa_cons (pv 0) (pa_cons (pe_bltn (v := .ty "tuple") (by rfl) z.tuple (by decide +kernel) rfl) pa_nil))))) (pw_or1 (pt_cmpR op_notIn_seq (pe_callB call_lenQ (by rfl) z.len PySem.boot_len (pa_cons (pv 0) pa_nil)) (pe_tup (pa_cons pe_int (pa_cons pe_int pa_nil))) (by rfl))))))
        (pss_one (ps_ret pe_bl))
        pss_nil)
      (pss_cons (ps_if (pt_not (pt_val (pe_callB (cr_all rfl) (by rfl) z.all (by decide +kernel) (pa_cons (pe_lc (own := [("part", 2)]) (g := gName 2) (tt := tYes) rfl sc_is_kind.nd (pi_tup (pe_slice sl_tupA (pv 0) (po_some pe_int) po_none)) (blkOk_by (own := [("part", 2)]) (N := n_is_kind) (sc := defScope s_is_kind) (by decide +kernel)) (fun _ _ _ _ _ => (pg_name (i := 2) sc_is_kind.nd rfl (.inl rfl))) (fun _ _ _ _ _ => pts_nil) (fun _ _ _ _ _ => (pe_cal c_is_sign hr (pa_cons (pv 2) (pa_cons (pv 1) pa_nil))))) pa_nil))))
        (pss_one (ps_ret pe_bl))
        pss_nil)
      (pss_cons (ps_if (pt_cmpR op_eq (pe_callB call_lenQ (by rfl) z.len PySem.boot_len (pa_cons (pv 0) pa_nil)) pe_int (nomark _))
        (pss_one (ps_ret (pe_cmpR (op_inT hr.units) (pe_ix ix_tup (pv 0) pe_int (fun _ _ => rfl)) (pe_tup (pa_cons (pe_strS (l := [108, 111, 115, 116]) (by decide +kernel)) (pa_cons (pe_strS (l := [112, 117, 116]) (by decide +kernel)) pa_nil))) (by rfl))))
        pss_nil)
      (pss_one (ps_ret (pe_and (pe_cmpR (op_eqX hr.units) (pe_ix ix_tup (pv 0) pe_int (fun _ _ => rfl)) (pe_strS (l := [116, 117, 114, 110, 101, 100]) (by decide +kernel)) (nomark _)) (pe_one (pe_cmpR op_ne (pe_ix ix_tup (pv 0) pe_int (fun _ _ => rfl)) (pe_ix ix_tup (pv 0) pe_int (fun _ _ => rfl)) (nomark _))))))))), ?_⟩
    walk_at "rd"
    refine ⟨y, e, rfl, hy, ?_⟩
    walk_at "rd"
    rw [isG_sgn]
    rcases es : sgn e with _ | m
    · have k' : ∀ H', Same H H' → Q (.bl false) H' := fun H' s' => by
        have := k H' s'
        unfold onG at this
        rw [es] at this
        exact this
      walk_at "rd"
      exact k' _ (Same.refl _)
    obtain ⟨rfl, m1, m5⟩ := sgn_some es
    have k' : ∀ H', Same H H' → Q (.bl (kindB m d)) H' := fun H' s' => by
      have := k H' s'
      unfold onG at this
      rw [es] at this
      exact this
    cases hy.intI
    walk_at "rd"
    rw [show (some m).isSome = true from rfl]
    walk_at "rd"
    refine hx.isi (n := "tuple") (.inr (.inr (.inr (.inr rfl)))) ?_
    by_cases ht : ∃ ds, d = .tuple ds
    · obtain ⟨ds, rfl⟩ := ht
      obtain ⟨a, xs, rfl, ha, hxs⟩ := hx.tupI
      rw [show tyB "tuple" (.tuple ds) = true from rfl]
      have lx := hxs.len
      walk_at "rd"
      refine ⟨a, xs, rfl, .inr ha, ?_⟩
      walk_at "rd"
      refine ⟨Nat.le_of_ble_eq_true rfl, fun p np => ?_⟩
      have t1 := same_upd (o := .tup [.int 2, .int 3]) np
      have e1 := upd_same (H := H) (a := p) (o := .tup [.int 2, .int 3])
      generalize upd H p (.tup [.int 2, .int 3]) = H1 at *
      refine ⟨p, _, rfl, .inr (sqT_of e1), rfl, rfl, ?_⟩
      walk_at "rd"
      rw [if_pos rfl, inV_two]
      by_cases len : ds.length = 2 ∨ ds.length = 3
      case neg =>
        have e2 : kindB m (.tuple ds) = false := by
          rcases ds with _ | ⟨x1, _ | ⟨x2, _ | ⟨x3, _ | ⟨x4, ys⟩⟩⟩⟩
          · rfl
          · rfl
          · exact (len (.inl rfl)).elim
          · exact (len (.inr rfl)).elim
          · rfl
        rw [e2] at k'
        rw [decide_eq_false (by omega), decide_eq_false (by omega)]
        walk_at "rd"
        exact k' _ t1
      case pos =>
        have ba : (decide ((xs.length : Int) = 2) || decide ((xs.length : Int) = 3)) = true := by
          rcases len with len | len
          · rw [decide_eq_true (by omega)]; rfl
          · rw [decide_eq_true (show (xs.length : Int) = 3 by omega), Bool.or_true]
        rw [ba]
        walk_at "rd"
        refine i_slTF (k := 1) (Same.sqT t1 ha) fun p2 H2 s2 e2 => ?_
        have t2 := t1.trans s2
        have hx2 := (hxs.drop 1).same t2
        walk_at "rd"
        refine ⟨⟨_, e2⟩, ?_⟩
        refine go_map (walk_tup (xs := xs.drop 1)) (fun i => V.bl (isX m ((ds.drop 1).getD i .none))) (by rw [List.length_drop]; omega) (fun H s => Same.sqT s e2) (fun j v H6 H7 hj s6 y R2 hR2 => ?_) mono_name (fun pj H6 npj s6 ej => ?_)
        · obtain ⟨rfl, hv⟩ := y
          have dv := (hx2.getD hv).same s6
          walk_at "rd"
          refine ⟨rfl, ?_⟩
          walk_at "rd"
          exact ⟨v, _, m, rfl, dv, hR2 _ (Same.refl _)⟩
        · rw [show (xs.drop 1).length = (ds.drop 1).length by rw [List.length_drop, List.length_drop, lx], map_getD (ds.drop 1) (fun d => V.bl (isX m d)), show (ds.drop 1).map (fun d => V.bl (isX m d)) = ((ds.drop 1).map (isX m)).map V.bl by rw [List.map_map]; rfl] at ej
          walk_at "rd"
          refine i_all ej ?_
          have t6 := t2.trans s6
          have ha6 := Same.sqT t6 ha
          have hx6 := hxs.same t6
          rw [List.all_map, show (id ∘ isX m) = isX m from rfl]
          refine ⟨_, rfl, iteNC (fun e => ?_) (fun e => ?_)⟩
          · rw [kindB_no len e] at k'
            walk_at "rd"
            exact k' _ t6
          walk_at "rd"
          refine i_lenSqT ha6 ?_
          walk_at "rd"
          refine iteB (fun l2 => ?_) (fun l2 => ?_)
          · have l2' : ds.length = 2 := by omega
            obtain ⟨d0, d1, rfl⟩ : ∃ d0 d1, ds = [d0, d1] := by
              rcases ds with _ | ⟨x1, _ | ⟨x2, _ | ⟨x3, ys⟩⟩⟩
              · cases l2'
              · cases l2'
              · exact ⟨_, _, rfl⟩
              · simp at l2'
            simp only [List.drop_succ_cons, List.drop_zero, List.all_cons, List.all_nil, Bool.and_true] at e
            simp only [kindB, e, Bool.true_and] at k'
            cases hx6 with
            | cons h0 h1 =>
              rename_i v0 vs
              walk_at "rd"
              refine i_ixTn (k := 0) ha6 rfl ?_
              walk_at "rd"
              refine ⟨Nat.le_of_ble_eq_true rfl, fun p7 n7 => ?_⟩
              have t7 := same_upd (o := .tup [.str (S tLost), .str (S tPut)]) n7
              have st0 := sx.tupI'.get List.mem_cons_self
              refine i_inT [tLost, tPut] (h0.same t7) st0 (ok.two _ _ rfl (by cases d1 <;> first | rfl | cases e)) (by decide) upd_same ?_
              rw [show ([tLost, tPut].any fun l => isS l d0) = (isS tLost d0 || isS tPut d0) by simp only [List.any_cons, List.any_nil, Bool.or_false]]
              exact k' _ (t6.trans t7)
          · have l3' : ds.length = 3 := by omega
            obtain ⟨d0, d1, d2, rfl⟩ : ∃ d0 d1 d2, ds = [d0, d1, d2] := by
              rcases ds with _ | ⟨x1, _ | ⟨x2, _ | ⟨x3, _ | ⟨x4, ys⟩⟩⟩⟩
              · cases l3'
              · cases l3'
              · cases l3'
              · exact ⟨_, _, _, rfl⟩
              · simp at l3'
            simp only [List.drop_succ_cons, List.drop_zero, List.all_cons, List.all_nil, Bool.and_true] at e
            simp only [kindB, e, Bool.true_and] at k'
            cases hx6 with
            | cons h0 h1 =>
              cases h1 with
              | cons h1 h2 =>
                cases h2 with
                | cons h2 h3 =>
                  cases h3
                  rw [Bool.and_eq_true] at e
                  obtain ⟨i1, rfl, rfl⟩ := h1.intB (by cases d1 <;> first | rfl | cases e.1)
                  obtain ⟨i2, rfl, rfl⟩ := h2.intB (by cases d2 <;> first | rfl | cases e.2)
                  walk_at "rd"
                  refine i_ixTn (k := 0) ha6 rfl ?_
                  walk_at "rd"
                  have st0 := sx.tupI'.get List.mem_cons_self
                  refine i_eqS1 h0 st0 (ok.parts _ rfl _ List.mem_cons_self) (by decide) ?_
                  refine ⟨_, rfl, iteC (fun e0 => ?_) (fun e0 => ?_)⟩
                  · rw [e0, eqv_int] at k'
                    walk_at "rd"
                    refine i_ixTn (k := 1) ha6 rfl ?_
                    walk_at "rd"
                    refine i_ixTn (k := 2) ha6 rfl ?_
                    walk_at "rd"
                    exact k' _ t6
                  · rw [e0] at k'
                    exact k' _ t6
    · have e : tyB "tuple" d = false := by cases d <;> first | rfl | exact (ht ⟨_, rfl⟩).elim
      have e2 : kindB m d = false := by cases d <;> first | rfl | exact (ht ⟨_, rfl⟩).elim
      rw [e]
      rw [e2] at k'
      walk_at "rd"
      exact k' _ (Same.refl _)
end
end Sw
namespace Sw
open PySem PySem.Spec PyProof.Rows L2
local macro_rules | `(tactic| walk_at "hp") => `(tactic| first
  | (with_reducible assumption) | (with_reducible exact upd_same)
  | ((with_reducible refine' upd_old ?q1 ?q2); (case q1 => (with_reducible assumption)); (case q2 => walk_at "hp"))
  | ((with_reducible refine' Same.at ?q1 ?q2); (case q1 => (with_reducible assumption)); (case q2 => walk_at "hp"))
  | ((with_reducible refine' upd_skip ?q1 ?q2); (case q1 => walk_at "ne"); (case q2 => walk_at "hp"))
  | fail)
local macro_rules | `(tactic| walk_at "ne") => `(tactic| first
  | (with_reducible assumption) | (with_reducible exact Ne.symm (by assumption))
  | ((with_reducible refine' ne_of_none ?q1 ?q2); (case q2 => (with_reducible assumption)); (case q1 => walk_at "hp"))
  | fail)
local macro_rules | `(tactic| walk_at "ci") => `(tactic| first | assumption | (show (0 : Int) < _; first | decide | (with_reducible omega)) | exact ⟨by decide, by decide⟩ | exact .inl ⟨by decide, by decide⟩ | exact .inr ⟨by decide, by decide⟩)
local macro_rules | `(tactic| walk_at "ln") => `(tactic| first | (with_reducible assumption) | (with_reducible omega) | (simp only [List.length_append, List.length_take, List.length_drop, List.length_reverse, List.length_cons, List.length_nil]; with_reducible omega))
local macro_rules | `(tactic| walk_at "rd1") => `(tactic| first
  | (with_reducible refine i_seq ?_) | (with_reducible refine i_asg ?_) | (with_reducible refine i_ret ?_) | (with_reducible refine i_name ?_) | ((with_reducible refine' i_var ?q1 ?_); (case q1 => exact rfl)) | (with_reducible refine i_c ?_) | (with_reducible refine i_op ?_) | (with_reducible refine i_un ?_)
  | (with_reducible refine i_rI0 ?_) | (with_reducible refine i_cb ?_) | (with_reducible refine i_cons ?_) | (with_reducible refine i_nil ?_) | (with_reducible refine i_call ?_) | (with_reducible refine i_if ?_) | (with_reducible refine i_ifE ?_) | (with_reducible refine i_test ?_) | (with_reducible refine i_bl ?_)
  | (with_reducible refine i_and ?_) | (with_reducible refine i_or ?_) | (with_reducible refine i_not ?_) | (with_reducible refine i_lst ?_) | (with_reducible refine i_tup ?_) | (with_reducible refine i_next ?_) | (with_reducible refine i_drop ?_) | (with_reducible refine i_sub ?_)
  | (with_reducible refine i_bm ?_) | (with_reducible refine i_sl ?_) | (with_reducible refine i_part ?_) | (with_reducible refine i_nopart ?_) | (with_reducible refine i_exI ?_) | (with_reducible refine i_chain ?_) | ((with_reducible refine' i_aug ?q1 ?_); (case q1 => exact rfl)) | (with_reducible refine i_ip ?_)
  | (with_reducible refine i_par ?_) | (with_reducible refine i_pair ?_) | (with_reducible refine i_andV ?_) | (with_reducible refine i_orV ?_) | (with_reducible refine i_notV ?_) | (with_reducible refine i_m1 ?_) | (with_reducible refine i_str ?_)
  | (with_reducible refine iteF ?_) | (with_reducible refine iteT ?_) | (with_reducible refine iteNT ?_) | (with_reducible refine iteNF ?_) | (with_reducible refine i_tyS ?_) | (with_reducible refine i_tB ?_) | (with_reducible refine i_retN ?_) | (with_reducible refine i_par3 ?_) | (with_reducible refine i_trip ?_) | (with_reducible refine i_gCons ?_) | (with_reducible refine i_gNil ?_) | (with_reducible refine i_lstRg ?_) | (with_reducible refine i_rg1 ?_)
  | (with_reducible refine i_lc ?_) | (with_reducible refine i_for ?_) | (with_reducible refine i_iList ?_) | (with_reducible refine i_iTup ?_) | (with_reducible refine i_iStr ?_) | (with_reducible refine i_iRng1 ?_) | (with_reducible refine i_iEnS ?_)
  | ((with_reducible refine' i_ixTH ?q1 ?q2 ?_); (case q1 => walk_at "hp"); (case q2 => exact rfl))
  | ((with_reducible refine' i_ixLH ?q1 ?q2 ?_); (case q1 => walk_at "hp"); (case q2 => exact rfl))
  | ((with_reducible refine i_addS ?q1 ?_); (case q1 => walk_at "ln")) | ((with_reducible refine i_lenSS ?q1 ?_); (case q1 => walk_at "ln")) | ((with_reducible refine i_slFrom ?q1 ?q2 ?_); (case q1 => walk_at "ln"); (case q2 => walk_at "ln")) | ((with_reducible refine i_slTo ?q1 ?q2 ?_); (case q1 => walk_at "ln"); (case q2 => walk_at "ln"))
  | ((with_reducible refine' i_tyL ?q1 ?_); (case q1 => walk_at "hp"))
  | ((with_reducible refine' i_gTupH ?q1 ?q2 ?_); (case q1 => walk_at "hp"); (case q2 => exact rfl))
  | (with_reducible refine i_dnew ?_) | (with_reducible refine i_init ?_) | (with_reducible refine i_fst ?_) | (with_reducible refine i_mk ?_) | (with_reducible refine i_raise ?_) | (with_reducible refine i_callS ?_) | (with_reducible refine i_kwS ?_)
  | (with_reducible refine i_revT ?_) | (with_reducible refine i_kw ?_) | ((with_reducible refine' ⟨_, _, rfl, sqT_of ?q1, ?_⟩); (case q1 => walk_at "hp"))
  | (with_reducible refine i_revS ?_) | ((with_reducible refine i_revSS ?q1 ?_); (case q1 => walk_at "ln"))
  | (with_reducible refine i_startS ?_) | (with_reducible refine i_inSg ?_) | (with_reducible refine i_absN ?_) | (with_reducible refine i_min2 ?_) | (with_reducible refine i_max2 ?_) | (with_reducible refine i_min3 ?_) | (with_reducible refine i_intN ?_) | (with_reducible refine i_intNB ?_)
  | ((with_reducible refine' i_lenL ?q1 ?_); (case q1 => walk_at "hp")) | ((with_reducible refine' i_lenT ?q1 ?_); (case q1 => walk_at "hp"))
  | (with_reducible refine i_eqI ?_) | (with_reducible refine i_neI ?_) | (with_reducible refine i_eqS ?_) | (with_reducible refine i_neS ?_) | (with_reducible refine i_isNoI ?_) | (with_reducible refine i_isNoN ?_) | (with_reducible refine i_isNoR ?_)
  | ((with_reducible refine i_pow ?q1 ?q2 ?q3 ?_); (case q1 => decide); (case q2 => decide); (case q3 => (with_reducible omega)))
  | ((with_reducible refine i_rI ?q1 ?_); (case q1 => walk_at "ci"))
  | (with_reducible refine Or.inl ⟨_, rfl, ?_⟩) | (with_reducible refine Or.inr ⟨_, rfl, ?_⟩) | (with_reducible refine ⟨_, rfl, ?_⟩) | (with_reducible refine ⟨_, _, rfl, ?_⟩) | (with_reducible refine ⟨_, _, rfl, rfl, ?_⟩)
  | ((with_reducible refine' ⟨_, _, rfl, Or.inl (sqL_of ?q1), ?_⟩); (case q1 => walk_at "hp")) | ((with_reducible refine' ⟨_, _, rfl, Or.inr (sqT_of ?q1), ?_⟩); (case q1 => walk_at "hp")) | fail)
local macro_rules | `(tactic| walk_at "rd") => `(tactic| repeat' walk_at "rd1")

theorem pass_len {n : Nat} : ∀ {w : Nat} {ds : List PyData}, SdAll n w ds → ds.length ≤ w
  | _, [], _ => Nat.zero_le _
  | _, d :: ds, h => by
    obtain ⟨a, b, hab, h1, h2⟩ := h.inv
    have := pass_len h2
    rw [List.length_cons]
    omega
/-- is_same(value, signs), the number of signs a good one -/
def spSame (K : PySem.W.Frag) : Sp := fun vs H Q _ => ∃ x d m n w, vs = [x, .int m] ∧ De K H x d ∧ Sd n w d ∧ n ≤ 50 ∧ StOk d ∧ Q (.bl (sameB m d)) H
/-- is_passing(value, signs) -/
def spPass (K : PySem.W.Frag) : Sp := fun vs H Q _ => ∃ x y d e n w, vs = [x, y] ∧ De K H x d ∧ Sd n w d ∧ n ≤ 50 ∧ w ≤ 900000 ∧ PsOk d ∧ De K H y e ∧ ∀ H', Same H H' → Q (.bl (onG e fun m => passB m d)) H'
section
variable {P : Program} {w : World} {K : PySem.W.Frag} {mg : Str → Option Value} {base : Heap} {f : Addr} {fd : FuncData}
theorem ok_same (F : Fun K "is_same" "is_same" s_is_same f fd) (z : Z mg) (c_is_sign : Cal P w K mg base "is_sign" ["value", "signs"] 3 (spIdx K)) : FnOk P w K mg base CX0 4 f fd ["value", "signs"] (spSame K) := by
  refine F.ok sc_is_same (fun vs H Q E h => ?_) (fun cdv A outer s H vs Q E hr h => ?_)
  · obtain ⟨x, d, m, _, _, rfl, _⟩ := h; rfl
  · obtain ⟨x, d, m, n, w, rfl, hx, sx, hn, ok, k⟩ := h
    refine ⟨_, (pss_one (ps_ret (pe_and (pe_callB call_isi (by rfl) z.isinstance (by decide +kernel) (pa_cons (pv 0) (pa_cons (pe_bltn (v := .ty "tuple") (by rfl) z.tuple (by decide +kernel) rfl) pa_nil))) (pe_and (pe_cmpR op_eq (pe_callB call_lenQ (by rfl) z.len PySem.boot_len (pa_cons (pv 0) pa_nil)) pe_int (nomark _)) (pe_and (pe_cmpR (op_eqX hr.units) (pe_ix ix_tup (pv 0) pe_int (fun _ _ => rfl)) (pe_strS (l := [115, 97, 109, 101]) (by decide +kernel)) (nomark _)) (pe_one (pe_cal c_is_sign hr (pa_cons (pe_ix ix_tup (pv 0) pe_int (fun _ _ => rfl)) (pa_cons (pv 1) pa_nil))))))))), ?_⟩
    walk_at "rd"
    refine hx.isi (n := "tuple") (.inr (.inr (.inr (.inr rfl)))) ?_
    by_cases ht : ∃ ds, d = .tuple ds
    case neg =>
      have e : tyB "tuple" d = false := by cases d <;> first | rfl | exact (ht ⟨_, rfl⟩).elim
      have e2 : sameB m d = false := by cases d <;> first | rfl | exact (ht ⟨_, rfl⟩).elim
      rw [e]
      rw [e2] at k
      walk_at "rd"
      exact k
    obtain ⟨ds, rfl⟩ := ht
    obtain ⟨a, xs, rfl, ha, hxs⟩ := hx.tupI
    rw [show tyB "tuple" (.tuple ds) = true from rfl]
    have lx := hxs.len
    walk_at "rd"
    refine i_lenSqT ha ?_
    walk_at "rd"
    refine iteB (fun l2 => ?_) (fun l2 => ?_)
    rotate_left
    · have e2 : sameB m (.tuple ds) = false := by
        rcases ds with _ | ⟨x1, _ | ⟨x2, _ | ⟨x3, ys⟩⟩⟩
        · rfl
        · rfl
        · exact (l2 (by rw [lx]; rfl)).elim
        · rfl
      rw [e2] at k
      exact k
    have l2' : ds.length = 2 := by omega
    obtain ⟨d0, d1, rfl⟩ : ∃ d0 d1, ds = [d0, d1] := by
      rcases ds with _ | ⟨x1, _ | ⟨x2, _ | ⟨x3, ys⟩⟩⟩
      · cases l2'
      · cases l2'
      · exact ⟨_, _, rfl⟩
      · simp at l2'
    cases hxs with
    | cons h0 h1 =>
      cases h1 with
      | cons h1 h2 =>
        cases h2
        walk_at "rd"
        refine i_ixTn (k := 0) ha rfl ?_
        walk_at "rd"
        have st0 := sx.tupI'.get List.mem_cons_self
        refine i_eqS1 h0 st0 (ok.parts _ rfl _ List.mem_cons_self) (by decide) ?_
        simp only [sameB] at k
        refine ⟨_, rfl, iteC (fun e0 => ?_) (fun e0 => ?_)⟩
        · rw [e0, Bool.true_and] at k
          walk_at "rd"
          refine i_ixTn (k := 1) ha rfl ?_
          walk_at "rd"
          exact ⟨_, d1, m, rfl, h1, k⟩
        · rw [e0] at k
          exact k
theorem ok_passing (F : Fun K "is_passing" "is_passing" s_is_passing f fd) (z : Z mg) (c_is_signs : Cal P w K mg base "is_signs" ["value"] 2 (spSg K)) (c_is_same : Cal P w K mg base "is_same" ["value", "signs"] 4 (spSame K)) (c_is_kind : Cal P w K mg base "is_kind" ["value", "signs"] 4 (spKind K)) : FnOk P w K mg base CX0 5 f fd ["value", "signs"] (spPass K) := by
  refine F.ok sc_is_passing (fun vs H Q E h => ?_) (fun cdv A outer s H vs Q E hr h => ?_)
  · obtain ⟨x, y, d, e, _, _, rfl, _⟩ := h; rfl
  · obtain ⟨x, y, d, e, n, w, rfl, hx, sx, hn, hw, ok, hy, k⟩ := h
    refine ⟨_, (pss_cons (ps_if (PW.pt (pw_or (pt_not (pt_val (pe_cal c_is_signs hr (pa_cons (pv 1) pa_nil)))) (pw_or1 (pt_not (pt_val (pe_callB call_isi (by rfl) z.isinstance (by decide +kernel) (pa_cons (pv 0) (pa_cons (pe_bltn (v := .ty "tuple") (by rfl) z.tuple (by decide +kernel) rfl) pa_nil))))))))
        (pss_one (ps_ret pe_bl))
        pss_nil)
      (pss_one (ps_ret (pe_callB (cr_all rfl) (by rfl) z.all (by decide +kernel) (pa_cons (pe_lc (own := [("step", 2)]) (g := gName 2) (tt := tYes) rfl sc_is_passing.nd (pi_tup (pv 0)) (blkOk_by (own := [("step", 2)]) (N := n_is_passing) (sc := defScope s_is_passing) (by decide +kernel)) (fun _ _ _ _ _ => (pg_name (i := 2) sc_is_passing.nd rfl (.inl rfl))) (fun _ _ _ _ _ => pts_nil) (fun _ _ _ _ _ => (pe_or (pe_cal c_is_same hr (pa_cons (pv 2) (pa_cons (pv 1) pa_nil))) (pe_one (pe_cal c_is_kind hr (pa_cons (pv 2) (pa_cons (pv 1) pa_nil))))))) pa_nil))))), ?_⟩
    walk_at "rd"
    refine ⟨y, e, rfl, hy, ?_⟩
    walk_at "rd"
    rw [isG_sgn]
    rcases es : sgn e with _ | m
    · have k' : ∀ H', Same H H' → Q (.bl false) H' := fun H' s' => by
        have := k H' s'
        unfold onG at this
        rw [es] at this
        exact this
      walk_at "rd"
      exact k' _ (Same.refl _)
    obtain ⟨rfl, m1, m5⟩ := sgn_some es
    have k' : ∀ H', Same H H' → Q (.bl (passB m d)) H' := fun H' s' => by
      have := k H' s'
      unfold onG at this
      rw [es] at this
      exact this
    cases hy.intI
    rw [show (some m).isSome = true from rfl]
    walk_at "rd"
    refine hx.isi (n := "tuple") (.inr (.inr (.inr (.inr rfl)))) ?_
    by_cases ht : ∃ ds, d = .tuple ds
    case neg =>
      have e : tyB "tuple" d = false := by cases d <;> first | rfl | exact (ht ⟨_, rfl⟩).elim
      have e2 : passB m d = false := by cases d <;> first | rfl | exact (ht ⟨_, rfl⟩).elim
      rw [e]
      rw [e2] at k'
      walk_at "rd"
      exact k' _ (Same.refl _)
    obtain ⟨ds, rfl⟩ := ht
    obtain ⟨a, xs, rfl, ha, hxs⟩ := hx.tupI
    rw [show tyB "tuple" (.tuple ds) = true from rfl]
    have lx := hxs.len
    walk_at "rd"
    refine ⟨⟨_, ha⟩, ?_⟩
    refine go_map (walk_tup (xs := xs)) (fun i => V.bl ((fun s => sameB m s || kindB m s) (ds.getD i .none))) ?_ (fun H s => Same.sqT s ha) (fun j v H6 H7 hj s6 y R2 hR2 => ?_) mono_name (fun pj H6 npj s6 ej => ?_)
    · have := pass_len sx.tupI'
      omega
    · obtain ⟨rfl, hv⟩ := y
      obtain ⟨dj, gj, dv⟩ := hxs.get hv
      have gD : ds.getD j .none = dj := by rw [List.getD_eq_getElem?_getD, gj]; rfl
      have mj := List.mem_of_getElem? gj
      have sj := sx.tupI'.get mj
      have oj := ok.all _ rfl _ mj
      rw [gD] at hR2
      dsimp only at hR2
      have dv6 := dv.same s6
      walk_at "rd"
      refine ⟨rfl, ?_⟩
      walk_at "rd"
      refine ⟨v, dj, m, n, w, rfl, dv6, sj, hn, oj, ?_⟩
      refine ⟨_, rfl, iteC (fun e0 => ?_) (fun e0 => ?_)⟩
      · rw [e0] at hR2
        exact hR2 _ (Same.refl _)
      · rw [e0, Bool.false_or] at hR2
        walk_at "rd"
        refine ⟨v, .int m, dj, .int m, n, w, rfl, dv6, sj, hn, oj, .int m, fun H8 s8 => ?_⟩
        unfold onG
        rw [es]
        exact hR2 _ s8
    · rw [lx, map_getD ds (fun d => V.bl (sameB m d || kindB m d)), show ds.map (fun d => V.bl (sameB m d || kindB m d)) = (ds.map fun s => sameB m s || kindB m s).map V.bl by rw [List.map_map]; rfl] at ej
      walk_at "rd"
      refine i_all ej ?_
      rw [List.all_map]
      exact k' _ s6
end
end Sw
namespace Sw
open PySem PySem.Spec PyProof.Rows L2
local macro_rules | `(tactic| walk_at "hp") => `(tactic| first
  | (with_reducible assumption) | (with_reducible exact upd_same)
  | ((with_reducible refine' upd_old ?q1 ?q2); (case q1 => (with_reducible assumption)); (case q2 => walk_at "hp"))
  | ((with_reducible refine' Same.at ?q1 ?q2); (case q1 => (with_reducible assumption)); (case q2 => walk_at "hp"))
  | ((with_reducible refine' upd_skip ?q1 ?q2); (case q1 => walk_at "ne"); (case q2 => walk_at "hp"))
  | fail)
local macro_rules | `(tactic| walk_at "ne") => `(tactic| first
  | (with_reducible assumption) | (with_reducible exact Ne.symm (by assumption))
  | ((with_reducible refine' ne_of_none ?q1 ?q2); (case q2 => (with_reducible assumption)); (case q1 => walk_at "hp"))
  | fail)
local macro_rules | `(tactic| walk_at "ci") => `(tactic| first | assumption | (show (0 : Int) < _; first | decide | (with_reducible omega)) | exact ⟨by decide, by decide⟩ | exact .inl ⟨by decide, by decide⟩ | exact .inr ⟨by decide, by decide⟩)
local macro_rules | `(tactic| walk_at "ln") => `(tactic| first | (with_reducible assumption) | (with_reducible omega) | (simp only [List.length_append, List.length_take, List.length_drop, List.length_reverse, List.length_cons, List.length_nil]; with_reducible omega))
local macro_rules | `(tactic| walk_at "rd1") => `(tactic| first
  | (with_reducible refine i_seq ?_) | (with_reducible refine i_asg ?_) | (with_reducible refine i_ret ?_) | (with_reducible refine i_name ?_) | ((with_reducible refine' i_var ?q1 ?_); (case q1 => exact rfl)) | (with_reducible refine i_c ?_) | (with_reducible refine i_op ?_) | (with_reducible refine i_un ?_)
  | (with_reducible refine i_rI0 ?_) | (with_reducible refine i_cb ?_) | (with_reducible refine i_cons ?_) | (with_reducible refine i_nil ?_) | (with_reducible refine i_call ?_) | (with_reducible refine i_if ?_) | (with_reducible refine i_ifE ?_) | (with_reducible refine i_test ?_) | (with_reducible refine i_bl ?_)
  | (with_reducible refine i_and ?_) | (with_reducible refine i_or ?_) | (with_reducible refine i_not ?_) | (with_reducible refine i_lst ?_) | (with_reducible refine i_tup ?_) | (with_reducible refine i_next ?_) | (with_reducible refine i_drop ?_) | (with_reducible refine i_sub ?_)
  | (with_reducible refine i_bm ?_) | (with_reducible refine i_sl ?_) | (with_reducible refine i_part ?_) | (with_reducible refine i_nopart ?_) | (with_reducible refine i_exI ?_) | (with_reducible refine i_chain ?_) | ((with_reducible refine' i_aug ?q1 ?_); (case q1 => exact rfl)) | (with_reducible refine i_ip ?_)
  | (with_reducible refine i_par ?_) | (with_reducible refine i_pair ?_) | (with_reducible refine i_andV ?_) | (with_reducible refine i_orV ?_) | (with_reducible refine i_notV ?_) | (with_reducible refine i_m1 ?_) | (with_reducible refine i_str ?_)
  | (with_reducible refine iteF ?_) | (with_reducible refine iteT ?_) | (with_reducible refine iteNT ?_) | (with_reducible refine iteNF ?_) | (with_reducible refine i_tyS ?_) | (with_reducible refine i_tB ?_) | (with_reducible refine i_retN ?_) | (with_reducible refine i_par3 ?_) | (with_reducible refine i_trip ?_) | (with_reducible refine i_gCons ?_) | (with_reducible refine i_gNil ?_) | (with_reducible refine i_lstRg ?_) | (with_reducible refine i_rg1 ?_)
  | (with_reducible refine i_lc ?_) | (with_reducible refine i_for ?_) | (with_reducible refine i_iList ?_) | (with_reducible refine i_iTup ?_) | (with_reducible refine i_iStr ?_) | (with_reducible refine i_iRng1 ?_) | (with_reducible refine i_iEnS ?_)
  | ((with_reducible refine' i_ixTH ?q1 ?q2 ?_); (case q1 => walk_at "hp"); (case q2 => exact rfl))
  | ((with_reducible refine' i_ixLH ?q1 ?q2 ?_); (case q1 => walk_at "hp"); (case q2 => exact rfl))
  | ((with_reducible refine i_addS ?q1 ?_); (case q1 => walk_at "ln")) | ((with_reducible refine i_lenSS ?q1 ?_); (case q1 => walk_at "ln")) | ((with_reducible refine i_slFrom ?q1 ?q2 ?_); (case q1 => walk_at "ln"); (case q2 => walk_at "ln")) | ((with_reducible refine i_slTo ?q1 ?q2 ?_); (case q1 => walk_at "ln"); (case q2 => walk_at "ln"))
  | ((with_reducible refine' i_tyL ?q1 ?_); (case q1 => walk_at "hp"))
  | ((with_reducible refine' i_gTupH ?q1 ?q2 ?_); (case q1 => walk_at "hp"); (case q2 => exact rfl))
  | (with_reducible refine i_dnew ?_) | (with_reducible refine i_init ?_) | (with_reducible refine i_fst ?_) | (with_reducible refine i_mk ?_) | (with_reducible refine i_raise ?_) | (with_reducible refine i_callS ?_) | (with_reducible refine i_kwS ?_)
  | (with_reducible refine i_revT ?_) | (with_reducible refine i_kw ?_) | ((with_reducible refine' ⟨_, _, rfl, sqT_of ?q1, ?_⟩); (case q1 => walk_at "hp"))
  | (with_reducible refine i_revS ?_) | ((with_reducible refine i_revSS ?q1 ?_); (case q1 => walk_at "ln"))
  | (with_reducible refine i_startS ?_) | (with_reducible refine i_inSg ?_) | (with_reducible refine i_absN ?_) | (with_reducible refine i_min2 ?_) | (with_reducible refine i_max2 ?_) | (with_reducible refine i_min3 ?_) | (with_reducible refine i_intN ?_) | (with_reducible refine i_intNB ?_)
  | ((with_reducible refine' i_lenL ?q1 ?_); (case q1 => walk_at "hp")) | ((with_reducible refine' i_lenT ?q1 ?_); (case q1 => walk_at "hp"))
  | (with_reducible refine i_eqI ?_) | (with_reducible refine i_neI ?_) | (with_reducible refine i_eqS ?_) | (with_reducible refine i_neS ?_) | (with_reducible refine i_isNoI ?_) | (with_reducible refine i_isNoN ?_) | (with_reducible refine i_isNoR ?_)
  | ((with_reducible refine i_pow ?q1 ?q2 ?q3 ?_); (case q1 => decide); (case q2 => decide); (case q3 => (with_reducible omega)))
  | ((with_reducible refine i_rI ?q1 ?_); (case q1 => walk_at "ci"))
  | (with_reducible refine Or.inl ⟨_, rfl, ?_⟩) | (with_reducible refine Or.inr ⟨_, rfl, ?_⟩) | (with_reducible refine ⟨_, rfl, ?_⟩) | (with_reducible refine ⟨_, _, rfl, ?_⟩) | (with_reducible refine ⟨_, _, rfl, rfl, ?_⟩)
  | ((with_reducible refine' ⟨_, _, rfl, Or.inl (sqL_of ?q1), ?_⟩); (case q1 => walk_at "hp")) | ((with_reducible refine' ⟨_, _, rfl, Or.inr (sqT_of ?q1), ?_⟩); (case q1 => walk_at "hp")) | fail)
local macro_rules | `(tactic| walk_at "rd") => `(tactic| repeat' walk_at "rd1")

section
variable {P : Program} {w : World} {K : PySem.W.Frag} {mg : Str → Option Value} {base : Heap} {f : Addr} {fd : FuncData}
theorem ok_lsigns (F : Fun K "_law_is_signs" "_law_is_signs" s__law_is_signs f fd) (z : Z mg) : FnOk P w K mg base CX0 1 f fd ["value"] (spSg K) := by
  refine F.ok sc__law_is_signs (fun vs H Q E h => ?_) (fun cdv A outer s H vs Q E hr h => ?_)
  · obtain ⟨x, d, rfl, _⟩ := h; rfl
  · obtain ⟨x, d, rfl, hx, k⟩ := h
    refine ⟨_, (pss_one (ps_ret (pe_and (pe_callB call_isi (by rfl) z.isinstance (by decide +kernel) (pa_cons (pv 0) (pa_cons (pe_bltn (v := .ty "int") (by rfl) z.int (by decide +kernel) rfl) pa_nil))) (pe_and (pe_not (pe_callB call_isi (by rfl) z.isinstance (by decide +kernel) (pa_cons (pv 0) (pa_cons (pe_bltn (v := .ty "bool") (by rfl) z.bool (by decide +kernel) rfl) pa_nil)))) (pe_one (pe_chain op_le op_le pe_int (pv 0) pe_int)))))), ?_⟩
    walk_at "rd"
    refine hx.isi (by simp) ?_
    walk_at "rd"
    have no : isI d = false → isG d = false := by intro e; cases d <;> first | rfl | cases e
    refine iteC (fun e1 => ?_) (fun e1 => ?_)
    · walk_at "rd"
      refine hx.isi (by simp) ?_
      walk_at "rd"
      refine iteNC (fun e2 => ?_) (fun e2 => ?_)
      · have e := tyB_int d
        rw [e1, e2] at e
        obtain ⟨i, rfl, rfl⟩ := hx.intB e.symm
        simp only [isG] at k
        walk_at "rd"
        refine iteB (fun q => ?_) (fun q => ?_)
        · rw [decide_eq_true q] at k
          walk_at "rd"
          exact k
        · rw [decide_eq_false q] at k
          exact k
      · have e := tyB_int d
        rw [e1, e2] at e
        rw [no e.symm] at k
        walk_at "rd"
        exact k
    · have e := tyB_int d
      rw [e1] at e
      rw [no e.symm] at k
      exact k
theorem ok_lsign (F : Fun K "_law_is_sign" "_law_is_sign" s__law_is_sign f fd) (z : Z mg) : FnOk P w K mg base CX0 1 f fd ["value", "signs"] (spIdx K) := by
  refine F.ok sc__law_is_sign (fun vs H Q E h => ?_) (fun cdv A outer s H vs Q E hr h => ?_)
  · obtain ⟨x, d, m, rfl, _⟩ := h; rfl
  · obtain ⟨x, d, m, rfl, hx, k⟩ := h
    refine ⟨_, (pss_one (ps_ret (pe_and (pe_callB call_isi (by rfl) z.isinstance (by decide +kernel) (pa_cons (pv 0) (pa_cons (pe_bltn (v := .ty "int") (by rfl) z.int (by decide +kernel) rfl) pa_nil))) (pe_and (pe_not (pe_callB call_isi (by rfl) z.isinstance (by decide +kernel) (pa_cons (pv 0) (pa_cons (pe_bltn (v := .ty "bool") (by rfl) z.bool (by decide +kernel) rfl) pa_nil)))) (pe_one (pe_chain op_le op_lt pe_int (pv 0) (pv 1))))))), ?_⟩
    walk_at "rd"
    refine hx.isi (by simp) ?_
    walk_at "rd"
    have no : isI d = false → isX m d = false := by intro e; cases d <;> first | rfl | cases e
    refine iteC (fun e1 => ?_) (fun e1 => ?_)
    · walk_at "rd"
      refine hx.isi (by simp) ?_
      walk_at "rd"
      refine iteNC (fun e2 => ?_) (fun e2 => ?_)
      · have e := tyB_int d
        rw [e1, e2] at e
        obtain ⟨i, rfl, rfl⟩ := hx.intB e.symm
        simp only [isX] at k
        walk_at "rd"
        refine iteB (fun q => ?_) (fun q => ?_)
        · rw [decide_eq_true q] at k
          walk_at "rd"
          exact k
        · rw [decide_eq_false q] at k
          exact k
      · have e := tyB_int d
        rw [e1, e2] at e
        rw [no e.symm] at k
        walk_at "rd"
        exact k
    · have e := tyB_int d
      rw [e1] at e
      rw [no e.symm] at k
      exact k
theorem ok_lkind (F : Fun K "_law_is_kind" "_law_is_kind" s__law_is_kind f fd) (z : Z mg) (c__law_is_signs : Cal P w K mg base "_law_is_signs" ["value"] 1 (spSg K)) (c__law_is_sign : Cal P w K mg base "_law_is_sign" ["value", "signs"] 1 (spIdx K)) : FnOk P w K mg base CX0 2 f fd ["value", "signs"] (spKind K) := by
  refine F.ok sc__law_is_kind (fun vs H Q E h => ?_) (fun cdv A outer s H vs Q E hr h => ?_)
  · obtain ⟨x, y, d, e, _, _, rfl, _⟩ := h; rfl
  · obtain ⟨x, y, d, e, n, w, rfl, hx, sx, hn, ok, hy, k⟩ := h
    refine ⟨_, (pss_cons (ps_if (PW.pt (pw_or (pt_not (pt_val (pe_cal c__law_is_signs hr (pa_cons (pv 1) pa_nil)))) (pw_or1 (pt_not (pt_val (pe_callB call_isi (by rfl) z.isinstance (by decide +kernel) (pa_cons (pv 0) (pa_cons (pe_bltn (v := .ty "tuple") (by rfl) z.tuple (by decide +kernel) rfl) pa_nil))))))))
        (pss_one (ps_ret pe_bl))
        pss_nil)
      (pss_cons (ps_if (pt_cmpR op_eq (pe_callB call_lenQ (by rfl) z.len PySem.boot_len (pa_cons (pv 0) pa_nil)) pe_int (nomark _))
        (pss_one (ps_ret (pe_and (pe_or (pe_cmpR (op_eqX hr.units) (pe_ix ix_tup (pv 0) pe_int (fun _ _ => rfl)) (pe_strS (l := [108, 111, 115, 116]) (by decide +kernel)) (nomark _)) (pe_one (pe_cmpR (op_eqX hr.units) (pe_ix ix_tup (pv 0) pe_int (fun _ _ => rfl)) (pe_strS (l := [112, 117, 116]) (by decide +kernel)) (nomark _)))) (pe_one (pe_cal c__law_is_sign hr (pa_cons (pe_ix ix_tup (pv 0) pe_int (fun _ _ => rfl)) (pa_cons (pv 1) pa_nil)))))))
        pss_nil)
      (pss_cons (ps_if (PW.pt (pw_or (pt_cmpR op_ne (pe_callB call_lenQ (by rfl) z.len PySem.boot_len (pa_cons (pv 0) pa_nil)) pe_int (nomark _)) (pw_or1 (pt_cmpR (op_neX hr.units) (pe_ix ix_tup (pv 0) pe_int (fun _ _ => rfl)) (pe_strS (l := [116, 117, 114, 110, 101, 100]) (by decide +kernel)) (nomark _)))))
        (pss_one (ps_ret pe_bl))
        pss_nil)
      (pss_one (ps_ret (pe_and (pe_cal c__law_is_sign hr (pa_cons (pe_ix ix_tup (pv 0) pe_int (fun _ _ => rfl)) (pa_cons (pv 1) pa_nil))) (pe_and (pe_cal c__law_is_sign hr (pa_cons (pe_ix ix_tup (pv 0) pe_int (fun _ _ => rfl)) (pa_cons (pv 1) pa_nil))) (pe_one (pe_cmpR op_ne (pe_ix ix_tup (pv 0) pe_int (fun _ _ => rfl)) (pe_ix ix_tup (pv 0) pe_int (fun _ _ => rfl)) (nomark _)))))))))), ?_⟩
    walk_at "rd"
    refine ⟨y, e, rfl, hy, ?_⟩
    walk_at "rd"
    rw [isG_sgn]
    rcases es : sgn e with _ | m
    · have k' : ∀ H', Same H H' → Q (.bl false) H' := fun H' s' => by
        have := k H' s'
        unfold onG at this
        rw [es] at this
        exact this
      walk_at "rd"
      exact k' _ (Same.refl _)
    obtain ⟨rfl, m1, m5⟩ := sgn_some es
    have k' : ∀ H', Same H H' → Q (.bl (kindB m d)) H' := fun H' s' => by
      have := k H' s'
      unfold onG at this
      rw [es] at this
      exact this
    cases hy.intI
    rw [show (some m).isSome = true from rfl]
    walk_at "rd"
    refine hx.isi (n := "tuple") (.inr (.inr (.inr (.inr rfl)))) ?_
    by_cases ht : ∃ ds, d = .tuple ds
    case neg =>
      have e : tyB "tuple" d = false := by cases d <;> first | rfl | exact (ht ⟨_, rfl⟩).elim
      have e2 : kindB m d = false := by cases d <;> first | rfl | exact (ht ⟨_, rfl⟩).elim
      rw [e]
      rw [e2] at k'
      walk_at "rd"
      exact k' _ (Same.refl _)
    obtain ⟨ds, rfl⟩ := ht
    obtain ⟨a, xs, rfl, ha, hxs⟩ := hx.tupI
    rw [show tyB "tuple" (.tuple ds) = true from rfl]
    have lx := hxs.len
    walk_at "rd"
    refine i_lenSqT ha ?_
    walk_at "rd"
    refine iteB (fun l2 => ?_) (fun l2 => ?_)
    · have l2' : ds.length = 2 := by omega
      obtain ⟨d0, d1, rfl⟩ : ∃ d0 d1, ds = [d0, d1] := by
        rcases ds with _ | ⟨x1, _ | ⟨x2, _ | ⟨x3, ys⟩⟩⟩
        · cases l2'
        · cases l2'
        · exact ⟨_, _, rfl⟩
        · simp at l2'
      simp only [kindB] at k'
      cases hxs with
      | cons h0 h1 =>
        cases h1 with
        | cons h1 h2 =>
          cases h2
          have st0 := sx.tupI'.get List.mem_cons_self
          have o0 := ok.parts _ rfl _ List.mem_cons_self
          walk_at "rd"
          refine i_ixTn (k := 0) ha rfl ?_
          walk_at "rd"
          refine i_eqS1 h0 st0 o0 (by decide) ?_
          walk_at "rd"
          have last : ∀ b, (isS tLost d0 || isS tPut d0) = b → Q (.bl (isX m d1 && b)) H := fun b e => by
            have := k' H (Same.refl _)
            rw [e] at this
            exact this
          refine iteC (fun e0 => ?_) (fun e0 => ?_)
          · have l2 := last true (by rw [show isS tLost d0 = true from e0]; rfl)
            rw [Bool.and_true] at l2
            walk_at "rd"
            refine i_ixTn (k := 1) ha rfl ?_
            walk_at "rd"
            exact ⟨_, d1, m, rfl, h1, l2⟩
          · walk_at "rd"
            refine i_ixTn (k := 0) ha rfl ?_
            walk_at "rd"
            refine i_eqS1 h0 st0 o0 (by decide) ?_
            walk_at "rd"
            refine iteC (fun e2 => ?_) (fun e2 => ?_)
            · have l2 := last true (by rw [show isS tPut d0 = true from e2, Bool.or_true])
              rw [Bool.and_true] at l2
              walk_at "rd"
              refine i_ixTn (k := 1) ha rfl ?_
              walk_at "rd"
              exact ⟨_, d1, m, rfl, h1, l2⟩
            · have l2 := last false (by rw [show isS tPut d0 = false from e2, show isS tLost d0 = false from e0]; rfl)
              rw [Bool.and_false] at l2
              exact l2
    · walk_at "rd"
      refine i_lenSqT ha ?_
      walk_at "rd"
      refine iteNB (fun l3 => ?_) (fun l3 => ?_)
      · have e2 : kindB m (.tuple ds) = false := by
          rcases ds with _ | ⟨x1, _ | ⟨x2, _ | ⟨x3, _ | ⟨x4, ys⟩⟩⟩⟩
          · rfl
          · rfl
          · exact (l2 (by rw [lx]; rfl)).elim
          · exact (l3 (by rw [lx]; rfl)).elim
          · rfl
        rw [e2] at k'
        walk_at "rd"
        exact k' _ (Same.refl _)
      have l3' : ds.length = 3 := by omega
      obtain ⟨d0, d1, d2, rfl⟩ : ∃ d0 d1 d2, ds = [d0, d1, d2] := by
        rcases ds with _ | ⟨x1, _ | ⟨x2, _ | ⟨x3, _ | ⟨x4, ys⟩⟩⟩⟩
        · cases l3'
        · cases l3'
        · cases l3'
        · exact ⟨_, _, _, rfl⟩
        · simp at l3'
      simp only [kindB] at k'
      cases hxs with
      | cons h0 h1 =>
        cases h1 with
        | cons h1 h2 =>
          cases h2 with
          | cons h2 h3 =>
            cases h3
            have st0 := sx.tupI'.get List.mem_cons_self
            have o0 := ok.parts _ rfl _ List.mem_cons_self
            walk_at "rd"
            refine i_ixTn (k := 0) ha rfl ?_
            walk_at "rd"
            refine i_neS1 h0 st0 o0 (by decide) ?_
            walk_at "rd"
            refine iteNC (fun e0 => ?_) (fun e0 => ?_)
            · rw [show isS tTurned d0 = false from e0, Bool.false_and, Bool.and_false] at k'
              walk_at "rd"
              exact k' _ (Same.refl _)
            rw [show isS tTurned d0 = true from e0, Bool.true_and] at k'
            walk_at "rd"
            refine i_ixTn (k := 1) ha rfl ?_
            walk_at "rd"
            refine ⟨_, d1, m, rfl, h1, ?_⟩
            refine ⟨_, rfl, iteC (fun e1 => ?_) (fun e1 => ?_)⟩
            · rw [e1, Bool.true_and] at k'
              walk_at "rd"
              refine i_ixTn (k := 2) ha rfl ?_
              walk_at "rd"
              refine ⟨_, d2, m, rfl, h2, ?_⟩
              refine ⟨_, rfl, iteC (fun e2 => ?_) (fun e2 => ?_)⟩
              · rw [e2, Bool.true_and] at k'
                obtain ⟨i1, rfl, rfl⟩ := h1.intB (by cases d1 <;> first | rfl | cases e1)
                obtain ⟨i2, rfl, rfl⟩ := h2.intB (by cases d2 <;> first | rfl | cases e2)
                rw [eqv_int] at k'
                walk_at "rd"
                refine i_ixTn (k := 1) ha rfl ?_
                walk_at "rd"
                refine i_ixTn (k := 2) ha rfl ?_
                walk_at "rd"
                exact k' _ (Same.refl _)
              · rw [e2, Bool.false_and] at k'
                exact k' _ (Same.refl _)
            · rw [e1, Bool.false_and, Bool.false_and] at k'
              exact k' _ (Same.refl _)
theorem ok_lpassing (F : Fun K "_law_is_passing" "_law_is_passing" s__law_is_passing f fd) (z : Z mg) (c__law_is_signs : Cal P w K mg base "_law_is_signs" ["value"] 1 (spSg K)) (c__law_is_sign : Cal P w K mg base "_law_is_sign" ["value", "signs"] 1 (spIdx K)) (c__law_is_kind : Cal P w K mg base "_law_is_kind" ["value", "signs"] 2 (spKind K)) : FnOk P w K mg base CX0 3 f fd ["value", "signs"] (spPass K) := by
  refine F.ok sc__law_is_passing (fun vs H Q E h => ?_) (fun cdv A outer s H vs Q E hr h => ?_)
  · obtain ⟨x, y, d, e, _, _, rfl, _⟩ := h; rfl
  · obtain ⟨x, y, d, e, n, w, rfl, hx, sx, hn, hw, ok, hy, k⟩ := h
    refine ⟨_, (pss_cons (ps_if (PW.pt (pw_or (pt_not (pt_val (pe_cal c__law_is_signs hr (pa_cons (pv 1) pa_nil)))) (pw_or1 (pt_not (pt_val (pe_callB call_isi (by rfl) z.isinstance (by decide +kernel) (pa_cons (pv 0) (pa_cons (pe_bltn (v := .ty "tuple") (by rfl) z.tuple (by decide +kernel) rfl) pa_nil))))))))
        (pss_one (ps_ret pe_bl))
        pss_nil)
      (pss_cons (ps_for PassesOwn.never rfl (pi_tup (pv 0)) (pg_name (i := 2) sc__law_is_passing.nd rfl (.inl rfl))
        (pss_cons (ps_set (i := 3) sc__law_is_passing.nd rfl (.inl rfl) (pe_and (pe_callB call_isi (by rfl) z.isinstance (by decide +kernel) (pa_cons (pv 2) (pa_cons (pe_bltn (v := .ty "tuple") (by rfl) z.tuple (by decide +kernel) rfl) pa_nil))) (pe_and (pe_cmpR op_eq (pe_callB call_lenQ (by rfl) z.len PySem.boot_len (pa_cons (pv 2) pa_nil)) pe_int (nomark _)) (pe_and (pe_cmpR (op_eqX hr.units) (pe_ix ix_tup (pv 2) pe_int (fun _ _ => rfl)) (pe_strS (l := [115, 97, 109, 101]) (by decide +kernel)) (nomark _)) (pe_one (pe_cal c__law_is_sign hr (pa_cons (pe_ix ix_tup (pv 2) pe_int (fun _ _ => rfl)) (pa_cons (pv 1) pa_nil))))))))
        (pss_one (ps_if (PW.pt (pw_and (pt_not (pt_val (pv 3))) (pw_and1 (pt_not (pt_val (pe_cal c__law_is_kind hr (pa_cons (pv 2) (pa_cons (pv 1) pa_nil))))))))
          (pss_one (ps_ret pe_bl))
          pss_nil))))
      (pss_one (ps_ret pe_bl)))), ?_⟩
    walk_at "rd"
    refine ⟨y, e, rfl, hy, ?_⟩
    walk_at "rd"
    rw [isG_sgn]
    rcases es : sgn e with _ | m
    · have k' : ∀ H', Same H H' → Q (.bl false) H' := fun H' s' => by
        have := k H' s'
        unfold onG at this
        rw [es] at this
        exact this
      walk_at "rd"
      exact k' _ (Same.refl _)
    obtain ⟨rfl, m1, m5⟩ := sgn_some es
    have k' : ∀ H', Same H H' → Q (.bl (passB m d)) H' := fun H' s' => by
      have := k H' s'
      unfold onG at this
      rw [es] at this
      exact this
    cases hy.intI
    rw [show (some m).isSome = true from rfl]
    walk_at "rd"
    refine hx.isi (n := "tuple") (.inr (.inr (.inr (.inr rfl)))) ?_
    by_cases ht : ∃ ds, d = .tuple ds
    case neg =>
      have e : tyB "tuple" d = false := by cases d <;> first | rfl | exact (ht ⟨_, rfl⟩).elim
      have e2 : passB m d = false := by cases d <;> first | rfl | exact (ht ⟨_, rfl⟩).elim
      rw [e]
      rw [e2] at k'
      walk_at "rd"
      exact k' _ (Same.refl _)
    obtain ⟨ds, rfl⟩ := ht
    obtain ⟨a, xs, rfl, ha, hxs⟩ := hx.tupI
    rw [show tyB "tuple" (.tuple ds) = true from rfl]
    have lx := hxs.len
    walk_at "rd"
    refine ⟨⟨_, ha⟩, ?_⟩
    refine go_for (walk_tup (xs := xs)) (fun i σ H2 => ∃ u2 u3, σ = [some (.ref a), some (.int m), u2, u3] ∧ Same H H2 ∧ ∀ j, j < i → (sameB m (ds.getD j .none) || kindB m (ds.getD j .none)) = true) ⟨_, _, rfl, Same.refl _, fun j hj => (by omega)⟩ (fun i σ H2 _ h => by obtain ⟨_, _, _, s2, _⟩ := h; exact Same.sqT s2 ha) (fun i v σ H2 H3 hi h y => ?_) (fun σ H2 h => ?_)
    · obtain ⟨u2, u3, rfl, s2, all⟩ := h
      obtain ⟨rfl, hv⟩ := y
      obtain ⟨dj, gj, dv⟩ := hxs.get hv
      have gD : ds.getD i .none = dj := by rw [List.getD_eq_getElem?_getD, gj]; rfl
      have mj := List.mem_of_getElem? gj
      have sj := sx.tupI'.get mj
      have oj := ok.all _ rfl _ mj
      have dv6 := dv.same s2
      have no : (sameB m dj || kindB m dj) = false → passB m (.tuple ds) = false := fun e => by
        simp only [passB]
        rw [List.all_eq_false]
        exact ⟨dj, mj, by rw [e]; simp⟩
      have more : (sameB m dj || kindB m dj) = true → ∀ j, j < i + 1 → (sameB m (ds.getD j .none) || kindB m (ds.getD j .none)) = true := fun e j hj => by
        rcases Nat.lt_or_ge j i with q | q
        · exact all j q
        · have : j = i := by omega
          rw [this, gD]; exact e
      walk_at "rd"
      refine dv6.isi (n := "tuple") (.inr (.inr (.inr (.inr rfl)))) ?_
      by_cases ht : ∃ es, dj = .tuple es
      case neg =>
        have e : tyB "tuple" dj = false := by cases dj <;> first | rfl | exact (ht ⟨_, rfl⟩).elim
        have sf : sameB m dj = false := by cases dj <;> first | rfl | exact (ht ⟨_, rfl⟩).elim
        rw [e]
        walk_at "rd"
        refine ⟨v, .int m, dj, .int m, n, w, rfl, dv6, sj, hn, oj, .int m, fun H8 s8 => ?_⟩
        unfold onG
        rw [es]
        walk_at "rd"
        refine iteNC (fun ek => ?_) (fun ek => ?_)
        · rw [no (by rw [sf, show kindB m dj = false from ek]; rfl)] at k'
          walk_at "rd"
          exact k' _ (s2.trans s8)
        · walk_at "rd"
          exact ⟨s2.trans s8, more (by rw [show kindB m dj = true from ek, Bool.or_true])⟩
      obtain ⟨cs, rfl⟩ := ht
      obtain ⟨a2, ys, rfl, ha2, hys⟩ := dv6.tupI
      rw [show tyB "tuple" (.tuple cs) = true from rfl]
      have ly := hys.len
      walk_at "rd"
      refine i_lenSqT ha2 ?_
      walk_at "rd"
      refine iteB (fun l2 => ?_) (fun l2 => ?_)
      rotate_left
      · have sf : sameB m (.tuple cs) = false := by
          rcases cs with _ | ⟨x1, _ | ⟨x2, _ | ⟨x3, zs⟩⟩⟩
          · rfl
          · rfl
          · exact (l2 (by rw [ly]; rfl)).elim
          · rfl
        walk_at "rd"
        refine ⟨_, .int m, (.tuple cs), .int m, n, w, rfl, dv6, sj, hn, oj, .int m, fun H8 s8 => ?_⟩
        unfold onG
        rw [es]
        walk_at "rd"
        refine iteNC (fun ek => ?_) (fun ek => ?_)
        · rw [no (by rw [sf, show kindB m (.tuple cs) = false from ek]; rfl)] at k'
          walk_at "rd"
          exact k' _ (s2.trans s8)
        · walk_at "rd"
          exact ⟨s2.trans s8, more (by rw [show kindB m (.tuple cs) = true from ek, Bool.or_true])⟩
      have l2' : cs.length = 2 := by omega
      obtain ⟨d0, d1, rfl⟩ : ∃ d0 d1, cs = [d0, d1] := by
        rcases cs with _ | ⟨x1, _ | ⟨x2, _ | ⟨x3, ys⟩⟩⟩
        · cases l2'
        · cases l2'
        · exact ⟨_, _, rfl⟩
        · simp at l2'
      cases hys with
      | cons h0 h1 =>
        cases h1 with
        | cons h1 h2 =>
          cases h2
          have st0 := sj.tupI'.get List.mem_cons_self
          have o0 := oj.parts _ rfl _ List.mem_cons_self
          walk_at "rd"
          refine i_ixTn (k := 0) ha2 rfl ?_
          walk_at "rd"
          refine i_eqS1 h0 st0 o0 (by decide) ?_
          refine ⟨_, rfl, iteC (fun e0 => ?_) (fun e0 => ?_)⟩
          · walk_at "rd"
            refine i_ixTn (k := 1) ha2 rfl ?_
            walk_at "rd"
            refine ⟨_, d1, m, rfl, h1, ?_⟩
            walk_at "rd"
            refine iteNC (fun e1 => ?_) (fun e1 => ?_)
            · have sf : sameB m (.tuple [d0, d1]) = false := by simp only [sameB, e1, Bool.and_false]
              walk_at "rd"
              refine ⟨_, .int m, (.tuple [d0, d1]), .int m, n, w, rfl, dv6, sj, hn, oj, .int m, fun H8 s8 => ?_⟩
              unfold onG
              rw [es]
              walk_at "rd"
              refine iteNC (fun ek => ?_) (fun ek => ?_)
              · rw [no (by rw [sf, show kindB m (.tuple [d0, d1]) = false from ek]; rfl)] at k'
                walk_at "rd"
                exact k' _ (s2.trans s8)
              · walk_at "rd"
                exact ⟨s2.trans s8, more (by rw [show kindB m (.tuple [d0, d1]) = true from ek, Bool.or_true])⟩
            · walk_at "rd"
              exact ⟨s2, more (by simp only [sameB, e1, show isS tSame d0 = true from e0, Bool.and_self, Bool.true_or])⟩
          · have sf : sameB m (.tuple [d0, d1]) = false := by simp only [sameB, show isS tSame d0 = false from e0, Bool.false_and]
            walk_at "rd"
            refine ⟨_, .int m, (.tuple [d0, d1]), .int m, n, w, rfl, dv6, sj, hn, oj, .int m, fun H8 s8 => ?_⟩
            unfold onG
            rw [es]
            walk_at "rd"
            refine iteNC (fun ek => ?_) (fun ek => ?_)
            · rw [no (by rw [sf, show kindB m (.tuple [d0, d1]) = false from ek]; rfl)] at k'
              walk_at "rd"
              exact k' _ (s2.trans s8)
            · walk_at "rd"
              exact ⟨s2.trans s8, more (by rw [show kindB m (.tuple [d0, d1]) = true from ek, Bool.or_true])⟩
    · obtain ⟨u2, u3, rfl, s2, all⟩ := h
      walk_at "rd"
      have : passB m (.tuple ds) = true := by
        simp only [passB]
        rw [List.all_eq_true]
        intro x hx
        obtain ⟨j, hj⟩ := List.getElem?_of_mem hx
        have hlt : j < xs.length := by
          rw [lx]
          rcases Nat.lt_or_ge j ds.length with q | q
          · exact q
          · rw [List.getElem?_eq_none q] at hj; cases hj
        have := all j hlt
        rw [List.getD_eq_getElem?_getD, hj] at this
        exact this
      rw [this] at k'
      exact k' _ s2
end
end Sw
namespace Sw
open PySem PySem.Spec PyProof.Rows L2
local macro_rules | `(tactic| walk_at "hp") => `(tactic| first
  | (with_reducible assumption) | (with_reducible exact upd_same)
  | ((with_reducible refine' upd_old ?q1 ?q2); (case q1 => (with_reducible assumption)); (case q2 => walk_at "hp"))
  | ((with_reducible refine' Same.at ?q1 ?q2); (case q1 => (with_reducible assumption)); (case q2 => walk_at "hp"))
  | ((with_reducible refine' upd_skip ?q1 ?q2); (case q1 => walk_at "ne"); (case q2 => walk_at "hp"))
  | fail)
local macro_rules | `(tactic| walk_at "ne") => `(tactic| first
  | (with_reducible assumption) | (with_reducible exact Ne.symm (by assumption))
  | ((with_reducible refine' ne_of_none ?q1 ?q2); (case q2 => (with_reducible assumption)); (case q1 => walk_at "hp"))
  | fail)
local macro_rules | `(tactic| walk_at "ci") => `(tactic| first | assumption | (show (0 : Int) < _; first | decide | (with_reducible omega)) | exact ⟨by decide, by decide⟩ | exact .inl ⟨by decide, by decide⟩ | exact .inr ⟨by decide, by decide⟩)
local macro_rules | `(tactic| walk_at "ln") => `(tactic| first | (with_reducible assumption) | (with_reducible omega) | (simp only [List.length_append, List.length_take, List.length_drop, List.length_reverse, List.length_cons, List.length_nil]; with_reducible omega))
local macro_rules | `(tactic| walk_at "rd1") => `(tactic| first
  | (with_reducible refine i_seq ?_) | (with_reducible refine i_asg ?_) | (with_reducible refine i_ret ?_) | (with_reducible refine i_name ?_) | ((with_reducible refine' i_var ?q1 ?_); (case q1 => exact rfl)) | (with_reducible refine i_c ?_) | (with_reducible refine i_op ?_) | (with_reducible refine i_un ?_)
  | (with_reducible refine i_rI0 ?_) | (with_reducible refine i_cb ?_) | (with_reducible refine i_cons ?_) | (with_reducible refine i_nil ?_) | (with_reducible refine i_call ?_) | (with_reducible refine i_if ?_) | (with_reducible refine i_ifE ?_) | (with_reducible refine i_test ?_) | (with_reducible refine i_bl ?_)
  | (with_reducible refine i_and ?_) | (with_reducible refine i_or ?_) | (with_reducible refine i_not ?_) | (with_reducible refine i_lst ?_) | (with_reducible refine i_tup ?_) | (with_reducible refine i_next ?_) | (with_reducible refine i_drop ?_) | (with_reducible refine i_sub ?_)
  | (with_reducible refine i_bm ?_) | (with_reducible refine i_sl ?_) | (with_reducible refine i_part ?_) | (with_reducible refine i_nopart ?_) | (with_reducible refine i_exI ?_) | (with_reducible refine i_chain ?_) | ((with_reducible refine' i_aug ?q1 ?_); (case q1 => exact rfl)) | (with_reducible refine i_ip ?_)
  | (with_reducible refine i_par ?_) | (with_reducible refine i_pair ?_) | (with_reducible refine i_andV ?_) | (with_reducible refine i_orV ?_) | (with_reducible refine i_notV ?_) | (with_reducible refine i_m1 ?_) | (with_reducible refine i_str ?_)
  | (with_reducible refine iteF ?_) | (with_reducible refine iteT ?_) | (with_reducible refine iteNT ?_) | (with_reducible refine iteNF ?_) | (with_reducible refine i_tyS ?_) | (with_reducible refine i_tB ?_) | (with_reducible refine i_retN ?_) | (with_reducible refine i_par3 ?_) | (with_reducible refine i_trip ?_) | (with_reducible refine i_gCons ?_) | (with_reducible refine i_gNil ?_) | (with_reducible refine i_lstRg ?_) | (with_reducible refine i_rg1 ?_)
  | (with_reducible refine i_lc ?_) | (with_reducible refine i_for ?_) | (with_reducible refine i_iList ?_) | (with_reducible refine i_iTup ?_) | (with_reducible refine i_iStr ?_) | (with_reducible refine i_iRng1 ?_) | (with_reducible refine i_iEnS ?_)
  | ((with_reducible refine' i_ixTH ?q1 ?q2 ?_); (case q1 => walk_at "hp"); (case q2 => exact rfl))
  | ((with_reducible refine' i_ixLH ?q1 ?q2 ?_); (case q1 => walk_at "hp"); (case q2 => exact rfl))
  | ((with_reducible refine i_addS ?q1 ?_); (case q1 => walk_at "ln")) | ((with_reducible refine i_lenSS ?q1 ?_); (case q1 => walk_at "ln")) | ((with_reducible refine i_slFrom ?q1 ?q2 ?_); (case q1 => walk_at "ln"); (case q2 => walk_at "ln")) | ((with_reducible refine i_slTo ?q1 ?q2 ?_); (case q1 => walk_at "ln"); (case q2 => walk_at "ln"))
  | ((with_reducible refine' i_tyL ?q1 ?_); (case q1 => walk_at "hp"))
  | ((with_reducible refine' i_gTupH ?q1 ?q2 ?_); (case q1 => walk_at "hp"); (case q2 => exact rfl))
  | (with_reducible refine i_dnew ?_) | (with_reducible refine i_init ?_) | (with_reducible refine i_fst ?_) | (with_reducible refine i_mk ?_) | (with_reducible refine i_raise ?_) | (with_reducible refine i_callS ?_) | (with_reducible refine i_kwS ?_)
  | (with_reducible refine i_revT ?_) | (with_reducible refine i_kw ?_) | ((with_reducible refine' ⟨_, _, rfl, sqT_of ?q1, ?_⟩); (case q1 => walk_at "hp"))
  | (with_reducible refine i_revS ?_) | ((with_reducible refine i_revSS ?q1 ?_); (case q1 => walk_at "ln"))
  | (with_reducible refine i_startS ?_) | (with_reducible refine i_inSg ?_) | (with_reducible refine i_absN ?_) | (with_reducible refine i_min2 ?_) | (with_reducible refine i_max2 ?_) | (with_reducible refine i_min3 ?_) | (with_reducible refine i_intN ?_) | (with_reducible refine i_intNB ?_)
  | ((with_reducible refine' i_lenL ?q1 ?_); (case q1 => walk_at "hp")) | ((with_reducible refine' i_lenT ?q1 ?_); (case q1 => walk_at "hp"))
  | (with_reducible refine i_eqI ?_) | (with_reducible refine i_neI ?_) | (with_reducible refine i_eqS ?_) | (with_reducible refine i_neS ?_) | (with_reducible refine i_isNoI ?_) | (with_reducible refine i_isNoN ?_) | (with_reducible refine i_isNoR ?_)
  | ((with_reducible refine i_pow ?q1 ?q2 ?q3 ?_); (case q1 => decide); (case q2 => decide); (case q3 => (with_reducible omega)))
  | ((with_reducible refine i_rI ?q1 ?_); (case q1 => walk_at "ci"))
  | (with_reducible refine Or.inl ⟨_, rfl, ?_⟩) | (with_reducible refine Or.inr ⟨_, rfl, ?_⟩) | (with_reducible refine ⟨_, rfl, ?_⟩) | (with_reducible refine ⟨_, _, rfl, ?_⟩) | (with_reducible refine ⟨_, _, rfl, rfl, ?_⟩)
  | ((with_reducible refine' ⟨_, _, rfl, Or.inl (sqL_of ?q1), ?_⟩); (case q1 => walk_at "hp")) | ((with_reducible refine' ⟨_, _, rfl, Or.inr (sqT_of ?q1), ?_⟩); (case q1 => walk_at "hp")) | fail)
local macro_rules | `(tactic| walk_at "rd") => `(tactic| repeat' walk_at "rd1")

/-! ### what a passing tells -/
def wordIs (l : List Nat) : PyData → Bool
  | .tuple (a :: _) => isS l a
  | _ => false
def second : PyData → PyData
  | .tuple (_ :: b :: _) => b
  | _ => .none
def lastD : PyData → PyData
  | .tuple [_, b] => b
  | .tuple [_, _, c] => c
  | _ => .none
def toV : PyData → V
  | .int i => .int i
  | _ => .non
def partsOf : PyData → List PyData
  | .tuple ds => ds
  | _ => []
def sentD (ds : List PyData) : List PyData := (ds.filter fun s => !wordIs tPut s).map second
def cameD (ds : List PyData) : List PyData := (ds.filter fun s => !wordIs tLost s).map lastD
def errN (ds : List PyData) : Nat := (ds.filter fun s => !wordIs tSame s).length
theorem isS_inv {l : List Nat} {d : PyData} (h : isS l d = true) : d = .str (S l) := by
  cases d <;> first | cases h | skip
  simp only [isS] at h
  rw [of_decide_eq_true h]
theorem isX_inv {m : Int} {d : PyData} (h : isX m d = true) : ∃ i : Int, d = .int i ∧ 0 ≤ i ∧ i < m := by
  cases d <;> first | cases h | skip
  rename_i i
  simp only [isX, Bool.and_eq_true] at h
  exact ⟨i, rfl, of_decide_eq_true h.1, of_decide_eq_true h.2⟩
/-- a good step: a word and one or two signs -/
theorem step_inv {m : Int} {s : PyData} (h : (sameB m s || kindB m s) = true) : ∃ (w : List Nat) (is : List Int), s = .tuple (.str (S w) :: is.map .int) ∧ (is.length = 1 ∨ is.length = 2) ∧ (∀ c ∈ w, c ≤ 1000) ∧ w.length ≤ 6 ∧ ∀ i ∈ is, 0 ≤ i ∧ i < m := by
  rw [Bool.or_eq_true] at h
  rcases s with _ | _ | _ | _ | _ | ds | _
  all_goals first | (simp only [sameB, kindB] at h; rcases h with h | h <;> cases h; done) | skip
  rcases ds with _ | ⟨a, _ | ⟨b, _ | ⟨c, _ | ⟨d, ds⟩⟩⟩⟩
  · simp [sameB, kindB] at h
  · simp [sameB, kindB] at h
  · simp only [sameB, kindB, Bool.and_eq_true, Bool.or_eq_true] at h
    have hb : isX m b = true := h.elim (fun h => h.2) (fun h => h.1)
    obtain ⟨i, rfl, i0, i1⟩ := isX_inv hb
    rcases h with h | ⟨_, h | h⟩
    · exact ⟨tSame, [i], by rw [isS_inv h.1]; rfl, .inl rfl, by decide, by decide, by simp; exact ⟨i0, i1⟩⟩
    · exact ⟨tLost, [i], by rw [isS_inv h]; rfl, .inl rfl, by decide, by decide, by simp; exact ⟨i0, i1⟩⟩
    · exact ⟨tPut, [i], by rw [isS_inv h]; rfl, .inl rfl, by decide, by decide, by simp; exact ⟨i0, i1⟩⟩
  · simp only [sameB, kindB, Bool.and_eq_true] at h
    have h := h.resolve_left (by intro q; cases q)
    obtain ⟨i, rfl, i0, i1⟩ := isX_inv h.1.1
    obtain ⟨j, rfl, j0, j1⟩ := isX_inv h.1.2
    exact ⟨tTurned, [i, j], by rw [isS_inv h.2.1]; rfl, .inr rfl, by decide, by decide, by simp; exact ⟨⟨i0, i1⟩, j0, j1⟩⟩
  · simp [sameB, kindB] at h
theorem passB_inv {m : Int} {d : PyData} (h : passB m d = true) : ∃ ds, d = .tuple ds ∧ ∀ s ∈ ds, (sameB m s || kindB m s) = true := by
  cases d <;> first | cases h | skip
  rename_i ds
  simp only [passB] at h
  exact ⟨ds, rfl, List.all_eq_true.mp h⟩
theorem deAll_ints {K : PySem.W.Frag} {H : Hp} : ∀ is : List Int, DeAll K H (is.map V.int) (is.map PyData.int)
  | [] => .nil
  | i :: is => .cons (.int i) (deAll_ints is)
theorem deAll_ints_inv {K : PySem.W.Frag} {H : Hp} : ∀ {is : List Int} {vs : List V}, DeAll K H vs (is.map PyData.int) → vs = is.map V.int
  | [], _, .nil => rfl
  | i :: is, _, .cons h1 h2 => by rw [h1.intI, deAll_ints_inv h2]; rfl
theorem step_at {K : PySem.W.Frag} {H : Hp} {v : V} {w : List Nat} {is : List Int} (h : De K H v (.tuple (.str (S w) :: is.map .int))) : ∃ a, v = .ref a ∧ SqT K H a (.str (S w) :: is.map V.int) := by
  obtain ⟨a, xs, rfl, h1, h2⟩ := h.tupI
  cases h2 with
  | cons h2 h3 =>
    cases h2
    rw [deAll_ints_inv h3] at h1
    exact ⟨a, rfl, h1⟩
theorem wordIs_str (l w : List Nat) (r : List PyData) : wordIs l (.tuple (.str (S w) :: r)) = decide (w = l) := by
  simp only [wordIs, isS]
  by_cases e : w = l
  · rw [e, decide_eq_true rfl, decide_eq_true rfl]
  · rw [decide_eq_false e, decide_eq_false fun q => e (S_inj.mp q)]
theorem take_snoc {ds : List PyData} {i : Nat} {d : PyData} (h : ds[i]? = some d) : ds.take (i + 1) = ds.take i ++ [d] := by
  rw [List.take_add_one, h]; rfl
theorem sentD_int {ds : List PyData} (h : ∀ s ∈ ds, (sameB 5 s || kindB 5 s) = true) : ∀ d ∈ sentD ds, ∃ i : Int, d = .int i ∧ 0 ≤ i ∧ i < 5 := by
  intro d hd
  obtain ⟨s, hs, rfl⟩ := List.mem_map.mp hd
  obtain ⟨w, is, rfl, hl, _, _, hi⟩ := step_inv (h s ((List.mem_filter.mp hs).1))
  rcases is with _ | ⟨i, is⟩
  · simp at hl
  · exact ⟨i, rfl, hi i List.mem_cons_self⟩
theorem cameD_int {ds : List PyData} (h : ∀ s ∈ ds, (sameB 5 s || kindB 5 s) = true) : ∀ d ∈ cameD ds, ∃ i : Int, d = .int i ∧ 0 ≤ i ∧ i < 5 := by
  intro d hd
  obtain ⟨s, hs, rfl⟩ := List.mem_map.mp hd
  obtain ⟨w, is, rfl, hl, _, _, hi⟩ := step_inv (h s ((List.mem_filter.mp hs).1))
  rcases is with _ | ⟨i, _ | ⟨j, _ | ⟨k, is⟩⟩⟩
  · simp at hl
  · exact ⟨i, rfl, hi i List.mem_cons_self⟩
  · exact ⟨j, rfl, hi j (by simp)⟩
  · simp at hl
theorem toV_de {K : PySem.W.Frag} {H : Hp} : ∀ {ds : List PyData}, (∀ d ∈ ds, ∃ i : Int, d = .int i ∧ 0 ≤ i ∧ i < 5) → DeAll K H (ds.map toV) ds
  | [], _ => .nil
  | d :: ds, h => by
    obtain ⟨i, rfl, _⟩ := h d List.mem_cons_self
    exact .cons (.int i) (toV_de fun x hx => h x (List.mem_cons_of_mem _ hx))
theorem Same.upd_out {H1 H4 : Hp} {p : Addr} {o : HO} (s : Same H1 H4) (n : H1 p = none) : Same H1 (upd H4 p o) := fun b ob e => by
  have : b ≠ p := ne_of_none e n
  rw [L2.upd_ne this]
  exact s b ob e
theorem sentD_yes {ds : List PyData} {d : PyData} (h : wordIs tPut d = false) : sentD (ds ++ [d]) = sentD ds ++ [second d] := by
  unfold sentD; rw [List.filter_append, List.map_append, List.filter_cons_of_pos (by rw [h]; rfl)]; rfl
theorem sentD_no {ds : List PyData} {d : PyData} (h : wordIs tPut d = true) : sentD (ds ++ [d]) = sentD ds := by
  unfold sentD; rw [List.filter_append, List.filter_cons_of_neg (by rw [h]; simp), List.filter_nil, List.append_nil]
theorem cameD_yes {ds : List PyData} {d : PyData} (h : wordIs tLost d = false) : cameD (ds ++ [d]) = cameD ds ++ [lastD d] := by
  unfold cameD; rw [List.filter_append, List.map_append, List.filter_cons_of_pos (by rw [h]; rfl)]; rfl
theorem cameD_no {ds : List PyData} {d : PyData} (h : wordIs tLost d = true) : cameD (ds ++ [d]) = cameD ds := by
  unfold cameD; rw [List.filter_append, List.filter_cons_of_neg (by rw [h]; simp), List.filter_nil, List.append_nil]
theorem errN_yes {ds : List PyData} {d : PyData} (h : wordIs tSame d = false) : errN (ds ++ [d]) = errN ds + 1 := by
  unfold errN; rw [List.filter_append, List.length_append, List.filter_cons_of_pos (by rw [h]; rfl)]; rfl
theorem errN_no {ds : List PyData} {d : PyData} (h : wordIs tSame d = true) : errN (ds ++ [d]) = errN ds := by
  unfold errN; rw [List.filter_append, List.filter_cons_of_neg (by rw [h]; simp), List.filter_nil, List.append_nil]
theorem sentD_len (ds : List PyData) : (sentD ds).length ≤ ds.length := by
  unfold sentD; rw [List.length_map]; exact List.length_filter_le _ _
theorem cameD_len (ds : List PyData) : (cameD ds).length ≤ ds.length := by
  unfold cameD; rw [List.length_map]; exact List.length_filter_le _ _
theorem size_big {n : Nat} (h : n ≤ 900000) : n < sizeLine := Nat.lt_of_le_of_lt h (by decide)
/-- check_passing(passing, 5) -/
def spCkP (K : PySem.W.Frag) (C : Addr) : Sp := fun vs H Q E => ∃ x d n w, vs = [x, .int 5] ∧ De K H x d ∧ Sd n w d ∧ n ≤ 50 ∧ w ≤ 900000 ∧ PsOk d ∧ (passB 5 d = true → ∀ H', Same H H' → Q .non H') ∧
  (passB 5 d = false → ∀ dx H', H dx = none → Same H H' → H' dx = some (.xd [("given", x)]) → E (.ref C) (some dx) H')
def spTells (K : PySem.W.Frag) (C : Addr) (f : List PyData → List PyData) : Sp := fun vs H Q E => ∃ x d n w, vs = [x] ∧ De K H x d ∧ Sd n w d ∧ n ≤ 50 ∧ w ≤ 900000 ∧ PsOk d ∧ (passB 5 d = true → ∀ t H', Same H H' → H t = none → H' t = some (.tup ((f (partsOf d)).map toV)) → Q (.ref t) H') ∧
  (passB 5 d = false → ∀ dx H', H dx = none → Same H H' → H' dx = some (.xd [("given", x)]) → E (.ref C) (some dx) H')
def spErr (K : PySem.W.Frag) (C : Addr) : Sp := fun vs H Q E => ∃ x d n w, vs = [x] ∧ De K H x d ∧ Sd n w d ∧ n ≤ 50 ∧ w ≤ 900000 ∧ PsOk d ∧ (passB 5 d = true → ∀ H', Same H H' → Q (.int (errN (partsOf d) : Nat)) H') ∧
  (passB 5 d = false → ∀ dx H', H dx = none → Same H H' → H' dx = some (.xd [("given", x)]) → E (.ref C) (some dx) H')
section
variable {P : Program} {w : World} {K : PySem.W.Frag} {mg : Str → Option Value} {base : Heap} {f : Addr} {fd : FuncData}
theorem ok_ckP {C : Addr} (F : Fun K "check_passing" "check_passing" s_check_passing f fd) (xp : XQ "InvalidPassing" P w K mg base C) (c_is_passing : Cal P w K mg base "is_passing" ["value", "signs"] 5 (spPass K)) : FnOk P w K mg base (L2.CX P w) 6 f fd ["passing", "signs"] (spCkP K C) := by
  refine Sw.Fun.okX F sc_check_passing (fun vs H Q E h => ?_) (fun cdv A outer s H vs Q E hr h tk => ?_)
  · obtain ⟨x, d, n, w, rfl, _⟩ := h; rfl
  · obtain ⟨x, d, n, w, rfl, hx, sx, hn, hw, ok, k1, k2⟩ := h
    refine ⟨_, (pss_one (ps_if (pt_not (pt_val (pe_cal c_is_passing hr (pa_cons (pv 0) (pa_cons (pv 1) pa_nil)))))
        (pss_one (ps_rs rfl tk (pmk_Q xp hr (pv 0))))
        pss_nil)), ?_⟩
    walk_at "rd"
    refine ⟨x, .int 5, d, .int 5, n, w, rfl, hx, sx, hn, hw, ok, .int 5, fun H1 s1 => ?_⟩
    rw [show onG (.int 5) (fun m => passB m d) = passB 5 d from rfl]
    walk_at "rd"
    refine iteNC (fun e => ?_) (fun e => ?_)
    · walk_at "rd"
      refine i_thrown xp.T xp.no (fun dx nx => ?_)
      exact k2 e dx _ (s1.free nx) (s1.trans (same_upd nx)) upd_same
    · walk_at "rd"
      exact k1 e _ s1
theorem ok_sent {C : Addr} {t5 : Tok} (F : Fun K "sent" "sent" s_sent f fd) (z : Z mg) (g_MOST_SIGNS : mg "MOST_SIGNS" = some (.int 5 t5)) (x_check_passing : CalX P w K mg base "check_passing" ["passing", "signs"] 6 (spCkP K C)) : FnOk P w K mg base (L2.CX P w) 7 f fd ["passing"] (spTells K C sentD) := by
  refine Sw.Fun.okX F sc_sent (fun vs H Q E h => ?_) (fun cdv A outer s H vs Q E hr h tk => ?_)
  · obtain ⟨x, d, n, w, rfl, _⟩ := h; rfl
  · obtain ⟨x, d, n, w, rfl, hx, sx, hn, hw, ok, k1, k2⟩ := h
    refine ⟨_, (pss_cons (ps_expr (pe_calX x_check_passing hr tk (pa_cons (pv 0) (pa_cons (pe_glob (v := .int 5) rfl g_MOST_SIGNS ⟨_, rfl⟩) pa_nil))))
      (pss_one (ps_ret (pe_callTy call_tuple_of (by rfl) z.tuple (by decide +kernel) (pa_cons (pe_lc (own := [("step", 1)]) (g := gName 1) (tt := _) rfl sc_sent.nd (pi_tup (pv 0)) (blkOk_by (own := [("step", 1)]) (N := n_sent) (sc := defScope s_sent) (by decide +kernel)) (fun _ _ _ _ _ => (pg_name (i := 1) sc_sent.nd rfl (.inl rfl))) (fun _ _ _ _ _ => (pts_one (pt_cmpR op_ne (pe_ix (r := rIxT K) ix_tup (pv 1) pe_int (fun _ _ => rfl)) (pe_strS (l := [112, 117, 116]) (by decide +kernel)) (nomark _)))) (fun _ _ _ _ _ => (pe_ix (r := rIxT K) ix_tup (pv 1) pe_int (fun _ _ => rfl)))) pa_nil))))), ?_⟩
    walk_at "rd"
    refine ⟨x, d, n, w, rfl, hx, sx, hn, hw, ok, fun e H1 s1 => ?_, fun e dx H1 nx s1 ed => k2 e dx H1 nx s1 ed⟩
    obtain ⟨ds, rfl, good⟩ := passB_inv e
    obtain ⟨a, xs, rfl, ha, hxs⟩ := hx.tupI
    have ha1 := Same.sqT s1 ha
    have hxs1 := hxs.same s1
    have lx := hxs.len
    have ld := pass_len sx.tupI'
    walk_at "rd"
    refine ⟨⟨_, ha1⟩, ?_⟩
    refine go_lc (walk_tup (xs := xs)) (fun p i H2 => H2 p = some (.lst ((sentD (ds.take i)).map toV)) ∧ Same H1 H2)
      (fun p np => ⟨upd_same, same_upd np⟩) (fun p i H2 hi q => Same.sqT q.2 ha1) (fun p np i v H2 H3 hi q y => ?_) (fun p H2 np q => ?_)
    · obtain ⟨ep, s2⟩ := q
      obtain ⟨rfl, hv⟩ := y
      obtain ⟨dj, gj, dv⟩ := hxs1.get hv
      obtain ⟨w1, is, rfl, hl, hw1, hl1, hi1⟩ := step_inv (good _ (List.mem_of_getElem? gj))
      obtain ⟨a2, rfl, e2⟩ := step_at (dv.same s2)
      obtain ⟨i0, is, rfl⟩ : ∃ i0 is', is = i0 :: is' := by
        rcases is with _ | ⟨i0, is⟩
        · simp at hl
        · exact ⟨_, _, rfl⟩
      have tk1 := take_snoc gj
      have lt1 : (ds.take i).length ≤ ds.length := by rw [List.length_take]; omega
      walk_at "rd"
      refine ⟨rfl, ?_⟩
      walk_at "rd"
      refine i_ixTn (k := 0) e2 rfl ?_
      walk_at "rd"
      refine iteNB (fun q => ?_) (fun q => ?_)
      · have wf : wordIs tPut (.tuple (.str (S w1) :: (i0 :: is).map .int)) = false := by rw [wordIs_str, decide_eq_false q]
        walk_at "rd"
        refine i_ixTn (k := 1) e2 rfl ?_
        refine ⟨_, ep, size_big (by rw [List.length_map]; have := sentD_len (ds.take i); omega), ?_, Same.upd_out s2 np⟩
        rw [upd_same, tk1, sentD_yes wf, List.map_append]; rfl
      · have wt : wordIs tPut (.tuple (.str (S w1) :: (i0 :: is).map .int)) = true := by rw [wordIs_str, decide_eq_true q]
        rw [tk1, sentD_no wt]
        exact ⟨ep, s2⟩
    · obtain ⟨ep, s2⟩ := q
      rw [lx, List.take_length] at ep
      walk_at "rd"
      refine ⟨p, _, rfl, .inl ⟨sqL_of ep, fun t nt => ?_⟩⟩
      exact k1 e t _ ((s1.trans s2).trans (same_upd nt)) ((s1.trans s2).free nt) upd_same
theorem ok_came {C : Addr} {t5 : Tok} (F : Fun K "came" "came" s_came f fd) (z : Z mg) (g_MOST_SIGNS : mg "MOST_SIGNS" = some (.int 5 t5)) (x_check_passing : CalX P w K mg base "check_passing" ["passing", "signs"] 6 (spCkP K C)) : FnOk P w K mg base (L2.CX P w) 7 f fd ["passing"] (spTells K C cameD) := by
  refine Sw.Fun.okX F sc_came (fun vs H Q E h => ?_) (fun cdv A outer s H vs Q E hr h tk => ?_)
  · obtain ⟨x, d, n, w, rfl, _⟩ := h; rfl
  · obtain ⟨x, d, n, w, rfl, hx, sx, hn, hw, ok, k1, k2⟩ := h
    refine ⟨_, (pss_cons (ps_expr (pe_calX x_check_passing hr tk (pa_cons (pv 0) (pa_cons (pe_glob (v := .int 5) rfl g_MOST_SIGNS ⟨_, rfl⟩) pa_nil))))
      (pss_one (ps_ret (pe_callTy call_tuple_of (by rfl) z.tuple (by decide +kernel) (pa_cons (pe_lc (own := [("step", 1)]) (g := gName 1) (tt := _) rfl sc_came.nd (pi_tup (pv 0)) (blkOk_by (own := [("step", 1)]) (N := n_came) (sc := defScope s_came) (by decide +kernel)) (fun _ _ _ _ _ => (pg_name (i := 1) sc_came.nd rfl (.inl rfl))) (fun _ _ _ _ _ => (pts_one (pt_cmpR op_ne (pe_ix (r := rIxT K) ix_tup (pv 1) pe_int (fun _ _ => rfl)) (pe_strS (l := [108, 111, 115, 116]) (by decide +kernel)) (nomark _)))) (fun _ _ _ _ _ => (pe_ix (r := rIxT K) ix_tup (pv 1) (pe_un un_neg pe_int) (fun _ _ => rfl)))) pa_nil))))), ?_⟩
    walk_at "rd"
    refine ⟨x, d, n, w, rfl, hx, sx, hn, hw, ok, fun e H1 s1 => ?_, fun e dx H1 nx s1 ed => k2 e dx H1 nx s1 ed⟩
    obtain ⟨ds, rfl, good⟩ := passB_inv e
    obtain ⟨a, xs, rfl, ha, hxs⟩ := hx.tupI
    have ha1 := Same.sqT s1 ha
    have hxs1 := hxs.same s1
    have lx := hxs.len
    have ld := pass_len sx.tupI'
    walk_at "rd"
    refine ⟨⟨_, ha1⟩, ?_⟩
    refine go_lc (walk_tup (xs := xs)) (fun p i H2 => H2 p = some (.lst ((cameD (ds.take i)).map toV)) ∧ Same H1 H2)
      (fun p np => ⟨upd_same, same_upd np⟩) (fun p i H2 hi q => Same.sqT q.2 ha1) (fun p np i v H2 H3 hi q y => ?_) (fun p H2 np q => ?_)
    · obtain ⟨ep, s2⟩ := q
      obtain ⟨rfl, hv⟩ := y
      obtain ⟨dj, gj, dv⟩ := hxs1.get hv
      obtain ⟨w1, is, rfl, hl, hw1, hl1, hi1⟩ := step_inv (good _ (List.mem_of_getElem? gj))
      obtain ⟨a2, rfl, e2⟩ := step_at (dv.same s2)
      obtain ⟨i0, is, rfl⟩ : ∃ i0 is', is = i0 :: is' := by
        rcases is with _ | ⟨i0, is⟩
        · simp at hl
        · exact ⟨_, _, rfl⟩
      have tk1 := take_snoc gj
      have lt1 : (ds.take i).length ≤ ds.length := by rw [List.length_take]; omega
      walk_at "rd"
      refine ⟨rfl, ?_⟩
      walk_at "rd"
      refine i_ixTn (k := 0) e2 rfl ?_
      walk_at "rd"
      refine iteNB (fun q => ?_) (fun q => ?_)
      · have wf : wordIs tLost (.tuple (.str (S w1) :: (i0 :: is).map .int)) = false := by rw [wordIs_str, decide_eq_false q]
        walk_at "rd"
        refine i_rU ?_
        refine i_ixT e2 (v := toV (lastD (.tuple (.str (S w1) :: (i0 :: is).map .int)))) (by
          rcases is with _ | ⟨j, _ | ⟨k, is⟩⟩
          · rfl
          · rfl
          · simp at hl) ?_
        refine ⟨_, ep, size_big (by rw [List.length_map]; have := cameD_len (ds.take i); omega), ?_, Same.upd_out s2 np⟩
        rw [upd_same, tk1, cameD_yes wf, List.map_append]; rfl
      · have wt : wordIs tLost (.tuple (.str (S w1) :: (i0 :: is).map .int)) = true := by rw [wordIs_str, decide_eq_true q]
        rw [tk1, cameD_no wt]
        exact ⟨ep, s2⟩
    · obtain ⟨ep, s2⟩ := q
      rw [lx, List.take_length] at ep
      walk_at "rd"
      refine ⟨p, _, rfl, .inl ⟨sqL_of ep, fun t nt => ?_⟩⟩
      exact k1 e t _ ((s1.trans s2).trans (same_upd nt)) ((s1.trans s2).free nt) upd_same
theorem ok_errors_in {C : Addr} {t5 : Tok} (F : Fun K "errors_in" "errors_in" s_errors_in f fd) (z : Z mg) (g_MOST_SIGNS : mg "MOST_SIGNS" = some (.int 5 t5)) (x_check_passing : CalX P w K mg base "check_passing" ["passing", "signs"] 6 (spCkP K C)) : FnOk P w K mg base (L2.CX P w) 7 f fd ["passing"] (spErr K C) := by
  refine Sw.Fun.okX F sc_errors_in (fun vs H Q E h => ?_) (fun cdv A outer s H vs Q E hr h tk => ?_)
  · obtain ⟨x, d, n, w, rfl, _⟩ := h; rfl
  · obtain ⟨x, d, n, w, rfl, hx, sx, hn, hw, ok, k1, k2⟩ := h
    refine ⟨_, (pss_cons (ps_expr (pe_calX x_check_passing hr tk (pa_cons (pv 0) (pa_cons (pe_glob (v := .int 5) rfl g_MOST_SIGNS ⟨_, rfl⟩) pa_nil))))
      (pss_one (ps_ret (pe_callB call_lenQ (by rfl) z.len PySem.boot_len (pa_cons (pe_lc (own := [("step", 1)]) (g := gName 1) (tt := _) rfl sc_errors_in.nd (pi_tup (pv 0)) (blkOk_by (own := [("step", 1)]) (N := n_errors_in) (sc := defScope s_errors_in) (by decide +kernel)) (fun _ _ _ _ _ => (pg_name (i := 1) sc_errors_in.nd rfl (.inl rfl))) (fun _ _ _ _ _ => (pts_one (pt_cmpR op_ne (pe_ix (r := rIxT K) ix_tup (pv 1) pe_int (fun _ _ => rfl)) (pe_strS (l := [115, 97, 109, 101]) (by decide +kernel)) (nomark _)))) (fun _ _ _ _ _ => (pv 1))) pa_nil))))), ?_⟩
    walk_at "rd"
    refine ⟨x, d, n, w, rfl, hx, sx, hn, hw, ok, fun e H1 s1 => ?_, fun e dx H1 nx s1 ed => k2 e dx H1 nx s1 ed⟩
    obtain ⟨ds, rfl, good⟩ := passB_inv e
    obtain ⟨a, xs, rfl, ha, hxs⟩ := hx.tupI
    have ha1 := Same.sqT s1 ha
    have hxs1 := hxs.same s1
    have lx := hxs.len
    have ld := pass_len sx.tupI'
    walk_at "rd"
    refine ⟨⟨_, ha1⟩, ?_⟩
    refine go_lc (walk_tup (xs := xs)) (fun p i H2 => ∃ acc : List V, H2 p = some (.lst acc) ∧ acc.length = errN (ds.take i) ∧ Same H1 H2)
      (fun p np => ⟨[], upd_same, rfl, same_upd np⟩) (fun p i H2 hi q => (by obtain ⟨_, _, _, s⟩ := q; exact Same.sqT s ha1)) (fun p np i v H2 H3 hi q y => ?_) (fun p H2 np q => ?_)
    · obtain ⟨acc, ep, la, s2⟩ := q
      obtain ⟨rfl, hv⟩ := y
      obtain ⟨dj, gj, dv⟩ := hxs1.get hv
      obtain ⟨w1, is, rfl, hl, hw1, hl1, hi1⟩ := step_inv (good _ (List.mem_of_getElem? gj))
      obtain ⟨a2, rfl, e2⟩ := step_at (dv.same s2)
      obtain ⟨i0, is, rfl⟩ : ∃ i0 is', is = i0 :: is' := by
        rcases is with _ | ⟨i0, is⟩
        · simp at hl
        · exact ⟨_, _, rfl⟩
      have tk1 := take_snoc gj
      have lt1 : (ds.take i).length ≤ ds.length := by rw [List.length_take]; omega
      walk_at "rd"
      refine ⟨rfl, ?_⟩
      walk_at "rd"
      refine i_ixTn (k := 0) e2 rfl ?_
      walk_at "rd"
      refine iteNB (fun q => ?_) (fun q => ?_)
      · have wf : wordIs tSame (.tuple (.str (S w1) :: (i0 :: is).map .int)) = false := by rw [wordIs_str, decide_eq_false q]
        walk_at "rd"
        refine ⟨acc, ep, size_big (by have := List.length_filter_le (fun s => !wordIs tSame s) (ds.take i); unfold errN at la; omega), acc ++ [.ref a2], upd_same, ?_, Same.upd_out s2 np⟩
        rw [List.length_append, tk1, errN_yes wf, la]; rfl
      · have wt : wordIs tSame (.tuple (.str (S w1) :: (i0 :: is).map .int)) = true := by rw [wordIs_str, decide_eq_true q]
        rw [tk1, errN_no wt]
        exact ⟨acc, ep, la, s2⟩
    · obtain ⟨acc, ep, la, s2⟩ := q
      rw [lx, List.take_length] at la
      walk_at "rd"
      rw [la]
      exact k1 e _ (s1.trans s2)
end
end Sw
namespace Sw
open PySem PySem.Spec PyProof.Rows L2
local macro_rules | `(tactic| walk_at "hp") => `(tactic| first
  | (with_reducible assumption) | (with_reducible exact upd_same)
  | ((with_reducible refine' upd_old ?q1 ?q2); (case q1 => (with_reducible assumption)); (case q2 => walk_at "hp"))
  | ((with_reducible refine' Same.at ?q1 ?q2); (case q1 => (with_reducible assumption)); (case q2 => walk_at "hp"))
  | ((with_reducible refine' upd_skip ?q1 ?q2); (case q1 => walk_at "ne"); (case q2 => walk_at "hp"))
  | fail)
local macro_rules | `(tactic| walk_at "ne") => `(tactic| first
  | (with_reducible assumption) | (with_reducible exact Ne.symm (by assumption))
  | ((with_reducible refine' ne_of_none ?q1 ?q2); (case q2 => (with_reducible assumption)); (case q1 => walk_at "hp"))
  | fail)
local macro_rules | `(tactic| walk_at "ci") => `(tactic| first | assumption | (show (0 : Int) < _; first | decide | (with_reducible omega)) | exact ⟨by decide, by decide⟩ | exact .inl ⟨by decide, by decide⟩ | exact .inr ⟨by decide, by decide⟩)
local macro_rules | `(tactic| walk_at "ln") => `(tactic| first | (with_reducible assumption) | (with_reducible omega) | (simp only [List.length_append, List.length_take, List.length_drop, List.length_reverse, List.length_cons, List.length_nil]; with_reducible omega))
local macro_rules | `(tactic| walk_at "rd1") => `(tactic| first
  | (with_reducible refine i_seq ?_) | (with_reducible refine i_asg ?_) | (with_reducible refine i_ret ?_) | (with_reducible refine i_name ?_) | ((with_reducible refine' i_var ?q1 ?_); (case q1 => exact rfl)) | (with_reducible refine i_c ?_) | (with_reducible refine i_op ?_) | (with_reducible refine i_un ?_)
  | (with_reducible refine i_rI0 ?_) | (with_reducible refine i_cb ?_) | (with_reducible refine i_cons ?_) | (with_reducible refine i_nil ?_) | (with_reducible refine i_call ?_) | (with_reducible refine i_if ?_) | (with_reducible refine i_ifE ?_) | (with_reducible refine i_test ?_) | (with_reducible refine i_bl ?_)
  | (with_reducible refine i_and ?_) | (with_reducible refine i_or ?_) | (with_reducible refine i_not ?_) | (with_reducible refine i_lst ?_) | (with_reducible refine i_tup ?_) | (with_reducible refine i_next ?_) | (with_reducible refine i_drop ?_) | (with_reducible refine i_sub ?_)
  | (with_reducible refine i_bm ?_) | (with_reducible refine i_sl ?_) | (with_reducible refine i_part ?_) | (with_reducible refine i_nopart ?_) | (with_reducible refine i_exI ?_) | (with_reducible refine i_chain ?_) | ((with_reducible refine' i_aug ?q1 ?_); (case q1 => exact rfl)) | (with_reducible refine i_ip ?_)
  | (with_reducible refine i_par ?_) | (with_reducible refine i_pair ?_) | (with_reducible refine i_andV ?_) | (with_reducible refine i_orV ?_) | (with_reducible refine i_notV ?_) | (with_reducible refine i_m1 ?_) | (with_reducible refine i_str ?_)
  | (with_reducible refine iteF ?_) | (with_reducible refine iteT ?_) | (with_reducible refine iteNT ?_) | (with_reducible refine iteNF ?_) | (with_reducible refine i_tyS ?_) | (with_reducible refine i_tB ?_) | (with_reducible refine i_retN ?_) | (with_reducible refine i_par3 ?_) | (with_reducible refine i_trip ?_) | (with_reducible refine i_gCons ?_) | (with_reducible refine i_gNil ?_) | (with_reducible refine i_lstRg ?_) | (with_reducible refine i_rg1 ?_)
  | (with_reducible refine i_lc ?_) | (with_reducible refine i_for ?_) | (with_reducible refine i_iList ?_) | (with_reducible refine i_iTup ?_) | (with_reducible refine i_iStr ?_) | (with_reducible refine i_iRng1 ?_) | (with_reducible refine i_iEnS ?_)
  | ((with_reducible refine' i_ixTH ?q1 ?q2 ?_); (case q1 => walk_at "hp"); (case q2 => exact rfl))
  | ((with_reducible refine' i_ixLH ?q1 ?q2 ?_); (case q1 => walk_at "hp"); (case q2 => exact rfl))
  | ((with_reducible refine i_addS ?q1 ?_); (case q1 => walk_at "ln")) | ((with_reducible refine i_lenSS ?q1 ?_); (case q1 => walk_at "ln")) | ((with_reducible refine i_slFrom ?q1 ?q2 ?_); (case q1 => walk_at "ln"); (case q2 => walk_at "ln")) | ((with_reducible refine i_slTo ?q1 ?q2 ?_); (case q1 => walk_at "ln"); (case q2 => walk_at "ln"))
  | ((with_reducible refine' i_tyL ?q1 ?_); (case q1 => walk_at "hp"))
  | ((with_reducible refine' i_gTupH ?q1 ?q2 ?_); (case q1 => walk_at "hp"); (case q2 => exact rfl))
  | (with_reducible refine i_dnew ?_) | (with_reducible refine i_init ?_) | (with_reducible refine i_fst ?_) | (with_reducible refine i_mk ?_) | (with_reducible refine i_raise ?_) | (with_reducible refine i_callS ?_) | (with_reducible refine i_kwS ?_)
  | (with_reducible refine i_revT ?_) | (with_reducible refine i_kw ?_) | ((with_reducible refine' ⟨_, _, rfl, sqT_of ?q1, ?_⟩); (case q1 => walk_at "hp"))
  | (with_reducible refine i_revS ?_) | ((with_reducible refine i_revSS ?q1 ?_); (case q1 => walk_at "ln"))
  | (with_reducible refine i_startS ?_) | (with_reducible refine i_inSg ?_) | (with_reducible refine i_absN ?_) | (with_reducible refine i_min2 ?_) | (with_reducible refine i_max2 ?_) | (with_reducible refine i_min3 ?_) | (with_reducible refine i_intN ?_) | (with_reducible refine i_intNB ?_)
  | ((with_reducible refine' i_lenL ?q1 ?_); (case q1 => walk_at "hp")) | ((with_reducible refine' i_lenT ?q1 ?_); (case q1 => walk_at "hp"))
  | (with_reducible refine i_eqI ?_) | (with_reducible refine i_neI ?_) | (with_reducible refine i_eqS ?_) | (with_reducible refine i_neS ?_) | (with_reducible refine i_isNoI ?_) | (with_reducible refine i_isNoN ?_) | (with_reducible refine i_isNoR ?_)
  | ((with_reducible refine i_pow ?q1 ?q2 ?q3 ?_); (case q1 => decide); (case q2 => decide); (case q3 => (with_reducible omega)))
  | ((with_reducible refine i_rI ?q1 ?_); (case q1 => walk_at "ci"))
  | (with_reducible refine Or.inl ⟨_, rfl, ?_⟩) | (with_reducible refine Or.inr ⟨_, rfl, ?_⟩) | (with_reducible refine ⟨_, rfl, ?_⟩) | (with_reducible refine ⟨_, _, rfl, ?_⟩) | (with_reducible refine ⟨_, _, rfl, rfl, ?_⟩)
  | ((with_reducible refine' ⟨_, _, rfl, Or.inl (sqL_of ?q1), ?_⟩); (case q1 => walk_at "hp")) | ((with_reducible refine' ⟨_, _, rfl, Or.inr (sqT_of ?q1), ?_⟩); (case q1 => walk_at "hp")) | fail)
local macro_rules | `(tactic| walk_at "rd") => `(tactic| repeat' walk_at "rd1")

/-! ### all kinds -/
def oneD (w : List Nat) (a : Nat) : PyData := .tuple [.str (S w), .int (a : Nat)]
def turnD (a b : Nat) : PyData := .tuple [.str (S tTurned), .int (a : Nat), .int (b : Nat)]
def turnsD (n a : Nat) : List PyData := ((List.range n).filter fun b => !decide (a = b)).map (turnD a)
def kindsD (n : Nat) : List PyData := (List.range n).map (oneD tLost) ++ (List.range n).map (oneD tPut) ++ ((List.range n).map (turnsD n)).flatten
theorem noL_one (w : List Nat) (n : Nat) : noLAll ((List.range n).map (oneD w)) = true := by
  rw [noLAll_iff]
  intro d hd
  obtain ⟨a, _, rfl⟩ := List.mem_map.mp hd
  rfl
theorem noL_turns (n a : Nat) : noLAll (turnsD n a) = true := by
  rw [noLAll_iff]
  intro d hd
  obtain ⟨b, _, rfl⟩ := List.mem_map.mp hd
  rfl
theorem noL_flat (n : Nat) (l : List Nat) : noLAll ((l.map (turnsD n)).flatten) = true := by
  rw [noLAll_iff]
  intro d hd
  obtain ⟨ds, h1, h2⟩ := List.mem_flatten.mp hd
  obtain ⟨a, _, rfl⟩ := List.mem_map.mp h1
  exact noLAll_iff.mp (noL_turns n a) d h2
theorem noLAll_app {a b : List PyData} (h1 : noLAll a = true) (h2 : noLAll b = true) : noLAll (a ++ b) = true := by
  rw [noLAll_iff] at *
  intro d hd
  exact (List.mem_append.mp hd).elim (h1 d) (h2 d)
/-- the first j numbers, a left out -/
def turnsTo (a j : Nat) : List PyData := ((List.range j).filter fun b => !decide (a = b)).map (turnD a)
theorem noL_turnsTo (a j : Nat) : noLAll (turnsTo a j) = true := by
  rw [noLAll_iff]
  intro d hd
  obtain ⟨b, _, rfl⟩ := List.mem_map.mp hd
  rfl
theorem turnsTo_len (a j : Nat) : (turnsTo a j).length ≤ j := by
  unfold turnsTo
  rw [List.length_map]
  exact Nat.le_trans (List.length_filter_le _ _) (by rw [List.length_range]; exact Nat.le_refl _)
theorem flat_len (n : Nat) : ∀ l : List Nat, ((l.map (turnsD n)).flatten).length ≤ l.length * n
  | [] => by simp
  | a :: l => by
    rw [List.map_cons, List.flatten_cons, List.length_append, List.length_cons, Nat.succ_mul]
    have := flat_len n l
    have h2 : (turnsD n a).length ≤ n := turnsTo_len a n
    generalize (turnsD n a).length = x at *
    generalize ((l.map (turnsD n)).flatten).length = y at *
    omega
/-- all_kinds(signs) -/
def spAll (K : PySem.W.Frag) (C : Addr) : Sp := fun vs H Q E => ∃ x e, vs = [x] ∧ De K H x e ∧ (∀ n : Nat, e = .int (n : Int) → 1 ≤ n → n ≤ 5 → ∀ q ws H', Same H H' → H q = none → H' q = some (.lst ws) → DeAll K H' ws (kindsD n) → Q (.ref q) H') ∧
  (isG e = false → ∀ dx H', H dx = none → Same H H' → H' dx = some (.xd [("given", x)]) → E (.ref C) (some dx) H')
def spCkS (K : PySem.W.Frag) (C : Addr) : Sp := fun vs H Q E => ∃ x e, vs = [x] ∧ De K H x e ∧ (isG e = true → ∀ H', Same H H' → Q .non H') ∧
  (isG e = false → ∀ dx H', H dx = none → Same H H' → H' dx = some (.xd [("given", x)]) → E (.ref C) (some dx) H')
section
variable {P : Program} {w : World} {K : PySem.W.Frag} {mg : Str → Option Value} {base : Heap} {f : Addr} {fd : FuncData}
theorem ok_ckS {C : Addr} (F : Fun K "check_signs" "check_signs" s_check_signs f fd) (xs : XQ "InvalidSigns" P w K mg base C) (c_is_signs : Cal P w K mg base "is_signs" ["value"] 2 (spSg K)) : FnOk P w K mg base (L2.CX P w) 3 f fd ["signs"] (spCkS K C) := by
  refine Sw.Fun.okX F sc_check_signs (fun vs H Q E h => ?_) (fun cdv A outer s H vs Q E hr h tk => ?_)
  · obtain ⟨x, d, rfl, _⟩ := h; rfl
  · obtain ⟨x, d, rfl, hx, k1, k2⟩ := h
    refine ⟨_, (pss_one (ps_if (pt_not (pt_val (pe_cal c_is_signs hr (pa_cons (pv 0) pa_nil))))
        (pss_one (ps_rs rfl tk (pmk_Q xs hr (pv 0))))
        pss_nil)), ?_⟩
    walk_at "rd"
    refine ⟨x, d, rfl, hx, ?_⟩
    walk_at "rd"
    refine iteNC (fun e => ?_) (fun e => ?_)
    · walk_at "rd"
      refine i_thrown xs.T xs.no (fun dx nx => ?_)
      exact k2 e dx _ nx (same_upd nx) upd_same
    · walk_at "rd"
      exact k1 e _ (Same.refl _)
theorem ok_all {C : Addr} (F : Fun K "all_kinds" "all_kinds" s_all_kinds f fd) (z : Z mg) (x_check_signs : CalX P w K mg base "check_signs" ["signs"] 3 (spCkS K C)) : FnOk P w K mg base (L2.CX P w) 4 f fd ["signs"] (spAll K C) := by
  refine Sw.Fun.okX F sc_all_kinds (fun vs H Q E h => ?_) (fun cdv A outer s H vs Q E hr h tk => ?_)
  · obtain ⟨x, d, rfl, _⟩ := h; rfl
  · obtain ⟨x, d, rfl, hx, k1, k2⟩ := h
    refine ⟨_, (pss_cons (ps_expr (pe_calX x_check_signs hr tk (pa_cons (pv 0) pa_nil)))
      (pss_cons (ps_setLc (i := 1) (own := [("a", 2)]) (g := gName 2) (tt := tYes) rfl sc_all_kinds.nd rfl rfl (sw_true rfl rfl rfl (by decide +kernel)) (pi_range1 (by rfl) z.range (pa_cons (pv 0) pa_nil)) (blkOk_by (own := [("a", 2)]) (N := n_all_kinds) (sc := defScope s_all_kinds) (by decide +kernel)) (fun _ _ _ _ _ => (pg_name (i := 2) sc_all_kinds.nd rfl (.inl rfl))) (fun _ _ _ _ _ => pts_nil) (fun _ _ _ _ _ => (pe_tup (pa_cons (pe_strS (l := [108, 111, 115, 116]) (by decide +kernel)) (pa_cons (pv 2) pa_nil)))))
      (pss_cons (ps_setLc (i := 3) (own := [("b", 4)]) (g := gName 4) (tt := tYes) rfl sc_all_kinds.nd rfl rfl (sw_true rfl rfl rfl (by decide +kernel)) (pi_range1 (by rfl) z.range (pa_cons (pv 0) pa_nil)) (blkOk_by (own := [("b", 4)]) (N := n_all_kinds) (sc := defScope s_all_kinds) (by decide +kernel)) (fun _ _ _ _ _ => (pg_name (i := 4) sc_all_kinds.nd rfl (.inl rfl))) (fun _ _ _ _ _ => pts_nil) (fun _ _ _ _ _ => (pe_tup (pa_cons (pe_strS (l := [112, 117, 116]) (by decide +kernel)) (pa_cons (pv 4) pa_nil)))))
      (pss_one (ps_ret (pe_op op_cat (pe_op op_cat (pv 1) (pv 3)) (pe_lc2 (own := [("a", 2), ("b", 4)]) (vs1 := [4]) (g := gName 2) (g1 := gName 4) (tt := tYes) (tt1 := _) rfl sc_all_kinds.nd (pi_range1 (by rfl) z.range (pa_cons (pv 0) pa_nil)) (blkOk_by (own := [("a", 2), ("b", 4)]) (N := n_all_kinds) (sc := defScope s_all_kinds) (by decide +kernel)) (by decide) (fun _ _ _ _ _ => (pg_name (i := 2) sc_all_kinds.nd rfl (.inl rfl))) (fun _ _ _ _ _ => pts_nil) (fun _ _ _ _ _ => (pi_range1 (by rfl) z.range (pa_cons (pv 0) pa_nil))) (fun _ _ _ _ _ => (pg_name (i := 4) sc_all_kinds.nd rfl (.inl rfl))) (fun _ _ _ _ _ => (pts_one (pt_cmpR op_ne (pv 2) (pv 4) (nomark _)))) (fun _ _ _ _ _ => (pe_tup (pa_cons (pe_strS (l := [116, 117, 114, 110, 101, 100]) (by decide +kernel)) (pa_cons (pv 2) (pa_cons (pv 4) pa_nil)))))))))))), ?_⟩
    walk_at "rd"
    refine ⟨x, d, rfl, hx, fun e H1 s1 => ?_, fun e dx H1 nx s1 ed => k2 e dx H1 nx s1 ed⟩
    obtain ⟨i, rfl, rfl⟩ := hx.intB (by cases d <;> first | rfl | cases e)
    simp only [isG, Bool.and_eq_true] at e
    obtain ⟨n, rfl⟩ : ∃ n : Nat, i = n := ⟨i.toNat, by have := of_decide_eq_true e.1; omega⟩
    have n1 := of_decide_eq_true e.1
    have n5 := of_decide_eq_true e.2
    walk_at "rd"
    refine i_rng (by omega) (by omega) ?_
    refine go_lc walk_rangeZ (fun p i H2 => ∃ ws : List V, H2 p = some (.lst ws) ∧ DeAll K H2 ws ((List.range i).map (oneD tLost)) ∧ Same H1 H2)
      (fun p np => ⟨[], upd_same, .nil, same_upd np⟩) (fun _ _ _ _ _ => trivial) (fun p np i v H2 H3 hi q y => ?_) (fun p1 H5 np1 q => ?_)
    · obtain ⟨ws, ep, dw, s2⟩ := q
      obtain ⟨rfl, rfl⟩ := y
      have lw := dw.len
      rw [List.length_map, List.length_range] at lw
      walk_at "rd"
      refine ⟨rfl, i_yes (iteT ?_)⟩
      walk_at "rd"
      refine ⟨Nat.le_of_ble_eq_true rfl, fun t nt => ?_⟩
      refine ⟨ws, upd_old nt ep, size_big (by omega), ws ++ [.ref t], upd_same, ?_, Same.upd_out (s2.trans (same_upd nt)) np⟩
      rw [List.range_succ, List.map_append]
      exact push_de ep dw (noL_one _ _) nt (.tup (sqT_of upd_same) (.cons (.str _) (.cons (.int _) .nil))) rfl
    obtain ⟨w1, e1, d1, s5⟩ := q
    rw [Int.toNat_natCast] at d1
    walk_at "rd"
    refine i_rng (by omega) (by omega) ?_
    refine go_lc walk_rangeZ (fun p i H2 => ∃ ws : List V, H2 p = some (.lst ws) ∧ DeAll K H2 ws ((List.range i).map (oneD tPut)) ∧ Same H5 H2)
      (fun p np => ⟨[], upd_same, .nil, same_upd np⟩) (fun _ _ _ _ _ => trivial) (fun p np i v H2 H3 hi q y => ?_) (fun p2 H6 np2 q => ?_)
    · obtain ⟨ws, ep, dw, s2⟩ := q
      obtain ⟨rfl, rfl⟩ := y
      have lw := dw.len
      rw [List.length_map, List.length_range] at lw
      walk_at "rd"
      refine ⟨rfl, i_yes (iteT ?_)⟩
      walk_at "rd"
      refine ⟨Nat.le_of_ble_eq_true rfl, fun t nt => ?_⟩
      refine ⟨ws, upd_old nt ep, size_big (by omega), ws ++ [.ref t], upd_same, ?_, Same.upd_out (s2.trans (same_upd nt)) np⟩
      rw [List.range_succ, List.map_append]
      exact push_de ep dw (noL_one _ _) nt (.tup (sqT_of upd_same) (.cons (.str _) (.cons (.int _) .nil))) rfl
    obtain ⟨w2, e2, d2, s6⟩ := q
    rw [Int.toNat_natCast] at d2
    have e16 := s6 _ _ e1
    have d16 := d1.same s6
    have l1 := d1.len
    have l2 := d2.len
    rw [List.length_map, List.length_range] at l1 l2
    walk_at "rd"
    refine ⟨p1, p2, w1, w2, rfl, rfl, e16, e2, ?_, fun p3 n3 => ?_⟩
    · exact Nat.le_of_lt (size_big (by omega))
    have s7 := same_upd (o := .lst (w1 ++ w2)) n3
    have e7 := upd_same (H := H6) (a := p3) (o := .lst (w1 ++ w2))
    have d7 := (d16.app d2).same s7
    generalize upd H6 p3 (.lst (w1 ++ w2)) = H7 at *
    refine i_lc2 ?_
    walk_at "rd"
    refine i_rng (by omega) (by omega) ?_
    refine go_lc2 walk_rangeZ (fun p i H8 => ∃ ws : List V, H8 p = some (.lst ws) ∧ DeAll K H8 ws (((List.range i).map (turnsD n)).flatten) ∧ Same H7 H8)
      (fun p np => ⟨[], upd_same, .nil, same_upd np⟩) (fun _ _ _ _ _ => trivial) (fun p np i v H8 H9 hi q y => ?_) (fun p8 H8 np8 q => ?_) (fun σ2 H3 R R' h q => ?_) mono_name mono_yes
    · obtain ⟨ws, ep, dw, s8⟩ := q
      obtain ⟨rfl, rfl⟩ := y
      have lw := dw.len
      have fl := flat_len n (List.range i)
      rw [List.length_range] at fl
      have fl2 : i * n ≤ 5 * 5 := Nat.mul_le_mul (by omega) (by omega)
      walk_at "rd"
      refine ⟨rfl, i_yes (iteT ?_)⟩
      walk_at "rd"
      refine i_rng (by omega) (by omega) ?_
      refine ⟨n, _, _, fun j H10 => ∃ ws : List V, H10 p = some (.lst ws) ∧ DeAll K H10 ws (((List.range i).map (turnsD n)).flatten ++ turnsTo i j) ∧ Same H7 H10, walk_rangeZ, ⟨ws, ep, by simpa [turnsTo] using dw, s8⟩, fun _ _ _ _ => trivial, fun j x H10 H11 hj q y => ?_, fun H10 q => ?_⟩
      · obtain ⟨us, eu, du, su⟩ := q
        obtain ⟨rfl, rfl⟩ := y
        have lu := du.len
        rw [List.length_append] at lu
        have := turnsTo_len i j
        walk_at "rd"
        refine ⟨rfl, ?_⟩
        walk_at "rd"
        refine iteNB (fun q => ?_) (fun q => ?_)
        · walk_at "rd"
          refine ⟨Nat.le_of_ble_eq_true rfl, fun t nt => ?_⟩
          refine ⟨us, upd_old nt eu, size_big (by omega), us ++ [.ref t], upd_same, ?_, Same.upd_out (su.trans (same_upd nt)) np⟩
          have te : turnsTo i (j + 1) = turnsTo i j ++ [turnD i j] := by
            unfold turnsTo
            rw [List.range_succ, List.filter_append, List.map_append, List.filter_cons_of_pos (by rw [decide_eq_false (by omega)]; rfl)]; rfl
          rw [te, ← List.append_assoc]
          exact push_de eu du (noLAll_app (noL_flat _ _) (noL_turnsTo _ _)) nt (.tup (sqT_of upd_same) (.cons (.str _) (.cons (.int _) (.cons (.int _) .nil)))) rfl
        · have te : turnsTo i (j + 1) = turnsTo i j := by
            unfold turnsTo
            rw [List.range_succ, List.filter_append, List.filter_cons_of_neg (by rw [decide_eq_true (by omega)]; simp), List.filter_nil, List.append_nil]
          rw [te]
          exact ⟨us, eu, du, su⟩
      · obtain ⟨us, eu, du, su⟩ := q
        refine ⟨us, eu, ?_, su⟩
        rw [List.range_succ, List.map_append, List.flatten_append]
        simpa [turnsTo, turnsD] using du
    · obtain ⟨w8, e8, d8, s8⟩ := q
      rw [Int.toNat_natCast] at d8
      have e78 := s8 _ _ e7
      have d78 := d7.same s8
      have l8 := d8.len
      have fl := flat_len n (List.range n)
      rw [List.length_range] at fl
      have fl2 : n * n ≤ 5 * 5 := Nat.mul_le_mul (by omega) (by omega)
      refine ⟨p3, p8, _, w8, rfl, rfl, e78, e8, ?_, fun p9 n9 => ?_⟩
      · exact Nat.le_of_lt (size_big (by rw [List.length_append]; omega))
      have st := s1.trans (s5.trans (s6.trans (s7.trans s8)))
      exact k1 n rfl (by omega) (by omega) p9 _ _ (st.trans (same_upd n9)) (st.free n9) upd_same ((d78.app d8).same (same_upd n9))
    · obtain ⟨v, e1, j, e2, a, b, r⟩ := q
      exact ⟨v, e1, j, e2, a, b, h _ _ r⟩
end
end Sw
namespace Sw
open PySem PySem.Spec PyProof.Rows L2
local macro_rules | `(tactic| walk_at "hp") => `(tactic| first
  | (with_reducible assumption) | (with_reducible exact upd_same)
  | ((with_reducible refine' upd_old ?q1 ?q2); (case q1 => (with_reducible assumption)); (case q2 => walk_at "hp"))
  | ((with_reducible refine' Same.at ?q1 ?q2); (case q1 => (with_reducible assumption)); (case q2 => walk_at "hp"))
  | ((with_reducible refine' upd_skip ?q1 ?q2); (case q1 => walk_at "ne"); (case q2 => walk_at "hp"))
  | fail)
local macro_rules | `(tactic| walk_at "ne") => `(tactic| first
  | (with_reducible assumption) | (with_reducible exact Ne.symm (by assumption))
  | ((with_reducible refine' ne_of_none ?q1 ?q2); (case q2 => (with_reducible assumption)); (case q1 => walk_at "hp"))
  | fail)
local macro_rules | `(tactic| walk_at "ci") => `(tactic| first | assumption | (show (0 : Int) < _; first | decide | (with_reducible omega)) | exact ⟨by decide, by decide⟩ | exact .inl ⟨by decide, by decide⟩ | exact .inr ⟨by decide, by decide⟩)
local macro_rules | `(tactic| walk_at "ln") => `(tactic| first | (with_reducible assumption) | (with_reducible omega) | (simp only [List.length_append, List.length_take, List.length_drop, List.length_reverse, List.length_cons, List.length_nil]; with_reducible omega))
local macro_rules | `(tactic| walk_at "rd1") => `(tactic| first
  | (with_reducible refine i_seq ?_) | (with_reducible refine i_asg ?_) | (with_reducible refine i_ret ?_) | (with_reducible refine i_name ?_) | ((with_reducible refine' i_var ?q1 ?_); (case q1 => exact rfl)) | (with_reducible refine i_c ?_) | (with_reducible refine i_op ?_) | (with_reducible refine i_un ?_)
  | (with_reducible refine i_rI0 ?_) | (with_reducible refine i_cb ?_) | (with_reducible refine i_cons ?_) | (with_reducible refine i_nil ?_) | (with_reducible refine i_call ?_) | (with_reducible refine i_if ?_) | (with_reducible refine i_ifE ?_) | (with_reducible refine i_test ?_) | (with_reducible refine i_bl ?_)
  | (with_reducible refine i_and ?_) | (with_reducible refine i_or ?_) | (with_reducible refine i_not ?_) | (with_reducible refine i_lstM ?_) | (with_reducible refine i_lstLM ?_) | (with_reducible refine i_tupM ?_) | (with_reducible refine i_next ?_) | (with_reducible refine i_drop ?_) | (with_reducible refine i_sub ?_)
  | (with_reducible refine i_bm ?_) | (with_reducible refine i_sl ?_) | (with_reducible refine i_part ?_) | (with_reducible refine i_nopart ?_) | (with_reducible refine i_exI ?_) | (with_reducible refine i_chain ?_) | ((with_reducible refine' i_aug ?q1 ?_); (case q1 => exact rfl)) | (with_reducible refine i_ip ?_)
  | (with_reducible refine i_par ?_) | (with_reducible refine i_pair ?_) | (with_reducible refine i_andV ?_) | (with_reducible refine i_orV ?_) | (with_reducible refine i_notV ?_) | (with_reducible refine i_m1 ?_) | (with_reducible refine i_str ?_)
  | (with_reducible refine iteF ?_) | (with_reducible refine iteT ?_) | (with_reducible refine iteNT ?_) | (with_reducible refine iteNF ?_) | (with_reducible refine i_tyS ?_) | (with_reducible refine i_tB ?_) | (with_reducible refine i_retN ?_) | (with_reducible refine i_par3 ?_) | (with_reducible refine i_trip ?_) | (with_reducible refine i_gCons ?_) | (with_reducible refine i_gNil ?_) | (with_reducible refine i_lstRg ?_) | (with_reducible refine i_rg1 ?_)
  | (with_reducible refine i_lc ?_) | (with_reducible refine i_for ?_) | (with_reducible refine i_iList ?_) | (with_reducible refine i_iTup ?_) | (with_reducible refine i_iStr ?_) | (with_reducible refine i_iRng1 ?_) | (with_reducible refine i_iEnS ?_)
  | ((with_reducible refine' i_ixTH ?q1 ?q2 ?_); (case q1 => walk_at "hp"); (case q2 => exact rfl))
  | ((with_reducible refine' i_ixLH ?q1 ?q2 ?_); (case q1 => walk_at "hp"); (case q2 => exact rfl))
  | ((with_reducible refine i_addS ?q1 ?_); (case q1 => walk_at "ln")) | ((with_reducible refine i_lenSS ?q1 ?_); (case q1 => walk_at "ln")) | ((with_reducible refine i_slFrom ?q1 ?q2 ?_); (case q1 => walk_at "ln"); (case q2 => walk_at "ln")) | ((with_reducible refine i_slTo ?q1 ?q2 ?_); (case q1 => walk_at "ln"); (case q2 => walk_at "ln"))
  | ((with_reducible refine' i_tyL ?q1 ?_); (case q1 => walk_at "hp"))
  | ((with_reducible refine' i_gTupH ?q1 ?q2 ?_); (case q1 => walk_at "hp"); (case q2 => exact rfl))
  | (with_reducible refine i_dnewM ?_) | (with_reducible refine i_init ?_) | (with_reducible refine i_fst ?_) | (with_reducible refine i_mk ?_) | (with_reducible refine i_raise ?_) | (with_reducible refine i_callS ?_) | (with_reducible refine i_kwS ?_)
  | (with_reducible refine i_revT ?_) | (with_reducible refine i_kw ?_) | ((with_reducible refine' ⟨_, _, rfl, sqT_of ?q1, ?_⟩); (case q1 => walk_at "hp"))
  | (with_reducible refine i_revS ?_) | ((with_reducible refine i_revSS ?q1 ?_); (case q1 => walk_at "ln"))
  | (with_reducible refine i_startS ?_) | (with_reducible refine i_inSg ?_) | (with_reducible refine i_absN ?_) | (with_reducible refine i_min2 ?_) | (with_reducible refine i_max2 ?_) | (with_reducible refine i_min3 ?_) | (with_reducible refine i_intN ?_) | (with_reducible refine i_intNB ?_)
  | ((with_reducible refine' i_lenL ?q1 ?_); (case q1 => walk_at "hp")) | ((with_reducible refine' i_lenT ?q1 ?_); (case q1 => walk_at "hp"))
  | (with_reducible refine i_eqI ?_) | (with_reducible refine i_neI ?_) | (with_reducible refine i_eqS ?_) | (with_reducible refine i_neS ?_) | (with_reducible refine i_isNoI ?_) | (with_reducible refine i_isNoN ?_) | (with_reducible refine i_isNoR ?_)
  | ((with_reducible refine i_pow ?q1 ?q2 ?q3 ?_); (case q1 => decide); (case q2 => decide); (case q3 => (with_reducible omega)))
  | ((with_reducible refine i_rI ?q1 ?_); (case q1 => walk_at "ci"))
  | (with_reducible refine Or.inl ⟨_, rfl, ?_⟩) | (with_reducible refine Or.inr ⟨_, rfl, ?_⟩) | (with_reducible refine ⟨_, rfl, ?_⟩) | (with_reducible refine ⟨_, _, rfl, ?_⟩) | (with_reducible refine ⟨_, _, rfl, rfl, ?_⟩)
  | ((with_reducible refine' ⟨_, _, rfl, Or.inl (sqL_of ?q1), ?_⟩); (case q1 => walk_at "hp")) | ((with_reducible refine' ⟨_, _, rfl, Or.inr (sqT_of ?q1), ?_⟩); (case q1 => walk_at "hp")) | fail)
local macro_rules | `(tactic| walk_at "rd") => `(tactic| repeat' walk_at "rd1")

def goodS (m : Int) (s : PyData) : Prop := (sameB m s || kindB m s) = true
theorem good_same {m i : Int} (h0 : 0 ≤ i) (h1 : i < m) : goodS m (.tuple [.str (S tSame), .int i]) := by
  unfold goodS
  simp only [sameB, isX, decide_eq_true h0, decide_eq_true h1, isS]; simp
theorem good_lost {m i : Int} (h0 : 0 ≤ i) (h1 : i < m) : goodS m (.tuple [.str (S tLost), .int i]) := by
  unfold goodS
  simp only [kindB, isX, decide_eq_true h0, decide_eq_true h1, isS]; simp
theorem good_put {m i : Int} (h0 : 0 ≤ i) (h1 : i < m) : goodS m (.tuple [.str (S tPut), .int i]) := by
  unfold goodS
  simp only [kindB, isX, decide_eq_true h0, decide_eq_true h1, isS]; simp
theorem good_turned {m i j : Int} (h0 : 0 ≤ i) (h1 : i < m) (k0 : 0 ≤ j) (k1 : j < m) (ne : i ≠ j) : goodS m (.tuple [.str (S tTurned), .int i, .int j]) := by
  unfold goodS
  simp only [kindB, sameB, isX, decide_eq_true h0, decide_eq_true h1, decide_eq_true k0, decide_eq_true k1, isS, eqv_int, decide_eq_false ne]; simp
theorem goodS.mono {m n : Int} {s : PyData} (h : goodS m s) (le : m ≤ n) : goodS n s := by
  unfold goodS at *
  have ix : ∀ d, isX m d = true → isX n d = true := fun d h => by
    obtain ⟨i, rfl, h0, h1⟩ := isX_inv h
    simp only [isX, decide_eq_true h0, decide_eq_true (show i < n by omega), Bool.and_self]
  rw [Bool.or_eq_true] at h ⊢
  rcases h with h | h
  · left
    cases s <;> first | cases h | skip
    rename_i ds
    rcases ds with _ | ⟨a, _ | ⟨b, _ | ⟨c, ds⟩⟩⟩ <;> first | cases h | skip
    simp only [sameB, Bool.and_eq_true] at h ⊢
    exact ⟨h.1, ix _ h.2⟩
  · right
    cases s <;> first | cases h | skip
    rename_i ds
    rcases ds with _ | ⟨a, _ | ⟨b, _ | ⟨c, _ | ⟨d, ds⟩⟩⟩⟩ <;> first | cases h | skip
    · simp only [kindB, Bool.and_eq_true] at h ⊢
      exact ⟨ix _ h.1, h.2⟩
    · simp only [kindB, Bool.and_eq_true] at h ⊢
      exact ⟨⟨ix _ h.1.1, ix _ h.1.2⟩, h.2⟩
/-- _law_step(box, signs) -/
def spStep (K : PySem.W.Frag) : Sp := fun vs H Q _ => ∃ (b : Addr) (m d0 : Int), vs = [.ref b, .int m] ∧ 1 ≤ m ∧ m ≤ 5 ∧ BoxAt H b d0 ∧ d0 + 3 ≤ 1000000 ∧
  ∀ (t : Addr) (s : PyData) (H' : Hp), De K (L2.del H' b) (.ref t) s → goodS m s → BoxAt H' b (d0 + 3) → SB b H H' → Q (.ref t) H'
/-- _law_passing(box, signs) -/
def spPsg (K : PySem.W.Frag) : Sp := fun vs H Q _ => ∃ (b : Addr) (m d0 : Int), vs = [.ref b, .int m] ∧ 1 ≤ m ∧ m ≤ 5 ∧ BoxAt H b d0 ∧ d0 + 1300 ≤ 1000000 ∧
  ∀ (t : Addr) (ds : List PyData) (H' : Hp), De K (L2.del H' b) (.ref t) (.tuple ds) → ds.length ≤ 399 → (∀ s ∈ ds, goodS m s) → BoxAt H' b (d0 + 1300) → SB b H H' → Q (.ref t) H'
theorem good_noL {m : Int} {s : PyData} (h : goodS m s) : noL s = true ∧ s.hasDict = false := by
  obtain ⟨w, is, rfl, _⟩ := step_inv h
  have a : ∀ is : List Int, noLAll (is.map PyData.int) = true ∧ PyData.hasDictAll (is.map PyData.int) = false := by
    intro is
    induction is with
    | nil => exact ⟨by simp only [List.map_nil, noLAll], by simp only [List.map_nil, PyData.hasDictAll]⟩
    | cons i is ih => exact ⟨by simp only [List.map_cons, noLAll, noL, ih.1, Bool.and_self], by simp only [List.map_cons, PyData.hasDictAll, PyData.hasDict, ih.2, Bool.or_self]⟩
  exact ⟨by simp only [noL, noLAll, (a is).1, Bool.and_self], by simp only [PyData.hasDict, PyData.hasDictAll, (a is).2, Bool.or_self]⟩
theorem good_sd {m : Int} {s : PyData} (h : goodS m s) (hm : m ≤ 5) : Sd 1 30 s := by
  obtain ⟨w, is, rfl, hl, hw, lw, hi⟩ := step_inv h
  have a : ∀ is : List Int, (∀ i ∈ is, 0 ≤ i ∧ i < m) → SdAll 0 (is.length * 10) (is.map PyData.int) := by
    intro is hi
    have := sd_all (n := 0) (w := 9) (ds := is.map PyData.int) (fun d hd => by
      obtain ⟨i, hi2, rfl⟩ := List.mem_map.mp hd
      have := hi i hi2
      exact sd_int9 (by omega))
    rw [List.length_map] at this
    exact this
  have := sd_tup' (SdAll.cons (sd_str hw) (a is hi))
  exact this.mono (by omega) (by omega)
section
variable {P : Program} {w : World} {K : PySem.W.Frag} {mg : Str → Option Value} {base : Heap} {f : Addr} {fd : FuncData}
theorem ok_step (F : Fun K "_law_step" "_law_step" s__law_step f fd) (c__law_take : Cal P w K mg base "_law_take" ["box", "many"] 1 spTake) : FnOk P w K mg base CX0 2 f fd ["box", "signs"] (spStep K) := by
  refine F.ok sc__law_step (fun vs H Q E h => ?_) (fun cdv A outer s H vs Q E hr h => ?_)
  · obtain ⟨b, m, d0, rfl, _⟩ := h; rfl
  · obtain ⟨b, m, d0, rfl, m1, m5, B, hd, k⟩ := h
    refine ⟨_, (pss_cons (ps_par3 (i := 2) (j := 3) (l := 4) rfl sc__law_step.nd rfl rfl rfl (by decide) (by decide) (by decide) rfl rfl rfl (pa_cons (pe_cal c__law_take hr (pa_cons (pv 0) (pa_cons pe_int pa_nil))) (pa_cons (pe_cal c__law_take hr (pa_cons (pv 0) (pa_cons (pv 1) pa_nil))) (pa_cons (pe_cal c__law_take hr (pa_cons (pv 0) (pa_cons (pv 1) pa_nil))) pa_nil))) (by rfl))
      (pss_cons (ps_if (PW.pt (pw_or (pt_cmpR op_lt (pv 2) pe_int (nomark _)) (pw_or1 (PW.pt (pw_and (pt_cmpR op_gt (pv 2) pe_int (nomark _)) (pw_and1 (pt_cmpR op_eq (pv 3) (pv 4) (nomark _))))))))
        (pss_one (ps_ret (pe_tup (pa_cons (pe_strS (l := [115, 97, 109, 101]) (by decide +kernel)) (pa_cons (pv 3) pa_nil)))))
        pss_nil)
      (pss_cons (ps_if (pt_cmpR op_lt (pv 2) pe_int (nomark _))
        (pss_one (ps_ret (pe_tup (pa_cons (pe_strS (l := [108, 111, 115, 116]) (by decide +kernel)) (pa_cons (pv 3) pa_nil)))))
        pss_nil)
      (pss_one (ps_ret (pe_ifExp (pt_cmpR op_lt (pv 2) pe_int (nomark _)) (pe_tup (pa_cons (pe_strS (l := [112, 117, 116]) (by decide +kernel)) (pa_cons (pv 4) pa_nil))) (pe_tup (pa_cons (pe_strS (l := [116, 117, 114, 110, 101, 100]) (by decide +kernel)) (pa_cons (pv 3) (pa_cons (pv 4) pa_nil)))))))))), ?_⟩
    walk_at "rd"
    refine ⟨b, 8, _, rfl, B, by omega, by omega, by omega, fun way H1 w0 w1 B1 s1 => ?_⟩
    walk_at "rd"
    refine ⟨b, m, _, rfl, B1, by omega, by omega, by omega, fun a H2 a0 a1 B2 s2 => ?_⟩
    walk_at "rd"
    refine ⟨b, m, _, rfl, B2, by omega, by omega, by omega, fun c H3 c0 c1 B3 s3 => ?_⟩
    have s13 := s1.trans (s2.trans s3)
    walk_at "rd"
    refine iteB (fun q1 => ?_) (fun q1 => ?_)
    · walk_at "rd"
      refine newT B3 (Nat.le_of_ble_eq_true rfl) fun t H4 B4 s4 e4 t4 => ?_
      exact k t _ _ (.tup (sqT_of e4) (.cons (.str _) (.cons (.int _) .nil))) (good_same a0 a1) (B4.mono (by omega)) (s13.trans (SB.of t4))
    walk_at "rd"
    refine iteB (fun q2 => ?_) (fun q2 => ?_)
    · walk_at "rd"
      refine iteB (fun q3 => ?_) (fun q3 => ?_)
      · walk_at "rd"
        refine newT B3 (Nat.le_of_ble_eq_true rfl) fun t H4 B4 s4 e4 t4 => ?_
        exact k t _ _ (.tup (sqT_of e4) (.cons (.str _) (.cons (.int _) .nil))) (good_same a0 a1) (B4.mono (by omega)) (s13.trans (SB.of t4))
      walk_at "rd"
      refine iteB (fun q4 => ?_) (fun q4 => ?_)
      · exact absurd q4 (by omega)
      walk_at "rd"
      refine iteB (fun q5 => ?_) (fun q5 => ?_)
      · exact absurd q5 (by omega)
      walk_at "rd"
      refine newT B3 (Nat.le_of_ble_eq_true rfl) fun t H4 B4 s4 e4 t4 => ?_
      exact k t _ _ (.tup (sqT_of e4) (.cons (.str _) (.cons (.int _) (.cons (.int _) .nil)))) (good_turned a0 a1 c0 c1 q3) (B4.mono (by omega)) (s13.trans (SB.of t4))
    · walk_at "rd"
      refine iteB (fun q4 => ?_) (fun q4 => ?_)
      · walk_at "rd"
        refine newT B3 (Nat.le_of_ble_eq_true rfl) fun t H4 B4 s4 e4 t4 => ?_
        exact k t _ _ (.tup (sqT_of e4) (.cons (.str _) (.cons (.int _) .nil))) (good_lost a0 a1) (B4.mono (by omega)) (s13.trans (SB.of t4))
      walk_at "rd"
      refine iteB (fun q5 => ?_) (fun q5 => ?_)
      · walk_at "rd"
        refine newT B3 (Nat.le_of_ble_eq_true rfl) fun t H4 B4 s4 e4 t4 => ?_
        exact k t _ _ (.tup (sqT_of e4) (.cons (.str _) (.cons (.int _) .nil))) (good_put c0 c1) (B4.mono (by omega)) (s13.trans (SB.of t4))
      exact absurd q5 (by omega)
theorem ok_psg (F : Fun K "_law_passing" "_law_passing" s__law_passing f fd) (z : Z mg) (c__law_take : Cal P w K mg base "_law_take" ["box", "many"] 1 spTake) (c__law_step : Cal P w K mg base "_law_step" ["box", "signs"] 2 (spStep K)) : FnOk P w K mg base CX0 3 f fd ["box", "signs"] (spPsg K) := by
  refine F.ok sc__law_passing (fun vs H Q E h => ?_) (fun cdv A outer s H vs Q E hr h => ?_)
  · obtain ⟨b, m, d0, rfl, _⟩ := h; rfl
  · obtain ⟨b, m, d0, rfl, m1, m5, B, hd, k⟩ := h
    refine ⟨_, (pss_cons (ps_set (i := 2) sc__law_passing.nd rfl (.inl rfl) (pe_ix ix_list (pe_lst (pa_cons pe_int (pa_cons pe_int (pa_cons pe_int (pa_cons pe_int (pa_cons pe_int (pa_cons pe_int (pa_cons pe_int (pa_cons pe_int (pa_cons pe_int (pa_cons pe_int pa_nil))))))))))) (pe_cal c__law_take hr (pa_cons (pv 0) (pa_cons pe_int pa_nil))) (fun _ _ => rfl)))
      (pss_one (ps_ret (pe_callTy call_tuple_of (by rfl) z.tuple (by decide +kernel) (pa_cons (pe_lc (own := [("k", 3)]) (g := gName 3) (tt := tYes) rfl sc__law_passing.nd (pi_range1 (by rfl) z.range (pa_cons (pv 2) pa_nil)) (blkOk_by (own := [("k", 3)]) (N := n__law_passing) (sc := defScope s__law_passing) (by decide +kernel)) (fun _ _ _ _ _ => (pg_name (i := 3) sc__law_passing.nd rfl (.inl rfl))) (fun _ _ _ _ _ => pts_nil) (fun _ _ _ _ _ => (pe_cal c__law_step hr (pa_cons (pv 0) (pa_cons (pv 1) pa_nil))))) pa_nil))))), ?_⟩
    walk_at "rd"
    refine newL B (Nat.le_of_ble_eq_true rfl) fun p1 H1 B1 s1 e1 t1 => ?_
    walk_at "rd"
    refine ⟨b, 10, _, rfl, B1, by omega, by omega, by omega, fun q H2 q0 q1 B2 s2 => ?_⟩
    have e2 := del_sb s2 _ _ e1
    walk_at "rd"
    obtain ⟨n, en, hn⟩ : ∃ n : Nat, ([.int 0, .int 1, .int 2, .int 3, .int 5, .int 8, .int 12, .int 3, .int 5, .int 399] : List V)[q.toNat]? = some (.int (n : Int)) ∧ n ≤ 399 := by
      have hj : q = 0 ∨ q = 1 ∨ q = 2 ∨ q = 3 ∨ q = 4 ∨ q = 5 ∨ q = 6 ∨ q = 7 ∨ q = 8 ∨ q = 9 := by omega
      rcases hj with rfl | rfl | rfl | rfl | rfl | rfl | rfl | rfl | rfl | rfl
      · exact ⟨0, rfl, by omega⟩
      · exact ⟨1, rfl, by omega⟩
      · exact ⟨2, rfl, by omega⟩
      · exact ⟨3, rfl, by omega⟩
      · exact ⟨5, rfl, by omega⟩
      · exact ⟨8, rfl, by omega⟩
      · exact ⟨12, rfl, by omega⟩
      · exact ⟨3, rfl, by omega⟩
      · exact ⟨5, rfl, by omega⟩
      · exact ⟨399, rfl, by omega⟩
    refine i_ixLv (del_sub _ _ e2) q0 en ?_
    walk_at "rd"
    refine i_rng (by omega) (by omega) ?_
    rw [Int.toNat_natCast]
    have s02 := (SB.of t1).trans s2
    refine go_lc walk_rangeZ (fun p i H3 => ∃ (ws : List V) (ds : List PyData), H3 p = some (.lst ws) ∧ DeAll K (L2.del H3 b) ws ds ∧ ds.length = i ∧ (∀ s ∈ ds, goodS m s) ∧ BoxAt H3 b (d0 + 1 + 3 * i) ∧ SB b H2 H3)
      (fun p np => ⟨[], [], upd_same, .nil, rfl, (fun s h => by cases h), (BoxAt.same B2 (same_upd np)).mono (by omega), SB.of (same_upd np)⟩) (fun _ _ _ _ _ => trivial) (fun p np i v H3 H4 hi q y => ?_) (fun p3 H3 np3 q => ?_)
    · obtain ⟨ws, ds, ep, dw, ld, gd, B3, s3⟩ := q
      obtain ⟨rfl, rfl⟩ := y
      have npb := box_ne B2 np
      have lw := dw.len
      walk_at "rd"
      refine ⟨rfl, i_yes (iteT ?_)⟩
      walk_at "rd"
      refine ⟨b, m, _, rfl, m1, m5, B3, by omega, fun t s H5 dt gt B5 s5 => ?_⟩
      have ep5 := s5 _ _ npb ep
      have ep5' : L2.del H5 b p = some (.lst ws) := by rw [L2.del_ne npb]; exact ep5
      have kk : KeepP p (L2.del H5 b) (L2.del (upd H5 p (.lst (ws ++ [.ref t]))) b) := fun a o q e => by
        by_cases c : a = b
        · subst c; rw [L2.del_same] at e; cases e
        · rw [L2.del_ne c] at e ⊢
          by_cases c2 : a = p
          · subst c2
            rw [ep5] at e
            cases e
            exact (q.elim (fun q => q rfl) fun q => q _ rfl).elim
          · rw [L2.upd_ne c2]; exact e
      refine ⟨ws, ep5, size_big (by omega), ws ++ [.ref t], ds ++ [s], upd_same, ?_, by rw [List.length_append, ld]; rfl, fun x hx => (List.mem_append.mp hx).elim (gd x) fun q => by rw [List.mem_singleton.mp q]; exact gt, ?_, ?_⟩
      · exact ((dw.same (del_sb s5)).keep kk (noLAll_iff.mpr fun x hx => (good_noL (gd x hx)).1)).app (.cons (dt.keep kk (good_noL gt).1) .nil)
      · exact (B5.upd_ne' npb).mono (by omega)
      · refine fun a o na ha => ?_
        have : a ≠ p := ne_of_none ha np
        rw [L2.upd_ne this]
        exact (s3.trans s5) a o na ha
    · obtain ⟨ws, ds, ep, dw, ld, gd, B3, s3⟩ := q
      have npb := box_ne B2 np3
      refine ⟨p3, _, rfl, .inl ⟨sqL_of ep, fun t nt => ?_⟩⟩
      exact k t ds _ (.tup (sqT_of (del_new B3 nt)) (dw.same (del_sb (SB.of (same_upd nt))))) (by omega) gd ((B3.same (same_upd nt)).mono (by omega)) ((s02.trans s3).trans (SB.of (same_upd nt)))
end
end Sw
namespace Sw
open PySem PySem.Spec PyProof.Rows L2
local macro_rules | `(tactic| walk_at "hp") => `(tactic| first
  | (with_reducible assumption) | (with_reducible exact upd_same)
  | ((with_reducible refine' upd_old ?q1 ?q2); (case q1 => (with_reducible assumption)); (case q2 => walk_at "hp"))
  | ((with_reducible refine' Same.at ?q1 ?q2); (case q1 => (with_reducible assumption)); (case q2 => walk_at "hp"))
  | ((with_reducible refine' upd_skip ?q1 ?q2); (case q1 => walk_at "ne"); (case q2 => walk_at "hp"))
  | fail)
local macro_rules | `(tactic| walk_at "ne") => `(tactic| first
  | (with_reducible assumption) | (with_reducible exact Ne.symm (by assumption))
  | ((with_reducible refine' ne_of_none ?q1 ?q2); (case q2 => (with_reducible assumption)); (case q1 => walk_at "hp"))
  | fail)
local macro_rules | `(tactic| walk_at "ci") => `(tactic| first | assumption | (show (0 : Int) < _; first | decide | (with_reducible omega)) | exact ⟨by decide, by decide⟩ | exact .inl ⟨by decide, by decide⟩ | exact .inr ⟨by decide, by decide⟩)
local macro_rules | `(tactic| walk_at "ln") => `(tactic| first | (with_reducible assumption) | (with_reducible omega) | (simp only [List.length_append, List.length_take, List.length_drop, List.length_reverse, List.length_cons, List.length_nil]; with_reducible omega))
local macro_rules | `(tactic| walk_at "rd1") => `(tactic| first
  | (with_reducible refine i_seq ?_) | (with_reducible refine i_asg ?_) | (with_reducible refine i_ret ?_) | (with_reducible refine i_name ?_) | ((with_reducible refine' i_var ?q1 ?_); (case q1 => exact rfl)) | (with_reducible refine i_c ?_) | (with_reducible refine i_op ?_) | (with_reducible refine i_un ?_)
  | (with_reducible refine i_rI0 ?_) | (with_reducible refine i_cb ?_) | (with_reducible refine i_cons ?_) | (with_reducible refine i_nil ?_) | (with_reducible refine i_call ?_) | (with_reducible refine i_if ?_) | (with_reducible refine i_ifE ?_) | (with_reducible refine i_test ?_) | (with_reducible refine i_bl ?_)
  | (with_reducible refine i_and ?_) | (with_reducible refine i_or ?_) | (with_reducible refine i_not ?_) | (with_reducible refine i_lstM ?_) | (with_reducible refine i_lstLM ?_) | (with_reducible refine i_tupM ?_) | (with_reducible refine i_next ?_) | (with_reducible refine i_drop ?_) | (with_reducible refine i_sub ?_)
  | (with_reducible refine i_bm ?_) | (with_reducible refine i_sl ?_) | (with_reducible refine i_part ?_) | (with_reducible refine i_nopart ?_) | (with_reducible refine i_exI ?_) | (with_reducible refine i_chain ?_) | ((with_reducible refine' i_aug ?q1 ?_); (case q1 => exact rfl)) | (with_reducible refine i_ip ?_)
  | (with_reducible refine i_par ?_) | (with_reducible refine i_pair ?_) | (with_reducible refine i_andV ?_) | (with_reducible refine i_orV ?_) | (with_reducible refine i_notV ?_) | (with_reducible refine i_m1 ?_) | (with_reducible refine i_str ?_)
  | (with_reducible refine iteF ?_) | (with_reducible refine iteT ?_) | (with_reducible refine iteNT ?_) | (with_reducible refine iteNF ?_) | (with_reducible refine i_tyS ?_) | (with_reducible refine i_tB ?_) | (with_reducible refine i_retN ?_) | (with_reducible refine i_par3 ?_) | (with_reducible refine i_trip ?_) | (with_reducible refine i_gCons ?_) | (with_reducible refine i_gNil ?_) | (with_reducible refine i_lstRg ?_) | (with_reducible refine i_rg1 ?_)
  | (with_reducible refine i_lc ?_) | (with_reducible refine i_for ?_) | (with_reducible refine i_iList ?_) | (with_reducible refine i_iTup ?_) | (with_reducible refine i_iStr ?_) | (with_reducible refine i_iRng1 ?_) | (with_reducible refine i_iEnS ?_)
  | ((with_reducible refine' i_ixTH ?q1 ?q2 ?_); (case q1 => walk_at "hp"); (case q2 => exact rfl))
  | ((with_reducible refine' i_ixLH ?q1 ?q2 ?_); (case q1 => walk_at "hp"); (case q2 => exact rfl))
  | ((with_reducible refine i_addS ?q1 ?_); (case q1 => walk_at "ln")) | ((with_reducible refine i_lenSS ?q1 ?_); (case q1 => walk_at "ln")) | ((with_reducible refine i_slFrom ?q1 ?q2 ?_); (case q1 => walk_at "ln"); (case q2 => walk_at "ln")) | ((with_reducible refine i_slTo ?q1 ?q2 ?_); (case q1 => walk_at "ln"); (case q2 => walk_at "ln"))
  | ((with_reducible refine' i_tyL ?q1 ?_); (case q1 => walk_at "hp"))
  | ((with_reducible refine' i_gTupH ?q1 ?q2 ?_); (case q1 => walk_at "hp"); (case q2 => exact rfl))
  | (with_reducible refine i_dnewM ?_) | (with_reducible refine i_init ?_) | (with_reducible refine i_fst ?_) | (with_reducible refine i_mk ?_) | (with_reducible refine i_raise ?_) | (with_reducible refine i_callS ?_) | (with_reducible refine i_kwS ?_)
  | (with_reducible refine i_revT ?_) | (with_reducible refine i_kw ?_) | ((with_reducible refine' ⟨_, _, rfl, sqT_of ?q1, ?_⟩); (case q1 => walk_at "hp"))
  | (with_reducible refine i_revS ?_) | ((with_reducible refine i_revSS ?q1 ?_); (case q1 => walk_at "ln"))
  | (with_reducible refine i_startS ?_) | (with_reducible refine i_inSg ?_) | (with_reducible refine i_absN ?_) | (with_reducible refine i_min2 ?_) | (with_reducible refine i_max2 ?_) | (with_reducible refine i_min3 ?_) | (with_reducible refine i_intN ?_) | (with_reducible refine i_intNB ?_)
  | ((with_reducible refine' i_lenL ?q1 ?_); (case q1 => walk_at "hp")) | ((with_reducible refine' i_lenT ?q1 ?_); (case q1 => walk_at "hp"))
  | (with_reducible refine i_eqI ?_) | (with_reducible refine i_neI ?_) | (with_reducible refine i_eqS ?_) | (with_reducible refine i_neS ?_) | (with_reducible refine i_isNoI ?_) | (with_reducible refine i_isNoN ?_) | (with_reducible refine i_isNoR ?_)
  | ((with_reducible refine i_pow ?q1 ?q2 ?q3 ?_); (case q1 => decide); (case q2 => decide); (case q3 => (with_reducible omega)))
  | ((with_reducible refine i_rI ?q1 ?_); (case q1 => walk_at "ci"))
  | (with_reducible refine Or.inl ⟨_, rfl, ?_⟩) | (with_reducible refine Or.inr ⟨_, rfl, ?_⟩) | (with_reducible refine ⟨_, rfl, ?_⟩) | (with_reducible refine ⟨_, _, rfl, ?_⟩) | (with_reducible refine ⟨_, _, rfl, rfl, ?_⟩)
  | ((with_reducible refine' ⟨_, _, rfl, Or.inl (sqL_of ?q1), ?_⟩); (case q1 => walk_at "hp")) | ((with_reducible refine' ⟨_, _, rfl, Or.inr (sqT_of ?q1), ?_⟩); (case q1 => walk_at "hp")) | fail)
local macro_rules | `(tactic| walk_at "rd") => `(tactic| repeat' walk_at "rd1")

theorem allA_app {K : PySem.W.Frag} {H0 G : Hp} : ∀ {vs ws : List V}, AllA K H0 G vs → AllA K H0 G ws → AllA K H0 G (vs ++ ws)
  | [], _, _, h => h
  | _ :: _, _, h, k => ⟨h.1, allA_app h.2 k⟩
theorem allA_take {K : PySem.W.Frag} {H0 G : Hp} : ∀ {vs : List V} {n : Nat}, AllA K H0 G vs → AllA K H0 G (vs.take n)
  | _, 0, _ => by rw [List.take_zero]; trivial
  | [], n + 1, _ => by rw [List.take_nil]; trivial
  | _ :: _, n + 1, h => ⟨h.1, allA_take h.2⟩
theorem os_pick {K : PySem.W.Frag} {H0 G : Hp} {vs : List V} {q : Int} (o : Odds K H0 G vs) (h0 : 0 ≤ q) (h1 : q < (vs.length : Int)) : ∃ v, vs[q.toNat]? = some v ∧ OddV K H0 G v := by
  have : q.toNat < vs.length := by omega
  exact ⟨_, List.getElem?_eq_getElem this, o _ (List.getElem_mem this)⟩
theorem sb_of_del {b : Addr} {H H' : Hp} (s : Same (L2.del H b) (L2.del H' b)) : SB b H H' := fun a o n e => by
  have := s a o (by rw [L2.del_ne n]; exact e)
  rwa [L2.del_ne n] at this
theorem log_lt {i : Int} (h : i.natAbs < 1000) : i.natAbs.log2 < 1920 := by
  by_cases z : i.natAbs = 0
  · rw [z]; decide
  · have := (Nat.log2_lt z (k := 10)).mpr (by omega)
    omega
theorem str_one {i : Int} (h0 : 0 ≤ i) (h1 : i < 5) : ((toString i : String) : Str) = S [48 + i.toNat] := by
  have hj : i = 0 ∨ i = 1 ∨ i = 2 ∨ i = 3 ∨ i = 4 := by omega
  rcases hj with rfl | rfl | rfl | rfl | rfl <;> rfl
theorem atoms_step {K : PySem.W.Frag} {H0 G : Hp} {w : List Nat} {is : List Int} (hw : ∀ c ∈ w, c ≤ 1000) (lw : w.length ≤ 6) (hi : ∀ i ∈ is, 0 ≤ i ∧ i < 5) : AllN K H0 G (.str (S w) :: is.map V.int) := by
  refine ⟨.str hw (by omega), ?_⟩
  induction is with
  | nil => trivial
  | cons i is ih => exact ⟨.int (by have := hi i List.mem_cons_self; omega), ih fun j hj => hi j (List.mem_cons_of_mem _ hj)⟩
/-- _law_odd(box, step, signs) -/
def spOdd (K : PySem.W.Frag) : Sp := fun vs H Q _ => ∃ (b st : Addr) (sd : PyData) (m d0 : Int), vs = [.ref b, .ref st, .int m] ∧ 1 ≤ m ∧ m ≤ 5 ∧ De K (L2.del H b) (.ref st) sd ∧ goodS 5 sd ∧ BoxAt H b d0 ∧ d0 + 5 ≤ 1000000 ∧
  ∀ (v : V) (H' : Hp), OddV K H (L2.del H' b) v → BoxAt H' b (d0 + 5) → SB b H H' → Q v H'
section
variable {P : Program} {w : World} {K : PySem.W.Frag} {mg : Str → Option Value} {base : Heap} {f : Addr} {fd : FuncData}
theorem ok_odd (F : Fun K "_law_odd" "_law_odd" s__law_odd f fd) (z : Z mg) (c__law_take : Cal P w K mg base "_law_take" ["box", "many"] 1 spTake) : FnOk P w K mg base CX0 2 f fd ["box", "step", "signs"] (spOdd K) := by
  refine F.ok sc__law_odd (fun vs H Q E h => ?_) (fun cdv A outer s H vs Q E hr h => ?_)
  · obtain ⟨b, st, sd, m, d0, rfl, _⟩ := h; rfl
  · obtain ⟨b, st, sd, m, d0, rfl, m1, m5, dst, gst, B, hd, k⟩ := h
    obtain ⟨w1, is, rfl, hl, hw1, lw1, hi1⟩ := step_inv gst
    obtain ⟨st', est, hst⟩ := step_at dst
    cases est
    obtain ⟨a, is, rfl⟩ : ∃ i0 is', is = i0 :: is' := by
      rcases is with _ | ⟨i0, is⟩
      · simp at hl
      · exact ⟨_, _, rfl⟩
    obtain ⟨a0, a5⟩ := hi1 a List.mem_cons_self
    have ast : AllN K H (L2.del H b) (.str (S w1) :: (a :: is).map V.int) := atoms_step hw1 lw1 hi1
    have lst5 : (V.str (S w1) :: (a :: is).map V.int).length ≤ 3 := by simp only [List.length_cons, List.length_map] at hl ⊢; omega
    have lst2 : 2 ≤ (V.str (S w1) :: (a :: is).map V.int).length := by simp only [List.length_cons, List.length_map]; omega
    have ast0 : AtomV K H (L2.del H b) (.ref st) := (AtomN.deD dst (good_noL gst).2 ((good_sd gst (by omega)).mono (by omega) (by omega)) (good_noL gst).1).va
    have astr : AtomV K H (L2.del H b) (.str (S [48 + a.toNat])) := .str (by simp; omega) (by simp)
    refine ⟨_, (pss_cons (ps_par3 (i := 3) (j := 4) (l := 5) rfl sc__law_odd.nd rfl rfl rfl (by decide) (by decide) (by decide) rfl rfl rfl (pa_cons (pe_ix ix_tup (pv 1) pe_int (fun _ _ => rfl)) (pa_cons (pe_ix ix_tup (pv 1) pe_int (fun _ _ => rfl)) (pa_cons (pe_cal c__law_take hr (pa_cons (pv 0) (pa_cons pe_int pa_nil))) pa_nil))) (by rfl))
      (pss_cons (ps_if (pt_cmpR op_eq (pv 5) pe_int (nomark _))
        (pss_one (ps_set (i := 6) sc__law_odd.nd rfl (.inl rfl) (pe_lstL (pa_cons (pe_callTy call_listL (by rfl) z.list (by decide +kernel) (pa_cons (pv 1) pa_nil)) (pa_cons (pe_op op_catA (pv 1) (pe_tup (pa_cons pe_int pa_nil))) (pa_cons (pe_slice sl_tupA (pv 1) po_none (po_some pe_int)) (pa_cons (pe_tup (pa_cons (pv 1) pa_nil)) (pa_cons (pe_tup (pa_cons (pv 4) (pa_cons (pv 3) pa_nil))) (pa_cons (pv 3) (pa_cons pe_non (pa_cons (pv 4) (pa_cons pe_dnewK (pa_cons (pe_tup pa_nil) (pa_cons (pe_lstL (pa_cons (pe_strS (l := [115, 97, 109, 101]) (by decide +kernel)) (pa_cons (pv 4) pa_nil))) (pa_cons (pe_tup (pa_cons (pv 3) (pa_cons (pe_lstL (pa_cons (pv 4) pa_nil)) pa_nil))) pa_nil)))))))))))))))
        (pss_one (ps_if (pt_cmpR op_eq (pv 5) pe_int (nomark _))
          (pss_cons (ps_set (i := 6) sc__law_odd.nd rfl (.inl rfl) (pe_lstL (pa_cons (pe_tup (pa_cons (pv 3) (pa_cons (pv 2) pa_nil))) (pa_cons (pe_tup (pa_cons (pv 3) (pa_cons (pe_op op_sub (pv 2) pe_int) pa_nil))) (pa_cons (pe_tup (pa_cons (pv 3) (pa_cons pe_int pa_nil))) (pa_cons (pe_tup (pa_cons (pv 3) (pa_cons pe_int pa_nil))) (pa_cons (pe_tup (pa_cons (pv 3) (pa_cons (pe_op op_sub pe_int pe_int) pa_nil))) (pa_cons (pe_tup (pa_cons (pv 3) (pa_cons pe_bl pa_nil))) (pa_cons (pe_tup (pa_cons (pv 3) (pa_cons pe_bl pa_nil))) pa_nil)))))))))
          (pss_one (ps_set (i := 6) sc__law_odd.nd rfl (.inl rfl) (pe_op op_cat (pv 6) (pe_lstL (pa_cons (pe_tup (pa_cons (pv 3) (pa_cons pe_non pa_nil))) (pa_cons (pe_tup (pa_cons (pv 3) (pa_cons (pe_callTy call_str_int (by rfl) z.str (by decide +kernel) (pa_cons (pv 4) pa_nil)) pa_nil))) (pa_cons (pe_tup (pa_cons (pv 3) (pa_cons (pe_tup (pa_cons (pv 4) pa_nil)) pa_nil))) (pa_cons (pe_tup (pa_cons (pv 3) (pa_cons (pe_op op_pow pe_int pe_int) pa_nil))) pa_nil)))))))))
          (pss_one (ps_if (pt_cmpR op_eq (pv 5) pe_int (nomark _))
            (pss_cons (ps_set (i := 6) sc__law_odd.nd rfl (.inl rfl) (pe_lstL (pa_cons (pe_tup (pa_cons (pe_strS (l := [116, 117, 114, 110, 101, 100]) (by decide +kernel)) (pa_cons (pv 4) (pa_cons (pv 4) pa_nil)))) (pa_cons (pe_tup (pa_cons (pe_strS (l := [116, 117, 114, 110, 101, 100]) (by decide +kernel)) (pa_cons (pv 4) pa_nil))) (pa_cons (pe_tup (pa_cons (pe_strS (l := [116, 117, 114, 110, 101, 100]) (by decide +kernel)) (pa_cons (pv 4) (pa_cons pe_int pa_nil)))) (pa_cons (pe_tup (pa_cons (pe_strS (l := [116, 117, 114, 110, 101, 100]) (by decide +kernel)) (pa_cons pe_int (pa_cons (pv 4) pa_nil)))) (pa_cons (pe_tup (pa_cons (pe_strS (l := [116, 117, 114, 110, 101, 100]) (by decide +kernel)) (pa_cons pe_int (pa_cons (pv 4) pa_nil)))) (pa_cons (pe_tup (pa_cons (pe_strS (l := [116, 117, 114, 110, 101, 100]) (by decide +kernel)) (pa_cons (pv 4) (pa_cons pe_int pa_nil)))) pa_nil))))))))
            (pss_cons (ps_set (i := 6) sc__law_odd.nd rfl (.inl rfl) (pe_op op_cat (pv 6) (pe_lstL (pa_cons (pe_tup (pa_cons (pe_strS (l := [116, 117, 114, 110, 101, 100]) (by decide +kernel)) (pa_cons (pv 4) (pa_cons (pe_op op_sub pe_int pe_int) pa_nil)))) (pa_cons (pe_tup (pa_cons (pe_strS (l := [116, 117, 114, 110, 101, 100]) (by decide +kernel)) (pa_cons pe_bl (pa_cons pe_int pa_nil)))) (pa_cons (pe_tup (pa_cons (pe_strS (l := [116, 117, 114, 110, 101, 100]) (by decide +kernel)) (pa_cons pe_int (pa_cons pe_bl pa_nil)))) (pa_cons (pe_tup (pa_cons (pe_strS (l := [116, 117, 114, 110, 101, 100]) (by decide +kernel)) (pa_cons (pv 4) (pa_cons pe_non pa_nil)))) pa_nil)))))))
            (pss_one (ps_set (i := 6) sc__law_odd.nd rfl (.inl rfl) (pe_op op_cat (pv 6) (pe_lstL (pa_cons (pe_tup (pa_cons (pe_strS (l := [116, 117, 114, 110, 101, 100]) (by decide +kernel)) (pa_cons (pv 4) (pa_cons (pe_op op_add (pv 4) pe_int) pa_nil)))) (pa_cons (pe_tup (pa_cons (pe_strS (l := [116, 117, 114, 110, 101, 100]) (by decide +kernel)) (pa_cons (pv 4) (pa_cons (pe_strS (l := [48]) (by decide +kernel)) pa_nil)))) (pa_cons (pe_tup (pa_cons (pe_strS (l := [116, 117, 114, 110, 101, 100]) (by decide +kernel)) (pa_cons (pv 4) (pa_cons (pe_op op_mod (pe_callTy call_intN (by rfl) z.int (by decide +kernel) (pa_cons (pe_op op_add (pv 4) pe_int) pa_nil)) pe_int) (pa_cons (pv 4) pa_nil))))) (pa_cons (pe_tup (pa_cons (pe_strS (l := [116, 117, 114, 110, 101, 100]) (by decide +kernel)) pa_nil)) pa_nil))))))))))
            (pss_cons (ps_set (i := 6) sc__law_odd.nd rfl (.inl rfl) (pe_lstL (pa_cons (pe_tup (pa_cons (pe_strS (l := [83, 97, 109, 101]) (by decide +kernel)) (pa_cons (pv 4) pa_nil))) (pa_cons (pe_tup (pa_cons (pe_strS (l := [115, 97, 109, 101]) (by decide +kernel)) (pa_cons (pv 4) (pa_cons (pv 4) pa_nil)))) (pa_cons (pe_tup (pa_cons (pe_strS (l := [108, 111, 115, 116]) (by decide +kernel)) (pa_cons (pv 4) (pa_cons (pv 4) pa_nil)))) (pa_cons (pe_tup (pa_cons (pe_strS (l := [112, 117, 116]) (by decide +kernel)) pa_nil)) (pa_cons (pe_tup (pa_cons (pe_strS (l := [100, 114, 111, 112]) (by decide +kernel)) (pa_cons (pv 4) pa_nil))) (pa_cons (pe_tup (pa_cons pe_non (pa_cons (pv 4) pa_nil))) (pa_cons (pe_tup (pa_cons (pe_tup (pa_cons (pe_strS (l := [108, 111, 115, 116]) (by decide +kernel)) pa_nil)) (pa_cons (pv 4) pa_nil))) (pa_cons (pe_tup (pa_cons (pe_strS (l := []) (by decide +kernel)) (pa_cons (pv 4) pa_nil))) pa_nil))))))))))
            (pss_one (ps_set (i := 6) sc__law_odd.nd rfl (.inl rfl) (pe_op op_cat (pv 6) (pe_lstL (pa_cons (pe_tup (pa_cons (pe_strS (l := [115, 97, 109, 101]) (by decide +kernel)) pa_nil)) (pa_cons (pe_tup (pa_cons (pe_strS (l := [108, 111, 115, 116, 32]) (by decide +kernel)) (pa_cons (pv 4) pa_nil))) (pa_cons (pe_tup (pa_cons (pe_strS (l := [115, 97, 109, 101]) (by decide +kernel)) (pa_cons (pe_op op_sub pe_int pe_int) pa_nil))) (pa_cons (pe_tup (pa_cons (pe_strS (l := [112, 117, 116]) (by decide +kernel)) (pa_cons pe_int pa_nil))) (pa_cons (pe_tup (pa_cons (pe_strS (l := [115, 97, 109, 101]) (by decide +kernel)) (pa_cons pe_int pa_nil))) (pa_cons (pe_tup (pa_cons (pe_strS (l := [108, 111, 115, 116]) (by decide +kernel)) (pa_cons pe_int pa_nil))) (pa_cons (pe_tup (pa_cons (pe_strS (l := [112, 117, 116]) (by decide +kernel)) (pa_cons pe_int pa_nil))) pa_nil)))))))))))))))))
      (pss_one (ps_ret (pe_ix ix_list (pv 6) (pe_cal c__law_take hr (pa_cons (pv 0) (pa_cons (pe_callB call_lenQ (by rfl) z.len PySem.boot_len (pa_cons (pv 6) pa_nil)) pa_nil))) (fun _ _ => rfl)))))), ?_⟩
    walk_at "rd"
    refine i_ixTn (k := 0) (Same.sqT del_sub hst) rfl ?_
    walk_at "rd"
    refine i_ixTn (k := 1) (Same.sqT del_sub hst) rfl ?_
    walk_at "rd"
    refine ⟨b, 4, _, rfl, B, by omega, by omega, by omega, fun way H1 w0 w1' B1 s1 => ?_⟩
    have hst := Same.sqT (del_sb s1) hst
    have ast := AllN.same (del_sb s1) ast
    have ast0 := ast0.same (del_sb s1)
    have astr := astr.same (del_sb s1)
    walk_at "rd"
    refine iteB (fun _ => ?_) (fun _ => ?_)
    · walk_at "rd"
      have os : Odds K H (L2.del H1 b) [] := .nil
      walk_at "rd"
      refine i_listB B1 (.inr (Same.sqT del_sub hst)) fun p2 H2 lt2 n2 B2 s2 e2 t2 => ?_
      have hst := Same.sqT s2 hst
      have ast := AllN.same s2 ast
      have ast0 := ast0.same s2
      have astr := astr.same s2
      have os := os.same s2
      have z2 : H p2 = none := fresh0 (s1) B1 n2
      have os := os.snoc (.lst e2 lt2 z2 (by omega) ast)
      walk_at "rd"
      refine newT B2 (Nat.le_of_ble_eq_true rfl) fun p3 H3 B3 s3 e3 t3 => ?_
      have hst := Same.sqT s3 hst
      have ast := AllN.same s3 ast
      have ast0 := ast0.same s3
      have astr := astr.same s3
      have os := os.same s3
      walk_at "rd"
      refine i_catB B3 hst (sqT_of e3) (by have : ([V.int 0] : List V).length = 1 := rfl; exact Nat.le_of_lt (size_big (by omega))) fun p4 H4 B4 s4 e4 t4 => ?_
      have hst := Same.sqT s4 hst
      have ast := AllN.same s4 ast
      have ast0 := ast0.same s4
      have astr := astr.same s4
      have os := os.same s4
      have os := os.snoc (.tupS e4 (by rw [List.length_append]; have : ([V.int 0] : List V).length = 1 := rfl; omega) (allA_app (AllN.va ast) ⟨.int (by decide), trivial⟩))
      walk_at "rd"
      refine i_sl1B B4 (Same.sqT del_sub hst) (by omega) fun p5 H5 B5 s5 e5 t5 => ?_
      have hst := Same.sqT s5 hst
      have ast := AllN.same s5 ast
      have ast0 := ast0.same s5
      have astr := astr.same s5
      have os := os.same s5
      have os := os.snoc (.tup e5 (by rw [List.length_take]; omega) (allA_take (AllN.va ast)))
      walk_at "rd"
      refine newT B5 (Nat.le_of_ble_eq_true rfl) fun p6 H6 B6 s6 e6 t6 => ?_
      have hst := Same.sqT s6 hst
      have ast := AllN.same s6 ast
      have ast0 := ast0.same s6
      have astr := astr.same s6
      have os := os.same s6
      have os := os.snoc (.tup e6 (Nat.le_of_ble_eq_true rfl) ⟨ast0, trivial⟩)
      walk_at "rd"
      refine newT B6 (Nat.le_of_ble_eq_true rfl) fun p7 H7 B7 s7 e7 t7 => ?_
      have hst := Same.sqT s7 hst
      have ast := AllN.same s7 ast
      have ast0 := ast0.same s7
      have astr := astr.same s7
      have os := os.same s7
      have os := os.snoc (.tup e7 (Nat.le_of_ble_eq_true rfl) ⟨(.int (by omega)), (.str hw1 (by omega)), trivial⟩)
      have os := os.snoc (v := .str (S w1)) (.atom (AtomN.str (l := w1) hw1 (by omega)))
      have os := os.snoc (v := .non) .non
      have os := os.snoc (v := .int a) (.atom (AtomN.int (i := a) (by omega)))
      walk_at "rd"
      refine newD B7 fun p8 H8 B8 s8 e8 t8 => ?_
      have hst := Same.sqT s8 hst
      have ast := AllN.same s8 ast
      have ast0 := ast0.same s8
      have astr := astr.same s8
      have os := os.same s8
      have os := os.snoc (.emp e8)
      walk_at "rd"
      refine newT B8 (Nat.zero_le _) fun p9 H9 B9 s9 e9 t9 => ?_
      have hst := Same.sqT s9 hst
      have ast := AllN.same s9 ast
      have ast0 := ast0.same s9
      have astr := astr.same s9
      have os := os.same s9
      have os := os.snoc (.tup e9 (Nat.le_of_ble_eq_true rfl) trivial)
      walk_at "rd"
      refine newLL B9 (Nat.le_of_ble_eq_true rfl) fun p10 H10 lt10 n10 B10 s10 e10 t10 => ?_
      have hst := Same.sqT s10 hst
      have ast := AllN.same s10 ast
      have ast0 := ast0.same s10
      have astr := astr.same s10
      have os := os.same s10
      have z10 : H p10 = none := fresh0 (s1.trans (sb_of_del (Same.trans (Same.trans (Same.trans (Same.trans (Same.trans (Same.trans (Same.trans s2 s3) s4) s5) s6) s7) s8) s9))) B9 n10
      have os := os.snoc (.lst e10 lt10 z10 (Nat.le_of_ble_eq_true rfl) ⟨(.str (by decide) (by decide)), (.int (by omega)), trivial⟩)
      walk_at "rd"
      refine newLL B10 (Nat.le_of_ble_eq_true rfl) fun p11 H11 lt11 n11 B11 s11 e11 t11 => ?_
      have hst := Same.sqT s11 hst
      have ast := AllN.same s11 ast
      have ast0 := ast0.same s11
      have astr := astr.same s11
      have os := os.same s11
      have z11 : H p11 = none := fresh0 (s1.trans (sb_of_del (Same.trans (Same.trans (Same.trans (Same.trans (Same.trans (Same.trans (Same.trans (Same.trans s2 s3) s4) s5) s6) s7) s8) s9) s10))) B10 n11
      have at11 : AtomV K H (L2.del H11 b) (.ref p11) := .lst e11 lt11 z11 (by omega)
      walk_at "rd"
      refine newT B11 (Nat.le_of_ble_eq_true rfl) fun p12 H12 B12 s12 e12 t12 => ?_
      have hst := Same.sqT s12 hst
      have ast := AllN.same s12 ast
      have ast0 := ast0.same s12
      have astr := astr.same s12
      have os := os.same s12
      have at11 := at11.same s12
      have os := os.snoc (.tup e12 (Nat.le_of_ble_eq_true rfl) ⟨(.str hw1 (by omega)), at11, trivial⟩)
      walk_at "rd"
      refine newLL B12 (Nat.le_of_ble_eq_true rfl) fun p13 H13 lt13 n13 B13 s13 e13 t13 => ?_
      have hst := Same.sqT s13 hst
      have ast := AllN.same s13 ast
      have ast0 := ast0.same s13
      have astr := astr.same s13
      have os := os.same s13
      have z13 : H p13 = none := fresh0 (s1.trans (sb_of_del (Same.trans (Same.trans (Same.trans (Same.trans (Same.trans (Same.trans (Same.trans (Same.trans (Same.trans (Same.trans s2 s3) s4) s5) s6) s7) s8) s9) s10) s11) s12))) B12 n13
      walk_at "rd"
      refine i_lenL (del_sub _ _ e13) ?_
      walk_at "rd"
      refine ⟨b, (12 : Int), _, rfl, B13, by omega, by omega, by omega, fun qz Hz qz0 qz1 Bz sz => ?_⟩
      walk_at "rd"
      obtain ⟨v, ev, hv⟩ := os_pick (os.same (del_sb sz)) qz0 (by show qz < (12 : Int); exact qz1)
      refine i_ixLv (del_sub _ _ (del_sb sz _ _ e13)) qz0 ev ?_
      exact k v _ hv (Bz.mono (by omega)) (s1.trans (sb_of_del (Same.trans (Same.trans (Same.trans (Same.trans (Same.trans (Same.trans (Same.trans (Same.trans (Same.trans (Same.trans (Same.trans (Same.trans s2 s3) s4) s5) s6) s7) s8) s9) s10) s11) s12) s13) (del_sb sz))))
    walk_at "rd"
    refine iteB (fun _ => ?_) (fun _ => ?_)
    · walk_at "rd"
      have os : Odds K H (L2.del H1 b) [] := .nil
      walk_at "rd"
      refine newT B1 (Nat.le_of_ble_eq_true rfl) fun p2 H2 B2 s2 e2 t2 => ?_
      have hst := Same.sqT s2 hst
      have ast := AllN.same s2 ast
      have ast0 := ast0.same s2
      have astr := astr.same s2
      have os := os.same s2
      have os := os.snoc (.tup e2 (Nat.le_of_ble_eq_true rfl) ⟨(.str hw1 (by omega)), (.int (by omega)), trivial⟩)
      walk_at "rd"
      refine newT B2 (Nat.le_of_ble_eq_true rfl) fun p3 H3 B3 s3 e3 t3 => ?_
      have hst := Same.sqT s3 hst
      have ast := AllN.same s3 ast
      have ast0 := ast0.same s3
      have astr := astr.same s3
      have os := os.same s3
      have os := os.snoc (.tup e3 (Nat.le_of_ble_eq_true rfl) ⟨(.str hw1 (by omega)), (.int (by omega)), trivial⟩)
      walk_at "rd"
      refine newT B3 (Nat.le_of_ble_eq_true rfl) fun p4 H4 B4 s4 e4 t4 => ?_
      have hst := Same.sqT s4 hst
      have ast := AllN.same s4 ast
      have ast0 := ast0.same s4
      have astr := astr.same s4
      have os := os.same s4
      have os := os.snoc (.tup e4 (Nat.le_of_ble_eq_true rfl) ⟨(.str hw1 (by omega)), (.int (by decide)), trivial⟩)
      walk_at "rd"
      refine newT B4 (Nat.le_of_ble_eq_true rfl) fun p5 H5 B5 s5 e5 t5 => ?_
      have hst := Same.sqT s5 hst
      have ast := AllN.same s5 ast
      have ast0 := ast0.same s5
      have astr := astr.same s5
      have os := os.same s5
      have os := os.snoc (.tup e5 (Nat.le_of_ble_eq_true rfl) ⟨(.str hw1 (by omega)), (.int (by decide)), trivial⟩)
      walk_at "rd"
      refine newT B5 (Nat.le_of_ble_eq_true rfl) fun p6 H6 B6 s6 e6 t6 => ?_
      have hst := Same.sqT s6 hst
      have ast := AllN.same s6 ast
      have ast0 := ast0.same s6
      have astr := astr.same s6
      have os := os.same s6
      have os := os.snoc (.tup e6 (Nat.le_of_ble_eq_true rfl) ⟨(.str hw1 (by omega)), (.int (by omega)), trivial⟩)
      walk_at "rd"
      refine newT B6 (Nat.le_of_ble_eq_true rfl) fun p7 H7 B7 s7 e7 t7 => ?_
      have hst := Same.sqT s7 hst
      have ast := AllN.same s7 ast
      have ast0 := ast0.same s7
      have astr := astr.same s7
      have os := os.same s7
      have os := os.snoc (.tup e7 (Nat.le_of_ble_eq_true rfl) ⟨(.str hw1 (by omega)), (.bl _), trivial⟩)
      walk_at "rd"
      refine newT B7 (Nat.le_of_ble_eq_true rfl) fun p8 H8 B8 s8 e8 t8 => ?_
      have hst := Same.sqT s8 hst
      have ast := AllN.same s8 ast
      have ast0 := ast0.same s8
      have astr := astr.same s8
      have os := os.same s8
      have os := os.snoc (.tup e8 (Nat.le_of_ble_eq_true rfl) ⟨(.str hw1 (by omega)), (.bl _), trivial⟩)
      walk_at "rd"
      refine newLL B8 (Nat.le_of_ble_eq_true rfl) fun p9 H9 lt9 n9 B9 s9 e9 t9 => ?_
      have hst := Same.sqT s9 hst
      have ast := AllN.same s9 ast
      have ast0 := ast0.same s9
      have astr := astr.same s9
      have os := os.same s9
      have z9 : H p9 = none := fresh0 (s1.trans (sb_of_del (Same.trans (Same.trans (Same.trans (Same.trans (Same.trans (Same.trans s2 s3) s4) s5) s6) s7) s8))) B8 n9
      have m1 := e9
      have os1 := os
      walk_at "rd"
      have os : Odds K H (L2.del H9 b) [] := .nil
      walk_at "rd"
      refine newT B9 (Nat.le_of_ble_eq_true rfl) fun p10 H10 B10 s10 e10 t10 => ?_
      have hst := Same.sqT s10 hst
      have ast := AllN.same s10 ast
      have ast0 := ast0.same s10
      have astr := astr.same s10
      have os1 := os1.same s10
      have m1 := s10 _ _ m1
      have os := os.same s10
      have os := os.snoc (.tup e10 (Nat.le_of_ble_eq_true rfl) ⟨(.str hw1 (by omega)), .non, trivial⟩)
      walk_at "rd"
      refine ⟨log_lt (by omega), ?_⟩
      rw [str_one a0 a5]
      walk_at "rd"
      refine newT B10 (Nat.le_of_ble_eq_true rfl) fun p11 H11 B11 s11 e11 t11 => ?_
      have hst := Same.sqT s11 hst
      have ast := AllN.same s11 ast
      have ast0 := ast0.same s11
      have astr := astr.same s11
      have os1 := os1.same s11
      have m1 := s11 _ _ m1
      have os := os.same s11
      have os := os.snoc (.tup e11 (Nat.le_of_ble_eq_true rfl) ⟨(.str hw1 (by omega)), astr, trivial⟩)
      walk_at "rd"
      refine newT B11 (Nat.le_of_ble_eq_true rfl) fun p12 H12 B12 s12 e12 t12 => ?_
      have hst := Same.sqT s12 hst
      have ast := AllN.same s12 ast
      have ast0 := ast0.same s12
      have astr := astr.same s12
      have os1 := os1.same s12
      have m1 := s12 _ _ m1
      have os := os.same s12
      have at12 : AtomV K H (L2.del H12 b) (.ref p12) := .tup e12 (by omega)
      walk_at "rd"
      refine newT B12 (Nat.le_of_ble_eq_true rfl) fun p13 H13 B13 s13 e13 t13 => ?_
      have hst := Same.sqT s13 hst
      have ast := AllN.same s13 ast
      have ast0 := ast0.same s13
      have astr := astr.same s13
      have os1 := os1.same s13
      have m1 := s13 _ _ m1
      have os := os.same s13
      have at12 := at12.same s13
      have os := os.snoc (.tup e13 (Nat.le_of_ble_eq_true rfl) ⟨(.str hw1 (by omega)), at12, trivial⟩)
      walk_at "rd"
      refine newT B13 (Nat.le_of_ble_eq_true rfl) fun p14 H14 B14 s14 e14 t14 => ?_
      have hst := Same.sqT s14 hst
      have ast := AllN.same s14 ast
      have ast0 := ast0.same s14
      have astr := astr.same s14
      have os1 := os1.same s14
      have m1 := s14 _ _ m1
      have os := os.same s14
      have os := os.snoc (.tup e14 (Nat.le_of_ble_eq_true rfl) ⟨(.str hw1 (by omega)), (.int (by decide +kernel)), trivial⟩)
      walk_at "rd"
      refine newLL B14 (Nat.le_of_ble_eq_true rfl) fun p15 H15 lt15 n15 B15 s15 e15 t15 => ?_
      have hst := Same.sqT s15 hst
      have ast := AllN.same s15 ast
      have ast0 := ast0.same s15
      have astr := astr.same s15
      have os1 := os1.same s15
      have m1 := s15 _ _ m1
      have os := os.same s15
      have z15 : H p15 = none := fresh0 (s1.trans (sb_of_del (Same.trans (Same.trans (Same.trans (Same.trans (Same.trans (Same.trans (Same.trans (Same.trans (Same.trans (Same.trans (Same.trans (Same.trans s2 s3) s4) s5) s6) s7) s8) s9) s10) s11) s12) s13) s14))) B14 n15
      walk_at "rd"
      refine i_catLB B15 m1 e15 (Nat.le_of_ble_eq_true rfl) fun p16 H16 B16 s16 e16 t16 => ?_
      have hst := Same.sqT s16 hst
      have ast := AllN.same s16 ast
      have ast0 := ast0.same s16
      have astr := astr.same s16
      have os := (os1.app os).same s16
      walk_at "rd"
      refine i_lenL (del_sub _ _ e16) ?_
      walk_at "rd"
      refine ⟨b, (11 : Int), _, rfl, B16, by omega, by omega, by omega, fun qz Hz qz0 qz1 Bz sz => ?_⟩
      walk_at "rd"
      obtain ⟨v, ev, hv⟩ := os_pick (os.same (del_sb sz)) qz0 (by show qz < (11 : Int); exact qz1)
      refine i_ixLv (del_sub _ _ (del_sb sz _ _ e16)) qz0 ev ?_
      exact k v _ hv (Bz.mono (by omega)) (s1.trans (sb_of_del (Same.trans (Same.trans (Same.trans (Same.trans (Same.trans (Same.trans (Same.trans (Same.trans (Same.trans (Same.trans (Same.trans (Same.trans (Same.trans (Same.trans (Same.trans s2 s3) s4) s5) s6) s7) s8) s9) s10) s11) s12) s13) s14) s15) s16) (del_sb sz))))
    walk_at "rd"
    refine iteB (fun _ => ?_) (fun _ => ?_)
    · walk_at "rd"
      have os : Odds K H (L2.del H1 b) [] := .nil
      walk_at "rd"
      refine newT B1 (Nat.le_of_ble_eq_true rfl) fun p2 H2 B2 s2 e2 t2 => ?_
      have hst := Same.sqT s2 hst
      have ast := AllN.same s2 ast
      have ast0 := ast0.same s2
      have astr := astr.same s2
      have os := os.same s2
      have os := os.snoc (.tup e2 (Nat.le_of_ble_eq_true rfl) ⟨(.str (by decide) (by decide)), (.int (by omega)), (.int (by omega)), trivial⟩)
      walk_at "rd"
      refine newT B2 (Nat.le_of_ble_eq_true rfl) fun p3 H3 B3 s3 e3 t3 => ?_
      have hst := Same.sqT s3 hst
      have ast := AllN.same s3 ast
      have ast0 := ast0.same s3
      have astr := astr.same s3
      have os := os.same s3
      have os := os.snoc (.tup e3 (Nat.le_of_ble_eq_true rfl) ⟨(.str (by decide) (by decide)), (.int (by omega)), trivial⟩)
      walk_at "rd"
      refine newT B3 (Nat.le_of_ble_eq_true rfl) fun p4 H4 B4 s4 e4 t4 => ?_
      have hst := Same.sqT s4 hst
      have ast := AllN.same s4 ast
      have ast0 := ast0.same s4
      have astr := astr.same s4
      have os := os.same s4
      have os := os.snoc (.tup e4 (Nat.le_of_ble_eq_true rfl) ⟨(.str (by decide) (by decide)), (.int (by omega)), (.int (by decide)), trivial⟩)
      walk_at "rd"
      refine newT B4 (Nat.le_of_ble_eq_true rfl) fun p5 H5 B5 s5 e5 t5 => ?_
      have hst := Same.sqT s5 hst
      have ast := AllN.same s5 ast
      have ast0 := ast0.same s5
      have astr := astr.same s5
      have os := os.same s5
      have os := os.snoc (.tup e5 (Nat.le_of_ble_eq_true rfl) ⟨(.str (by decide) (by decide)), (.int (by decide)), (.int (by omega)), trivial⟩)
      walk_at "rd"
      refine newT B5 (Nat.le_of_ble_eq_true rfl) fun p6 H6 B6 s6 e6 t6 => ?_
      have hst := Same.sqT s6 hst
      have ast := AllN.same s6 ast
      have ast0 := ast0.same s6
      have astr := astr.same s6
      have os := os.same s6
      have os := os.snoc (.tup e6 (Nat.le_of_ble_eq_true rfl) ⟨(.str (by decide) (by decide)), (.int (by decide)), (.int (by omega)), trivial⟩)
      walk_at "rd"
      refine newT B6 (Nat.le_of_ble_eq_true rfl) fun p7 H7 B7 s7 e7 t7 => ?_
      have hst := Same.sqT s7 hst
      have ast := AllN.same s7 ast
      have ast0 := ast0.same s7
      have astr := astr.same s7
      have os := os.same s7
      have os := os.snoc (.tup e7 (Nat.le_of_ble_eq_true rfl) ⟨(.str (by decide) (by decide)), (.int (by omega)), (.int (by decide)), trivial⟩)
      walk_at "rd"
      refine newLL B7 (Nat.le_of_ble_eq_true rfl) fun p8 H8 lt8 n8 B8 s8 e8 t8 => ?_
      have hst := Same.sqT s8 hst
      have ast := AllN.same s8 ast
      have ast0 := ast0.same s8
      have astr := astr.same s8
      have os := os.same s8
      have z8 : H p8 = none := fresh0 (s1.trans (sb_of_del (Same.trans (Same.trans (Same.trans (Same.trans (Same.trans s2 s3) s4) s5) s6) s7))) B7 n8
      have m1 := e8
      have os1 := os
      walk_at "rd"
      have os : Odds K H (L2.del H8 b) [] := .nil
      walk_at "rd"
      refine newT B8 (Nat.le_of_ble_eq_true rfl) fun p9 H9 B9 s9 e9 t9 => ?_
      have hst := Same.sqT s9 hst
      have ast := AllN.same s9 ast
      have ast0 := ast0.same s9
      have astr := astr.same s9
      have os1 := os1.same s9
      have m1 := s9 _ _ m1
      have os := os.same s9
      have os := os.snoc (.tup e9 (Nat.le_of_ble_eq_true rfl) ⟨(.str (by decide) (by decide)), (.int (by omega)), (.int (by omega)), trivial⟩)
      walk_at "rd"
      refine newT B9 (Nat.le_of_ble_eq_true rfl) fun p10 H10 B10 s10 e10 t10 => ?_
      have hst := Same.sqT s10 hst
      have ast := AllN.same s10 ast
      have ast0 := ast0.same s10
      have astr := astr.same s10
      have os1 := os1.same s10
      have m1 := s10 _ _ m1
      have os := os.same s10
      have os := os.snoc (.tup e10 (Nat.le_of_ble_eq_true rfl) ⟨(.str (by decide) (by decide)), (.bl _), (.int (by decide)), trivial⟩)
      walk_at "rd"
      refine newT B10 (Nat.le_of_ble_eq_true rfl) fun p11 H11 B11 s11 e11 t11 => ?_
      have hst := Same.sqT s11 hst
      have ast := AllN.same s11 ast
      have ast0 := ast0.same s11
      have astr := astr.same s11
      have os1 := os1.same s11
      have m1 := s11 _ _ m1
      have os := os.same s11
      have os := os.snoc (.tup e11 (Nat.le_of_ble_eq_true rfl) ⟨(.str (by decide) (by decide)), (.int (by decide)), (.bl _), trivial⟩)
      walk_at "rd"
      refine newT B11 (Nat.le_of_ble_eq_true rfl) fun p12 H12 B12 s12 e12 t12 => ?_
      have hst := Same.sqT s12 hst
      have ast := AllN.same s12 ast
      have ast0 := ast0.same s12
      have astr := astr.same s12
      have os1 := os1.same s12
      have m1 := s12 _ _ m1
      have os := os.same s12
      have os := os.snoc (.tup e12 (Nat.le_of_ble_eq_true rfl) ⟨(.str (by decide) (by decide)), (.int (by omega)), .non, trivial⟩)
      walk_at "rd"
      refine newLL B12 (Nat.le_of_ble_eq_true rfl) fun p13 H13 lt13 n13 B13 s13 e13 t13 => ?_
      have hst := Same.sqT s13 hst
      have ast := AllN.same s13 ast
      have ast0 := ast0.same s13
      have astr := astr.same s13
      have os1 := os1.same s13
      have m1 := s13 _ _ m1
      have os := os.same s13
      have z13 : H p13 = none := fresh0 (s1.trans (sb_of_del (Same.trans (Same.trans (Same.trans (Same.trans (Same.trans (Same.trans (Same.trans (Same.trans (Same.trans (Same.trans s2 s3) s4) s5) s6) s7) s8) s9) s10) s11) s12))) B12 n13
      walk_at "rd"
      refine i_catLB B13 m1 e13 (Nat.le_of_ble_eq_true rfl) fun p14 H14 B14 s14 e14 t14 => ?_
      have hst := Same.sqT s14 hst
      have ast := AllN.same s14 ast
      have ast0 := ast0.same s14
      have astr := astr.same s14
      have os := (os1.app os).same s14
      have m1 := e14
      have os1 := os
      walk_at "rd"
      have os : Odds K H (L2.del H14 b) [] := .nil
      walk_at "rd"
      refine newT B14 (Nat.le_of_ble_eq_true rfl) fun p15 H15 B15 s15 e15 t15 => ?_
      have hst := Same.sqT s15 hst
      have ast := AllN.same s15 ast
      have ast0 := ast0.same s15
      have astr := astr.same s15
      have os1 := os1.same s15
      have m1 := s15 _ _ m1
      have os := os.same s15
      have os := os.snoc (.tup e15 (Nat.le_of_ble_eq_true rfl) ⟨(.str (by decide) (by decide)), (.int (by omega)), (.int (by omega)), trivial⟩)
      walk_at "rd"
      refine newT B15 (Nat.le_of_ble_eq_true rfl) fun p16 H16 B16 s16 e16 t16 => ?_
      have hst := Same.sqT s16 hst
      have ast := AllN.same s16 ast
      have ast0 := ast0.same s16
      have astr := astr.same s16
      have os1 := os1.same s16
      have m1 := s16 _ _ m1
      have os := os.same s16
      have os := os.snoc (.tup e16 (Nat.le_of_ble_eq_true rfl) ⟨(.str (by decide) (by decide)), (.int (by omega)), (.str (by decide) (by decide)), trivial⟩)
      walk_at "rd"
      refine newT B16 (Nat.le_of_ble_eq_true rfl) fun p17 H17 B17 s17 e17 t17 => ?_
      have hst := Same.sqT s17 hst
      have ast := AllN.same s17 ast
      have ast0 := ast0.same s17
      have astr := astr.same s17
      have os1 := os1.same s17
      have m1 := s17 _ _ m1
      have os := os.same s17
      have os := os.snoc (.tup e17 (Nat.le_of_ble_eq_true rfl) ⟨(.str (by decide) (by decide)), (.int (by omega)), (.int (by omega)), (.int (by omega)), trivial⟩)
      walk_at "rd"
      refine newT B17 (Nat.le_of_ble_eq_true rfl) fun p18 H18 B18 s18 e18 t18 => ?_
      have hst := Same.sqT s18 hst
      have ast := AllN.same s18 ast
      have ast0 := ast0.same s18
      have astr := astr.same s18
      have os1 := os1.same s18
      have m1 := s18 _ _ m1
      have os := os.same s18
      have os := os.snoc (.tup e18 (Nat.le_of_ble_eq_true rfl) ⟨(.str (by decide) (by decide)), trivial⟩)
      walk_at "rd"
      refine newLL B18 (Nat.le_of_ble_eq_true rfl) fun p19 H19 lt19 n19 B19 s19 e19 t19 => ?_
      have hst := Same.sqT s19 hst
      have ast := AllN.same s19 ast
      have ast0 := ast0.same s19
      have astr := astr.same s19
      have os1 := os1.same s19
      have m1 := s19 _ _ m1
      have os := os.same s19
      have z19 : H p19 = none := fresh0 (s1.trans (sb_of_del (Same.trans (Same.trans (Same.trans (Same.trans (Same.trans (Same.trans (Same.trans (Same.trans (Same.trans (Same.trans (Same.trans (Same.trans (Same.trans (Same.trans (Same.trans (Same.trans s2 s3) s4) s5) s6) s7) s8) s9) s10) s11) s12) s13) s14) s15) s16) s17) s18))) B18 n19
      walk_at "rd"
      refine i_catLB B19 m1 e19 (Nat.le_of_ble_eq_true rfl) fun p20 H20 B20 s20 e20 t20 => ?_
      have hst := Same.sqT s20 hst
      have ast := AllN.same s20 ast
      have ast0 := ast0.same s20
      have astr := astr.same s20
      have os := (os1.app os).same s20
      walk_at "rd"
      refine i_lenL (del_sub _ _ e20) ?_
      walk_at "rd"
      refine ⟨b, (14 : Int), _, rfl, B20, by omega, by omega, by omega, fun qz Hz qz0 qz1 Bz sz => ?_⟩
      walk_at "rd"
      obtain ⟨v, ev, hv⟩ := os_pick (os.same (del_sb sz)) qz0 (by show qz < (14 : Int); exact qz1)
      refine i_ixLv (del_sub _ _ (del_sb sz _ _ e20)) qz0 ev ?_
      exact k v _ hv (Bz.mono (by omega)) (s1.trans (sb_of_del (Same.trans (Same.trans (Same.trans (Same.trans (Same.trans (Same.trans (Same.trans (Same.trans (Same.trans (Same.trans (Same.trans (Same.trans (Same.trans (Same.trans (Same.trans (Same.trans (Same.trans (Same.trans (Same.trans s2 s3) s4) s5) s6) s7) s8) s9) s10) s11) s12) s13) s14) s15) s16) s17) s18) s19) s20) (del_sb sz))))
    walk_at "rd"
    have os : Odds K H (L2.del H1 b) [] := .nil
    walk_at "rd"
    refine newT B1 (Nat.le_of_ble_eq_true rfl) fun p2 H2 B2 s2 e2 t2 => ?_
    have hst := Same.sqT s2 hst
    have ast := AllN.same s2 ast
    have ast0 := ast0.same s2
    have astr := astr.same s2
    have os := os.same s2
    have os := os.snoc (.tup e2 (Nat.le_of_ble_eq_true rfl) ⟨(.str (by decide) (by decide)), (.int (by omega)), trivial⟩)
    walk_at "rd"
    refine newT B2 (Nat.le_of_ble_eq_true rfl) fun p3 H3 B3 s3 e3 t3 => ?_
    have hst := Same.sqT s3 hst
    have ast := AllN.same s3 ast
    have ast0 := ast0.same s3
    have astr := astr.same s3
    have os := os.same s3
    have os := os.snoc (.tup e3 (Nat.le_of_ble_eq_true rfl) ⟨(.str (by decide) (by decide)), (.int (by omega)), (.int (by omega)), trivial⟩)
    walk_at "rd"
    refine newT B3 (Nat.le_of_ble_eq_true rfl) fun p4 H4 B4 s4 e4 t4 => ?_
    have hst := Same.sqT s4 hst
    have ast := AllN.same s4 ast
    have ast0 := ast0.same s4
    have astr := astr.same s4
    have os := os.same s4
    have os := os.snoc (.tup e4 (Nat.le_of_ble_eq_true rfl) ⟨(.str (by decide) (by decide)), (.int (by omega)), (.int (by omega)), trivial⟩)
    walk_at "rd"
    refine newT B4 (Nat.le_of_ble_eq_true rfl) fun p5 H5 B5 s5 e5 t5 => ?_
    have hst := Same.sqT s5 hst
    have ast := AllN.same s5 ast
    have ast0 := ast0.same s5
    have astr := astr.same s5
    have os := os.same s5
    have os := os.snoc (.tup e5 (Nat.le_of_ble_eq_true rfl) ⟨(.str (by decide) (by decide)), trivial⟩)
    walk_at "rd"
    refine newT B5 (Nat.le_of_ble_eq_true rfl) fun p6 H6 B6 s6 e6 t6 => ?_
    have hst := Same.sqT s6 hst
    have ast := AllN.same s6 ast
    have ast0 := ast0.same s6
    have astr := astr.same s6
    have os := os.same s6
    have os := os.snoc (.tup e6 (Nat.le_of_ble_eq_true rfl) ⟨(.str (by decide) (by decide)), (.int (by omega)), trivial⟩)
    walk_at "rd"
    refine newT B6 (Nat.le_of_ble_eq_true rfl) fun p7 H7 B7 s7 e7 t7 => ?_
    have hst := Same.sqT s7 hst
    have ast := AllN.same s7 ast
    have ast0 := ast0.same s7
    have astr := astr.same s7
    have os := os.same s7
    have os := os.snoc (.tup e7 (Nat.le_of_ble_eq_true rfl) ⟨.non, (.int (by omega)), trivial⟩)
    walk_at "rd"
    refine newT B7 (Nat.le_of_ble_eq_true rfl) fun p8 H8 B8 s8 e8 t8 => ?_
    have hst := Same.sqT s8 hst
    have ast := AllN.same s8 ast
    have ast0 := ast0.same s8
    have astr := astr.same s8
    have os := os.same s8
    have at8 : AtomV K H (L2.del H8 b) (.ref p8) := .tupS e8 (by decide) (by decide)
    walk_at "rd"
    refine newT B8 (Nat.le_of_ble_eq_true rfl) fun p9 H9 B9 s9 e9 t9 => ?_
    have hst := Same.sqT s9 hst
    have ast := AllN.same s9 ast
    have ast0 := ast0.same s9
    have astr := astr.same s9
    have os := os.same s9
    have at8 := at8.same s9
    have os := os.snoc (.tup e9 (Nat.le_of_ble_eq_true rfl) ⟨at8, (.int (by omega)), trivial⟩)
    walk_at "rd"
    refine newT B9 (Nat.le_of_ble_eq_true rfl) fun p10 H10 B10 s10 e10 t10 => ?_
    have hst := Same.sqT s10 hst
    have ast := AllN.same s10 ast
    have ast0 := ast0.same s10
    have astr := astr.same s10
    have os := os.same s10
    have os := os.snoc (.tup e10 (Nat.le_of_ble_eq_true rfl) ⟨(.str (by decide) (by decide)), (.int (by omega)), trivial⟩)
    walk_at "rd"
    refine newLL B10 (Nat.le_of_ble_eq_true rfl) fun p11 H11 lt11 n11 B11 s11 e11 t11 => ?_
    have hst := Same.sqT s11 hst
    have ast := AllN.same s11 ast
    have ast0 := ast0.same s11
    have astr := astr.same s11
    have os := os.same s11
    have z11 : H p11 = none := fresh0 (s1.trans (sb_of_del (Same.trans (Same.trans (Same.trans (Same.trans (Same.trans (Same.trans (Same.trans (Same.trans s2 s3) s4) s5) s6) s7) s8) s9) s10))) B10 n11
    have m1 := e11
    have os1 := os
    walk_at "rd"
    have os : Odds K H (L2.del H11 b) [] := .nil
    walk_at "rd"
    refine newT B11 (Nat.le_of_ble_eq_true rfl) fun p12 H12 B12 s12 e12 t12 => ?_
    have hst := Same.sqT s12 hst
    have ast := AllN.same s12 ast
    have ast0 := ast0.same s12
    have astr := astr.same s12
    have os1 := os1.same s12
    have m1 := s12 _ _ m1
    have os := os.same s12
    have os := os.snoc (.tup e12 (Nat.le_of_ble_eq_true rfl) ⟨(.str (by decide) (by decide)), trivial⟩)
    walk_at "rd"
    refine newT B12 (Nat.le_of_ble_eq_true rfl) fun p13 H13 B13 s13 e13 t13 => ?_
    have hst := Same.sqT s13 hst
    have ast := AllN.same s13 ast
    have ast0 := ast0.same s13
    have astr := astr.same s13
    have os1 := os1.same s13
    have m1 := s13 _ _ m1
    have os := os.same s13
    have os := os.snoc (.tup e13 (Nat.le_of_ble_eq_true rfl) ⟨(.str (by decide) (by decide)), (.int (by omega)), trivial⟩)
    walk_at "rd"
    refine newT B13 (Nat.le_of_ble_eq_true rfl) fun p14 H14 B14 s14 e14 t14 => ?_
    have hst := Same.sqT s14 hst
    have ast := AllN.same s14 ast
    have ast0 := ast0.same s14
    have astr := astr.same s14
    have os1 := os1.same s14
    have m1 := s14 _ _ m1
    have os := os.same s14
    have os := os.snoc (.tup e14 (Nat.le_of_ble_eq_true rfl) ⟨(.str (by decide) (by decide)), (.int (by omega)), trivial⟩)
    walk_at "rd"
    refine newT B14 (Nat.le_of_ble_eq_true rfl) fun p15 H15 B15 s15 e15 t15 => ?_
    have hst := Same.sqT s15 hst
    have ast := AllN.same s15 ast
    have ast0 := ast0.same s15
    have astr := astr.same s15
    have os1 := os1.same s15
    have m1 := s15 _ _ m1
    have os := os.same s15
    have os := os.snoc (.tup e15 (Nat.le_of_ble_eq_true rfl) ⟨(.str (by decide) (by decide)), (.int (by decide)), trivial⟩)
    walk_at "rd"
    refine newT B15 (Nat.le_of_ble_eq_true rfl) fun p16 H16 B16 s16 e16 t16 => ?_
    have hst := Same.sqT s16 hst
    have ast := AllN.same s16 ast
    have ast0 := ast0.same s16
    have astr := astr.same s16
    have os1 := os1.same s16
    have m1 := s16 _ _ m1
    have os := os.same s16
    have os := os.snoc (.tup e16 (Nat.le_of_ble_eq_true rfl) ⟨(.str (by decide) (by decide)), (.int (by decide)), trivial⟩)
    walk_at "rd"
    refine newT B16 (Nat.le_of_ble_eq_true rfl) fun p17 H17 B17 s17 e17 t17 => ?_
    have hst := Same.sqT s17 hst
    have ast := AllN.same s17 ast
    have ast0 := ast0.same s17
    have astr := astr.same s17
    have os1 := os1.same s17
    have m1 := s17 _ _ m1
    have os := os.same s17
    have os := os.snoc (.tup e17 (Nat.le_of_ble_eq_true rfl) ⟨(.str (by decide) (by decide)), (.int (by decide)), trivial⟩)
    walk_at "rd"
    refine newT B17 (Nat.le_of_ble_eq_true rfl) fun p18 H18 B18 s18 e18 t18 => ?_
    have hst := Same.sqT s18 hst
    have ast := AllN.same s18 ast
    have ast0 := ast0.same s18
    have astr := astr.same s18
    have os1 := os1.same s18
    have m1 := s18 _ _ m1
    have os := os.same s18
    have os := os.snoc (.tup e18 (Nat.le_of_ble_eq_true rfl) ⟨(.str (by decide) (by decide)), (.int (by decide)), trivial⟩)
    walk_at "rd"
    refine newLL B18 (Nat.le_of_ble_eq_true rfl) fun p19 H19 lt19 n19 B19 s19 e19 t19 => ?_
    have hst := Same.sqT s19 hst
    have ast := AllN.same s19 ast
    have ast0 := ast0.same s19
    have astr := astr.same s19
    have os1 := os1.same s19
    have m1 := s19 _ _ m1
    have os := os.same s19
    have z19 : H p19 = none := fresh0 (s1.trans (sb_of_del (Same.trans (Same.trans (Same.trans (Same.trans (Same.trans (Same.trans (Same.trans (Same.trans (Same.trans (Same.trans (Same.trans (Same.trans (Same.trans (Same.trans (Same.trans (Same.trans s2 s3) s4) s5) s6) s7) s8) s9) s10) s11) s12) s13) s14) s15) s16) s17) s18))) B18 n19
    walk_at "rd"
    refine i_catLB B19 m1 e19 (Nat.le_of_ble_eq_true rfl) fun p20 H20 B20 s20 e20 t20 => ?_
    have hst := Same.sqT s20 hst
    have ast := AllN.same s20 ast
    have ast0 := ast0.same s20
    have astr := astr.same s20
    have os := (os1.app os).same s20
    walk_at "rd"
    refine i_lenL (del_sub _ _ e20) ?_
    walk_at "rd"
    refine ⟨b, (15 : Int), _, rfl, B20, by omega, by omega, by omega, fun qz Hz qz0 qz1 Bz sz => ?_⟩
    walk_at "rd"
    obtain ⟨v, ev, hv⟩ := os_pick (os.same (del_sb sz)) qz0 (by show qz < (15 : Int); exact qz1)
    refine i_ixLv (del_sub _ _ (del_sb sz _ _ e20)) qz0 ev ?_
    exact k v _ hv (Bz.mono (by omega)) (s1.trans (sb_of_del (Same.trans (Same.trans (Same.trans (Same.trans (Same.trans (Same.trans (Same.trans (Same.trans (Same.trans (Same.trans (Same.trans (Same.trans (Same.trans (Same.trans (Same.trans (Same.trans (Same.trans (Same.trans (Same.trans s2 s3) s4) s5) s6) s7) s8) s9) s10) s11) s12) s13) s14) s15) s16) s17) s18) s19) s20) (del_sb sz))))
end
end Sw
namespace Sw
open PySem PySem.Spec PyProof.Rows L2
local macro_rules | `(tactic| walk_at "hp") => `(tactic| first
  | (with_reducible assumption) | (with_reducible exact upd_same)
  | ((with_reducible refine' upd_old ?q1 ?q2); (case q1 => (with_reducible assumption)); (case q2 => walk_at "hp"))
  | ((with_reducible refine' Same.at ?q1 ?q2); (case q1 => (with_reducible assumption)); (case q2 => walk_at "hp"))
  | ((with_reducible refine' upd_skip ?q1 ?q2); (case q1 => walk_at "ne"); (case q2 => walk_at "hp"))
  | fail)
local macro_rules | `(tactic| walk_at "ne") => `(tactic| first
  | (with_reducible assumption) | (with_reducible exact Ne.symm (by assumption))
  | ((with_reducible refine' ne_of_none ?q1 ?q2); (case q2 => (with_reducible assumption)); (case q1 => walk_at "hp"))
  | fail)
local macro_rules | `(tactic| walk_at "ci") => `(tactic| first | assumption | (show (0 : Int) < _; first | decide | (with_reducible omega)) | exact ⟨by decide, by decide⟩ | exact .inl ⟨by decide, by decide⟩ | exact .inr ⟨by decide, by decide⟩)
local macro_rules | `(tactic| walk_at "ln") => `(tactic| first | (with_reducible assumption) | (with_reducible omega) | (simp only [List.length_append, List.length_take, List.length_drop, List.length_reverse, List.length_cons, List.length_nil]; with_reducible omega))
local macro_rules | `(tactic| walk_at "rd1") => `(tactic| first
  | (with_reducible refine i_seq ?_) | (with_reducible refine i_asg ?_) | (with_reducible refine i_ret ?_) | (with_reducible refine i_name ?_) | ((with_reducible refine' i_var ?q1 ?_); (case q1 => exact rfl)) | (with_reducible refine i_c ?_) | (with_reducible refine i_op ?_) | (with_reducible refine i_un ?_)
  | (with_reducible refine i_rI0 ?_) | (with_reducible refine i_cb ?_) | (with_reducible refine i_cons ?_) | (with_reducible refine i_nil ?_) | (with_reducible refine i_call ?_) | (with_reducible refine i_if ?_) | (with_reducible refine i_ifE ?_) | (with_reducible refine i_test ?_) | (with_reducible refine i_bl ?_)
  | (with_reducible refine i_and ?_) | (with_reducible refine i_or ?_) | (with_reducible refine i_not ?_) | (with_reducible refine i_lstM ?_) | (with_reducible refine i_lstLM ?_) | (with_reducible refine i_tupM ?_) | (with_reducible refine i_next ?_) | (with_reducible refine i_drop ?_) | (with_reducible refine i_sub ?_)
  | (with_reducible refine i_bm ?_) | (with_reducible refine i_sl ?_) | (with_reducible refine i_part ?_) | (with_reducible refine i_nopart ?_) | (with_reducible refine i_exI ?_) | (with_reducible refine i_chain ?_) | ((with_reducible refine' i_aug ?q1 ?_); (case q1 => exact rfl)) | (with_reducible refine i_ip ?_)
  | (with_reducible refine i_par ?_) | (with_reducible refine i_pair ?_) | (with_reducible refine i_andV ?_) | (with_reducible refine i_orV ?_) | (with_reducible refine i_notV ?_) | (with_reducible refine i_m1 ?_) | (with_reducible refine i_str ?_)
  | (with_reducible refine iteF ?_) | (with_reducible refine iteT ?_) | (with_reducible refine iteNT ?_) | (with_reducible refine iteNF ?_) | (with_reducible refine i_tyS ?_) | (with_reducible refine i_tB ?_) | (with_reducible refine i_retN ?_) | (with_reducible refine i_par3 ?_) | (with_reducible refine i_trip ?_) | (with_reducible refine i_gCons ?_) | (with_reducible refine i_gNil ?_) | (with_reducible refine i_lstRg ?_) | (with_reducible refine i_rg1 ?_)
  | (with_reducible refine i_lc ?_) | (with_reducible refine i_for ?_) | (with_reducible refine i_iList ?_) | (with_reducible refine i_iTup ?_) | (with_reducible refine i_iStr ?_) | (with_reducible refine i_iRng1 ?_) | (with_reducible refine i_iEnS ?_)
  | ((with_reducible refine' i_ixTH ?q1 ?q2 ?_); (case q1 => walk_at "hp"); (case q2 => exact rfl))
  | ((with_reducible refine' i_ixLH ?q1 ?q2 ?_); (case q1 => walk_at "hp"); (case q2 => exact rfl))
  | ((with_reducible refine i_addS ?q1 ?_); (case q1 => walk_at "ln")) | ((with_reducible refine i_lenSS ?q1 ?_); (case q1 => walk_at "ln")) | ((with_reducible refine i_slFrom ?q1 ?q2 ?_); (case q1 => walk_at "ln"); (case q2 => walk_at "ln")) | ((with_reducible refine i_slTo ?q1 ?q2 ?_); (case q1 => walk_at "ln"); (case q2 => walk_at "ln"))
  | ((with_reducible refine' i_tyL ?q1 ?_); (case q1 => walk_at "hp"))
  | ((with_reducible refine' i_gTupH ?q1 ?q2 ?_); (case q1 => walk_at "hp"); (case q2 => exact rfl))
  | (with_reducible refine i_dnewM ?_) | (with_reducible refine i_init ?_) | (with_reducible refine i_fst ?_) | (with_reducible refine i_mk ?_) | (with_reducible refine i_raise ?_) | (with_reducible refine i_callS ?_) | (with_reducible refine i_kwS ?_)
  | (with_reducible refine i_revT ?_) | (with_reducible refine i_kw ?_) | ((with_reducible refine' ⟨_, _, rfl, sqT_of ?q1, ?_⟩); (case q1 => walk_at "hp"))
  | (with_reducible refine i_revS ?_) | ((with_reducible refine i_revSS ?q1 ?_); (case q1 => walk_at "ln"))
  | (with_reducible refine i_startS ?_) | (with_reducible refine i_inSg ?_) | (with_reducible refine i_absN ?_) | (with_reducible refine i_min2 ?_) | (with_reducible refine i_max2 ?_) | (with_reducible refine i_min3 ?_) | (with_reducible refine i_intN ?_) | (with_reducible refine i_intNB ?_)
  | ((with_reducible refine' i_lenL ?q1 ?_); (case q1 => walk_at "hp")) | ((with_reducible refine' i_lenT ?q1 ?_); (case q1 => walk_at "hp"))
  | (with_reducible refine i_eqI ?_) | (with_reducible refine i_neI ?_) | (with_reducible refine i_eqS ?_) | (with_reducible refine i_neS ?_) | (with_reducible refine i_isNoI ?_) | (with_reducible refine i_isNoN ?_) | (with_reducible refine i_isNoR ?_)
  | ((with_reducible refine i_pow ?q1 ?q2 ?q3 ?_); (case q1 => decide); (case q2 => decide); (case q3 => (with_reducible omega)))
  | ((with_reducible refine i_rI ?q1 ?_); (case q1 => walk_at "ci"))
  | (with_reducible refine Or.inl ⟨_, rfl, ?_⟩) | (with_reducible refine Or.inr ⟨_, rfl, ?_⟩) | (with_reducible refine ⟨_, rfl, ?_⟩) | (with_reducible refine ⟨_, _, rfl, ?_⟩) | (with_reducible refine ⟨_, _, rfl, rfl, ?_⟩)
  | ((with_reducible refine' ⟨_, _, rfl, Or.inl (sqL_of ?q1), ?_⟩); (case q1 => walk_at "hp")) | ((with_reducible refine' ⟨_, _, rfl, Or.inr (sqT_of ?q1), ?_⟩); (case q1 => walk_at "hp")) | fail)
local macro_rules | `(tactic| walk_at "rd") => `(tactic| repeat' walk_at "rd1")

theorem good_sds {m : Int} {ds : List PyData} (h : ∀ s ∈ ds, goodS m s) (hm : m ≤ 5) : SdAll 1 (ds.length * 31) ds := sd_all fun s hs => good_sd (h s hs) hm
theorem good_flat {m : Int} {ds : List PyData} (h : ∀ s ∈ ds, goodS m s) : (PyData.tuple ds).hasDict = false := hasDict_tup.mpr fun s hs => (good_noL (h s hs)).2
theorem good_noI {m : Int} {s : PyData} (h : goodS m s) : isI s = false := by
  obtain ⟨w, is, rfl, _⟩ := step_inv h
  rfl
theorem StOk.of1 {d : PyData} (h : Ok1 d) : StOk d := by
  rcases h with rfl | h
  · exact .emp
  · exact .flat h
theorem PsOk.of1 {d : PyData} (h : Ok1 d) : PsOk d := by
  rcases h with rfl | h
  · exact .emp
  · exact .flat h
/-- a passing with one odd value in it -/
theorem psOk_near {m : Int} {xs ys : List PyData} {o : PyData} (hx : ∀ s ∈ xs, goodS m s) (hy : ∀ s ∈ ys, goodS m s) (ho : Ok1 o) : PsOk (.tuple (xs ++ [o] ++ ys)) := by
  have cl : ∀ y ∈ xs ++ [o] ++ ys, Ok1 y := fun y h => by
    rcases List.mem_append.mp h with h | h
    · rcases List.mem_append.mp h with h | h
      · exact .inr (good_noL (hx y h)).2
      · rw [List.mem_singleton.mp h]; exact ho
    · exact .inr (good_noL (hy y h)).2
  refine ⟨⟨fun ds e y h => ?_, fun a c e hc => ?_⟩, fun ds e y h => ?_⟩
  · cases e; exact cl y h
  · have e := PyData.tuple.inj e
    rcases xs with _ | ⟨x, xs⟩
    · have : ys = [c] := by simpa using (List.cons.inj e).2
      have := good_noI (hy c (by rw [this]; exact List.mem_cons_self))
      rw [this] at hc; cases hc
    · have : x = a := (List.cons.inj e).1
      rw [← this]
      exact (good_noL (hx x List.mem_cons_self)).2
  · cases e; exact .of1 (cl y h)
/-- a value near a passing -/
structure NearV (K : PySem.W.Frag) (G : Hp) (v : V) (d : PyData) : Prop where
  de : De K G v d
  sd : Sd 6 40000 d
  ok : PsOk d
  ls : LsOk d
theorem NearV.same {K : PySem.W.Frag} {G G' : Hp} {v : V} {d : PyData} (h : NearV K G v d) (s : Same G G') : NearV K G' v d := ⟨h.de.same s, h.sd, h.ok, h.ls⟩
/-- _law_near(box, passing, signs) -/
def spNear (K : PySem.W.Frag) : Sp := fun vs H Q _ => ∃ (b p : Addr) (ds : List PyData) (m d0 : Int), vs = [.ref b, .ref p, .int m] ∧ 1 ≤ m ∧ m ≤ 5 ∧ De K (L2.del H b) (.ref p) (.tuple ds) ∧ ds.length ≤ 399 ∧ (∀ s ∈ ds, goodS m s) ∧ BoxAt H b d0 ∧ d0 + 9 ≤ 1000000 ∧
  ∀ (v : V) (d : PyData) (H' : Hp), NearV K (L2.del H' b) v d → BoxAt H' b (d0 + 9) → SB b H H' → Q v H'
section
variable {P : Program} {w : World} {K : PySem.W.Frag} {mg : Str → Option Value} {base : Heap} {f : Addr} {fd : FuncData}
theorem ok_near (F : Fun K "_law_near" "_law_near" s__law_near f fd) (z : Z mg) (c__law_take : Cal P w K mg base "_law_take" ["box", "many"] 1 spTake) (c__law_odd : Cal P w K mg base "_law_odd" ["box", "step", "signs"] 2 (spOdd K)) : FnOk P w K mg base CX0 3 f fd ["box", "passing", "signs"] (spNear K) := by
  refine F.ok sc__law_near (fun vs H Q E h => ?_) (fun cdv A outer s H vs Q E hr h => ?_)
  · obtain ⟨b, p, ds, m, d0, rfl, _⟩ := h; rfl
  · obtain ⟨b, p, ds, m, d0, rfl, m1, m5, dp, lds, gds, B, hd, k⟩ := h
    obtain ⟨p', xs, ep, hp, hxs⟩ := dp.tupI
    cases ep
    have lx := hxs.len
    refine ⟨_, (pss_cons (ps_par (i := 3) (j := 4) rfl sc__law_near.nd rfl rfl (by decide) rfl rfl (pa_cons (pe_cal c__law_take hr (pa_cons (pv 0) (pa_cons pe_int pa_nil))) (pa_cons (pe_cal c__law_take hr (pa_cons (pv 0) (pa_cons (pe_op op_add (pe_callB call_lenQ (by rfl) z.len PySem.boot_len (pa_cons (pv 1) pa_nil)) pe_int) pa_nil))) pa_nil)) (by rfl))
      (pss_cons (ps_if (pt_cmpR op_eq (pv 3) pe_int (nomark _))
        (pss_one (ps_ret (pe_callTy call_listL (by rfl) z.list (by decide +kernel) (pa_cons (pv 1) pa_nil))))
        pss_nil)
      (pss_cons (ps_if (pt_cmpR op_eq (pv 3) pe_int (nomark _))
        (pss_cons (ps_set (i := 5) sc__law_near.nd rfl (.inl rfl) (pe_lstL (pa_cons pe_non (pa_cons pe_int (pa_cons (pe_strS (l := []) (by decide +kernel)) (pa_cons (pe_strS (l := [115, 97, 109, 101]) (by decide +kernel)) (pa_cons pe_dnewK (pa_cons (pe_lstL pa_nil) (pa_cons (pe_tup (pa_cons (pe_strS (l := [115, 97, 109, 101]) (by decide +kernel)) (pa_cons pe_int pa_nil))) (pa_cons (pe_tup (pa_cons (pe_strS (l := [108, 111, 115, 116]) (by decide +kernel)) (pa_cons pe_int pa_nil))) (pa_cons (pe_tup (pa_cons pe_int pa_nil)) (pa_cons (pe_tup (pa_cons (pe_tup pa_nil) pa_nil)) (pa_cons (pe_lstL (pa_cons (pe_tup (pa_cons (pe_strS (l := [115, 97, 109, 101]) (by decide +kernel)) (pa_cons pe_int pa_nil))) pa_nil)) (pa_cons pe_bl (pa_cons (pe_tup (pa_cons (pe_strS (l := [116, 117, 114, 110, 101, 100]) (by decide +kernel)) (pa_cons pe_int (pa_cons pe_int pa_nil)))) pa_nil)))))))))))))))
        (pss_one (ps_ret (pe_ix ix_list (pv 5) (pe_cal c__law_take hr (pa_cons (pv 0) (pa_cons (pe_callB call_lenQ (by rfl) z.len PySem.boot_len (pa_cons (pv 5) pa_nil)) pa_nil))) (fun _ _ => rfl)))))
        pss_nil)
      (pss_cons (ps_set (i := 6) sc__law_near.nd rfl (.inl rfl) (pe_ifExp (pt_cmpR op_lt (pv 4) (pe_callB call_lenQ (by rfl) z.len PySem.boot_len (pa_cons (pv 1) pa_nil)) (nomark _)) (pe_ix ix_tup (pv 1) (pv 4) (fun _ _ => rfl)) (pe_tup (pa_cons (pe_strS (l := [115, 97, 109, 101]) (by decide +kernel)) (pa_cons pe_int pa_nil)))))
      (pss_one (ps_ret (pe_op op_catA (pe_op op_catA (pe_slice sl_tupA (pv 1) po_none (po_some (pv 4))) (pe_tup (pa_cons (pe_cal c__law_odd hr (pa_cons (pv 0) (pa_cons (pv 6) (pa_cons (pv 2) pa_nil)))) pa_nil))) (pe_slice sl_tupA (pv 1) (po_some (pe_op op_add (pv 4) (pe_callTy call_intN (by rfl) z.int (by decide +kernel) (pa_cons (pe_cmpR op_gt (pv 3) pe_int (nomark _)) pa_nil)))) po_none)))))))), ?_⟩
    walk_at "rd"
    refine ⟨b, 7, _, rfl, B, by omega, by omega, by omega, fun way H0 w0 w1' B0 s0 => ?_⟩
    have hp := Same.sqT (del_sb s0) hp
    have hxs := hxs.same (del_sb s0)
    walk_at "rd"
    refine i_lenSqT (Same.sqT del_sub hp) ?_
    walk_at "rd"
    refine ⟨b, (xs.length : Int) + 1, _, rfl, B0, by omega, by omega, by omega, fun at_ H1 a0 a1 B1 s1 => ?_⟩
    obtain ⟨at_, rfl⟩ : ∃ n : Nat, at_ = n := ⟨at_.toNat, by omega⟩
    have hp := Same.sqT (del_sb s1) hp
    have hxs := hxs.same (del_sb s1)
    have s01 := s0.trans s1
    walk_at "rd"
    refine iteB (fun _ => ?_) (fun _ => ?_)
    · walk_at "rd"
      refine i_listB B1 (.inr (Same.sqT del_sub hp)) fun p2 H2 lt2 n2 B2 s2 e2 t2 => ?_
      refine k _ (.list ds) _ ⟨.lst e2 lt2 (hxs.same s2), (sd_lst' (good_sds gds m5)).mono (by omega) (by omega), .flat ?_, fun es e => by cases e; exact noLAll_iff.mpr fun y hy => (good_noL (gds y hy)).1⟩ (B2.mono (by omega)) (s01.trans (SB.of t2))
      have := good_flat gds
      simpa only [PyData.hasDict] using this
    walk_at "rd"
    refine iteB (fun _ => ?_) (fun _ => ?_)
    · walk_at "rd"
      have os : Odds K H (L2.del H1 b) [] := .nil
      have os := os.snoc (v := .non) .non
      have os := os.snoc (v := .int 0) (.atom (.int (by decide)))
      have os := os.snoc (v := .str (S [])) (.atom (.str (by decide) (by decide)))
      have os := os.snoc (v := .str (S [115, 97, 109, 101])) (.atom (.str (by decide) (by decide)))
      walk_at "rd"
      refine newD B1 fun p2 H2 B2 s2 e2 t2 => ?_
      have os := os.same s2
      have os := os.snoc (.emp e2)
      walk_at "rd"
      refine newLL B2 (Nat.zero_le _) fun p3 H3 lt3 n3 B3 s3 e3 t3 => ?_
      have os := os.same s3
      have z3 : H p3 = none := fresh0 (s01.trans (sb_of_del s2)) B2 n3
      have os := os.snoc (.lst e3 lt3 z3 (Nat.le_of_ble_eq_true rfl) trivial)
      walk_at "rd"
      refine newT B3 (Nat.le_of_ble_eq_true rfl) fun p4 H4 B4 s4 e4 t4 => ?_
      have os := os.same s4
      have os := os.snoc (.tup e4 (Nat.le_of_ble_eq_true rfl) ⟨(.str (by decide) (by decide)), (.int (by decide)), trivial⟩)
      walk_at "rd"
      refine newT B4 (Nat.le_of_ble_eq_true rfl) fun p5 H5 B5 s5 e5 t5 => ?_
      have os := os.same s5
      have os := os.snoc (.tup e5 (Nat.le_of_ble_eq_true rfl) ⟨(.str (by decide) (by decide)), (.int (by decide)), trivial⟩)
      walk_at "rd"
      refine newT B5 (Nat.le_of_ble_eq_true rfl) fun p6 H6 B6 s6 e6 t6 => ?_
      have os := os.same s6
      have os := os.snoc (.tup e6 (Nat.le_of_ble_eq_true rfl) ⟨(.int (by decide)), trivial⟩)
      walk_at "rd"
      refine newT B6 (Nat.zero_le _) fun p7 H7 B7 s7 e7 t7 => ?_
      have os := os.same s7
      have at7 : AtomN K H (L2.del H7 b) (.ref p7) := .tupD e7 .nil (by simp only [PyData.hasDict, PyData.hasDictAll]) ((sd_tup' (SdAll.nil (n := 0))).mono (by omega) (by omega)) rfl
      walk_at "rd"
      refine newT B7 (Nat.le_of_ble_eq_true rfl) fun p8 H8 B8 s8 e8 t8 => ?_
      have os := os.same s8
      have at7 := at7.same s8
      have os := os.snoc (.tup e8 (Nat.le_of_ble_eq_true rfl) ⟨at7.va, trivial⟩)
      walk_at "rd"
      refine newT B8 (Nat.le_of_ble_eq_true rfl) fun p9 H9 B9 s9 e9 t9 => ?_
      have os := os.same s9
      have at9 : AtomN K H (L2.del H9 b) (.ref p9) := .tupD e9 (.cons (.str _) (.cons (.int _) .nil)) (by simp only [PyData.hasDict, PyData.hasDictAll, Bool.or_self]) ((sd_tup' (.cons (sd_str (by decide)) (.cons (sd_int9 (by decide)) .nil))).mono (by omega) (by decide)) rfl
      walk_at "rd"
      refine newLL B9 (Nat.le_of_ble_eq_true rfl) fun p10 H10 lt10 n10 B10 s10 e10 t10 => ?_
      have os := os.same s10
      have at9 := at9.same s10
      have z10 : H p10 = none := fresh0 (s01.trans (sb_of_del (Same.trans (Same.trans (Same.trans (Same.trans (Same.trans (Same.trans (Same.trans s2 s3) s4) s5) s6) s7) s8) s9))) B9 n10
      have os := os.snoc (.lst e10 lt10 z10 (Nat.le_of_ble_eq_true rfl) ⟨at9, trivial⟩)
      have os := os.snoc (v := .bl true) (.bl _)
      walk_at "rd"
      refine newT B10 (Nat.le_of_ble_eq_true rfl) fun p11 H11 B11 s11 e11 t11 => ?_
      have os := os.same s11
      have os := os.snoc (.tup e11 (Nat.le_of_ble_eq_true rfl) ⟨(.str (by decide) (by decide)), (.int (by decide)), (.int (by decide)), trivial⟩)
      walk_at "rd"
      refine newLL B11 (Nat.le_of_ble_eq_true rfl) fun p12 H12 lt12 n12 B12 s12 e12 t12 => ?_
      have os := os.same s12
      have z12 : H p12 = none := fresh0 (s01.trans (sb_of_del (Same.trans (Same.trans (Same.trans (Same.trans (Same.trans (Same.trans (Same.trans (Same.trans (Same.trans s2 s3) s4) s5) s6) s7) s8) s9) s10) s11))) B11 n12
      walk_at "rd"
      refine i_lenL (del_sub _ _ e12) ?_
      walk_at "rd"
      refine ⟨b, (13 : Int), _, rfl, B12, by omega, by omega, by omega, fun qz Hz qz0 qz1 Bz sz => ?_⟩
      walk_at "rd"
      obtain ⟨v, ev, hv⟩ := os_pick (os.same (del_sb sz)) qz0 (by show qz < (13 : Int); exact qz1)
      refine i_ixLv (del_sub _ _ (del_sb sz _ _ e12)) qz0 ev ?_
      obtain ⟨d, h1, h2, h3, h4⟩ := hv
      exact k v d _ ⟨h1 _ (Kept.refl _ _), h3.mono (by omega) (by omega), .of1 h2, h4⟩ (Bz.mono (by omega)) (s01.trans (sb_of_del (Same.trans (Same.trans (Same.trans (Same.trans (Same.trans (Same.trans (Same.trans (Same.trans (Same.trans (Same.trans (Same.trans s2 s3) s4) s5) s6) s7) s8) s9) s10) s11) s12) (del_sb sz))))
    walk_at "rd"
    refine i_lenSqT (Same.sqT del_sub hp) ?_
    walk_at "rd"
    refine iteB (fun q => ?_) (fun q => ?_)
    · obtain ⟨v0, ev0⟩ : ∃ v, xs[at_]? = some v := ⟨_, List.getElem?_eq_getElem (by omega)⟩
      obtain ⟨sd, gs, ds0⟩ := hxs.get ev0
      have gst := (gds sd (List.mem_of_getElem? gs)).mono m5
      obtain ⟨w2, is2, rfl, _⟩ := step_inv gst
      obtain ⟨st, rfl, _⟩ := step_at ds0
      have dst := ds0
      walk_at "rd"
      refine i_ixTn (k := at_) (Same.sqT del_sub hp) ev0 ?_
      walk_at "rd"
      refine i_slTB (n := at_) B1 hp fun p3 H3 B3 s3 e3 t3 => ?_
      have hp3 := Same.sqT s3 hp
      have hx3 := DeAll.same s3 hxs
      have dst3 := dst.same s3
      walk_at "rd"
      refine ⟨b, _, _, m, _, rfl, m1, m5, dst3, gst, B3, by omega, fun v H4 ov B4 s4 => ?_⟩
      have hp4 := Same.sqT (del_sb s4) hp3
      have hx4 := hx3.same (del_sb s4)
      have e34 := Same.sqT (del_sb s4) e3
      walk_at "rd"
      refine newT B4 (Nat.le_of_ble_eq_true rfl) fun p5 H5 B5 s5 e5 t5 => ?_
      have l1 : ([v] : List V).length = 1 := rfl
      walk_at "rd"
      refine i_catB B5 (Same.sqT s5 e34) (sqT_of e5) (Nat.le_of_lt (size_big (by rw [List.length_take]; omega))) fun p6 H6 B6 s6 e6 t6 => ?_
      obtain ⟨od, o1, o2, o3, _⟩ := ov.same (s5.trans s6)
      have hp6 := Same.sqT (s5.trans s6) hp4
      have hx6 := hx4.same (s5.trans s6)
      walk_at "rd"
      obtain ⟨j, ej⟩ : ∃ j : Nat, (at_ : Int) + (if decide (3 < way) = true then 1 else 0) = ((at_ + j : Nat) : Int) := by
        by_cases c : 3 < way
        · exact ⟨1, by rw [decide_eq_true c]; rfl⟩
        · exact ⟨0, by rw [decide_eq_false c]; rfl⟩
      rw [ej]
      refine i_slFB (n := at_ + j) B6 hp6 fun p7 H7 B7 s7 e7 t7 => ?_
      refine i_catB B7 (Same.sqT s7 e6) e7 (Nat.le_of_lt (size_big (by rw [List.length_append, List.length_take, List.length_drop]; omega))) fun p8 H8 B8 s8 e8 t8 => ?_
      have hx8 := hx6.same (s7.trans s8)
      have o18 := (o1 _ (Kept.refl _ _)).same (s7.trans s8)
      have gt : ∀ s ∈ ds.take at_, goodS m s := fun s h => gds s (List.mem_of_mem_take h)
      have gd : ∀ s ∈ ds.drop (at_ + j), goodS m s := fun s h => gds s (List.mem_of_mem_drop h)
      have sd1 := (good_sds gt m5).mono (show 1 ≤ 4 by omega) (Nat.le_refl _)
      have sd2 := (good_sds gd m5).mono (show 1 ≤ 4 by omega) (Nat.le_refl _)
      refine k _ (.tuple (ds.take at_ ++ [od] ++ ds.drop (at_ + j))) _ ⟨.tup e8 (((hx8.take at_).app (.cons o18 .nil)).app (hx8.drop (at_ + j))), (sd_tup' ((sd1.app (.cons o3 .nil)).app sd2)).mono (by omega) ?_, psOk_near gt gd o2, fun es e => by cases e⟩ (B8.mono (by omega)) (s01.trans (sb_of_del (Same.trans s3 (Same.trans (del_sb s4) (Same.trans s5 (Same.trans s6 (Same.trans s7 s8)))))))
      have q1 : (ds.take at_).length * 31 ≤ 399 * 31 := Nat.mul_le_mul_right _ (by rw [List.length_take]; omega)
      have q2 : (ds.drop (at_ + j)).length * 31 ≤ 399 * 31 := Nat.mul_le_mul_right _ (by rw [List.length_drop]; omega)
      omega
    · walk_at "rd"
      refine newT B1 (Nat.le_of_ble_eq_true rfl) fun p2 H2 B2 s2 e2 t2 => ?_
      have hp := Same.sqT s2 hp
      have hxs := hxs.same s2
      have dst : De K (L2.del H2 b) (.ref p2) (.tuple [.str (S tSame), .int 0]) := .tup (sqT_of e2) (.cons (.str _) (.cons (.int _) .nil))
      have gst : goodS 5 (.tuple [.str (S tSame), .int 0]) := good_same (by omega) (by omega)
      walk_at "rd"
      refine i_slTB (n := at_) B2 hp fun p3 H3 B3 s3 e3 t3 => ?_
      have hp3 := Same.sqT s3 hp
      have hx3 := DeAll.same s3 hxs
      have dst3 := dst.same s3
      walk_at "rd"
      refine ⟨b, _, _, m, _, rfl, m1, m5, dst3, gst, B3, by omega, fun v H4 ov B4 s4 => ?_⟩
      have hp4 := Same.sqT (del_sb s4) hp3
      have hx4 := hx3.same (del_sb s4)
      have e34 := Same.sqT (del_sb s4) e3
      walk_at "rd"
      refine newT B4 (Nat.le_of_ble_eq_true rfl) fun p5 H5 B5 s5 e5 t5 => ?_
      have l1 : ([v] : List V).length = 1 := rfl
      walk_at "rd"
      refine i_catB B5 (Same.sqT s5 e34) (sqT_of e5) (Nat.le_of_lt (size_big (by rw [List.length_take]; omega))) fun p6 H6 B6 s6 e6 t6 => ?_
      obtain ⟨od, o1, o2, o3, _⟩ := ov.same (s5.trans s6)
      have hp6 := Same.sqT (s5.trans s6) hp4
      have hx6 := hx4.same (s5.trans s6)
      walk_at "rd"
      obtain ⟨j, ej⟩ : ∃ j : Nat, (at_ : Int) + (if decide (3 < way) = true then 1 else 0) = ((at_ + j : Nat) : Int) := by
        by_cases c : 3 < way
        · exact ⟨1, by rw [decide_eq_true c]; rfl⟩
        · exact ⟨0, by rw [decide_eq_false c]; rfl⟩
      rw [ej]
      refine i_slFB (n := at_ + j) B6 hp6 fun p7 H7 B7 s7 e7 t7 => ?_
      refine i_catB B7 (Same.sqT s7 e6) e7 (Nat.le_of_lt (size_big (by rw [List.length_append, List.length_take, List.length_drop]; omega))) fun p8 H8 B8 s8 e8 t8 => ?_
      have hx8 := hx6.same (s7.trans s8)
      have o18 := (o1 _ (Kept.refl _ _)).same (s7.trans s8)
      have gt : ∀ s ∈ ds.take at_, goodS m s := fun s h => gds s (List.mem_of_mem_take h)
      have gd : ∀ s ∈ ds.drop (at_ + j), goodS m s := fun s h => gds s (List.mem_of_mem_drop h)
      have sd1 := (good_sds gt m5).mono (show 1 ≤ 4 by omega) (Nat.le_refl _)
      have sd2 := (good_sds gd m5).mono (show 1 ≤ 4 by omega) (Nat.le_refl _)
      refine k _ (.tuple (ds.take at_ ++ [od] ++ ds.drop (at_ + j))) _ ⟨.tup e8 (((hx8.take at_).app (.cons o18 .nil)).app (hx8.drop (at_ + j))), (sd_tup' ((sd1.app (.cons o3 .nil)).app sd2)).mono (by omega) ?_, psOk_near gt gd o2, fun es e => by cases e⟩ (B8.mono (by omega)) (s01.trans (sb_of_del (Same.trans s2 (Same.trans s3 (Same.trans (del_sb s4) (Same.trans s5 (Same.trans s6 (Same.trans s7 s8))))))))
      have q1 : (ds.take at_).length * 31 ≤ 399 * 31 := Nat.mul_le_mul_right _ (by rw [List.length_take]; omega)
      have q2 : (ds.drop (at_ + j)).length * 31 ≤ 399 * 31 := Nat.mul_le_mul_right _ (by rw [List.length_drop]; omega)
      omega
end
end Sw
namespace Sw
open PySem PySem.Spec PyProof.Rows L2
local macro_rules | `(tactic| walk_at "hp") => `(tactic| first
  | (with_reducible assumption) | (with_reducible exact upd_same)
  | ((with_reducible refine' upd_old ?q1 ?q2); (case q1 => (with_reducible assumption)); (case q2 => walk_at "hp"))
  | ((with_reducible refine' Same.at ?q1 ?q2); (case q1 => (with_reducible assumption)); (case q2 => walk_at "hp"))
  | ((with_reducible refine' upd_skip ?q1 ?q2); (case q1 => walk_at "ne"); (case q2 => walk_at "hp"))
  | fail)
local macro_rules | `(tactic| walk_at "ne") => `(tactic| first
  | (with_reducible assumption) | (with_reducible exact Ne.symm (by assumption))
  | ((with_reducible refine' ne_of_none ?q1 ?q2); (case q2 => (with_reducible assumption)); (case q1 => walk_at "hp"))
  | fail)
local macro_rules | `(tactic| walk_at "ci") => `(tactic| first | assumption | (show (0 : Int) < _; first | decide | (with_reducible omega)) | exact ⟨by decide, by decide⟩ | exact .inl ⟨by decide, by decide⟩ | exact .inr ⟨by decide, by decide⟩)
local macro_rules | `(tactic| walk_at "ln") => `(tactic| first | (with_reducible assumption) | (with_reducible omega) | (simp only [List.length_append, List.length_take, List.length_drop, List.length_reverse, List.length_cons, List.length_nil]; with_reducible omega))
local macro_rules | `(tactic| walk_at "rd1") => `(tactic| first
  | (with_reducible refine i_seq ?_) | (with_reducible refine i_asg ?_) | (with_reducible refine i_ret ?_) | (with_reducible refine i_name ?_) | ((with_reducible refine' i_var ?q1 ?_); (case q1 => exact rfl)) | (with_reducible refine i_c ?_) | (with_reducible refine i_op ?_) | (with_reducible refine i_un ?_)
  | (with_reducible refine i_rI0 ?_) | (with_reducible refine i_cb ?_) | (with_reducible refine i_cons ?_) | (with_reducible refine i_nil ?_) | (with_reducible refine i_call ?_) | (with_reducible refine i_if ?_) | (with_reducible refine i_ifE ?_) | (with_reducible refine i_test ?_) | (with_reducible refine i_bl ?_)
  | (with_reducible refine i_and ?_) | (with_reducible refine i_or ?_) | (with_reducible refine i_not ?_) | (with_reducible refine i_lstM ?_) | (with_reducible refine i_lstLM ?_) | (with_reducible refine i_tupM ?_) | (with_reducible refine i_next ?_) | (with_reducible refine i_drop ?_) | (with_reducible refine i_sub ?_)
  | (with_reducible refine i_bm ?_) | (with_reducible refine i_sl ?_) | (with_reducible refine i_part ?_) | (with_reducible refine i_nopart ?_) | (with_reducible refine i_exI ?_) | (with_reducible refine i_chain ?_) | ((with_reducible refine' i_aug ?q1 ?_); (case q1 => exact rfl)) | (with_reducible refine i_ip ?_)
  | (with_reducible refine i_par ?_) | (with_reducible refine i_pair ?_) | (with_reducible refine i_andV ?_) | (with_reducible refine i_orV ?_) | (with_reducible refine i_notV ?_) | (with_reducible refine i_m1 ?_) | (with_reducible refine i_str ?_)
  | (with_reducible refine iteF ?_) | (with_reducible refine iteT ?_) | (with_reducible refine iteNT ?_) | (with_reducible refine iteNF ?_) | (with_reducible refine i_tyS ?_) | (with_reducible refine i_tB ?_) | (with_reducible refine i_retN ?_) | (with_reducible refine i_par3 ?_) | (with_reducible refine i_trip ?_) | (with_reducible refine i_gCons ?_) | (with_reducible refine i_gNil ?_) | (with_reducible refine i_lstRg ?_) | (with_reducible refine i_rg1 ?_)
  | (with_reducible refine i_lc ?_) | (with_reducible refine i_for ?_) | (with_reducible refine i_iList ?_) | (with_reducible refine i_iTup ?_) | (with_reducible refine i_iStr ?_) | (with_reducible refine i_iRng1 ?_) | (with_reducible refine i_iEnS ?_)
  | ((with_reducible refine' i_ixTH ?q1 ?q2 ?_); (case q1 => walk_at "hp"); (case q2 => exact rfl))
  | ((with_reducible refine' i_ixLH ?q1 ?q2 ?_); (case q1 => walk_at "hp"); (case q2 => exact rfl))
  | ((with_reducible refine i_addS ?q1 ?_); (case q1 => walk_at "ln")) | ((with_reducible refine i_lenSS ?q1 ?_); (case q1 => walk_at "ln")) | ((with_reducible refine i_slFrom ?q1 ?q2 ?_); (case q1 => walk_at "ln"); (case q2 => walk_at "ln")) | ((with_reducible refine i_slTo ?q1 ?q2 ?_); (case q1 => walk_at "ln"); (case q2 => walk_at "ln"))
  | ((with_reducible refine' i_tyL ?q1 ?_); (case q1 => walk_at "hp"))
  | ((with_reducible refine' i_gTupH ?q1 ?q2 ?_); (case q1 => walk_at "hp"); (case q2 => exact rfl))
  | (with_reducible refine i_dnewM ?_) | (with_reducible refine i_init ?_) | (with_reducible refine i_fst ?_) | (with_reducible refine i_mk ?_) | (with_reducible refine i_raise ?_) | (with_reducible refine i_callS ?_) | (with_reducible refine i_kwS ?_)
  | (with_reducible refine i_revT ?_) | (with_reducible refine i_kw ?_) | ((with_reducible refine' ⟨_, _, rfl, sqT_of ?q1, ?_⟩); (case q1 => walk_at "hp"))
  | (with_reducible refine i_revS ?_) | ((with_reducible refine i_revSS ?q1 ?_); (case q1 => walk_at "ln"))
  | (with_reducible refine i_startS ?_) | (with_reducible refine i_inSg ?_) | (with_reducible refine i_absN ?_) | (with_reducible refine i_min2 ?_) | (with_reducible refine i_max2 ?_) | (with_reducible refine i_min3 ?_) | (with_reducible refine i_intN ?_) | (with_reducible refine i_intNB ?_)
  | ((with_reducible refine' i_lenL ?q1 ?_); (case q1 => walk_at "hp")) | ((with_reducible refine' i_lenT ?q1 ?_); (case q1 => walk_at "hp"))
  | (with_reducible refine i_eqI ?_) | (with_reducible refine i_neI ?_) | (with_reducible refine i_eqS ?_) | (with_reducible refine i_neS ?_) | (with_reducible refine i_isNoI ?_) | (with_reducible refine i_isNoN ?_) | (with_reducible refine i_isNoR ?_)
  | ((with_reducible refine i_pow ?q1 ?q2 ?q3 ?_); (case q1 => decide); (case q2 => decide); (case q3 => (with_reducible omega)))
  | ((with_reducible refine i_rI ?q1 ?_); (case q1 => walk_at "ci"))
  | (with_reducible refine Or.inl ⟨_, rfl, ?_⟩) | (with_reducible refine Or.inr ⟨_, rfl, ?_⟩) | (with_reducible refine ⟨_, rfl, ?_⟩) | (with_reducible refine ⟨_, _, rfl, ?_⟩) | (with_reducible refine ⟨_, _, rfl, rfl, ?_⟩)
  | ((with_reducible refine' ⟨_, _, rfl, Or.inl (sqL_of ?q1), ?_⟩); (case q1 => walk_at "hp")) | ((with_reducible refine' ⟨_, _, rfl, Or.inr (sqT_of ?q1), ?_⟩); (case q1 => walk_at "hp")) | fail)
local macro_rules | `(tactic| walk_at "rd") => `(tactic| repeat' walk_at "rd1")

/-! ### the doors -/
abbrev tTold : List Nat := [116, 111, 108, 100]
abbrev tNone : List Nat := [110, 111, 110, 101]
def psgKs : List Str := ["passing"]
def doorD (k : Int) (ds : List PyData) : PyData := if k = 0 then .tuple (sentD ds) else if k = 1 then .tuple (cameD ds) else .int (errN ds : Nat)
/-- _law_ask(door, value) -/
def spAsk (K : PySem.W.Frag) : Sp := fun vs H Q _ => ∃ (i : Int) (x : V) (d : PyData) (n w : Nat), vs = [.int i, x] ∧ 0 ≤ i ∧ i < 6 ∧ De K H x d ∧ Sd n w d ∧ n ≤ 50 ∧ w ≤ 900000 ∧ PsOk d ∧
  (passB 5 d = true → ∀ t r H', Same H H' → H t = none → sysModules < t → H' t = some (.lst [.str (S tTold), r]) → De K H' r (doorD (i % 3) (partsOf d)) → Q (.ref t) H') ∧
  (passB 5 d = false → ∀ t H', Same H H' → H t = none → sysModules < t → H' t = some (.lst [.str (S tNone), x, .bl true]) → Q (.ref t) H')
section
variable {P : Program} {w : World} {K : PySem.W.Frag} {mg : Str → Option Value} {base : Heap} {f : Addr} {fd : FuncData}
theorem ok_ask {C B : Addr} (F : Fun K "_law_ask" "_law_ask" s__law_ask f fd) (z : Z mg) (xp : XQ "InvalidPassing" P w K mg base C) (ov : Over K mg B) (ec : ExcC K C) (ki : PySem.W.kitOne K (.ref C) (.ref B) = some true)
    (x_sent : CalX P w K mg base "sent" ["passing"] 7 (spTells K C sentD)) (kx_sent : CalKX P w K mg base "sent" ["passing"] 7 (spTells K C sentD) psgKs one1 one1)
    (x_came : CalX P w K mg base "came" ["passing"] 7 (spTells K C cameD)) (kx_came : CalKX P w K mg base "came" ["passing"] 7 (spTells K C cameD) psgKs one1 one1)
    (x_errors_in : CalX P w K mg base "errors_in" ["passing"] 7 (spErr K C)) (kx_errors_in : CalKX P w K mg base "errors_in" ["passing"] 7 (spErr K C) psgKs one1 one1) : FnOk P w K mg base CX0 8 f fd ["door", "value"] (spAsk K) := by
  refine F.ok sc__law_ask (fun vs H Q E h => ?_) (fun cdv A outer s H vs Q E hr h => ?_)
  · obtain ⟨i, x, d, n, w, rfl, _⟩ := h; rfl
  · obtain ⟨i, x, d, n, w, rfl, i0, i6, hx, sx, hn, hw, ok, k1, k2⟩ := h
    refine ⟨_, (pss_one (ps_try_as (i := 2) (Wout := fun _ _ _ _ => False) rfl rfl sc__law_ask.nd rfl rfl (names_Q xp) takes_none (fun W pn xe tk po => (pss_cons (ps_if (pt_cmpR op_lt (pv 0) pe_int (nomark _))
          (pss_one (ps_ret (pe_lstL (pa_cons (pe_strS (l := [116, 111, 108, 100]) (by decide +kernel)) (pa_cons (pe_ifExp (pt_cmpR op_eq (pv 0) pe_int (nomark _)) (pe_calX x_sent hr tk (pa_cons (pv 1) pa_nil)) (pe_ifExp (pt_cmpR op_eq (pv 0) pe_int (nomark _)) (pe_calX x_came hr tk (pa_cons (pv 1) pa_nil)) (pe_calX x_errors_in hr tk (pa_cons (pv 1) pa_nil)))) pa_nil)))))
          pss_nil)
        (pss_cons (ps_if (pt_cmpR op_eq (pv 0) pe_int (nomark _))
          (pss_one (ps_ret (pe_lstL (pa_cons (pe_strS (l := [116, 111, 108, 100]) (by decide +kernel)) (pa_cons (pe_calKX kx_sent hr tk (pk_cons (pv 1) pk_nil)) pa_nil)))))
          pss_nil)
        (pss_one (ps_ret (pe_lstL (pa_cons (pe_strS (l := [116, 111, 108, 100]) (by decide +kernel)) (pa_cons (pe_ifExp (pt_cmpR op_eq (pv 0) pe_int (nomark _)) (pe_calKX kx_came hr tk (pk_cons (pv 1) pk_nil)) (pe_calKX kx_errors_in hr tk (pk_cons (pv 1) pk_nil))) pa_nil))))))))
      (fun a oe cls d pn hz hf => (pss_one (ps_ret (pe_lstL (pa_cons (pe_strS (l := [110, 111, 110, 101]) (by decide +kernel)) (pa_cons (pe_xf xp.xf xp.no hz hf (pv 2)) (pa_cons (pe_callB (call_isEd hz hf) (by rfl) z.isinstance (by decide +kernel) (pa_cons (pv 2) (pa_cons (pe_glob (v := .ref B) rfl ov.hm rfl) pa_nil))) pa_nil))))))))), ?_⟩
    walk_at "rd"
    refine iteB (fun q1 => ?_) (fun q1 => ?_)
    · walk_at "rd"
      refine iteB (fun q2 => ?_) (fun q2 => ?_)
      · walk_at "rd"
        refine ⟨x, d, n, w, rfl, hx, sx, hn, hw, ok, fun e t H1 s1 nt et => ?_, fun e dx H1 nx s1 ed => ?_⟩
        · walk_at "rd"
          refine newLL0 (Nat.le_of_ble_eq_true rfl) fun t2 H2 n2 lt2 s2 e2 => ?_
          refine k1 e t2 _ _ (s1.trans s2) (s1.free n2) lt2 e2 ?_
          obtain ⟨ds, rfl, good⟩ := passB_inv e
          unfold doorD
          rw [if_pos (by omega)]
          exact .tup (sqT_of (s2 _ _ et)) (toV_de (sentD_int good))
        · refine ⟨true, xp.me, fun _ a na => ?_, fun z => by cases z⟩
          walk_at "rd"
          refine ⟨_, rfl, rfl, rfl, dx, _, _, rfl, ed, rfl, ?_⟩
          walk_at "rd"
          refine ⟨C, B, dx, _, true, rfl, rfl, ec, rfl, ed, ki, ?_⟩
          walk_at "rd"
          refine newLL0 (Nat.le_of_ble_eq_true rfl) fun t2 H2 n2 lt2 s2 e2 => ?_
          exact k2 e t2 _ (s1.trans s2) (s1.free n2) lt2 e2
      walk_at "rd"
      refine iteB (fun q3 => ?_) (fun q3 => ?_)
      · walk_at "rd"
        refine ⟨x, d, n, w, rfl, hx, sx, hn, hw, ok, fun e t H1 s1 nt et => ?_, fun e dx H1 nx s1 ed => ?_⟩
        · walk_at "rd"
          refine newLL0 (Nat.le_of_ble_eq_true rfl) fun t2 H2 n2 lt2 s2 e2 => ?_
          refine k1 e t2 _ _ (s1.trans s2) (s1.free n2) lt2 e2 ?_
          obtain ⟨ds, rfl, good⟩ := passB_inv e
          unfold doorD
          rw [if_neg (by omega), if_pos (by omega)]
          exact .tup (sqT_of (s2 _ _ et)) (toV_de (cameD_int good))
        · refine ⟨true, xp.me, fun _ a na => ?_, fun z => by cases z⟩
          walk_at "rd"
          refine ⟨_, rfl, rfl, rfl, dx, _, _, rfl, ed, rfl, ?_⟩
          walk_at "rd"
          refine ⟨C, B, dx, _, true, rfl, rfl, ec, rfl, ed, ki, ?_⟩
          walk_at "rd"
          refine newLL0 (Nat.le_of_ble_eq_true rfl) fun t2 H2 n2 lt2 s2 e2 => ?_
          exact k2 e t2 _ (s1.trans s2) (s1.free n2) lt2 e2
      · walk_at "rd"
        refine ⟨x, d, n, w, rfl, hx, sx, hn, hw, ok, fun e H1 s1 => ?_, fun e dx H1 nx s1 ed => ?_⟩
        · walk_at "rd"
          refine newLL0 (Nat.le_of_ble_eq_true rfl) fun t2 H2 n2 lt2 s2 e2 => ?_
          refine k1 e t2 _ _ (s1.trans s2) (s1.free n2) lt2 e2 ?_
          unfold doorD
          rw [if_neg (by omega), if_neg (by omega)]
          exact .int _
        · refine ⟨true, xp.me, fun _ a na => ?_, fun z => by cases z⟩
          walk_at "rd"
          refine ⟨_, rfl, rfl, rfl, dx, _, _, rfl, ed, rfl, ?_⟩
          walk_at "rd"
          refine ⟨C, B, dx, _, true, rfl, rfl, ec, rfl, ed, ki, ?_⟩
          walk_at "rd"
          refine newLL0 (Nat.le_of_ble_eq_true rfl) fun t2 H2 n2 lt2 s2 e2 => ?_
          exact k2 e t2 _ (s1.trans s2) (s1.free n2) lt2 e2
    · walk_at "rd"
      refine iteB (fun q2 => ?_) (fun q2 => ?_)
      · walk_at "rd"
        refine ⟨x, d, n, w, rfl, hx, sx, hn, hw, ok, fun e t H1 s1 nt et => ?_, fun e dx H1 nx s1 ed => ?_⟩
        · walk_at "rd"
          refine newLL0 (Nat.le_of_ble_eq_true rfl) fun t2 H2 n2 lt2 s2 e2 => ?_
          refine k1 e t2 _ _ (s1.trans s2) (s1.free n2) lt2 e2 ?_
          obtain ⟨ds, rfl, good⟩ := passB_inv e
          unfold doorD
          rw [if_pos (by omega)]
          exact .tup (sqT_of (s2 _ _ et)) (toV_de (sentD_int good))
        · refine ⟨true, xp.me, fun _ a na => ?_, fun z => by cases z⟩
          walk_at "rd"
          refine ⟨_, rfl, rfl, rfl, dx, _, _, rfl, ed, rfl, ?_⟩
          walk_at "rd"
          refine ⟨C, B, dx, _, true, rfl, rfl, ec, rfl, ed, ki, ?_⟩
          walk_at "rd"
          refine newLL0 (Nat.le_of_ble_eq_true rfl) fun t2 H2 n2 lt2 s2 e2 => ?_
          exact k2 e t2 _ (s1.trans s2) (s1.free n2) lt2 e2
      walk_at "rd"
      refine iteB (fun q3 => ?_) (fun q3 => ?_)
      · walk_at "rd"
        refine ⟨x, d, n, w, rfl, hx, sx, hn, hw, ok, fun e t H1 s1 nt et => ?_, fun e dx H1 nx s1 ed => ?_⟩
        · walk_at "rd"
          refine newLL0 (Nat.le_of_ble_eq_true rfl) fun t2 H2 n2 lt2 s2 e2 => ?_
          refine k1 e t2 _ _ (s1.trans s2) (s1.free n2) lt2 e2 ?_
          obtain ⟨ds, rfl, good⟩ := passB_inv e
          unfold doorD
          rw [if_neg (by omega), if_pos (by omega)]
          exact .tup (sqT_of (s2 _ _ et)) (toV_de (cameD_int good))
        · refine ⟨true, xp.me, fun _ a na => ?_, fun z => by cases z⟩
          walk_at "rd"
          refine ⟨_, rfl, rfl, rfl, dx, _, _, rfl, ed, rfl, ?_⟩
          walk_at "rd"
          refine ⟨C, B, dx, _, true, rfl, rfl, ec, rfl, ed, ki, ?_⟩
          walk_at "rd"
          refine newLL0 (Nat.le_of_ble_eq_true rfl) fun t2 H2 n2 lt2 s2 e2 => ?_
          exact k2 e t2 _ (s1.trans s2) (s1.free n2) lt2 e2
      · walk_at "rd"
        refine ⟨x, d, n, w, rfl, hx, sx, hn, hw, ok, fun e H1 s1 => ?_, fun e dx H1 nx s1 ed => ?_⟩
        · walk_at "rd"
          refine newLL0 (Nat.le_of_ble_eq_true rfl) fun t2 H2 n2 lt2 s2 e2 => ?_
          refine k1 e t2 _ _ (s1.trans s2) (s1.free n2) lt2 e2 ?_
          unfold doorD
          rw [if_neg (by omega), if_neg (by omega)]
          exact .int _
        · refine ⟨true, xp.me, fun _ a na => ?_, fun z => by cases z⟩
          walk_at "rd"
          refine ⟨_, rfl, rfl, rfl, dx, _, _, rfl, ed, rfl, ?_⟩
          walk_at "rd"
          refine ⟨C, B, dx, _, true, rfl, rfl, ec, rfl, ed, ki, ?_⟩
          walk_at "rd"
          refine newLL0 (Nat.le_of_ble_eq_true rfl) fun t2 H2 n2 lt2 s2 e2 => ?_
          exact k2 e t2 _ (s1.trans s2) (s1.free n2) lt2 e2
end
end Sw
namespace Sw
open PySem PySem.Spec PyProof.Rows L2
local macro_rules | `(tactic| walk_at "hp") => `(tactic| first
  | (with_reducible assumption) | (with_reducible exact upd_same)
  | ((with_reducible refine' upd_old ?q1 ?q2); (case q1 => (with_reducible assumption)); (case q2 => walk_at "hp"))
  | ((with_reducible refine' Same.at ?q1 ?q2); (case q1 => (with_reducible assumption)); (case q2 => walk_at "hp"))
  | ((with_reducible refine' upd_skip ?q1 ?q2); (case q1 => walk_at "ne"); (case q2 => walk_at "hp"))
  | fail)
local macro_rules | `(tactic| walk_at "ne") => `(tactic| first
  | (with_reducible assumption) | (with_reducible exact Ne.symm (by assumption))
  | ((with_reducible refine' ne_of_none ?q1 ?q2); (case q2 => (with_reducible assumption)); (case q1 => walk_at "hp"))
  | fail)
local macro_rules | `(tactic| walk_at "ci") => `(tactic| first | assumption | (show (0 : Int) < _; first | decide | (with_reducible omega)) | exact ⟨by decide, by decide⟩ | exact .inl ⟨by decide, by decide⟩ | exact .inr ⟨by decide, by decide⟩)
local macro_rules | `(tactic| walk_at "ln") => `(tactic| first | (with_reducible assumption) | (with_reducible omega) | (simp only [List.length_append, List.length_take, List.length_drop, List.length_reverse, List.length_cons, List.length_nil]; with_reducible omega))
local macro_rules | `(tactic| walk_at "rd1") => `(tactic| first
  | (with_reducible refine i_seq ?_) | (with_reducible refine i_asg ?_) | (with_reducible refine i_ret ?_) | (with_reducible refine i_name ?_) | ((with_reducible refine' i_var ?q1 ?_); (case q1 => exact rfl)) | (with_reducible refine i_c ?_) | (with_reducible refine i_op ?_) | (with_reducible refine i_un ?_)
  | (with_reducible refine i_rI0 ?_) | (with_reducible refine i_cb ?_) | (with_reducible refine i_cons ?_) | (with_reducible refine i_nil ?_) | (with_reducible refine i_call ?_) | (with_reducible refine i_if ?_) | (with_reducible refine i_ifE ?_) | (with_reducible refine i_test ?_) | (with_reducible refine i_bl ?_)
  | (with_reducible refine i_and ?_) | (with_reducible refine i_or ?_) | (with_reducible refine i_not ?_) | (with_reducible refine i_lstM ?_) | (with_reducible refine i_lstLM ?_) | (with_reducible refine i_tupM ?_) | (with_reducible refine i_next ?_) | (with_reducible refine i_drop ?_) | (with_reducible refine i_sub ?_)
  | (with_reducible refine i_bm ?_) | (with_reducible refine i_sl ?_) | (with_reducible refine i_part ?_) | (with_reducible refine i_nopart ?_) | (with_reducible refine i_exI ?_) | (with_reducible refine i_chain ?_) | ((with_reducible refine' i_aug ?q1 ?_); (case q1 => exact rfl)) | (with_reducible refine i_ip ?_)
  | (with_reducible refine i_par ?_) | (with_reducible refine i_pair ?_) | (with_reducible refine i_andV ?_) | (with_reducible refine i_orV ?_) | (with_reducible refine i_notV ?_) | (with_reducible refine i_m1 ?_) | (with_reducible refine i_str ?_)
  | (with_reducible refine iteF ?_) | (with_reducible refine iteT ?_) | (with_reducible refine iteNT ?_) | (with_reducible refine iteNF ?_) | (with_reducible refine i_tyS ?_) | (with_reducible refine i_tB ?_) | (with_reducible refine i_retN ?_) | (with_reducible refine i_par3 ?_) | (with_reducible refine i_trip ?_) | (with_reducible refine i_gCons ?_) | (with_reducible refine i_gNil ?_) | (with_reducible refine i_lstRg ?_) | (with_reducible refine i_rg1 ?_)
  | (with_reducible refine i_lc ?_) | (with_reducible refine i_for ?_) | (with_reducible refine i_iList ?_) | (with_reducible refine i_iTup ?_) | (with_reducible refine i_iStr ?_) | (with_reducible refine i_iRng1 ?_) | (with_reducible refine i_iEnS ?_)
  | ((with_reducible refine' i_ixTH ?q1 ?q2 ?_); (case q1 => walk_at "hp"); (case q2 => exact rfl))
  | ((with_reducible refine' i_ixLH ?q1 ?q2 ?_); (case q1 => walk_at "hp"); (case q2 => exact rfl))
  | ((with_reducible refine i_addS ?q1 ?_); (case q1 => walk_at "ln")) | ((with_reducible refine i_lenSS ?q1 ?_); (case q1 => walk_at "ln")) | ((with_reducible refine i_slFrom ?q1 ?q2 ?_); (case q1 => walk_at "ln"); (case q2 => walk_at "ln")) | ((with_reducible refine i_slTo ?q1 ?q2 ?_); (case q1 => walk_at "ln"); (case q2 => walk_at "ln"))
  | ((with_reducible refine' i_tyL ?q1 ?_); (case q1 => walk_at "hp"))
  | ((with_reducible refine' i_gTupH ?q1 ?q2 ?_); (case q1 => walk_at "hp"); (case q2 => exact rfl))
  | (with_reducible refine i_dnewM ?_) | (with_reducible refine i_init ?_) | (with_reducible refine i_fst ?_) | (with_reducible refine i_mk ?_) | (with_reducible refine i_raise ?_) | (with_reducible refine i_callS ?_) | (with_reducible refine i_kwS ?_)
  | (with_reducible refine i_revT ?_) | (with_reducible refine i_kw ?_) | ((with_reducible refine' ⟨_, _, rfl, sqT_of ?q1, ?_⟩); (case q1 => walk_at "hp"))
  | (with_reducible refine i_revS ?_) | ((with_reducible refine i_revSS ?q1 ?_); (case q1 => walk_at "ln"))
  | (with_reducible refine i_startS ?_) | (with_reducible refine i_inSg ?_) | (with_reducible refine i_absN ?_) | (with_reducible refine i_min2 ?_) | (with_reducible refine i_max2 ?_) | (with_reducible refine i_min3 ?_) | (with_reducible refine i_intN ?_) | (with_reducible refine i_intNB ?_)
  | ((with_reducible refine' i_lenL ?q1 ?_); (case q1 => walk_at "hp")) | ((with_reducible refine' i_lenT ?q1 ?_); (case q1 => walk_at "hp"))
  | (with_reducible refine i_eqI ?_) | (with_reducible refine i_neI ?_) | (with_reducible refine i_eqS ?_) | (with_reducible refine i_neS ?_) | (with_reducible refine i_isNoI ?_) | (with_reducible refine i_isNoN ?_) | (with_reducible refine i_isNoR ?_)
  | ((with_reducible refine i_pow ?q1 ?q2 ?q3 ?_); (case q1 => decide); (case q2 => decide); (case q3 => (with_reducible omega)))
  | ((with_reducible refine i_rI ?q1 ?_); (case q1 => walk_at "ci"))
  | (with_reducible refine Or.inl ⟨_, rfl, ?_⟩) | (with_reducible refine Or.inr ⟨_, rfl, ?_⟩) | (with_reducible refine ⟨_, rfl, ?_⟩) | (with_reducible refine ⟨_, _, rfl, ?_⟩) | (with_reducible refine ⟨_, _, rfl, rfl, ?_⟩)
  | ((with_reducible refine' ⟨_, _, rfl, Or.inl (sqL_of ?q1), ?_⟩); (case q1 => walk_at "hp")) | ((with_reducible refine' ⟨_, _, rfl, Or.inr (sqT_of ?q1), ?_⟩); (case q1 => walk_at "hp")) | fail)
local macro_rules | `(tactic| walk_at "rd") => `(tactic| repeat' walk_at "rd1")

theorem sd_int3 {i : Int} (h : i.natAbs < 8) : Sd 0 3 (.int i) := sd_intW (n := 0) (Nat.lt_of_lt_of_le h (by decide)) (by omega)
theorem sd_ints5 {ds : List PyData} (h : ∀ d ∈ ds, ∃ i : Int, d = .int i ∧ 0 ≤ i ∧ i < 5) : Sd 1 (ds.length * 4) (.tuple ds) := sd_tup (n := 0) (w := 3) fun d hd => by
  obtain ⟨i, rfl, h0, h1⟩ := h d hd
  exact sd_int3 (by omega)
theorem sd_door {ds : List PyData} {w : Nat} {k : Int} (h : ∀ s ∈ ds, (sameB 5 s || kindB 5 s) = true) (s : Sd 6 w (.tuple ds)) (hw : w ≤ 40000) : Sd 1 160000 (doorD k ds) := by
  have l := pass_len s.tupI'
  unfold doorD
  split
  · refine (sd_ints5 (sentD_int h)).mono (by omega) ?_
    have := sentD_len ds
    omega
  · split
    · refine (sd_ints5 (cameD_int h)).mono (by omega) ?_
      have := cameD_len ds
      omega
    · refine (sd_int ?_).mono (by omega) (by omega)
      have := List.length_filter_le (fun s => !wordIs tSame s) ds
      unfold errN
      have e : (10 : Nat) ^ 40 = 10000000000000000000000000000000000000000 := by decide
      omega
theorem tyB_list (d : PyData) : (∃ ds, d = .list ds) ∨ ((∀ ds, d ≠ .list ds) ∧ tyB "list" d = false) := by
  cases d <;> first | exact .inl ⟨_, rfl⟩ | exact .inr ⟨(by intro ds q; cases q), rfl⟩
theorem eqv_nil_nil : PyData.eqv (.list []) (.list []) = true := by simp [PyData.eqv, PyData.eqvAll]
theorem eqv_cons_nil (d : PyData) (ds : List PyData) : PyData.eqv (.list (d :: ds)) (.list []) = false := by simp [PyData.eqv, PyData.eqvAll]
/-- _law_doors_right(value) -/
def spDoors (K : PySem.W.Frag) : Sp := fun vs H Q _ => ∃ (x : V) (d : PyData), vs = [x] ∧ NearV K H x d ∧ ∀ H', Same H H' → Q (.bl true) H'
section
variable {P : Program} {w : World} {K : PySem.W.Frag} {mg : Str → Option Value} {base : Heap} {f : Addr} {fd : FuncData}
theorem ok_doors (F : Fun K "_law_doors_right" "_law_doors_right" s__law_doors_right f fd) (z : Z mg) (c__law_is_passing : Cal P w K mg base "_law_is_passing" ["value", "signs"] 3 (spPass K)) (c__law_ask : Cal P w K mg base "_law_ask" ["door", "value"] 8 (spAsk K)) : FnG P w K mg base CX0 9 f fd ["value"] (spDoors K) := by
  refine Sw.Fun.okG0 F sc__law_doors_right (fun vs H Q E h => ?_) (fun cdv A outer s H vs Q E hr quiet h => ?_)
  · obtain ⟨x, d, rfl, _⟩ := h; rfl
  · obtain ⟨x, d, rfl, nx, k⟩ := h
    obtain ⟨hx, sx, ok, ls⟩ := nx
    refine ⟨_, (pss_cons (ps_set (i := 1) sc__law_doors_right.nd rfl (.inl rfl) (pe_lstL pa_nil))
      (C8.pss_cut (ps_if (pt_val (pe_cal c__law_is_passing hr (pa_cons (pv 0) (pa_cons pe_int pa_nil))))
        (pss_cons (ps_set (i := 1) sc__law_doors_right.nd rfl (.inl rfl) (pe_lstL (pa_cons (pe_callTy call_tuple_of (by rfl) z.tuple (by decide +kernel) (pa_cons (pe_lc (own := [("step", 2)]) (g := gName 2) (tt := _) rfl sc__law_doors_right.nd (pi_tup (pv 0)) (blkOk_by (own := [("step", 2)]) (N := n__law_doors_right) (sc := defScope s__law_doors_right) (by decide +kernel)) (fun _ _ _ _ _ => (pg_name (i := 2) sc__law_doors_right.nd rfl (.inl rfl))) (fun _ _ _ _ _ => (pts_one (pt_cmpR op_ne (pe_ix (r := rIxT K) ix_tup (pv 2) pe_int (fun _ _ => rfl)) (pe_strS (l := [112, 117, 116]) (by decide +kernel)) (nomark _)))) (fun _ _ _ _ _ => (pe_ix (r := rIxT K) ix_tup (pv 2) pe_int (fun _ _ => rfl)))) pa_nil)) pa_nil)))
        (pss_cons (ps_expr (pe_bm PySem.F.plainAttrs_list PySem.F.slot_list_append PySem.F.type_list_append mt_append (pv 1) (pa_cons (pe_callTy call_tuple_of (by rfl) z.tuple (by decide +kernel) (pa_cons (pe_lc (own := [("step", 2)]) (g := gName 2) (tt := _) rfl sc__law_doors_right.nd (pi_tup (pv 0)) (blkOk_by (own := [("step", 2)]) (N := n__law_doors_right) (sc := defScope s__law_doors_right) (by decide +kernel)) (fun _ _ _ _ _ => (pg_name (i := 2) sc__law_doors_right.nd rfl (.inl rfl))) (fun _ _ _ _ _ => (pts_one (pt_cmpR op_ne (pe_ix (r := rIxT K) ix_tup (pv 2) pe_int (fun _ _ => rfl)) (pe_strS (l := [108, 111, 115, 116]) (by decide +kernel)) (nomark _)))) (fun _ _ _ _ _ => (pe_ix (r := rIxT K) ix_tup (pv 2) (pe_un un_neg pe_int) (fun _ _ => rfl)))) pa_nil)) pa_nil)))
        (pss_one (ps_expr (pe_bm PySem.F.plainAttrs_list PySem.F.slot_list_append PySem.F.type_list_append mt_append (pv 1) (pa_cons (pe_callB call_lenQ (by rfl) z.len PySem.boot_len (pa_cons (pe_lc (own := [("step", 2)]) (g := gName 2) (tt := _) rfl sc__law_doors_right.nd (pi_tup (pv 0)) (blkOk_by (own := [("step", 2)]) (N := n__law_doors_right) (sc := defScope s__law_doors_right) (by decide +kernel)) (fun _ _ _ _ _ => (pg_name (i := 2) sc__law_doors_right.nd rfl (.inl rfl))) (fun _ _ _ _ _ => (pts_one (pt_cmpR op_ne (pe_ix (r := rIxT K) ix_tup (pv 2) pe_int (fun _ _ => rfl)) (pe_strS (l := [115, 97, 109, 101]) (by decide +kernel)) (nomark _)))) (fun _ _ _ _ _ => (pv 2))) pa_nil)) pa_nil))))))
        pss_nil)
      (pss_cons (ps_for PassesOwn.never rfl (pi_range1 (by rfl) z.range (pa_cons pe_int pa_nil)) (pg_name (i := 3) sc__law_doors_right.nd rfl (.inl rfl))
        (pss_cons (ps_set (i := 4) sc__law_doors_right.nd rfl (.inl rfl) (pe_ifExp (pt_val (pe_callB call_isi (by rfl) z.isinstance (by decide +kernel) (pa_cons (pv 0) (pa_cons (pe_bltn (v := .ty "list") (by rfl) z.list (by decide +kernel) rfl) pa_nil)))) (pe_callTy call_listL (by rfl) z.list (by decide +kernel) (pa_cons (pv 0) pa_nil)) (pv 0)))
        (pss_cons (ps_set (i := 5) sc__law_doors_right.nd rfl (.inl rfl) (pe_cal c__law_ask hr (pa_cons (pv 3) (pa_cons (pv 4) pa_nil))))
        (pss_cons (ps_if (PW.pt (pw_and (pt_cmpR (op_neD hr.units) (pv 1) (pe_lstL pa_nil) (nomark _)) (pw_and1 (pt_cmpR op_ne (pe_callB (call_repE quiet hr.units) (by rfl) z.repr (by decide +kernel) (pa_cons (pv 5) pa_nil)) (pe_callB (call_repE quiet hr.units) (by rfl) z.repr (by decide +kernel) (pa_cons (pe_lstL (pa_cons (pe_strS (l := [116, 111, 108, 100]) (by decide +kernel)) (pa_cons (pe_ix ix_list (pv 1) (pe_op op_mod (pe_callTy call_intN (by rfl) z.int (by decide +kernel) (pa_cons (pv 3) pa_nil)) pe_int) (fun _ _ => rfl)) pa_nil))) pa_nil)) (nomark _)))))
          (pss_one (ps_ret pe_bl))
          pss_nil)
        (pss_cons (ps_if (pt_val (pe_callB call_isi (by rfl) z.isinstance (by decide +kernel) (pa_cons (pv 4) (pa_cons (pe_bltn (v := .ty "list") (by rfl) z.list (by decide +kernel) rfl) pa_nil))))
          (pss_one (ps_expr (pe_bm PySem.F.plainAttrs_list PySem.F.slot_list_append PySem.F.type_list_append mt_append (pv 4) (pa_cons pe_int pa_nil))))
          pss_nil)
        (pss_one (ps_if (PW.pt (pw_and (pt_cmpR (op_eqD hr.units) (pv 1) (pe_lstL pa_nil) (nomark _)) (pw_and1 (pt_cmpR op_ne (pe_callB (call_repE quiet hr.units) (by rfl) z.repr (by decide +kernel) (pa_cons (pv 5) pa_nil)) (pe_callB (call_repE quiet hr.units) (by rfl) z.repr (by decide +kernel) (pa_cons (pe_lstL (pa_cons (pe_strS (l := [110, 111, 110, 101]) (by decide +kernel)) (pa_cons (pv 4) (pa_cons pe_bl pa_nil)))) pa_nil)) (nomark _)))))
          (pss_one (ps_ret pe_bl))
          pss_nil)))))))
      (pss_one (ps_ret pe_bl))))), ?_⟩
    walk_at "rd"
    refine newLL0 (Nat.zero_le _) fun q0 H1 nq lq s1 e1 => ?_
    walk_at "rd"
    refine i_cut (fun σ H2 => ∃ (q : Addr) (ws : List V) (u2 : Option V), σ = [some x, some (.ref q), u2, none, none, none] ∧ Same H H2 ∧ sysModules < q ∧ H2 q = some (.lst ws) ∧
      ((passB 5 d = true ∧ ∃ r1 r2 r3, ws = [r1, r2, r3] ∧ De K H2 r1 (.tuple (sentD (partsOf d))) ∧ De K H2 r2 (.tuple (cameD (partsOf d))) ∧ De K H2 r3 (.int (errN (partsOf d) : Nat))) ∨ (passB 5 d = false ∧ ws = []))) ?_ (fun σ H2 m => ?_)
    · walk_at "rd"
      refine ⟨x, .int 5, d, .int 5, 6, 40000, rfl, hx.same s1, sx, by omega, by omega, ok, .int 5, fun H2 s2 => ?_⟩
      rw [show onG (.int 5) (fun m => passB m d) = passB 5 d from rfl]
      walk_at "rd"
      refine iteC (fun e => ?_) (fun e => ?_)
      · obtain ⟨ds, rfl, good⟩ := passB_inv e
        obtain ⟨a, xs, rfl, ha, hxs⟩ := hx.tupI
        have lx := hxs.len
        have ld := pass_len sx.tupI'
        have ha2 := Same.sqT (s1.trans s2) ha
        have hxs2 := hxs.same (s1.trans s2)
        walk_at "rd"
        refine ⟨⟨_, ha2⟩, ?_⟩
        refine go_lc (walk_tup (xs := xs)) (fun p i HX => HX p = some (.lst ((sentD (ds.take i)).map toV)) ∧ Same H2 HX)
          (fun p np => ⟨upd_same, same_upd np⟩) (fun p i HX hi q => Same.sqT q.2 ha2) (fun p np i v HX HY hi q y => ?_) (fun p3 H3 np3 q => ?_)
        · obtain ⟨ep, s2⟩ := q
          obtain ⟨rfl, hv⟩ := y
          obtain ⟨dj, gj, dv⟩ := DeAll.get hxs2 hv
          obtain ⟨w1, is, rfl, hl, hw1, hl1, hi1⟩ := step_inv (good _ (List.mem_of_getElem? gj))
          obtain ⟨a2, rfl, e2⟩ := step_at (dv.same s2)
          obtain ⟨i0, is, rfl⟩ : ∃ i0 is', is = i0 :: is' := by
            rcases is with _ | ⟨i0, is⟩
            · simp at hl
            · exact ⟨_, _, rfl⟩
          have tk1 := take_snoc gj
          have lt1 : (ds.take i).length ≤ ds.length := by rw [List.length_take]; omega
          walk_at "rd"
          refine ⟨rfl, ?_⟩
          walk_at "rd"
          refine i_ixTn (k := 0) e2 rfl ?_
          walk_at "rd"
          refine iteNB (fun q => ?_) (fun q => ?_)
          · have wf : wordIs tPut (.tuple (.str (S w1) :: (i0 :: is).map .int)) = false := by rw [wordIs_str, decide_eq_false q]
            walk_at "rd"
            refine i_ixTn (k := 1) e2 rfl ?_
            refine ⟨_, ep, size_big (by rw [List.length_map]; have := sentD_len (ds.take i); omega), ?_, Same.upd_out s2 np⟩
            rw [upd_same, tk1, sentD_yes wf, List.map_append]; rfl
          · have wt : wordIs tPut (.tuple (.str (S w1) :: (i0 :: is).map .int)) = true := by rw [wordIs_str, decide_eq_true q]
            rw [tk1, sentD_no wt]
            exact ⟨ep, s2⟩
        obtain ⟨ep3, s3⟩ := q
        rw [lx, List.take_length] at ep3
        refine ⟨p3, _, rfl, .inl ⟨sqL_of ep3, fun t1 nt1 => ?_⟩⟩
        have s4 := same_upd (o := .tup ((sentD ds).map toV)) nt1
        have e4 := upd_same (H := H3) (a := t1) (o := .tup ((sentD ds).map toV))
        generalize upd H3 t1 (.tup ((sentD ds).map toV)) = H4 at *
        walk_at "rd"
        refine newLL0 (Nat.le_of_ble_eq_true rfl) fun q1 H5 nq1 lq1 s5 e5 => ?_
        have n12 : t1 ≠ q1 := ne_of_none e4 nq1
        have s25 := s3.trans (s4.trans s5)
        have ha5 := Same.sqT s25 ha2
        have hxs5 := hxs2.same s25
        have e45 := s5 _ _ e4
        walk_at "rd"
        refine ⟨⟨_, ha5⟩, ?_⟩
        refine go_lc (walk_tup (xs := xs)) (fun p i HX => HX p = some (.lst ((cameD (ds.take i)).map toV)) ∧ Same H5 HX)
          (fun p np => ⟨upd_same, same_upd np⟩) (fun p i HX hi q => Same.sqT q.2 ha5) (fun p np i v HX HY hi q y => ?_) (fun p6 H6 np6 q => ?_)
        · obtain ⟨ep, s2⟩ := q
          obtain ⟨rfl, hv⟩ := y
          obtain ⟨dj, gj, dv⟩ := DeAll.get hxs5 hv
          obtain ⟨w1, is, rfl, hl, hw1, hl1, hi1⟩ := step_inv (good _ (List.mem_of_getElem? gj))
          obtain ⟨a2, rfl, e2⟩ := step_at (dv.same s2)
          obtain ⟨i0, is, rfl⟩ : ∃ i0 is', is = i0 :: is' := by
            rcases is with _ | ⟨i0, is⟩
            · simp at hl
            · exact ⟨_, _, rfl⟩
          have tk1 := take_snoc gj
          have lt1 : (ds.take i).length ≤ ds.length := by rw [List.length_take]; omega
          walk_at "rd"
          refine ⟨rfl, ?_⟩
          walk_at "rd"
          refine i_ixTn (k := 0) e2 rfl ?_
          walk_at "rd"
          refine iteNB (fun q => ?_) (fun q => ?_)
          · have wf : wordIs tLost (.tuple (.str (S w1) :: (i0 :: is).map .int)) = false := by rw [wordIs_str, decide_eq_false q]
            walk_at "rd"
            refine i_rU ?_
            refine i_ixT e2 (v := toV (lastD (.tuple (.str (S w1) :: (i0 :: is).map .int)))) (by
              rcases is with _ | ⟨j, _ | ⟨k, is⟩⟩
              · rfl
              · rfl
              · simp at hl) ?_
            refine ⟨_, ep, size_big (by rw [List.length_map]; have := cameD_len (ds.take i); omega), ?_, Same.upd_out s2 np⟩
            rw [upd_same, tk1, cameD_yes wf, List.map_append]; rfl
          · have wt : wordIs tLost (.tuple (.str (S w1) :: (i0 :: is).map .int)) = true := by rw [wordIs_str, decide_eq_true q]
            rw [tk1, cameD_no wt]
            exact ⟨ep, s2⟩
        obtain ⟨ep6, s6⟩ := q
        rw [lx, List.take_length] at ep6
        refine ⟨p6, _, rfl, .inl ⟨sqL_of ep6, fun t2 nt2 => ?_⟩⟩
        have s7 := same_upd (o := .tup ((cameD ds).map toV)) nt2
        have e7 := upd_same (H := H6) (a := t2) (o := .tup ((cameD ds).map toV))
        have n22 : t2 ≠ q1 := Ne.symm (ne_of_none (s6 _ _ e5) nt2)
        generalize upd H6 t2 (.tup ((cameD ds).map toV)) = H7 at *
        have s57 := s6.trans s7
        have e57 := s57 _ _ e5
        walk_at "rd"
        refine i_append e57 (Nat.le_of_ble_eq_true rfl) ?_
        have e8 := upd_same (H := H7) (a := q1) (o := .lst ([V.ref t1] ++ [V.ref t2]))
        have e48 := upd_skip (o := .lst ([V.ref t1] ++ [V.ref t2])) n12 (s57 _ _ e45)
        have e78 := upd_skip (o := .lst ([V.ref t1] ++ [V.ref t2])) n22 e7
        have s18 : Same H (upd H7 q1 (.lst ([V.ref t1] ++ [V.ref t2]))) := Same.upd_out (s1.trans (s2.trans (s25.trans s57))) ((s1.trans (s2.trans (s3.trans s4))).free nq1)
        generalize upd H7 q1 (.lst ([V.ref t1] ++ [V.ref t2])) = H8 at *
        have ha8 := Same.sqT s18 ha
        have hxs8 := hxs.same s18
        walk_at "rd"
        refine ⟨⟨_, ha8⟩, ?_⟩
        refine go_lc (walk_tup (xs := xs)) (fun p i HX => ∃ acc : List V, HX p = some (.lst acc) ∧ acc.length = errN (ds.take i) ∧ Same H8 HX)
          (fun p np => ⟨[], upd_same, rfl, same_upd np⟩) (fun p i HX hi q => (by obtain ⟨_, _, _, s⟩ := q; exact Same.sqT s ha8)) (fun p np i v HX HY hi q y => ?_) (fun p9 H9 np9 q => ?_)
        · obtain ⟨acc, ep, la, s2⟩ := q
          obtain ⟨rfl, hv⟩ := y
          obtain ⟨dj, gj, dv⟩ := DeAll.get hxs8 hv
          obtain ⟨w1, is, rfl, hl, hw1, hl1, hi1⟩ := step_inv (good _ (List.mem_of_getElem? gj))
          obtain ⟨a2, rfl, e2⟩ := step_at (dv.same s2)
          obtain ⟨i0, is, rfl⟩ : ∃ i0 is', is = i0 :: is' := by
            rcases is with _ | ⟨i0, is⟩
            · simp at hl
            · exact ⟨_, _, rfl⟩
          have tk1 := take_snoc gj
          have lt1 : (ds.take i).length ≤ ds.length := by rw [List.length_take]; omega
          walk_at "rd"
          refine ⟨rfl, ?_⟩
          walk_at "rd"
          refine i_ixTn (k := 0) e2 rfl ?_
          walk_at "rd"
          refine iteNB (fun q => ?_) (fun q => ?_)
          · have wf : wordIs tSame (.tuple (.str (S w1) :: (i0 :: is).map .int)) = false := by rw [wordIs_str, decide_eq_false q]
            walk_at "rd"
            refine ⟨acc, ep, size_big (by have := List.length_filter_le (fun s => !wordIs tSame s) (ds.take i); unfold errN at la; omega), acc ++ [.ref a2], upd_same, ?_, Same.upd_out s2 np⟩
            rw [List.length_append, tk1, errN_yes wf, la]; rfl
          · have wt : wordIs tSame (.tuple (.str (S w1) :: (i0 :: is).map .int)) = true := by rw [wordIs_str, decide_eq_true q]
            rw [tk1, errN_no wt]
            exact ⟨acc, ep, la, s2⟩
        obtain ⟨acc, ep9, la, s9⟩ := q
        rw [lx, List.take_length] at la
        walk_at "rd"
        refine i_append (s9 _ _ e8) (Nat.le_of_ble_eq_true rfl) ?_
        have e10 := upd_same (H := H9) (a := q1) (o := .lst ([V.ref t1] ++ [V.ref t2] ++ [V.int acc.length]))
        have e410 := upd_skip (o := .lst ([V.ref t1] ++ [V.ref t2] ++ [V.int acc.length])) n12 (s9 _ _ e48)
        have e710 := upd_skip (o := .lst ([V.ref t1] ++ [V.ref t2] ++ [V.int acc.length])) n22 (s9 _ _ e78)
        have s110 : Same H (upd H9 q1 (.lst ([V.ref t1] ++ [V.ref t2] ++ [V.int acc.length]))) := Same.upd_out (s18.trans s9) ((s1.trans (s2.trans (s3.trans s4))).free nq1)
        generalize upd H9 q1 (.lst ([V.ref t1] ++ [V.ref t2] ++ [V.int acc.length])) = H10 at *
        walk_at "rd"
        refine ⟨q1, _, _, rfl, s110, lq1, e10, .inl ⟨e, _, _, _, rfl, .tup (sqT_of e410) (toV_de (sentD_int good)), .tup (sqT_of e710) (toV_de (cameD_int good)), ?_⟩⟩
        rw [la]
        exact .int _
      · walk_at "rd"
        exact ⟨q0, [], _, rfl, s1.trans s2, lq, s2 _ _ e1, .inr ⟨e, rfl⟩⟩
    · walk_at "rd"
      refine i_rng (by omega) (by omega) ?_
      obtain ⟨q, ws, u2, rfl, sH, lq, eq, hws⟩ := m
      refine go_for walk_rangeZ (fun i σ H3 => ∃ u2 u3 u4 u5, σ = [some x, some (.ref q), u2, u3, u4, u5] ∧ Same H2 H3) ⟨_, _, _, _, rfl, Same.refl _⟩ (fun _ _ _ _ _ => trivial) (fun i v σ HZ H3 hi h y => ?_) (fun σ H3 h => ?_)
      · obtain ⟨u2, u3, u4, u5, rfl, s23⟩ := h
        obtain ⟨rfl, rfl⟩ := y
        have hx3 := hx.same (sH.trans s23)
        have eq3 := s23 _ _ eq
        walk_at "rd"
        refine hx3.isi (n := "list") (.inr (.inr (.inr (.inl rfl)))) ?_
        walk_at "rd"
        rcases tyB_list d with ⟨ds, rfl⟩ | ⟨nl, el⟩
        · obtain ⟨a, xs, rfl, ha, la, hxs⟩ := hx3.lstI
          have hws := hws.resolve_left fun q => by cases q.1
          obtain ⟨pf, rfl⟩ := hws
          rw [show tyB "list" (.list ds) = true from rfl]
          walk_at "rd"
          refine i_listL (.inl (sqL_of ha)) fun g ng lg => ?_
          have s4 := same_upd (o := .lst xs) ng
          have eg := upd_same (H := H3) (a := g) (o := .lst xs)
          generalize upd H3 g (.lst xs) = H4 at *
          have hxs4 := hxs.same s4
          walk_at "rd"
          refine ⟨i, .ref g, .list ds, 6, 40000, rfl, by omega, by omega, .lst eg lg hxs4, sx, by omega, by omega, ok, (fun e => by cases e), fun _ t H5 s5 nt lt et => ?_⟩
          walk_at "rd"
          refine newLL0 (Nat.zero_le _) fun p6 H6 n6 l6 s6 e6 => ?_
          have eq6 := s6 _ _ (s5 _ _ (s4 _ _ eq3))
          refine i_neE (.lst eq6 lq .nil) (.lst e6 l6 .nil) (sd_lst' (SdAll.nil (n := 0))) (sd_lst' (SdAll.nil (n := 0))) (by simp only [PyData.hasDict, PyData.hasDictAll]) (by simp only [PyData.hasDict, PyData.hasDictAll]) ?_
          rw [eqv_nil_nil]
          walk_at "rd"
          have eg6 := s6 _ _ (s5 _ _ eg)
          have hg6 : De K H6 (.ref g) (.list ds) := .lst eg6 lg (hxs4.same (s5.trans s6))
          refine hg6.isi (n := "list") (.inr (.inr (.inr (.inl rfl)))) ?_
          rw [show tyB "list" (.list ds) = true from rfl]
          walk_at "rd"
          have lds := pass_len sx.lstI'
          refine i_append eg6 (size_big (by rw [hxs.len]; omega)) ?_
          have ntg : t ≠ g := Ne.symm (ne_of_none eg nt)
          have et7 := upd_skip (o := .lst (xs ++ [.int 0])) ntg (s6 _ _ et)
          have eg7 := upd_same (H := H6) (a := g) (o := .lst (xs ++ [.int 0]))
          have nqg : q ≠ g := ne_of_none eq3 ng
          have eq7 := upd_skip (o := .lst (xs ++ [.int 0])) nqg eq6
          have d7 := push_val eg6 (hxs4.same (s5.trans s6)) (ls _ rfl) (.int 0) rfl
          have s27 : Same H2 (upd H6 g (.lst (xs ++ [.int 0]))) := Same.upd_out (s23.trans (s4.trans (s5.trans s6))) (s23.free ng)
          generalize upd H6 g (.lst (xs ++ [.int 0])) = H7 at *
          walk_at "rd"
          refine newLL0 (Nat.zero_le _) fun p8 H8 n8 l8 s8 e8 => ?_
          refine i_eqE (.lst (s8 _ _ eq7) lq .nil) (.lst e8 l8 .nil) (sd_lst' (SdAll.nil (n := 0))) (sd_lst' (SdAll.nil (n := 0))) (by simp only [PyData.hasDict, PyData.hasDictAll]) (by simp only [PyData.hasDict, PyData.hasDictAll]) ?_
          rw [eqv_nil_nil]
          walk_at "rd"
          have dg8 : De K H8 (.ref g) (.list (ds ++ [.int 0])) := .lst (s8 _ _ eg7) lg (d7.same s8)
          have sdg : Sd 6 40141 (.list (ds ++ [.int 0])) := (sd_lst' (n := 5) (((sx.mono (show 6 ≤ 5 + 1 by omega) (Nat.le_refl _)).lstI).app (.cons ((sd_int (i := 0) (by decide)).mono (Nat.zero_le _) (Nat.le_refl _)) .nil))).mono (by omega) (by omega)
          have dt8 : De K H8 (.ref t) (.list [.str (S tNone), .list (ds ++ [.int 0]), .bool true]) := .lst (s8 _ _ et7) lt (.cons (.str _) (.cons dg8 (.cons (.bl _) .nil)))
          have sdt : Sd 7 270000 (.list [.str (S tNone), .list (ds ++ [.int 0]), .bool true]) := (sd_lst' (.cons ((sd_str (by decide)).mono (Nat.zero_le _) (Nat.le_refl _)) (.cons sdg (.cons ((sd_bl true).mono (Nat.zero_le _) (Nat.le_refl _)) .nil)))).mono (by omega) (by decide)
          refine i_repE dt8 sdt (k := ?_)
          walk_at "rd"
          refine newLL0 (Nat.le_of_ble_eq_true rfl) fun p9 H9 n9 l9 s9 e9 => ?_
          walk_at "rd"
          refine i_repE (.lst e9 l9 (.cons (.str _) (.cons (dg8.same s9) (.cons (.bl _) .nil)))) sdt (k := ?_)
          refine ⟨rfl, ?_⟩
          rw [decide_eq_true rfl]
          walk_at "rd"
          exact ⟨_, _, _, _, rfl, s27.trans (s8.trans s9)⟩
        · rw [el]
          walk_at "rd"
          refine ⟨i, x, d, 6, 40000, rfl, by omega, by omega, hx3, sx, by omega, by omega, ok, fun e t r H5 s5 nt lt et er => ?_, fun e t H5 s5 nt lt et => ?_⟩
          · obtain ⟨_, r1, r2, r3, rfl, g1, g2, g3⟩ := hws.resolve_right fun q => by rw [q.1] at e; cases e
            obtain ⟨ds, rfl, good⟩ := passB_inv e
            walk_at "rd"
            refine newLL0 (Nat.zero_le _) fun p6 H6 n6 l6 s6 e6 => ?_
            have s26 := s23.trans (s5.trans s6)
            have eq6 := s26 _ _ eq
            have z1 : (PyData.tuple (sentD ds)).hasDict = false := hasDict_tup.mpr fun y hy => by
              obtain ⟨i, rfl, _⟩ := sentD_int good y hy
              simp only [PyData.hasDict]
            have z2 : (PyData.tuple (cameD ds)).hasDict = false := hasDict_tup.mpr fun y hy => by
              obtain ⟨i, rfl, _⟩ := cameD_int good y hy
              simp only [PyData.hasDict]
            have sd0 := sd_door (k := 0) good sx (by omega)
            have sd1 := sd_door (k := 1) good sx (by omega)
            have sd2 := sd_door (k := 2) good sx (by omega)
            unfold doorD at sd0 sd1 sd2
            rw [if_pos rfl] at sd0
            rw [if_neg (by omega), if_pos rfl] at sd1
            rw [if_neg (by omega), if_neg (by omega)] at sd2
            have dq6 : De K H6 (.ref q) (.list [.tuple (sentD ds), .tuple (cameD ds), .int (errN ds : Nat)]) := .lst eq6 lq (.cons (g1.same s26) (.cons (g2.same s26) (.cons (g3.same s26) .nil)))
            have zq : (PyData.list [.tuple (sentD ds), .tuple (cameD ds), .int (errN ds : Nat)]).hasDict = false := by
              simp only [PyData.hasDict, PyData.hasDictAll] at z1 z2 ⊢
              rw [z1, z2]; rfl
            refine i_neE dq6 (.lst e6 l6 .nil) (sd_lst' (.cons sd0 (.cons sd1 (.cons sd2 .nil)))) (sd_lst' (SdAll.nil (n := 0))) zq (by simp only [PyData.hasDict, PyData.hasDictAll]) ?_
            rw [eqv_cons_nil]
            walk_at "rd"
            have sdd := sd_door (k := (i : Int) % 3) good sx (by omega)
            have sdt : Sd 7 270000 (.list [.str (S tTold), doorD ((i : Int) % 3) ds]) := (sd_lst' (n := 6) (.cons ((sd_str (l := tTold) (by decide)).mono (Nat.zero_le _) (Nat.le_refl _)) (.cons (sdd.mono (by omega) (Nat.le_refl _)) .nil))).mono (by omega) (by decide)
            have dt6 : De K H6 (.ref t) (.list [.str (S tTold), doorD ((i : Int) % 3) ds]) := .lst (s6 _ _ et) lt (.cons (.str _) (.cons (er.same s6) .nil))
            refine i_repE dt6 sdt (k := ?_)
            walk_at "rd"
            obtain ⟨rr, err, drr⟩ : ∃ rr, ([r1, r2, r3] : List V)[((i : Int) % 3).toNat]? = some rr ∧ De K H6 rr (doorD ((i : Int) % 3) ds) := by
              have hj : (i : Int) % 3 = 0 ∨ (i : Int) % 3 = 1 ∨ (i : Int) % 3 = 2 := by omega
              rcases hj with hj | hj | hj
              · exact ⟨r1, by rw [hj]; rfl, by rw [hj]; exact g1.same s26⟩
              · exact ⟨r2, by rw [hj]; rfl, by rw [hj]; exact g2.same s26⟩
              · exact ⟨r3, by rw [hj]; rfl, by rw [hj]; exact g3.same s26⟩
            refine i_ixLv eq6 (by omega) err ?_
            walk_at "rd"
            refine newLL0 (Nat.le_of_ble_eq_true rfl) fun p7 H7 n7 l7 s7 e7 => ?_
            walk_at "rd"
            refine i_repE (.lst e7 l7 (.cons (.str _) (.cons (drr.same s7) .nil))) sdt (k := ?_)
            refine ⟨rfl, ?_⟩
            rw [decide_eq_true rfl]
            walk_at "rd"
            refine (hx3.same (s5.trans (s6.trans s7))).isi (n := "list") (.inr (.inr (.inr (.inl rfl)))) ?_
            rw [el]
            walk_at "rd"
            refine newLL0 (Nat.zero_le _) fun p8 H8 n8 l8 s8 e8 => ?_
            refine i_eqE (dq6.same (s7.trans s8)) (.lst e8 l8 .nil) (sd_lst' (.cons sd0 (.cons sd1 (.cons sd2 .nil)))) (sd_lst' (SdAll.nil (n := 0))) zq (by simp only [PyData.hasDict, PyData.hasDictAll]) ?_
            rw [eqv_cons_nil]
            walk_at "rd"
            exact ⟨_, _, _, _, rfl, s26.trans (s7.trans s8)⟩
          · obtain ⟨_, rfl⟩ := hws.resolve_left fun q => by rw [q.1] at e; cases e
            walk_at "rd"
            refine newLL0 (Nat.zero_le _) fun p6 H6 n6 l6 s6 e6 => ?_
            have s26 := s23.trans (s5.trans s6)
            have eq6 := s26 _ _ eq
            refine i_neE (.lst eq6 lq .nil) (.lst e6 l6 .nil) (sd_lst' (SdAll.nil (n := 0))) (sd_lst' (SdAll.nil (n := 0))) (by simp only [PyData.hasDict, PyData.hasDictAll]) (by simp only [PyData.hasDict, PyData.hasDictAll]) ?_
            rw [eqv_nil_nil]
            walk_at "rd"
            have hx6 := hx3.same (s5.trans s6)
            refine hx6.isi (n := "list") (.inr (.inr (.inr (.inl rfl)))) ?_
            rw [el]
            walk_at "rd"
            refine newLL0 (Nat.zero_le _) fun p8 H8 n8 l8 s8 e8 => ?_
            refine i_eqE (.lst (s8 _ _ eq6) lq .nil) (.lst e8 l8 .nil) (sd_lst' (SdAll.nil (n := 0))) (sd_lst' (SdAll.nil (n := 0))) (by simp only [PyData.hasDict, PyData.hasDictAll]) (by simp only [PyData.hasDict, PyData.hasDictAll]) ?_
            rw [eqv_nil_nil]
            walk_at "rd"
            have dt8 : De K H8 (.ref t) (.list [.str (S tNone), d, .bool true]) := .lst (s8 _ _ (s6 _ _ et)) lt (.cons (.str _) (.cons (hx6.same s8) (.cons (.bl _) .nil)))
            have sdt : Sd 7 270000 (.list [.str (S tNone), d, .bool true]) := (sd_lst' (.cons ((sd_str (by decide)).mono (Nat.zero_le _) (Nat.le_refl _)) (.cons sx (.cons ((sd_bl true).mono (Nat.zero_le _) (Nat.le_refl _)) .nil)))).mono (by omega) (by decide)
            refine i_repE dt8 sdt (k := ?_)
            walk_at "rd"
            refine newLL0 (Nat.le_of_ble_eq_true rfl) fun p9 H9 n9 l9 s9 e9 => ?_
            walk_at "rd"
            refine i_repE (.lst e9 l9 (.cons (.str _) (.cons (hx6.same (s8.trans s9)) (.cons (.bl _) .nil)))) sdt (k := ?_)
            refine ⟨rfl, ?_⟩
            rw [decide_eq_true rfl]
            walk_at "rd"
            exact ⟨_, _, _, _, rfl, s26.trans (s8.trans s9)⟩
      · obtain ⟨u2, u3, u4, u5, rfl, s23⟩ := h
        walk_at "rd"
        exact k _ (sH.trans s23)
end
end Sw
namespace Sw
open PySem PySem.Spec PyProof.Rows L2
local macro_rules | `(tactic| walk_at "hp") => `(tactic| first
  | (with_reducible assumption) | (with_reducible exact upd_same)
  | ((with_reducible refine' upd_old ?q1 ?q2); (case q1 => (with_reducible assumption)); (case q2 => walk_at "hp"))
  | ((with_reducible refine' Same.at ?q1 ?q2); (case q1 => (with_reducible assumption)); (case q2 => walk_at "hp"))
  | ((with_reducible refine' upd_skip ?q1 ?q2); (case q1 => walk_at "ne"); (case q2 => walk_at "hp"))
  | fail)
local macro_rules | `(tactic| walk_at "ne") => `(tactic| first
  | (with_reducible assumption) | (with_reducible exact Ne.symm (by assumption))
  | ((with_reducible refine' ne_of_none ?q1 ?q2); (case q2 => (with_reducible assumption)); (case q1 => walk_at "hp"))
  | fail)
local macro_rules | `(tactic| walk_at "ci") => `(tactic| first | assumption | (show (0 : Int) < _; first | decide | (with_reducible omega)) | exact ⟨by decide, by decide⟩ | exact .inl ⟨by decide, by decide⟩ | exact .inr ⟨by decide, by decide⟩)
local macro_rules | `(tactic| walk_at "ln") => `(tactic| first | (with_reducible assumption) | (with_reducible omega) | (simp only [List.length_append, List.length_take, List.length_drop, List.length_reverse, List.length_cons, List.length_nil]; with_reducible omega))
local macro_rules | `(tactic| walk_at "rd1") => `(tactic| first
  | (with_reducible refine i_seq ?_) | (with_reducible refine i_asg ?_) | (with_reducible refine i_ret ?_) | (with_reducible refine i_name ?_) | ((with_reducible refine' i_var ?q1 ?_); (case q1 => exact rfl)) | (with_reducible refine i_c ?_) | (with_reducible refine i_op ?_) | (with_reducible refine i_un ?_)
  | (with_reducible refine i_rI0 ?_) | (with_reducible refine i_cb ?_) | (with_reducible refine i_cons ?_) | (with_reducible refine i_nil ?_) | (with_reducible refine i_call ?_) | (with_reducible refine i_if ?_) | (with_reducible refine i_ifE ?_) | (with_reducible refine i_test ?_) | (with_reducible refine i_bl ?_)
  | (with_reducible refine i_and ?_) | (with_reducible refine i_or ?_) | (with_reducible refine i_not ?_) | (with_reducible refine i_lstM ?_) | (with_reducible refine i_lstLM ?_) | (with_reducible refine i_tupM ?_) | (with_reducible refine i_next ?_) | (with_reducible refine i_drop ?_) | (with_reducible refine i_sub ?_)
  | (with_reducible refine i_bm ?_) | (with_reducible refine i_sl ?_) | (with_reducible refine i_part ?_) | (with_reducible refine i_nopart ?_) | (with_reducible refine i_exI ?_) | (with_reducible refine i_chain ?_) | ((with_reducible refine' i_aug ?q1 ?_); (case q1 => exact rfl)) | (with_reducible refine i_ip ?_)
  | (with_reducible refine i_par ?_) | (with_reducible refine i_pair ?_) | (with_reducible refine i_andV ?_) | (with_reducible refine i_orV ?_) | (with_reducible refine i_notV ?_) | (with_reducible refine i_m1 ?_) | (with_reducible refine i_str ?_)
  | (with_reducible refine iteF ?_) | (with_reducible refine iteT ?_) | (with_reducible refine iteNT ?_) | (with_reducible refine iteNF ?_) | (with_reducible refine i_tyS ?_) | (with_reducible refine i_tB ?_) | (with_reducible refine i_retN ?_) | (with_reducible refine i_par3 ?_) | (with_reducible refine i_trip ?_) | (with_reducible refine i_gCons ?_) | (with_reducible refine i_gNil ?_) | (with_reducible refine i_lstRg ?_) | (with_reducible refine i_rg1 ?_)
  | (with_reducible refine i_lc ?_) | (with_reducible refine i_for ?_) | (with_reducible refine i_iList ?_) | (with_reducible refine i_iTup ?_) | (with_reducible refine i_iStr ?_) | (with_reducible refine i_iRng1 ?_) | (with_reducible refine i_iEnS ?_)
  | ((with_reducible refine' i_ixTH ?q1 ?q2 ?_); (case q1 => walk_at "hp"); (case q2 => exact rfl))
  | ((with_reducible refine' i_ixLH ?q1 ?q2 ?_); (case q1 => walk_at "hp"); (case q2 => exact rfl))
  | ((with_reducible refine i_addS ?q1 ?_); (case q1 => walk_at "ln")) | ((with_reducible refine i_lenSS ?q1 ?_); (case q1 => walk_at "ln")) | ((with_reducible refine i_slFrom ?q1 ?q2 ?_); (case q1 => walk_at "ln"); (case q2 => walk_at "ln")) | ((with_reducible refine i_slTo ?q1 ?q2 ?_); (case q1 => walk_at "ln"); (case q2 => walk_at "ln"))
  | ((with_reducible refine' i_tyL ?q1 ?_); (case q1 => walk_at "hp"))
  | ((with_reducible refine' i_gTupH ?q1 ?q2 ?_); (case q1 => walk_at "hp"); (case q2 => exact rfl))
  | (with_reducible refine i_dnewM ?_) | (with_reducible refine i_init ?_) | (with_reducible refine i_fst ?_) | (with_reducible refine i_mk ?_) | (with_reducible refine i_raise ?_) | (with_reducible refine i_callS ?_) | (with_reducible refine i_kwS ?_)
  | (with_reducible refine i_revT ?_) | (with_reducible refine i_kw ?_) | ((with_reducible refine' ⟨_, _, rfl, sqT_of ?q1, ?_⟩); (case q1 => walk_at "hp"))
  | (with_reducible refine i_revS ?_) | ((with_reducible refine i_revSS ?q1 ?_); (case q1 => walk_at "ln"))
  | (with_reducible refine i_startS ?_) | (with_reducible refine i_inSg ?_) | (with_reducible refine i_absN ?_) | (with_reducible refine i_min2 ?_) | (with_reducible refine i_max2 ?_) | (with_reducible refine i_min3 ?_) | (with_reducible refine i_intN ?_) | (with_reducible refine i_intNB ?_)
  | ((with_reducible refine' i_lenL ?q1 ?_); (case q1 => walk_at "hp")) | ((with_reducible refine' i_lenT ?q1 ?_); (case q1 => walk_at "hp"))
  | (with_reducible refine i_eqI ?_) | (with_reducible refine i_neI ?_) | (with_reducible refine i_eqS ?_) | (with_reducible refine i_neS ?_) | (with_reducible refine i_isNoI ?_) | (with_reducible refine i_isNoN ?_) | (with_reducible refine i_isNoR ?_)
  | ((with_reducible refine i_pow ?q1 ?q2 ?q3 ?_); (case q1 => decide); (case q2 => decide); (case q3 => (with_reducible omega)))
  | ((with_reducible refine i_rI ?q1 ?_); (case q1 => walk_at "ci"))
  | (with_reducible refine Or.inl ⟨_, rfl, ?_⟩) | (with_reducible refine Or.inr ⟨_, rfl, ?_⟩) | (with_reducible refine ⟨_, rfl, ?_⟩) | (with_reducible refine ⟨_, _, rfl, ?_⟩) | (with_reducible refine ⟨_, _, rfl, rfl, ?_⟩)
  | ((with_reducible refine' ⟨_, _, rfl, Or.inl (sqL_of ?q1), ?_⟩); (case q1 => walk_at "hp")) | ((with_reducible refine' ⟨_, _, rfl, Or.inr (sqT_of ?q1), ?_⟩); (case q1 => walk_at "hp")) | fail)
local macro_rules | `(tactic| walk_at "rd") => `(tactic| repeat' walk_at "rd1")

theorem kindsD_mem {n : Nat} {d : PyData} (h : d ∈ kindsD n) : (∃ a : Nat, a < n ∧ (d = oneD tLost a ∨ d = oneD tPut a)) ∨ ∃ a b : Nat, a < n ∧ b < n ∧ a ≠ b ∧ d = turnD a b := by
  unfold kindsD at h
  rcases List.mem_append.mp h with h | h
  · rcases List.mem_append.mp h with h | h
    · obtain ⟨a, ha, rfl⟩ := List.mem_map.mp h
      exact .inl ⟨a, List.mem_range.mp ha, .inl rfl⟩
    · obtain ⟨a, ha, rfl⟩ := List.mem_map.mp h
      exact .inl ⟨a, List.mem_range.mp ha, .inr rfl⟩
  · obtain ⟨ds, h1, h2⟩ := List.mem_flatten.mp h
    obtain ⟨a, ha, rfl⟩ := List.mem_map.mp h1
    obtain ⟨b, hb, rfl⟩ := List.mem_map.mp h2
    obtain ⟨hb1, hb2⟩ := List.mem_filter.mp hb
    refine .inr ⟨a, b, List.mem_range.mp ha, List.mem_range.mp hb1, ?_, rfl⟩
    rintro rfl
    rw [decide_eq_true rfl] at hb2
    cases hb2
theorem kindsD_kind {n : Nat} {d : PyData} (h : d ∈ kindsD n) : kindB n d = true := by
  rcases kindsD_mem h with ⟨a, ha, rfl | rfl⟩ | ⟨a, b, ha, hb, ne, rfl⟩
  · simp only [oneD, kindB, isX, isS, decide_eq_true (show (0 : Int) ≤ (a : Nat) by omega), decide_eq_true (show ((a : Nat) : Int) < (n : Nat) by omega)]; simp
  · simp only [oneD, kindB, isX, isS, decide_eq_true (show (0 : Int) ≤ (a : Nat) by omega), decide_eq_true (show ((a : Nat) : Int) < (n : Nat) by omega)]; simp
  · simp only [turnD, kindB, isX, isS, eqv_int, decide_eq_true (show (0 : Int) ≤ (a : Nat) by omega), decide_eq_true (show ((a : Nat) : Int) < (n : Nat) by omega), decide_eq_true (show (0 : Int) ≤ (b : Nat) by omega), decide_eq_true (show ((b : Nat) : Int) < (n : Nat) by omega), decide_eq_false (show ¬ ((a : Nat) : Int) = (b : Nat) by omega)]; simp
theorem kindsD_good {n : Nat} {d : PyData} (h : d ∈ kindsD n) : goodS n d := by
  unfold goodS
  rw [kindsD_kind h, Bool.or_true]
theorem kindsD_len (n : Nat) (h : n ≤ 5) : (kindsD n).length ≤ 35 := by
  unfold kindsD
  simp only [List.length_append, List.length_map, List.length_range]
  have := flat_len n (List.range n)
  rw [List.length_range] at this
  have : n * n ≤ 5 * 5 := Nat.mul_le_mul h h
  omega
theorem kindsD_sd (n : Nat) (h : n ≤ 5) : Sd 2 2000 (.list (kindsD n)) := by
  refine (sd_lst (n := 1) (w := 30) fun d hd => good_sd (kindsD_good hd) (by omega)).mono (by omega) ?_
  have := kindsD_len n h
  omega
theorem kindsD_flat (n : Nat) : (PyData.list (kindsD n)).hasDict = false := by
  have := hasDict_tup.mpr (fun s hs => (good_noL (kindsD_good (n := n) hs)).2)
  simpa only [PyData.hasDict] using this
theorem kinds_dp {K : PySem.W.Frag} {H : Hp} {p : Addr} {ws : List V} {n : Nat} (e : H p = some (.lst ws)) (d : DeAll K H ws (kindsD n)) : Dp K H (.ref p) (.list (kindsD n)) := by
  refine .lst (sqL_of e) (d.dp ?_)
  have := kindsD_flat n
  simpa only [PyData.hasDict] using this
mutual
theorem dp_same' {K : PySem.W.Frag} {H H' : Hp} (s : Same H H') : ∀ {v : V} {d : PyData}, Dp K H v d → Dp K H' v d
  | _, _, .non => .non
  | _, _, .bl b => .bl b
  | _, _, .int i => .int i
  | _, _, .str x => .str x
  | _, _, .lst h1 h2 => .lst (Same.sqL s h1) (dpAll_same' s h2)
  | _, _, .tup h1 h2 => .tup (Same.sqT s h1) (dpAll_same' s h2)
theorem dpAll_same' {K : PySem.W.Frag} {H H' : Hp} (s : Same H H') : ∀ {vs : List V} {ds : List PyData}, DpAll K H vs ds → DpAll K H' vs ds
  | _, _, .nil => .nil
  | _, _, .cons h1 h2 => .cons (dp_same' s h1) (dpAll_same' s h2)
end
theorem onG_int {m : Int} {b : Int → Bool} (h1 : 1 ≤ m) (h5 : m ≤ 5) : onG (.int m) b = b m := by
  have : sgn (.int m) = some m := by
    show (if 1 ≤ m ∧ m ≤ 5 then some m else none) = some m
    rw [if_pos ⟨h1, h5⟩]
  unfold onG
  rw [this]
def sgKs : List Str := ["signs"]
/-- _law_all_right(signs, wrong) -/
def spAllR (K : PySem.W.Frag) : Sp := fun vs H Q _ => ∃ (n : Nat) (x : V) (e : PyData) (m w : Nat), vs = [.int (n : Int), x] ∧ 1 ≤ n ∧ n ≤ 5 ∧ De K H x e ∧ Sd m w e ∧ m ≤ 50 ∧ w ≤ 1000 ∧ isG e = false ∧ ∀ H', Same H H' → Q (.bl true) H'
section
variable {P : Program} {w : World} {K : PySem.W.Frag} {mg : Str → Option Value} {base : Heap} {f : Addr} {fd : FuncData}
theorem ok_allr {C : Addr} (F : Fun K "_law_all_right" "_law_all_right" s__law_all_right f fd) (z : Z mg) (xs : XQ "InvalidSigns" P w K mg base C) (c__law_is_kind : Cal P w K mg base "_law_is_kind" ["value", "signs"] 2 (spKind K)) (x_all_kinds : CalX P w K mg base "all_kinds" ["signs"] 4 (spAll K C)) (kx_all_kinds : CalKX P w K mg base "all_kinds" ["signs"] 4 (spAll K C) sgKs one1 one1) : FnG P w K mg base CX0 5 f fd ["signs", "wrong"] (spAllR K) := by
  refine Sw.Fun.okG0 F sc__law_all_right (fun vs H Q E h => ?_) (fun cdv A outer s H vs Q E hr quiet h => ?_)
  · obtain ⟨n, x, e, m, w, rfl, _⟩ := h; rfl
  · obtain ⟨n, x, e, m, we, rfl, n1, n5, hx, sx, hm, hw, ng, k⟩ := h
    refine ⟨_, (pss_cons (ps_set (i := 2) sc__law_all_right.nd rfl (.inl rfl) (pe_op op_cat (pe_lc (own := [("a", 3)]) (g := gName 3) (tt := tYes) rfl sc__law_all_right.nd (pi_range1 (by rfl) z.range (pa_cons (pv 0) pa_nil)) (blkOk_by (own := [("a", 3)]) (N := n__law_all_right) (sc := defScope s__law_all_right) (by decide +kernel)) (fun _ _ _ _ _ => (pg_name (i := 3) sc__law_all_right.nd rfl (.inl rfl))) (fun _ _ _ _ _ => pts_nil) (fun _ _ _ _ _ => (pe_tup (pa_cons (pe_strS (l := [108, 111, 115, 116]) (by decide +kernel)) (pa_cons (pv 3) pa_nil))))) (pe_lc (own := [("a", 3)]) (g := gName 3) (tt := tYes) rfl sc__law_all_right.nd (pi_range1 (by rfl) z.range (pa_cons (pv 0) pa_nil)) (blkOk_by (own := [("a", 3)]) (N := n__law_all_right) (sc := defScope s__law_all_right) (by decide +kernel)) (fun _ _ _ _ _ => (pg_name (i := 3) sc__law_all_right.nd rfl (.inl rfl))) (fun _ _ _ _ _ => pts_nil) (fun _ _ _ _ _ => (pe_tup (pa_cons (pe_strS (l := [112, 117, 116]) (by decide +kernel)) (pa_cons (pv 3) pa_nil)))))))
      (pss_cons (ps_for PassesOwn.never rfl (pi_range1 (by rfl) z.range (pa_cons (pv 0) pa_nil)) (pg_name (i := 3) sc__law_all_right.nd rfl (.inr rfl))
        (pss_one (ps_set (i := 2) sc__law_all_right.nd rfl (.inl rfl) (pe_op op_cat (pv 2) (pe_lc (own := [("b", 4)]) (g := gName 4) (tt := _) rfl sc__law_all_right.nd (pi_range1 (by rfl) z.range (pa_cons (pv 0) pa_nil)) (blkOk_by (own := [("b", 4)]) (N := n__law_all_right) (sc := defScope s__law_all_right) (by decide +kernel)) (fun _ _ _ _ _ => (pg_name (i := 4) sc__law_all_right.nd rfl (.inl rfl))) (fun _ _ _ _ _ => (pts_one (pt_cmpR op_ne (pv 4) (pv 3) (nomark _)))) (fun _ _ _ _ _ => (pe_tup (pa_cons (pe_strS (l := [116, 117, 114, 110, 101, 100]) (by decide +kernel)) (pa_cons (pv 3) (pa_cons (pv 4) pa_nil))))))))))
      (pss_cons (ps_set (i := 5) sc__law_all_right.nd rfl (.inl rfl) (pe_calX x_all_kinds hr takes_none (pa_cons (pv 0) pa_nil)))
      (pss_cons (ps_if (PW.pt (pw_or (pt_cmpR op_ne (pe_callB (call_repE quiet hr.units) (by rfl) z.repr (by decide +kernel) (pa_cons (pv 5) pa_nil)) (pe_callB (call_repE quiet hr.units) (by rfl) z.repr (by decide +kernel) (pa_cons (pv 2) pa_nil)) (nomark _)) (pw_or1 (pt_cmpR (op_neD hr.units) (pe_lc (own := [("kind", 6)]) (g := gName 6) (tt := _) rfl sc__law_all_right.nd (pi_list (pv 5)) (blkOk_by (own := [("kind", 6)]) (N := n__law_all_right) (sc := defScope s__law_all_right) (by decide +kernel)) (fun _ _ _ _ _ => (pg_name (i := 6) sc__law_all_right.nd rfl (.inl rfl))) (fun _ _ _ _ _ => (pts_one (pt_not (pt_val (pe_cal c__law_is_kind hr (pa_cons (pv 6) (pa_cons (pv 0) pa_nil))))))) (fun _ _ _ _ _ => (pv 6))) (pe_lstL pa_nil) (nomark _)))))
        (pss_one (ps_ret pe_bl))
        pss_nil)
      (pss_cons (ps_expr (pe_bm PySem.F.plainAttrs_list PySem.F.slot_list_append PySem.F.type_list_append mt_append (pv 5) (pa_cons pe_non pa_nil)))
      (pss_cons (ps_if (pt_cmpR op_ne (pe_callB (call_repE quiet hr.units) (by rfl) z.repr (by decide +kernel) (pa_cons (pe_calKX kx_all_kinds hr takes_none (pk_cons (pv 0) pk_nil)) pa_nil)) (pe_callB (call_repE quiet hr.units) (by rfl) z.repr (by decide +kernel) (pa_cons (pv 2) pa_nil)) (nomark _))
        (pss_one (ps_ret pe_bl))
        pss_nil)
      (pss_cons (ps_try_as (i := 7) (Wout := fun _ _ _ _ => False) rfl rfl sc__law_all_right.nd rfl rfl (names_Q xs) takes_none (fun W pn xe tk po => (pss_one (ps_expr (pe_calX x_all_kinds hr tk (pa_cons (pv 1) pa_nil)))))
      (fun a oe cls d pn hz hf => (pss_one (ps_ret (pe_cmpR op_eq (pe_callB (id := "repr") (r := rRepE K) (call_repE (X := Cx.suite (cxOf CX0 P w K mg base n__law_all_right "_law_all_right" (defScope s__law_all_right) f cdv A outer s H E).nox a ((a, oe) :: pn)) quiet hr.units) (by rfl) z.repr (by decide +kernel) (pa_cons (pe_xf xs.xf xs.no hz hf (pv 7)) pa_nil)) (pe_callB (id := "repr") (r := rRepE K) (call_repE (X := Cx.suite (cxOf CX0 P w K mg base n__law_all_right "_law_all_right" (defScope s__law_all_right) f cdv A outer s H E).nox a ((a, oe) :: pn)) quiet hr.units) (by rfl) z.repr (by decide +kernel) (pa_cons (pv 1) pa_nil)) (nomark _))))))
      (pss_one (ps_ret pe_bl))))))))), ?_⟩
    walk_at "rd"
    refine i_rng (by omega) (by omega) ?_
    refine go_lc walk_rangeZ (fun p i H2 => ∃ ws : List V, H2 p = some (.lst ws) ∧ DeAll K H2 ws ((List.range i).map (oneD tLost)) ∧ Same H H2)
      (fun p np => ⟨[], upd_same, .nil, same_upd np⟩) (fun _ _ _ _ _ => trivial) (fun p np i v H2 H3 hi q y => ?_) (fun p1 H5 np1 q => ?_)
    · obtain ⟨ws, ep, dw, s2⟩ := q
      obtain ⟨rfl, rfl⟩ := y
      have lw := dw.len
      rw [List.length_map, List.length_range] at lw
      walk_at "rd"
      refine ⟨rfl, i_yes (iteT ?_)⟩
      walk_at "rd"
      refine newT0 (Nat.le_of_ble_eq_true rfl) fun t H5' nt st et => ?_
      refine ⟨ws, st _ _ ep, size_big (by omega), ws ++ [.ref t], upd_same, ?_, Same.upd_out (s2.trans st) np⟩
      rw [List.range_succ, List.map_append]
      exact push_val (st _ _ ep) (dw.same st) (noL_one _ _) (.tup (sqT_of et) (.cons (.str _) (.cons (.int _) .nil))) rfl
    obtain ⟨w1, e1, d1, s5⟩ := q
    rw [Int.toNat_natCast] at d1
    walk_at "rd"
    refine i_rng (by omega) (by omega) ?_
    refine go_lc walk_rangeZ (fun p i H2 => ∃ ws : List V, H2 p = some (.lst ws) ∧ DeAll K H2 ws ((List.range i).map (oneD tPut)) ∧ Same H5 H2)
      (fun p np => ⟨[], upd_same, .nil, same_upd np⟩) (fun _ _ _ _ _ => trivial) (fun p np i v H2 H3 hi q y => ?_) (fun p2 H6 np2 q => ?_)
    · obtain ⟨ws, ep, dw, s2⟩ := q
      obtain ⟨rfl, rfl⟩ := y
      have lw := dw.len
      rw [List.length_map, List.length_range] at lw
      walk_at "rd"
      refine ⟨rfl, i_yes (iteT ?_)⟩
      walk_at "rd"
      refine newT0 (Nat.le_of_ble_eq_true rfl) fun t H5' nt st et => ?_
      refine ⟨ws, st _ _ ep, size_big (by omega), ws ++ [.ref t], upd_same, ?_, Same.upd_out (s2.trans st) np⟩
      rw [List.range_succ, List.map_append]
      exact push_val (st _ _ ep) (dw.same st) (noL_one _ _) (.tup (sqT_of et) (.cons (.str _) (.cons (.int _) .nil))) rfl
    obtain ⟨w2, e2, d2, s6⟩ := q
    rw [Int.toNat_natCast] at d2
    have e16 := s6 _ _ e1
    have d16 := d1.same s6
    have l1 := d1.len
    have l2 := d2.len
    rw [List.length_map, List.length_range] at l1 l2
    refine ⟨p1, p2, w1, w2, rfl, rfl, e16, e2, ?_, fun p3 n3 => ?_⟩
    · exact Nat.le_of_lt (size_big (by omega))
    have s7 := same_upd (o := .lst (w1 ++ w2)) n3
    have e7 := upd_same (H := H6) (a := p3) (o := .lst (w1 ++ w2))
    have d7 := (d16.app d2).same s7
    generalize upd H6 p3 (.lst (w1 ++ w2)) = H7 at *
    have s07 := s5.trans (s6.trans s7)
    walk_at "rd"
    refine i_rng (by omega) (by omega) ?_
    refine go_for walk_rangeZ (fun i σ H8 => ∃ (p : Addr) (ws : List V) (u3 u4 : Option V), σ = [some (.int (n : Int)), some x, some (.ref p), u3, u4, none, none, none] ∧ H8 p = some (.lst ws) ∧ DeAll K H8 ws ((List.range n).map (oneD tLost) ++ (List.range n).map (oneD tPut) ++ ((List.range i).map (turnsD n)).flatten) ∧ Same H H8)
      ⟨p3, _, _, _, rfl, e7, by simpa using d7, s07⟩ (fun _ _ _ _ _ => trivial) (fun i v σ H8 H9 hi q y => ?_) (fun σ H8 q => ?_)
    · obtain ⟨pd, ws, u3, u4, rfl, ep, dw, s8⟩ := q
      obtain ⟨rfl, rfl⟩ := y
      have lw := dw.len
      have fl := flat_len n (List.range i)
      rw [List.length_range] at fl
      have fl2 : i * n ≤ 5 * 5 := Nat.mul_le_mul (by omega) (by omega)
      simp only [List.length_append, List.length_map, List.length_range] at lw
      walk_at "rd"
      refine i_rng (by omega) (by omega) ?_
      refine go_lc walk_rangeZ (fun p j H10 => ∃ us : List V, H10 p = some (.lst us) ∧ DeAll K H10 us (turnsTo i j) ∧ Same H9 H10)
        (fun p np => ⟨[], upd_same, .nil, same_upd np⟩) (fun _ _ _ _ _ => trivial) (fun p np j v H10 H11 hj q y => ?_) (fun p8 H10 np8 q => ?_)
      · obtain ⟨us, eu, du, su⟩ := q
        obtain ⟨rfl, rfl⟩ := y
        have lu := du.len
        have := turnsTo_len i j
        walk_at "rd"
        refine ⟨rfl, ?_⟩
        walk_at "rd"
        refine iteNB (fun q => ?_) (fun q => ?_)
        · walk_at "rd"
          refine newT0 (Nat.le_of_ble_eq_true rfl) fun t H12 nt st et => ?_
          refine ⟨us, st _ _ eu, size_big (by omega), us ++ [.ref t], upd_same, ?_, Same.upd_out (su.trans st) np⟩
          have te : turnsTo i (j + 1) = turnsTo i j ++ [turnD i j] := by
            unfold turnsTo
            rw [List.range_succ, List.filter_append, List.map_append, List.filter_cons_of_pos (by rw [decide_eq_false (by omega)]; rfl)]; rfl
          rw [te]
          exact push_val (st _ _ eu) (du.same st) (noL_turnsTo _ _) (.tup (sqT_of et) (.cons (.str _) (.cons (.int _) (.cons (.int _) .nil)))) rfl
        · have te : turnsTo i (j + 1) = turnsTo i j := by
            unfold turnsTo
            rw [List.range_succ, List.filter_append, List.filter_cons_of_neg (by rw [decide_eq_true (by omega)]; simp), List.filter_nil, List.append_nil]
          rw [te]
          exact ⟨us, eu, du, su⟩
      · obtain ⟨us, eu, du, su⟩ := q
        rw [Int.toNat_natCast] at du
        have lu := du.len
        have := turnsTo_len i n
        refine ⟨pd, p8, ws, us, rfl, rfl, su _ _ ep, eu, ?_, fun p9 n9 => ?_⟩
        · exact Nat.le_of_lt (size_big (by omega))
        walk_at "rd"
        refine ⟨p9, _, _, _, rfl, upd_same, ?_, (s8.trans su).trans (same_upd n9)⟩
        rw [List.range_succ, List.map_append, List.flatten_append, ← List.append_assoc]
        have := ((dw.same su).app du).same (same_upd (o := .lst (ws ++ us)) n9)
        simpa [turnsTo, turnsD] using this
    · obtain ⟨pd, ws, u3, u4, rfl, ep, dw, s8⟩ := q
      rw [Int.toNat_natCast] at dw
      have dw : DeAll K H8 ws (kindsD n) := dw
      walk_at "rd"
      have noraise : isG (.int (n : Int)) = true := by simp only [isG, decide_eq_true (show (1 : Int) ≤ (n : Nat) by omega), decide_eq_true (show ((n : Nat) : Int) ≤ 5 by omega), Bool.and_self]
      have dpd := kinds_dp ep dw
      refine ⟨_, .int (n : Int), rfl, .int _, fun n' en h1 h2 q wq H9 s9 nq eq dq => ?_, fun e => by rw [noraise] at e; cases e⟩
      obtain rfl : n = n' := by have := PyData.int.inj en; omega
      walk_at "rd"
      refine i_repP (kinds_dp eq dq) (kindsD_flat n) (kindsD_sd n n5) (k := ?_)
      walk_at "rd"
      refine i_repP (dp_same' s9 dpd) (kindsD_flat n) (kindsD_sd n n5) (k := ?_)
      refine ⟨rfl, ?_⟩
      rw [decide_eq_true rfl]
      walk_at "rd"
      have lq := dq.len
      have lk := kindsD_len n n5
      refine ⟨⟨_, sqL_of eq⟩, ?_⟩
      refine go_lc (walk_list (xs := wq)) (fun p i H10 => H10 p = some (.lst []) ∧ Same H9 H10)
        (fun p np => ⟨upd_same, same_upd np⟩) (fun p i H10 hi q => sqL_of (q.2 _ _ eq)) (fun p np i v H10 H11 hi q y => ?_) (fun p10 H10 np10 q => ?_)
      · obtain ⟨e10, s10⟩ := q
        obtain ⟨rfl, hv⟩ := y
        obtain ⟨dj, gj, dv⟩ := dq.get hv
        have mj := List.mem_of_getElem? gj
        walk_at "rd"
        refine ⟨rfl, ?_⟩
        walk_at "rd"
        refine ⟨v, .int (n : Int), dj, .int (n : Int), 1, 30, rfl, dv.same s10, good_sd (kindsD_good mj) (by omega), by omega, .flat (good_noL (kindsD_good mj)).2, .int _, fun H12 s12 => ?_⟩
        have : onG (.int (n : Int)) (fun m => kindB m dj) = true := by
          rw [onG_int (by omega) (by omega)]
          exact kindsD_kind mj
        rw [this]
        walk_at "rd"
        exact ⟨s12 _ _ e10, s10.trans s12⟩
      · obtain ⟨e10, s10⟩ := q
        walk_at "rd"
        refine newLL0 (Nat.zero_le _) fun p11 H11 n11 l11 s11 e11 => ?_
        refine ⟨.list [], .list [], .lst (sqL_of (s11 _ _ e10)) .nil, .lst (sqL_of e11) .nil, rfl, rfl, ?_⟩
        rw [eqv_nil_nil]
        walk_at "rd"
        refine i_append (s11 _ _ (s10 _ _ eq)) (size_big (by omega)) ?_
        have npq : pd ≠ q := ne_of_none ep nq
        have s911 := s9.trans (s10.trans s11)
        have ep12 := upd_skip (o := .lst (wq ++ [.non])) npq (s911 _ _ ep)
        have s12 : Same H8 (upd H11 q (.lst (wq ++ [.non]))) := Same.upd_out s911 nq
        generalize upd H11 q (.lst (wq ++ [.non])) = H12 at *
        walk_at "rd"
        refine ⟨_, .int (n : Int), rfl, .int _, fun n' en h1 h2 q2 wq2 H13 s13 nq2 eq2 dq2 => ?_, fun e => by rw [noraise] at e; cases e⟩
        obtain rfl : n = n' := by have := PyData.int.inj en; omega
        walk_at "rd"
        refine i_repP (kinds_dp eq2 dq2) (kindsD_flat n) (kindsD_sd n n5) (k := ?_)
        walk_at "rd"
        refine i_repP (dp_same' (s12.trans s13) dpd) (kindsD_flat n) (kindsD_sd n n5) (k := ?_)
        refine ⟨rfl, ?_⟩
        rw [decide_eq_true rfl]
        walk_at "rd"
        have s013 := s8.trans (s12.trans s13)
        have hx13 := hx.same s013
        refine ⟨x, e, rfl, hx13, fun n' en h1 h2 => ?_, fun _ dx H14 nx s14 ed => ?_⟩
        · rw [en] at ng
          simp only [isG, decide_eq_true (show (1 : Int) ≤ (n' : Nat) by omega), decide_eq_true (show ((n' : Nat) : Int) ≤ 5 by omega), Bool.and_self] at ng
          cases ng
        · refine ⟨true, xs.me, fun _ a na => ?_, fun z => by cases z⟩
          walk_at "rd"
          refine ⟨_, rfl, rfl, rfl, dx, _, _, rfl, ed, rfl, ?_⟩
          walk_at "rd"
          have hx14 := hx13.same s14
          refine i_repE hx14 sx (k := ?_)
          walk_at "rd"
          refine i_repE hx14 sx (k := ?_)
          refine ⟨rfl, ?_⟩
          rw [decide_eq_true rfl]
          exact k _ (s013.trans s14)
end
end Sw
namespace Sw
open PySem PySem.Spec PyProof.Rows L2
local macro_rules | `(tactic| walk_at "hp") => `(tactic| first
  | (with_reducible assumption) | (with_reducible exact upd_same)
  | ((with_reducible refine' upd_old ?q1 ?q2); (case q1 => (with_reducible assumption)); (case q2 => walk_at "hp"))
  | ((with_reducible refine' Same.at ?q1 ?q2); (case q1 => (with_reducible assumption)); (case q2 => walk_at "hp"))
  | ((with_reducible refine' upd_skip ?q1 ?q2); (case q1 => walk_at "ne"); (case q2 => walk_at "hp"))
  | fail)
local macro_rules | `(tactic| walk_at "ne") => `(tactic| first
  | (with_reducible assumption) | (with_reducible exact Ne.symm (by assumption))
  | ((with_reducible refine' ne_of_none ?q1 ?q2); (case q2 => (with_reducible assumption)); (case q1 => walk_at "hp"))
  | fail)
local macro_rules | `(tactic| walk_at "ci") => `(tactic| first | assumption | (show (0 : Int) < _; first | decide | (with_reducible omega)) | exact ⟨by decide, by decide⟩ | exact .inl ⟨by decide, by decide⟩ | exact .inr ⟨by decide, by decide⟩)
local macro_rules | `(tactic| walk_at "ln") => `(tactic| first | (with_reducible assumption) | (with_reducible omega) | (simp only [List.length_append, List.length_take, List.length_drop, List.length_reverse, List.length_cons, List.length_nil]; with_reducible omega))
local macro_rules | `(tactic| walk_at "rd1") => `(tactic| first
  | (with_reducible refine i_seq ?_) | (with_reducible refine i_asg ?_) | (with_reducible refine i_ret ?_) | (with_reducible refine i_name ?_) | ((with_reducible refine' i_var ?q1 ?_); (case q1 => exact rfl)) | (with_reducible refine i_c ?_) | (with_reducible refine i_op ?_) | (with_reducible refine i_un ?_)
  | (with_reducible refine i_rI0 ?_) | (with_reducible refine i_cb ?_) | (with_reducible refine i_cons ?_) | (with_reducible refine i_nil ?_) | (with_reducible refine i_call ?_) | (with_reducible refine i_if ?_) | (with_reducible refine i_ifE ?_) | (with_reducible refine i_test ?_) | (with_reducible refine i_bl ?_)
  | (with_reducible refine i_and ?_) | (with_reducible refine i_or ?_) | (with_reducible refine i_not ?_) | (with_reducible refine i_lstM ?_) | (with_reducible refine i_lstLM ?_) | (with_reducible refine i_tupM ?_) | (with_reducible refine i_next ?_) | (with_reducible refine i_drop ?_) | (with_reducible refine i_sub ?_)
  | (with_reducible refine i_bm ?_) | (with_reducible refine i_sl ?_) | (with_reducible refine i_part ?_) | (with_reducible refine i_nopart ?_) | (with_reducible refine i_exI ?_) | (with_reducible refine i_chain ?_) | ((with_reducible refine' i_aug ?q1 ?_); (case q1 => exact rfl)) | (with_reducible refine i_ip ?_)
  | (with_reducible refine i_par ?_) | (with_reducible refine i_pair ?_) | (with_reducible refine i_andV ?_) | (with_reducible refine i_orV ?_) | (with_reducible refine i_notV ?_) | (with_reducible refine i_m1 ?_) | (with_reducible refine i_str ?_)
  | (with_reducible refine iteF ?_) | (with_reducible refine iteT ?_) | (with_reducible refine iteNT ?_) | (with_reducible refine iteNF ?_) | (with_reducible refine i_tyS ?_) | (with_reducible refine i_tB ?_) | (with_reducible refine i_retN ?_) | (with_reducible refine i_par3 ?_) | (with_reducible refine i_trip ?_) | (with_reducible refine i_gCons ?_) | (with_reducible refine i_gNil ?_) | (with_reducible refine i_lstRg ?_) | (with_reducible refine i_rg1 ?_)
  | (with_reducible refine i_lc ?_) | (with_reducible refine i_for ?_) | (with_reducible refine i_iList ?_) | (with_reducible refine i_iTup ?_) | (with_reducible refine i_iStr ?_) | (with_reducible refine i_iRng1 ?_) | (with_reducible refine i_iEnS ?_)
  | ((with_reducible refine' i_ixTH ?q1 ?q2 ?_); (case q1 => walk_at "hp"); (case q2 => exact rfl))
  | ((with_reducible refine' i_ixLH ?q1 ?q2 ?_); (case q1 => walk_at "hp"); (case q2 => exact rfl))
  | ((with_reducible refine i_addS ?q1 ?_); (case q1 => walk_at "ln")) | ((with_reducible refine i_lenSS ?q1 ?_); (case q1 => walk_at "ln")) | ((with_reducible refine i_slFrom ?q1 ?q2 ?_); (case q1 => walk_at "ln"); (case q2 => walk_at "ln")) | ((with_reducible refine i_slTo ?q1 ?q2 ?_); (case q1 => walk_at "ln"); (case q2 => walk_at "ln"))
  | ((with_reducible refine' i_tyL ?q1 ?_); (case q1 => walk_at "hp"))
  | ((with_reducible refine' i_gTupH ?q1 ?q2 ?_); (case q1 => walk_at "hp"); (case q2 => exact rfl))
  | (with_reducible refine i_dnewM ?_) | (with_reducible refine i_init ?_) | (with_reducible refine i_fst ?_) | (with_reducible refine i_mk ?_) | (with_reducible refine i_raise ?_) | (with_reducible refine i_callS ?_) | (with_reducible refine i_kwS ?_)
  | (with_reducible refine i_revT ?_) | (with_reducible refine i_kw ?_) | ((with_reducible refine' ⟨_, _, rfl, sqT_of ?q1, ?_⟩); (case q1 => walk_at "hp"))
  | (with_reducible refine i_revS ?_) | ((with_reducible refine i_revSS ?q1 ?_); (case q1 => walk_at "ln"))
  | (with_reducible refine i_startS ?_) | (with_reducible refine i_inSg ?_) | (with_reducible refine i_absN ?_) | (with_reducible refine i_min2 ?_) | (with_reducible refine i_max2 ?_) | (with_reducible refine i_min3 ?_) | (with_reducible refine i_intN ?_) | (with_reducible refine i_intNB ?_)
  | ((with_reducible refine' i_lenL ?q1 ?_); (case q1 => walk_at "hp")) | ((with_reducible refine' i_lenT ?q1 ?_); (case q1 => walk_at "hp"))
  | (with_reducible refine i_eqI ?_) | (with_reducible refine i_neI ?_) | (with_reducible refine i_eqS ?_) | (with_reducible refine i_neS ?_) | (with_reducible refine i_isNoI ?_) | (with_reducible refine i_isNoN ?_) | (with_reducible refine i_isNoR ?_)
  | ((with_reducible refine i_pow ?q1 ?q2 ?q3 ?_); (case q1 => decide); (case q2 => decide); (case q3 => (with_reducible omega)))
  | ((with_reducible refine i_rI ?q1 ?_); (case q1 => walk_at "ci"))
  | (with_reducible refine Or.inl ⟨_, rfl, ?_⟩) | (with_reducible refine Or.inr ⟨_, rfl, ?_⟩) | (with_reducible refine ⟨_, rfl, ?_⟩) | (with_reducible refine ⟨_, _, rfl, ?_⟩) | (with_reducible refine ⟨_, _, rfl, rfl, ?_⟩)
  | ((with_reducible refine' ⟨_, _, rfl, Or.inl (sqL_of ?q1), ?_⟩); (case q1 => walk_at "hp")) | ((with_reducible refine' ⟨_, _, rfl, Or.inr (sqT_of ?q1), ?_⟩); (case q1 => walk_at "hp")) | fail)
local macro_rules | `(tactic| walk_at "rd") => `(tactic| repeat' walk_at "rd1")

theorem i_iRng2 {ta : TA} {R : It → Hp → Prop} {σ : L2.St} {H : Hp} (h : ta σ H fun vs H1 => ∃ i j : Int, vs = [.int i, .int j] ∧ (-(2 ^ 62) ≤ i ∧ i < 2 ^ 62 ∧ -(2 ^ 62) ≤ j ∧ j < 2 ^ 62) ∧ R (Itr i (j - i).toNat) H1) : iRng2 ta σ H R := h
theorem walk_rangeN {lo n : Nat} : Walk (Itr (lo : Int) n) n (fun _ => True) (YFn fun i => .int ((lo + i : Nat) : Int)) :=
  (walk_range (lo := (lo : Int)) (n := n)).mono (fun _ h => h) fun i H x H' _ _ y => ⟨y.1, by rw [y.2]; show V.int ((lo : Int) + (i : Int)) = V.int ((lo + i : Nat) : Int); rw [Int.natCast_add]⟩
theorem onG_no {e : PyData} {b : Int → Bool} (h : isG e = false) : onG e b = false := by
  unfold onG
  rw [isG_sgn] at h
  cases q : sgn e with
  | none => rfl
  | some m => rw [q] at h; cases h
/-- no number of signs -/
def WrongV (K : PySem.W.Frag) (G : Hp) (x : V) : Prop := ∃ e, De K G x e ∧ Sd 2 200 e ∧ isG e = false
theorem WrongV.same {K : PySem.W.Frag} {G G' : Hp} {x : V} (h : WrongV K G x) (s : Same G G') : WrongV K G' x := by
  obtain ⟨e, h1, h2, h3⟩ := h
  exact ⟨e, h1.same s, h2, h3⟩
theorem WrongV.int {K : PySem.W.Frag} {G : Hp} {i : Int} (h : i.natAbs < 10 ^ 40) (n : ¬ (1 ≤ i ∧ i ≤ 5)) : WrongV K G (.int i) := by
  refine ⟨_, .int i, (sd_int h).mono (by omega) (by omega), ?_⟩
  simp only [isG]
  by_cases c : 1 ≤ i
  · rw [decide_eq_false (show ¬ i ≤ 5 from fun q => n ⟨c, q⟩), Bool.and_false]
  · rw [decide_eq_false c, Bool.false_and]
/-- a value that may be judged as a kind -/
def StepV (K : PySem.W.Frag) (G : Hp) (v : V) : Prop := ∃ d, De K G v d ∧ Sd 6 40000 d ∧ StOk d
theorem StepV.same {K : PySem.W.Frag} {G G' : Hp} {x : V} (h : StepV K G x) (s : Same G G') : StepV K G' x := by
  obtain ⟨e, h1, h2, h3⟩ := h
  exact ⟨e, h1.same s, h2, h3⟩
/-- all of H but what lies at b and p -/
def Kp2 (b p : Addr) (H H' : Hp) : Prop := ∀ a o, a ≠ b → a ≠ p → H a = some o → H' a = some o
def StepP (K : PySem.W.Frag) (b p : Addr) (H : Hp) (v : V) : Prop := ∃ d, (∀ H', Kp2 b p H H' → De K H' v d) ∧ Sd 6 40000 d ∧ StOk d
theorem StepP.kp {K : PySem.W.Frag} {b p : Addr} {H H' : Hp} {v : V} (h : StepP K b p H v) (k : Kp2 b p H H') : StepP K b p H' v := by
  obtain ⟨d, h1, h2, h3⟩ := h
  exact ⟨d, fun H2 k2 => h1 H2 fun a o n1 n2 e => k2 a o n1 n2 (k a o n1 n2 e), h2, h3⟩
theorem StepP.now {K : PySem.W.Frag} {b p : Addr} {H : Hp} {v : V} (h : StepP K b p H v) : StepV K H v := by
  obtain ⟨d, h1, h2, h3⟩ := h
  exact ⟨d, h1 H fun _ _ _ _ e => e, h2, h3⟩
theorem StepP.of {K : PySem.W.Frag} {b p : Addr} {H0 H : Hp} {v : V} {xs ys : List V} (h : OddV K H0 (L2.del H b) v) (e0 : H0 p = some (.lst xs)) (e1 : H p = some (.lst ys)) : StepP K b p H v := by
  obtain ⟨d, h1, h2, h3, _⟩ := h
  refine ⟨d, fun H' k => h1 H' fun a o e q => ?_, h3.mono (by omega) (by omega), .of1 h2⟩
  by_cases c : a = b
  · subst c; rw [L2.del_same] at e; cases e
  · rw [L2.del_ne c] at e
    by_cases c2 : a = p
    · subst c2
      rw [e1] at e
      cases e
      rcases q with q | q
      · exact (q _ rfl).elim
      · rw [e0] at q; cases q
    · exact k a o c c2 e
/-- _law_right(box) -/
def spRight : Sp := fun vs H Q _ => ∃ (b : Addr) (d0 : Int), vs = [.ref b] ∧ BoxAt H b d0 ∧ d0 + 2000 ≤ 1000000 ∧ ∀ H', SB b H H' → Q (.bl true) H'
/-- law(script) -/
def spLaw (K : PySem.W.Frag) : Sp := fun vs H Q _ => ∃ (a : Addr) (ns : List Int), vs = [.ref a] ∧ SqL K H a (ns.map V.int) ∧ ∀ H', Same H H' → Q (.bl true) H'
section
variable {P : Program} {w : World} {K : PySem.W.Frag} {mg : Str → Option Value} {base : Heap} {f : Addr} {fd : FuncData}
theorem ok_right (F : Fun K "_law_right" "_law_right" s__law_right f fd) (z : Z mg) (c__law_take : Cal P w K mg base "_law_take" ["box", "many"] 1 spTake) (c__law_step : Cal P w K mg base "_law_step" ["box", "signs"] 2 (spStep K)) (c__law_passing : Cal P w K mg base "_law_passing" ["box", "signs"] 3 (spPsg K)) (c__law_odd : Cal P w K mg base "_law_odd" ["box", "step", "signs"] 2 (spOdd K)) (c__law_near : Cal P w K mg base "_law_near" ["box", "passing", "signs"] 3 (spNear K))
    (c_is_passing : Cal P w K mg base "is_passing" ["value", "signs"] 5 (spPass K)) (k_is_passing : CalK P w K mg base "is_passing" ["value", "signs"] 5 (spPass K) ["signs", "value"] rev2 rev2) (c__law_is_passing : Cal P w K mg base "_law_is_passing" ["value", "signs"] 3 (spPass K)) (c_is_kind : Cal P w K mg base "is_kind" ["value", "signs"] 4 (spKind K)) (k_is_kind : CalK P w K mg base "is_kind" ["value", "signs"] 4 (spKind K) ["signs", "value"] rev2 rev2) (c__law_is_kind : Cal P w K mg base "_law_is_kind" ["value", "signs"] 2 (spKind K))
    (q__law_doors_right : CalG P w K mg base "_law_doors_right" ["value"] 9 (spDoors K)) (q__law_all_right : CalG P w K mg base "_law_all_right" ["signs", "wrong"] 5 (spAllR K)) : FnG P w K mg base CX0 10 f fd ["box"] spRight := by
  refine Sw.Fun.okG0 F sc__law_right (fun vs H Q E h => ?_) (fun cdv A outer s H vs Q E hr quiet h => ?_)
  · obtain ⟨b, d0, rfl, _⟩ := h; rfl
  · obtain ⟨b, d0, rfl, B, hd, k⟩ := h
    refine ⟨_, (pss_cons (ps_set (i := 1) sc__law_right.nd rfl (.inr rfl) (pe_op op_add pe_int (pe_cal c__law_take hr (pa_cons (pv 0) (pa_cons pe_int pa_nil)))))
      (pss_cons (ps_set (i := 2) sc__law_right.nd rfl (.inl rfl) (pe_cal c__law_passing hr (pa_cons (pv 0) (pa_cons (pv 1) pa_nil))))
      (pss_cons (ps_par (i := 3) (j := 4) rfl sc__law_right.nd rfl rfl (by decide) rfl rfl (pa_cons (pe_cal c__law_near hr (pa_cons (pv 0) (pa_cons (pv 2) (pa_cons (pv 1) pa_nil)))) (pa_cons (pe_strS (l := []) (by decide +kernel)) pa_nil)) (by rfl))
      (pss_cons (ps_set (i := 5) sc__law_right.nd rfl (.inl rfl) (pe_ix ix_list (pe_lstL (pa_cons pe_int (pa_cons pe_int (pa_cons (pe_op op_sub pe_int pe_int) (pa_cons pe_non (pa_cons pe_bl (pa_cons (pe_strS (l := [50]) (by decide +kernel)) (pa_cons (pe_tup (pa_cons pe_int pa_nil)) (pa_cons (pe_lstL (pa_cons pe_int pa_nil)) (pa_cons (pe_op op_pow pe_int pe_int) (pa_cons pe_dnewK pa_nil))))))))))) (pe_cal c__law_take hr (pa_cons (pv 0) (pa_cons pe_int pa_nil))) (fun _ _ => rfl)))
      (pss_cons (ps_for PassesOwn.never rfl (pi_list (pe_lstL (pa_cons (pv 2) (pa_cons (pv 3) pa_nil)))) (pg_name (i := 6) sc__law_right.nd rfl (.inl rfl))
        (pss_cons (ps_set (i := 4) sc__law_right.nd rfl (.inl rfl) (pe_callB (call_repE quiet hr.units) (by rfl) z.repr (by decide +kernel) (pa_cons (pv 6) pa_nil)))
        (pss_cons (ps_for PassesOwn.never rfl (pi_list (pe_lstL (pa_cons pe_int (pa_cons pe_int (pa_cons pe_int (pa_cons pe_int (pa_cons pe_int (pa_cons (pv 1) pa_nil)))))))) (pg_name (i := 7) sc__law_right.nd rfl (.inl rfl))
          (pss_one (ps_if (pt_cmpR op_ne (pe_callB (call_repE quiet hr.units) (by rfl) z.repr (by decide +kernel) (pa_cons (pe_cal c_is_passing hr (pa_cons (pv 6) (pa_cons (pv 7) pa_nil))) pa_nil)) (pe_callB (call_repE quiet hr.units) (by rfl) z.repr (by decide +kernel) (pa_cons (pe_cal c__law_is_passing hr (pa_cons (pv 6) (pa_cons (pv 7) pa_nil))) pa_nil)) (nomark _))
            (pss_one (ps_ret pe_bl))
            pss_nil)))
        (pss_one (ps_if (PW.pt (pw_or (pt_cmpR op_notBl (pe_calK k_is_passing hr (pk_cons (pv 5) (pk_cons (pv 6) pk_nil))) pe_bl (nomark _)) (pw_or (pt_not (pt_val (pe_calG q__law_doors_right hr quiet (pa_cons (pv 6) pa_nil)))) (pw_or1 (pt_cmpR op_ne (pe_callB (call_repE quiet hr.units) (by rfl) z.repr (by decide +kernel) (pa_cons (pv 6) pa_nil)) (pv 4) (nomark _))))))
          (pss_one (ps_ret pe_bl))
          pss_nil)))))
      (pss_cons (ps_set (i := 8) sc__law_right.nd rfl (.inl rfl) (pe_op op_cat (pe_op op_cat (pe_lc (own := [("k", 7)]) (g := gName 7) (tt := tYes) rfl sc__law_right.nd (pi_range1 (by rfl) z.range (pa_cons pe_int pa_nil)) (blkOk_by (own := [("k", 7)]) (N := n__law_right) (sc := defScope s__law_right) (by decide +kernel)) (fun _ _ _ _ _ => (pg_name (i := 7) sc__law_right.nd rfl (.inl rfl))) (fun _ _ _ _ _ => pts_nil) (fun _ _ _ _ _ => (pe_cal c__law_odd hr (pa_cons (pv 0) (pa_cons (pe_cal c__law_step hr (pa_cons (pv 0) (pa_cons (pv 1) pa_nil))) (pa_cons (pv 1) pa_nil)))))) (pe_callTy call_listL (by rfl) z.list (by decide +kernel) (pa_cons (pe_slice sl_tupA (pv 2) po_none (po_some pe_int)) pa_nil))) (pe_lstL (pa_cons (pv 3) (pa_cons (pe_tup (pa_cons (pe_strS (l := [115, 97, 109, 101]) (by decide +kernel)) (pa_cons pe_int pa_nil))) pa_nil)))))
      (pss_cons (ps_for PassesOwn.never rfl (pi_list (pv 8)) (pg_name (i := 9) sc__law_right.nd rfl (.inl rfl))
        (pss_cons (ps_for PassesOwn.never rfl (pi_range2 (by rfl) z.range (pa_cons pe_int (pa_cons pe_int pa_nil))) (pg_name (i := 7) sc__law_right.nd rfl (.inl rfl))
          (pss_one (ps_if (pt_cmpR op_ne (pe_callB (call_repE quiet hr.units) (by rfl) z.repr (by decide +kernel) (pa_cons (pe_cal c_is_kind hr (pa_cons (pv 9) (pa_cons (pv 7) pa_nil))) pa_nil)) (pe_callB (call_repE quiet hr.units) (by rfl) z.repr (by decide +kernel) (pa_cons (pe_cal c__law_is_kind hr (pa_cons (pv 9) (pa_cons (pv 7) pa_nil))) pa_nil)) (nomark _))
            (pss_one (ps_ret pe_bl))
            pss_nil)))
        (pss_one (ps_if (pt_cmpR op_notBl (pe_calK k_is_kind hr (pk_cons (pv 5) (pk_cons (pv 9) pk_nil))) pe_bl (nomark _))
          (pss_one (ps_ret pe_bl))
          pss_nil))))
      (pss_one (ps_ret (pe_calG q__law_all_right hr quiet (pa_cons (pv 1) (pa_cons (pv 5) pa_nil)))))))))))), ?_⟩
    walk_at "rd"
    refine ⟨b, 5, _, rfl, B, by omega, by omega, by omega, fun q H1 q0 q1 B1 s1 => ?_⟩
    obtain ⟨n, hn⟩ : ∃ n : Nat, 1 + q = (n : Int) := ⟨(1 + q).toNat, by omega⟩
    walk_at "rd"
    rw [hn]
    refine ⟨b, n, _, rfl, by omega, by omega, B1, by omega, fun tp ds H2 dp lds gds B2 s2 => ?_⟩
    walk_at "rd"
    refine ⟨b, tp, ds, n, _, rfl, by omega, by omega, dp, lds, gds, B2, by omega, fun nv dn H3 hnv B3 s3 => ?_⟩
    have dp := dp.same (del_sb s3)
    walk_at "rd"
    refine newT B3 (Nat.le_of_ble_eq_true rfl) fun p4 H4 B4 s4 e4 t4 => ?_
    walk_at "rd"
    refine newLL B4 (Nat.le_of_ble_eq_true rfl) fun p5 H5 lt5 n5 B5 s5 e5 t5 => ?_
    walk_at "rd"
    refine newD B5 fun p6 H6 B6 s6 e6 t6 => ?_
    walk_at "rd"
    refine newLL B6 (Nat.le_of_ble_eq_true rfl) fun p7 H7 lt7 n7 B7 s7 e7 t7 => ?_
    walk_at "rd"
    refine ⟨b, 10, _, rfl, B7, by omega, by omega, by omega, fun j H8 j0 j1 B8 s8 => ?_⟩
    have e48 := del_sb s8 _ _ (s7 _ _ (s6 _ _ (s5 _ _ e4)))
    have e58 := del_sb s8 _ _ (s7 _ _ (s6 _ _ e5))
    have e68 := del_sb s8 _ _ (s7 _ _ e6)
    have e78 := del_sb s8 _ _ e7
    have sd8 := s4.trans (s5.trans (s6.trans (s7.trans (del_sb s8))))
    have dp := dp.same sd8
    have hnv := hnv.same sd8
    have s08 : SB b H H8 := s1.trans (s2.trans (s3.trans (sb_of_del sd8)))
    obtain ⟨wr, ew, hwr⟩ : ∃ wr, ([.int 0, .int 6, .int (0 - 1), .non, .bl true, .str (S [50]), .ref p4, .ref p5, .int (10 ^ Int.toNat 18), .ref p6] : List V)[j.toNat]? = some wr ∧ WrongV K (L2.del H8 b) wr := by
      have hj : j = 0 ∨ j = 1 ∨ j = 2 ∨ j = 3 ∨ j = 4 ∨ j = 5 ∨ j = 6 ∨ j = 7 ∨ j = 8 ∨ j = 9 := by omega
      rcases hj with rfl | rfl | rfl | rfl | rfl | rfl | rfl | rfl | rfl | rfl
      · exact ⟨_, rfl, .int (by decide) (by decide)⟩
      · exact ⟨_, rfl, .int (by decide) (by decide)⟩
      · exact ⟨_, rfl, .int (by decide) (by decide)⟩
      · exact ⟨_, rfl, .none, .non, sd_non.mono (by omega) (by omega), rfl⟩
      · exact ⟨_, rfl, .bool true, .bl _, (sd_bl true).mono (by omega) (by omega), rfl⟩
      · exact ⟨_, rfl, _, .str _, (sd_str (by decide)).mono (by omega) (by decide), rfl⟩
      · exact ⟨_, rfl, _, .tup (sqT_of e48) (.cons (.int _) .nil), (sd_tup' (.cons (sd_int (by decide)) .nil)).mono (by omega) (by omega), rfl⟩
      · exact ⟨_, rfl, _, .lst e58 lt5 (.cons (.int _) .nil), (sd_lst' (.cons (sd_int (by decide)) .nil)).mono (by omega) (by omega), rfl⟩
      · exact ⟨_, rfl, .int (by decide +kernel) (by decide +kernel)⟩
      · exact ⟨_, rfl, _, .dict e68 .nil, sd_emp.mono (by omega) (by omega), rfl⟩
    walk_at "rd"
    refine i_ixLv (del_sub _ _ e78) j0 ew ?_
    obtain ⟨ew, hwe, swe, nwe⟩ := hwr
    walk_at "rd"
    have np8 : NearV K H8 (.ref tp) (.tuple ds) := ⟨dp.same del_sub, (sd_tup' (good_sds gds (by omega))).mono (by omega) (by omega), .flat (good_flat gds), fun es e => by cases e⟩
    have nn8 := hnv.same del_sub
    have we8 := hwe.same del_sub
    refine newLL0 (Nat.le_of_ble_eq_true rfl) fun p9 H9 n9 l9 s9 e9 => ?_
    walk_at "rd"
    refine ⟨⟨_, sqL_of e9⟩, ?_⟩
    refine go_for (walk_list (xs := [.ref tp, nv])) (fun i σ H10 => ∃ (u4 u6 u7 : Option V), σ = [some (.ref b), some (.int (n : Int)), some (.ref tp), some nv, u4, some wr, u6, u7, none, none] ∧ Same H9 H10) ⟨_, _, _, rfl, Same.refl _⟩ (fun i σ H10 _ h => by obtain ⟨_, _, _, _, s⟩ := h; exact sqL_of (s _ _ e9)) (fun i v σ HZ H10 hi h y => ?_) (fun σ H10 h => ?_)
    · obtain ⟨u4, u6, u7, rfl, s10⟩ := h
      obtain ⟨rfl, hv⟩ := y
      obtain ⟨dv, hvv⟩ : ∃ dv, NearV K H10 v dv := by
        have hi2 : i = 0 ∨ i = 1 := by simp only [List.length_cons, List.length_nil] at hi; omega
        rcases hi2 with rfl | rfl
        · cases hv; exact ⟨_, np8.same (s9.trans s10)⟩
        · cases hv; exact ⟨_, nn8.same (s9.trans s10)⟩
      walk_at "rd"
      refine i_repE hvv.de hvv.sd (k := ?_)
      walk_at "rd"
      refine newLL0 (Nat.le_of_ble_eq_true rfl) fun p11 H11 n11 l11 s11 e11 => ?_
      walk_at "rd"
      refine ⟨⟨_, sqL_of e11⟩, ?_⟩
      refine go_for (walk_list (xs := [.int 1, .int 2, .int 3, .int 4, .int 5, .int (n : Int)])) (fun i σ H12 => ∃ (u7 : Option V), σ = [some (.ref b), some (.int (n : Int)), some (.ref tp), some nv, some (.str dv.shown), some wr, some v, u7, none, none] ∧ Same H11 H12) ⟨_, rfl, Same.refl _⟩ (fun i σ H12 _ h => by obtain ⟨_, _, s⟩ := h; exact sqL_of (s _ _ e11)) (fun i x σ HZ H12 hi h y => ?_) (fun σ H12 h => ?_)
      · obtain ⟨u7, rfl, s12⟩ := h
        obtain ⟨rfl, hx⟩ := y
        have hvv := hvv.same (s11.trans s12)
        obtain ⟨m, rfl⟩ : ∃ m : Int, x = .int m := by
          have hi2 : i = 0 ∨ i = 1 ∨ i = 2 ∨ i = 3 ∨ i = 4 ∨ i = 5 := by simp only [List.length_cons, List.length_nil] at hi; omega
          rcases hi2 with rfl | rfl | rfl | rfl | rfl | rfl <;> (cases hx; exact ⟨_, rfl⟩)
        walk_at "rd"
        refine ⟨v, .int m, dv, .int m, 6, 40000, rfl, hvv.de, hvv.sd, by omega, by omega, hvv.ok, .int m, fun H13 s13 => ?_⟩
        walk_at "rd"
        refine i_repE (.bl _) (sd_bl _) (k := ?_)
        walk_at "rd"
        refine ⟨v, .int m, dv, .int m, 6, 40000, rfl, hvv.de.same s13, hvv.sd, by omega, by omega, hvv.ok, .int m, fun H14 s14 => ?_⟩
        walk_at "rd"
        refine i_repE (.bl _) (sd_bl _) (k := ?_)
        refine ⟨rfl, ?_⟩
        rw [decide_eq_true rfl]
        walk_at "rd"
        exact s12.trans (s13.trans s14)
      · obtain ⟨u7, rfl, s12⟩ := h
        have hvv := hvv.same (s11.trans s12)
        have we12 := we8.same (s9.trans (s10.trans (s11.trans s12)))
        walk_at "rd"
        refine ⟨v, wr, dv, ew, 6, 40000, rfl, hvv.de, hvv.sd, by omega, by omega, hvv.ok, we12, fun H13 s13 => ?_⟩
        rw [onG_no nwe]
        walk_at "rd"
        refine ⟨false, false, rfl, rfl, ?_⟩
        rw [decide_eq_true rfl]
        walk_at "rd"
        refine ⟨v, dv, rfl, hvv.same s13, fun H14 s14 => ?_⟩
        walk_at "rd"
        refine i_repE (hvv.same (s13.trans s14)).de hvv.sd (k := ?_)
        walk_at "rd"
        refine ⟨rfl, ?_⟩
        rw [decide_eq_true rfl]
        walk_at "rd"
        exact ⟨_, _, _, rfl, s10.trans (s11.trans (s12.trans (s13.trans s14)))⟩
    · obtain ⟨u4, u6, u7, rfl, s10⟩ := h
      have s810 := s9.trans s10
      have B10 := B8.same s810
      have s010 := s08.trans (SB.of s810)
      have dp10 := dp.same (del_sb (SB.of s810))
      walk_at "rd"
      refine i_rng (by omega) (by omega) ?_
      refine go_lc walk_rangeZ (fun p i H11 => ∃ ws : List V, H11 p = some (.lst ws) ∧ ws.length = i ∧ (∀ v ∈ ws, StepP K b p H11 v) ∧ BoxAt H11 b (d0 + 1500 + 8 * i) ∧ SB b H10 H11)
        (fun p np => ⟨[], upd_same, rfl, (fun v h => by cases h), (BoxAt.same B10 (same_upd np)).mono (by omega), SB.of (same_upd np)⟩) (fun _ _ _ _ _ => trivial) (fun p np i v HZ H11 hi q y => ?_) (fun p11 H11 np11 q => ?_)
      · obtain ⟨ws, ep, lw, hws, B11, s11⟩ := q
        obtain ⟨rfl, rfl⟩ := y
        have npb := box_ne B10 np
        walk_at "rd"
        refine ⟨rfl, i_yes (iteT ?_)⟩
        walk_at "rd"
        refine ⟨b, n, _, rfl, by omega, by omega, B11, by omega, fun st sd H13 dst gst B13 s13 => ?_⟩
        have e13 := s13 _ _ npb ep
        walk_at "rd"
        refine ⟨b, st, sd, n, _, rfl, by omega, by omega, dst, gst.mono (by omega), B13, by omega, fun v H14 ov B14 s14 => ?_⟩
        have e14 := s14 _ _ npb e13
        have kp : Kp2 b p H11 (upd H14 p (.lst (ws ++ [v]))) := fun a o n1 n2 e => by
          rw [L2.upd_ne n2]
          exact s14 _ _ n1 (s13 _ _ n1 e)
        have kp2 : Kp2 b p H14 (upd H14 p (.lst (ws ++ [v]))) := fun a o n1 n2 e => by
          rw [L2.upd_ne n2]; exact e
        refine ⟨ws, e14, size_big (by omega), ws ++ [v], upd_same, by rw [List.length_append, lw]; rfl, fun x hx => ?_, (B14.upd_ne' npb).mono (by omega), ?_⟩
        · rcases List.mem_append.mp hx with hx | hx
          · exact (hws x hx).kp kp
          · rw [List.mem_singleton.mp hx]
            exact (StepP.of ov e13 e14).kp kp2
        · refine fun a o na ha => ?_
          have : a ≠ p := ne_of_none ha np
          rw [L2.upd_ne this]
          exact (s11.trans (s13.trans s14)) a o na ha
      · obtain ⟨ws, ep, lw, hws, B11, s11⟩ := q
        have hws : ∀ v ∈ ws, StepV K H11 v := fun v hv => (hws v hv).now
        obtain ⟨tp', xs, etp, htp, hxs⟩ := (dp10.same (del_sb s11)).tupI
        cases etp
        walk_at "rd"
        refine i_slTB (n := 6) B11 htp fun p12 H12 B12 s12 e12 t12 => ?_
        walk_at "rd"
        refine i_listL (.inr (Same.sqT del_sub e12)) fun p13 n13 l13 => ?_
        have s13 := same_upd (o := .lst (xs.take 6)) n13
        have e13 := upd_same (H := H12) (a := p13) (o := .lst (xs.take 6))
        generalize upd H12 p13 (.lst (xs.take 6)) = H13 at *
        have ep13 := s13 _ _ (t12 _ _ ep)
        have ltk : (xs.take 6).length ≤ 6 := by rw [List.length_take]; omega
        walk_at "rd"
        refine ⟨p11, p13, ws, xs.take 6, rfl, rfl, ep13, e13, Nat.le_of_lt (size_big (by omega)), fun p14 n14 => ?_⟩
        have s14 := same_upd (o := .lst (ws ++ xs.take 6)) n14
        have e14 := upd_same (H := H13) (a := p14) (o := .lst (ws ++ xs.take 6))
        generalize upd H13 p14 (.lst (ws ++ xs.take 6)) = H14 at *
        walk_at "rd"
        refine newT0 (Nat.le_of_ble_eq_true rfl) fun p15 H15 n15 s15 e15 => ?_
        walk_at "rd"
        refine newLL0 (Nat.le_of_ble_eq_true rfl) fun p16 H16 n16 l16 s16 e16 => ?_
        walk_at "rd"
        refine ⟨p14, p16, ws ++ xs.take 6, [nv, .ref p15], rfl, rfl, s16 _ _ (s15 _ _ e14), e16, Nat.le_of_lt (size_big (by rw [List.length_append]; simp only [List.length_cons, List.length_nil]; omega)), fun p17 n17 => ?_⟩
        have s17 := same_upd (o := .lst (ws ++ xs.take 6 ++ [nv, .ref p15])) n17
        have e17 := upd_same (H := H16) (a := p17) (o := .lst (ws ++ xs.take 6 ++ [nv, .ref p15]))
        generalize upd H16 p17 (.lst (ws ++ xs.take 6 ++ [nv, .ref p15])) = H17 at *
        have t1117 := t12.trans (s13.trans (s14.trans (s15.trans (s16.trans s17))))
        have all17 : ∀ v ∈ ws ++ xs.take 6 ++ [nv, .ref p15], StepV K H17 v := fun v hv => by
          rcases List.mem_append.mp hv with hv | hv
          · rcases List.mem_append.mp hv with hv | hv
            · exact (hws v hv).same t1117
            · obtain ⟨j2, hj2⟩ := List.getElem?_of_mem (List.mem_of_mem_take hv)
              obtain ⟨sd, g1, g2⟩ := hxs.get hj2
              have gs := gds sd (List.mem_of_getElem? g1)
              exact ⟨sd, (g2.same del_sub).same t1117, (good_sd gs (by omega)).mono (by omega) (by omega), .flat (good_noL gs).2⟩
          · rcases List.mem_cons.mp hv with rfl | hv
            · exact ⟨dn, ((hnv.same (del_sb (SB.of s810))).same (del_sb s11)).de.same (del_sub.trans t1117), hnv.sd, hnv.ok.st⟩
            · rw [List.mem_singleton.mp hv]
              exact ⟨_, .tup (sqT_of (s17 _ _ (s16 _ _ e15))) (.cons (.str _) (.cons (.int _) .nil)), (sd_tup' (.cons ((sd_str (l := tSame) (by decide)).mono (Nat.le_refl _) (Nat.le_refl _)) (.cons (sd_int9 (i := 0) (by decide)) .nil))).mono (by omega) (by decide), .flat (by simp only [PyData.hasDict, PyData.hasDictAll, Bool.or_self])⟩
        have lall : (ws ++ xs.take 6 ++ [nv, .ref p15]).length ≤ 100 := by
          rw [List.length_append, List.length_append]; simp only [List.length_cons, List.length_nil]; omega
        have we17 : De K H17 wr ew := (hwe.same ((del_sb (SB.of s810)).trans (del_sb s11))).same (del_sub.trans t1117)
        generalize ws ++ xs.take 6 ++ [nv, .ref p15] = stp at *
        walk_at "rd"
        refine ⟨⟨_, sqL_of e17⟩, ?_⟩
        refine go_for (walk_list (xs := stp)) (fun i σ H18 => ∃ (u7 u9 : Option V), σ = [some (.ref b), some (.int (n : Int)), some (.ref tp), some nv, u4, some wr, u6, u7, some (.ref p17), u9] ∧ Same H17 H18) ⟨_, _, rfl, Same.refl _⟩ (fun i σ H18 _ h => by obtain ⟨_, _, _, s⟩ := h; exact sqL_of (s _ _ e17)) (fun i v σ HZ H18 hi h y => ?_) (fun σ H18 h => ?_)
        · obtain ⟨u7, u9, rfl, s18⟩ := h
          obtain ⟨rfl, hv⟩ := y
          obtain ⟨dv, d1, d2, d3⟩ := (all17 v (List.mem_of_getElem? hv)).same s18
          walk_at "rd"
          refine i_iRng2 ?_
          walk_at "rd"
          refine ⟨⟨by omega, by omega, by omega, by omega⟩, ?_⟩
          refine go_for (walk_rangeN (lo := 1)) (fun i σ H19 => ∃ (u7 : Option V), σ = [some (.ref b), some (.int (n : Int)), some (.ref tp), some nv, u4, some wr, u6, u7, some (.ref p17), some v] ∧ Same H18 H19) ⟨_, rfl, Same.refl _⟩ (fun _ _ _ _ _ => trivial) (fun i x σ HZ H19 hi h y => ?_) (fun σ H19 h => ?_)
          · obtain ⟨u7, rfl, s19⟩ := h
            obtain ⟨rfl, rfl⟩ := y
            walk_at "rd"
            refine ⟨v, .int _, dv, .int _, 6, 40000, rfl, d1.same s19, d2, by omega, d3, .int _, fun H20 s20 => ?_⟩
            walk_at "rd"
            refine i_repE (.bl _) (sd_bl _) (k := ?_)
            walk_at "rd"
            refine ⟨v, .int _, dv, .int _, 6, 40000, rfl, d1.same (s19.trans s20), d2, by omega, d3, .int _, fun H21 s21 => ?_⟩
            walk_at "rd"
            refine i_repE (.bl _) (sd_bl _) (k := ?_)
            refine ⟨rfl, ?_⟩
            rw [decide_eq_true rfl]
            walk_at "rd"
            exact s19.trans (s20.trans s21)
          · obtain ⟨u7, rfl, s19⟩ := h
            walk_at "rd"
            refine ⟨v, wr, dv, ew, 6, 40000, rfl, d1.same s19, d2, by omega, d3, we17.same (s18.trans s19), fun H20 s20 => ?_⟩
            rw [onG_no nwe]
            walk_at "rd"
            refine ⟨false, false, rfl, rfl, ?_⟩
            rw [decide_eq_true rfl]
            walk_at "rd"
            exact s18.trans (s19.trans s20)
        · obtain ⟨u7, u9, rfl, s18⟩ := h
          walk_at "rd"
          refine ⟨n, wr, ew, 2, 200, rfl, by omega, by omega, we17.same s18, swe, by omega, by omega, nwe, fun H19 s19 => ?_⟩
          exact k _ (s010.trans (s11.trans (SB.of (t1117.trans (s18.trans s19)))))
theorem ok_law (F : Fun K "law" "law" s_law f fd) (z : Z mg) (q__law_right : CalG P w K mg base "_law_right" ["box"] 10 spRight)
    (c__law_box : Cal P w K mg base "_law_box" ["great"] 1 spBox) (c__law_cell : Cal P w K mg base "_law_cell" ["script", "k"] 1 (spCell K)) : FnG P w K mg base CX0 11 f fd ["script"] (spLaw K) := by
  refine Sw.Fun.okG0 F sc_law (fun vs H Q E h => ?_) (fun cdv A outer s H vs Q E hr quiet h => ?_)
  · obtain ⟨a, ns, rfl, _⟩ := h; rfl
  · obtain ⟨a, ns, rfl, L, k⟩ := h
    refine ⟨_, (pss_cons (ps_for PassesOwn.never rfl (pi_range1 (by rfl) z.range (pa_cons (pe_callB (call_max2N rfl) (by rfl) z.max_ (by decide +kernel) (pa_cons pe_int (pa_cons (pe_callB (call_min2N rfl) (by rfl) z.min_ (by decide +kernel) (pa_cons pe_int (pa_cons (pe_callB call_lenQ (by rfl) z.len PySem.boot_len (pa_cons (pv 0) pa_nil)) pa_nil))) pa_nil))) pa_nil)) (pg_name (i := 1) sc_law.nd rfl (.inl rfl))
        (pss_one (ps_if (pt_not (pt_val (pe_calG q__law_right hr quiet (pa_cons (pe_cal c__law_box hr (pa_cons (pe_cal c__law_cell hr (pa_cons (pv 0) (pa_cons (pv 1) pa_nil))) pa_nil)) pa_nil))))
          (pss_one (ps_ret pe_bl))
          pss_nil)))
      (pss_one (ps_ret pe_bl))), ?_⟩
    walk_at "rd"
    refine i_lenK L ?_
    walk_at "rd"
    rw [List.length_map]
    refine i_rng (by omega) (by omega) ?_
    refine go_for walk_rangeZ (fun i σ H2 => ∃ u1, σ = [some (.ref a), u1] ∧ Same H H2) ⟨none, rfl, Same.refl _⟩ (fun _ _ _ _ _ => trivial) (fun i v σ H2 H3 hi p y => ?_) (fun σ H2 p => ?_)
    · obtain ⟨u1, rfl, s2⟩ := p
      obtain ⟨rfl, rfl⟩ := y
      walk_at "rd"
      refine ⟨a, ns, i, rfl, Same.sqL s2 L, by omega, by omega, fun v H4 s4 => ?_⟩
      walk_at "rd"
      refine ⟨v, rfl, fun b H5 nb s5 B5 => ?_⟩
      walk_at "rd"
      refine ⟨b, 0, rfl, B5, by omega, fun H6 s6 => ?_⟩
      have keep : Same H H6 := fun x o e => by
        have e4 := s4 _ _ (s2 _ _ e)
        have nxb : x ≠ b := ne_of_none e4 nb
        exact s6 _ _ nxb (s5 _ _ e4)
      walk_at "rd"
      exact keep
    · obtain ⟨u1, rfl, s2⟩ := p
      walk_at "rd"
      exact k _ s2
end
end Sw
namespace Sw
open PySem PySem.Spec PyProof.Rows L2
theorem def_mk {K : PySem.W.Frag} {h : Heap} {mg : Str → Option Value} {x : Str} {st : Stmt} {f : Addr} {od an : Option Addr} {sl : Array (Option Value)} {oc kV dc pm cd ct : Value} (X : K.In h) (G : h.Ns mainGlobals mg)
    (a : PySem.W.nsIn K mainGlobals x = some (some (.ref f))) (l : K.lookup f = some ⟨oc, od, .func (PySem.W.fnOf x x (defArgs st) (defBody st) (defScope st) .none kV dc pm an cd ct), sl⟩) (c : PySem.W.codeIn K cd x = true) (k : PySem.W.keepIn K (.ref f) = true) : Def K mg x st :=
  ⟨f, _, fun_mk l c k, PySem.W.mg_of X G a⟩
theorem oex_mk {K : PySem.W.Frag} {C B N : Addr} {nm q : Str} {bs : List Value} {sn : List Str} {sub : List Value} {ab : Bool} {col : Option Bool} {dd : Option Addr} {k0 k1 k2 k3 k5 : Option Value}
    (h : K.lookup C = some (excClassObj nm q C N bs [.ref B, .type "Exception", .type "BaseException", .type "object"] true sn sub ab col dd k0 k1 k2 k3 k5 "Exception.__new__")) (sa : PySem.W.findIn K (.ref C) "__setattr__" = some (some (.builtin "object.__setattr__"))) (exC : PySem.W.subIn K (.ref C) (.type "BaseException") = some true)
    (tyC : PySem.W.typeIn K (.ref C) = some (.type "type")) (kC : PySem.W.keepIn K (.ref C) = true) : OexE K C := ⟨⟨nm, q, N, bs, [B], sn, sub, ab, col, dd, k0, k1, k2, k3, k5, h⟩, sa, exC, tyC, kC⟩
theorem exm_mk {K : PySem.W.Frag} {c : Value} (h1 : PySem.W.subIn K c (.type "BaseException") = some true) (h2 : PySem.W.kitCls K c c = some true) : PySem.W.exmOne K c c = some true := by
  unfold PySem.W.exmOne
  rw [h1]
  exact h2
theorem exn_mk {K : PySem.W.Frag} {d c : Value} (h1 : PySem.W.subIn K c (.type "BaseException") = some true) (h2 : PySem.W.kitCls K d c = some false) : PySem.W.exmOne K d c = some false := by
  unfold PySem.W.exmOne
  rw [h1]
  exact h2
/-- an own exception class, its __init__ apart -/
structure XI (x q : Str) (st : Stmt) (K : PySem.W.Frag) (mg : Str → Option Value) (C : Addr) : Prop where
  T : OexE K C
  xf : XfC K C
  no : PySem.W.findIn K (.ref C) "given" = some none
  hm : mg x = some (.ref C)
  me : PySem.W.exmOne K (.ref C) (.ref C) = some true
  ini : ∃ (fI : Addr) (fd : FuncData), PySem.W.findIn K (.ref C) "__init__" = some (some (.ref fI)) ∧ PySem.W.typeIn K (.ref fI) = some (.type "function") ∧ Fun K "__init__" q st fI fd
theorem iniq_mk {K : PySem.W.Frag} {q : Str} {st : Stmt} {C fI : Addr} {od an : Option Addr} {sl : Array (Option Value)} {oc kV dc pm cd ct : Value} (i : PySem.W.findIn K (.ref C) "__init__" = some (some (.ref fI))) (t : PySem.W.typeIn K (.ref fI) = some (.type "function"))
    (l : K.lookup fI = some ⟨oc, od, .func (PySem.W.fnOf "__init__" q (defArgs st) (defBody st) (defScope st) .none kV dc pm an cd ct), sl⟩) (c : PySem.W.codeIn K cd q = true) (k : PySem.W.keepIn K (.ref fI) = true) :
    ∃ (fI : Addr) (fd : FuncData), PySem.W.findIn K (.ref C) "__init__" = some (some (.ref fI)) ∧ PySem.W.typeIn K (.ref fI) = some (.type "function") ∧ Fun K "__init__" q st fI fd := ⟨fI, _, i, t, fun_mk l c k⟩
theorem all_mk {l : PySem.W.OpenLaw} {w : World} {K : PySem.W.Frag} {mg : Str → Option Value} {fa : Addr} (hfa : mg "law" = some (.ref fa)) (z : Z mg) {t_MOST_SIGNS : Tok} (g_MOST_SIGNS : mg "MOST_SIGNS" = some (.int 5 t_MOST_SIGNS)) {B : Addr} (ov : Over K mg B) {C : Addr} (xi_C : XI "InvalidPassing" "InvalidPassing.__init__" s_initP K mg C) (ec_C : ExcC K C) (ki_C : PySem.W.kitOne K (.ref C) (.ref B) = some true) {D : Addr} (xi_D : XI "InvalidSigns" "InvalidSigns.__init__" s_initS K mg D) 
    (d_is_integer : Def K mg "is_integer" s_is_integer) (d_is_index : Def K mg "is_index" s_is_index) (d_is_signs : Def K mg "is_signs" s_is_signs) (d_is_sign : Def K mg "is_sign" s_is_sign) (d_check_signs : Def K mg "check_signs" s_check_signs) (d_is_kind : Def K mg "is_kind" s_is_kind) (d_all_kinds : Def K mg "all_kinds" s_all_kinds) (d_is_same : Def K mg "is_same" s_is_same) (d_is_passing : Def K mg "is_passing" s_is_passing) (d_check_passing : Def K mg "check_passing" s_check_passing) (d_sent : Def K mg "sent" s_sent) (d_came : Def K mg "came" s_came) (d_errors_in : Def K mg "errors_in" s_errors_in) (d__law_cell : Def K mg "_law_cell" s__law_cell) (d__law_box : Def K mg "_law_box" s__law_box) (d__law_take : Def K mg "_law_take" s__law_take) (d__law_is_signs : Def K mg "_law_is_signs" s__law_is_signs) (d__law_is_sign : Def K mg "_law_is_sign" s__law_is_sign) (d__law_is_kind : Def K mg "_law_is_kind" s__law_is_kind) (d__law_is_passing : Def K mg "_law_is_passing" s__law_is_passing) (d__law_step : Def K mg "_law_step" s__law_step) (d__law_passing : Def K mg "_law_passing" s__law_passing) (d__law_odd : Def K mg "_law_odd" s__law_odd) (d__law_near : Def K mg "_law_near" s__law_near) (d__law_ask : Def K mg "_law_ask" s__law_ask) (d__law_doors_right : Def K mg "_law_doors_right" s__law_doors_right) (d__law_all_right : Def K mg "_law_all_right" s__law_all_right) (d__law_right : Def K mg "_law_right" s__law_right) (d_law : Def K mg "law" s_law) :
    ∃ fd : FuncData, (∀ (s : Shared) (v : Value), BindsTo s fd ⟨[v], []⟩ [("script", v)]) ∧ ∀ base : Heap, K.In base → base.Ns mainGlobals mg → FnG l.prog w K mg base CX0 11 fa fd ["script"] (spLaw K) := by
  obtain ⟨f, fd, F, e⟩ := d_law
  cases hfa.symm.trans e
  have F0 := F
  obtain ⟨oc, od, kV, doc, pm, an, cdv, ct, osl, rfl, lk, hcd⟩ := F.ex
  refine ⟨PySem.W.fnOf "law" "law" (defArgs s_law) (defBody s_law) (defScope s_law) .none kV doc pm an cdv ct, fun s v => .of_eq rfl, fun base _ _ => ?_⟩
  have xq_C : XQ "InvalidPassing" l.prog w K mg base C := by
    obtain ⟨fI, fdI, i1, i2, FI⟩ := xi_C.ini
    exact ⟨xi_C.T, xi_C.xf, xi_C.no, xi_C.hm, xi_C.me, fI, fdI, i1, i2, ok_initP FI ov, FI.binds fun _ _ _ _ _ _ us hl => match us, hl with | [_, _], _ => rfl⟩
  have xq_D : XQ "InvalidSigns" l.prog w K mg base D := by
    obtain ⟨fI, fdI, i1, i2, FI⟩ := xi_D.ini
    exact ⟨xi_D.T, xi_D.xf, xi_D.no, xi_D.hm, xi_D.me, fI, fdI, i1, i2, ok_initS FI ov, FI.binds fun _ _ _ _ _ _ us hl => match us, hl with | [_, _], _ => rfl⟩
  have c_int := Sw.Def.cal (P := l.prog) (w := w) (base := base) d_is_integer (ps := ["value"]) (k := 1) (sp := (spInt K)) (fun _ _ _ _ _ _ us hl => match us, hl with | [_], _ => rfl) fun f fd F => ok_integer F z
  have c_idx := Sw.Def.cal (P := l.prog) (w := w) (base := base) d_is_index (ps := ["value", "many"]) (k := 2) (sp := (spIdx K)) (fun _ _ _ _ _ _ us hl => match us, hl with | [_, _], _ => rfl) fun f fd F => ok_index F c_int
  have c_sgs := Sw.Def.cal (P := l.prog) (w := w) (base := base) d_is_signs (ps := ["value"]) (k := 2) (sp := (spSg K)) (fun _ _ _ _ _ _ us hl => match us, hl with | [_], _ => rfl) fun f fd F => ok_signs F c_int g_MOST_SIGNS
  have c_sg := Sw.Def.cal (P := l.prog) (w := w) (base := base) d_is_sign (ps := ["value", "signs"]) (k := 3) (sp := (spIdx K)) (fun _ _ _ _ _ _ us hl => match us, hl with | [_, _], _ => rfl) fun f fd F => ok_sign F c_idx
  have x_cs := Sw.Def.calX (P := l.prog) (w := w) (base := base) d_check_signs (ps := ["signs"]) (k := 3) (sp := (spCkS K D)) (fun _ _ _ _ _ _ us hl => match us, hl with | [_], _ => rfl) fun f fd F => ok_ckS F xq_D c_sgs
  have c_kind := Sw.Def.cal (P := l.prog) (w := w) (base := base) d_is_kind (ps := ["value", "signs"]) (k := 4) (sp := (spKind K)) (fun _ _ _ _ _ _ us hl => match us, hl with | [_, _], _ => rfl) fun f fd F => ok_kind F z c_sgs c_sg
  have k_kind := Sw.Def.calK (P := l.prog) (w := w) (base := base) d_is_kind (ps := ["value", "signs"]) (ks := ["signs", "value"]) (k := 4) (sp := (spKind K)) (g := rev2) (gV := rev2)
    (fun kV doc pm an cdv ct us ws hl => by obtain ⟨rfl, b, a, rfl⟩ := rev2_inv hl; rfl) rev2_rel fun f fd F => ok_kind F z c_sgs c_sg
  have x_all := Sw.Def.calX (P := l.prog) (w := w) (base := base) d_all_kinds (ps := ["signs"]) (k := 4) (sp := (spAll K D)) (fun _ _ _ _ _ _ us hl => match us, hl with | [_], _ => rfl) fun f fd F => ok_all F z x_cs
  have kx_all := Sw.Def.calKX (P := l.prog) (w := w) (base := base) d_all_kinds (ps := ["signs"]) (ks := sgKs) (k := 4) (sp := (spAll K D)) (g := one1) (gV := one1)
    (fun kV doc pm an cdv ct us ws hl => by obtain ⟨rfl, a, rfl⟩ := one1_inv hl; rfl) one1_rel fun f fd F => ok_all F z x_cs
  have c_same := Sw.Def.cal (P := l.prog) (w := w) (base := base) d_is_same (ps := ["value", "signs"]) (k := 4) (sp := (spSame K)) (fun _ _ _ _ _ _ us hl => match us, hl with | [_, _], _ => rfl) fun f fd F => ok_same F z c_sg
  have c_pass := Sw.Def.cal (P := l.prog) (w := w) (base := base) d_is_passing (ps := ["value", "signs"]) (k := 5) (sp := (spPass K)) (fun _ _ _ _ _ _ us hl => match us, hl with | [_, _], _ => rfl) fun f fd F => ok_passing F z c_sgs c_same c_kind
  have k_pass := Sw.Def.calK (P := l.prog) (w := w) (base := base) d_is_passing (ps := ["value", "signs"]) (ks := ["signs", "value"]) (k := 5) (sp := (spPass K)) (g := rev2) (gV := rev2)
    (fun kV doc pm an cdv ct us ws hl => by obtain ⟨rfl, b, a, rfl⟩ := rev2_inv hl; rfl) rev2_rel fun f fd F => ok_passing F z c_sgs c_same c_kind
  have x_cp := Sw.Def.calX (P := l.prog) (w := w) (base := base) d_check_passing (ps := ["passing", "signs"]) (k := 6) (sp := (spCkP K C)) (fun _ _ _ _ _ _ us hl => match us, hl with | [_, _], _ => rfl) fun f fd F => ok_ckP F xq_C c_pass
  have x_sent := Sw.Def.calX (P := l.prog) (w := w) (base := base) d_sent (ps := ["passing"]) (k := 7) (sp := (spTells K C sentD)) (fun _ _ _ _ _ _ us hl => match us, hl with | [_], _ => rfl) fun f fd F => ok_sent F z g_MOST_SIGNS x_cp
  have kx_sent := Sw.Def.calKX (P := l.prog) (w := w) (base := base) d_sent (ps := ["passing"]) (ks := psgKs) (k := 7) (sp := (spTells K C sentD)) (g := one1) (gV := one1)
    (fun kV doc pm an cdv ct us ws hl => by obtain ⟨rfl, a, rfl⟩ := one1_inv hl; rfl) one1_rel fun f fd F => ok_sent F z g_MOST_SIGNS x_cp
  have x_came := Sw.Def.calX (P := l.prog) (w := w) (base := base) d_came (ps := ["passing"]) (k := 7) (sp := (spTells K C cameD)) (fun _ _ _ _ _ _ us hl => match us, hl with | [_], _ => rfl) fun f fd F => ok_came F z g_MOST_SIGNS x_cp
  have kx_came := Sw.Def.calKX (P := l.prog) (w := w) (base := base) d_came (ps := ["passing"]) (ks := psgKs) (k := 7) (sp := (spTells K C cameD)) (g := one1) (gV := one1)
    (fun kV doc pm an cdv ct us ws hl => by obtain ⟨rfl, a, rfl⟩ := one1_inv hl; rfl) one1_rel fun f fd F => ok_came F z g_MOST_SIGNS x_cp
  have x_errors_in := Sw.Def.calX (P := l.prog) (w := w) (base := base) d_errors_in (ps := ["passing"]) (k := 7) (sp := (spErr K C)) (fun _ _ _ _ _ _ us hl => match us, hl with | [_], _ => rfl) fun f fd F => ok_errors_in F z g_MOST_SIGNS x_cp
  have kx_errors_in := Sw.Def.calKX (P := l.prog) (w := w) (base := base) d_errors_in (ps := ["passing"]) (ks := psgKs) (k := 7) (sp := (spErr K C)) (g := one1) (gV := one1)
    (fun kV doc pm an cdv ct us ws hl => by obtain ⟨rfl, a, rfl⟩ := one1_inv hl; rfl) one1_rel fun f fd F => ok_errors_in F z g_MOST_SIGNS x_cp
  have c_cell := Sw.Def.cal (P := l.prog) (w := w) (base := base) d__law_cell (ps := ["script", "k"]) (k := 1) (sp := (spCell K)) (fun _ _ _ _ _ _ us hl => match us, hl with | [_, _], _ => rfl) fun f fd F => ok__law_cell F z
  have c_box := Sw.Def.cal (P := l.prog) (w := w) (base := base) d__law_box (ps := ["great"]) (k := 1) (sp := spBox) (fun _ _ _ _ _ _ us hl => match us, hl with | [_], _ => rfl) fun f fd F => ok__law_box F z
  have c_take := Sw.Def.cal (P := l.prog) (w := w) (base := base) d__law_take (ps := ["box", "many"]) (k := 1) (sp := spTake) (fun _ _ _ _ _ _ us hl => match us, hl with | [_, _], _ => rfl) fun f fd F => ok__law_take F z
  have c_lsgs := Sw.Def.cal (P := l.prog) (w := w) (base := base) d__law_is_signs (ps := ["value"]) (k := 1) (sp := (spSg K)) (fun _ _ _ _ _ _ us hl => match us, hl with | [_], _ => rfl) fun f fd F => ok_lsigns F z
  have c_lsg := Sw.Def.cal (P := l.prog) (w := w) (base := base) d__law_is_sign (ps := ["value", "signs"]) (k := 1) (sp := (spIdx K)) (fun _ _ _ _ _ _ us hl => match us, hl with | [_, _], _ => rfl) fun f fd F => ok_lsign F z
  have c_lkind := Sw.Def.cal (P := l.prog) (w := w) (base := base) d__law_is_kind (ps := ["value", "signs"]) (k := 2) (sp := (spKind K)) (fun _ _ _ _ _ _ us hl => match us, hl with | [_, _], _ => rfl) fun f fd F => ok_lkind F z c_lsgs c_lsg
  have c_lpass := Sw.Def.cal (P := l.prog) (w := w) (base := base) d__law_is_passing (ps := ["value", "signs"]) (k := 3) (sp := (spPass K)) (fun _ _ _ _ _ _ us hl => match us, hl with | [_, _], _ => rfl) fun f fd F => ok_lpassing F z c_lsgs c_lsg c_lkind
  have c_step := Sw.Def.cal (P := l.prog) (w := w) (base := base) d__law_step (ps := ["box", "signs"]) (k := 2) (sp := (spStep K)) (fun _ _ _ _ _ _ us hl => match us, hl with | [_, _], _ => rfl) fun f fd F => ok_step F c_take
  have c_psg := Sw.Def.cal (P := l.prog) (w := w) (base := base) d__law_passing (ps := ["box", "signs"]) (k := 3) (sp := (spPsg K)) (fun _ _ _ _ _ _ us hl => match us, hl with | [_, _], _ => rfl) fun f fd F => ok_psg F z c_take c_step
  have c_odd := Sw.Def.cal (P := l.prog) (w := w) (base := base) d__law_odd (ps := ["box", "step", "signs"]) (k := 2) (sp := (spOdd K)) (fun _ _ _ _ _ _ us hl => match us, hl with | [_, _, _], _ => rfl) fun f fd F => ok_odd F z c_take
  have c_near := Sw.Def.cal (P := l.prog) (w := w) (base := base) d__law_near (ps := ["box", "passing", "signs"]) (k := 3) (sp := (spNear K)) (fun _ _ _ _ _ _ us hl => match us, hl with | [_, _, _], _ => rfl) fun f fd F => ok_near F z c_take c_odd
  have c_ask := Sw.Def.cal (P := l.prog) (w := w) (base := base) d__law_ask (ps := ["door", "value"]) (k := 8) (sp := (spAsk K)) (fun _ _ _ _ _ _ us hl => match us, hl with | [_, _], _ => rfl) fun f fd F => ok_ask F z xq_C ov ec_C ki_C x_sent kx_sent x_came kx_came x_errors_in kx_errors_in
  have q_doors := Sw.Def.calG (P := l.prog) (w := w) (base := base) d__law_doors_right (ps := ["value"]) (k := 9) (sp := (spDoors K)) (fun _ _ _ _ _ _ us hl => match us, hl with | [_], _ => rfl) fun f fd F => ok_doors F z c_lpass c_ask
  have q_allr := Sw.Def.calG (P := l.prog) (w := w) (base := base) d__law_all_right (ps := ["signs", "wrong"]) (k := 5) (sp := (spAllR K)) (fun _ _ _ _ _ _ us hl => match us, hl with | [_, _], _ => rfl) fun f fd F => ok_allr F z xq_D c_lkind x_all kx_all
  have q_right := Sw.Def.calG (P := l.prog) (w := w) (base := base) d__law_right (ps := ["box"]) (k := 10) (sp := spRight) (fun _ _ _ _ _ _ us hl => match us, hl with | [_], _ => rfl) fun f fd F => ok_right F z c_take c_step c_psg c_odd c_near c_pass k_pass c_lpass c_kind k_kind c_lkind q_doors q_allr
  exact ok_law F0 z q_right c_box c_cell
end Sw
open PySem PySem.W PyProof.Rows
set_option maxHeartbeats 0 in
theorem PySem.Challenge.cw_spoiltways_k04_kinds_and_passings_holds : PySem.Challenge.rw_spoiltways_k04_kinds_and_passings.Holds := by
  w_on; o_law; k_head; (case hw => w_witness2)
  k_fill
  refine Sw.walk_G (l := PySem.Challenge.rw_spoiltways_k04_kinds_and_passings) (n := 63) (k := 11) (x := "script") (sp := Sw.spLaw) rfl (by decide) rfl ⟨rfl, by decide, by decide⟩ (fun w h Y => PySem.W.kIn_of Y) ?F (fun _ _ a ns hl _ hS => ⟨a, ns, rfl, hS, fun _ _ => rfl⟩)
  case F =>
    intro w mg fa h KX G hmg
    have z : Sw.Z mg := by
      refine' ⟨PySem.W.mg_none_of KX G ?z0, PySem.W.mg_none_of KX G ?z1, PySem.W.mg_none_of KX G ?z2, PySem.W.mg_none_of KX G ?z3, PySem.W.mg_none_of KX G ?z4, PySem.W.mg_none_of KX G ?z5, PySem.W.mg_none_of KX G ?z6, PySem.W.mg_none_of KX G ?z7, PySem.W.mg_none_of KX G ?z8, PySem.W.mg_none_of KX G ?z9, PySem.W.mg_none_of KX G ?z10, PySem.W.mg_none_of KX G ?z11, PySem.W.mg_none_of KX G ?z12, PySem.W.mg_none_of KX G ?z13, PySem.W.mg_none_of KX G ?z14⟩
      (case z0 => k_is)
      (case z1 => k_is)
      (case z2 => k_is)
      (case z3 => k_is)
      (case z4 => k_is)
      (case z5 => k_is)
      (case z6 => k_is)
      (case z7 => k_is)
      (case z8 => k_is)
      (case z9 => k_is)
      (case z10 => k_is)
      (case z11 => k_is)
      (case z12 => k_is)
      (case z13 => k_is)
      (case z14 => k_is)
    obtain ⟨v_MOST_SIGNS, gv_MOST_SIGNS, t_MOST_SIGNS, rfl⟩ : ∃ v, mg "MOST_SIGNS" = some v ∧ ∃ t, v = .int 5 t := by
      refine' ⟨_, PySem.W.mg_of KX G ?a, ?b⟩
      (case a => k_is)
      (case b => exact ⟨_, rfl⟩)
    refine' Sw.all_mk hmg z gv_MOST_SIGNS ?ov ?xi_C ?ec_C ?ki_C ?xi_D ?d_is_integer ?d_is_index ?d_is_signs ?d_is_sign ?d_check_signs ?d_is_kind ?d_all_kinds ?d_is_same ?d_is_passing ?d_check_passing ?d_sent ?d_came ?d_errors_in ?d__law_cell ?d__law_box ?d__law_take ?d__law_is_signs ?d__law_is_sign ?d__law_is_kind ?d__law_is_passing ?d__law_step ?d__law_passing ?d__law_odd ?d__law_near ?d__law_ask ?d__law_doors_right ?d__law_all_right ?d__law_right ?d_law
    case xi_C =>
      refine' ⟨Sw.oex_mk ?h1 ?h2 ?h3 ?h4 ?h5, ⟨?f1, ?f2, ?f3, ?f4⟩, ?no, PySem.W.mg_of KX G ?hm, Sw.exm_mk ?me1 ?me2, Sw.iniq_mk ?i1 ?i2 ?i3 ?i4 ?i5⟩
      (case hm => k_is)
      (case h1 => k_is)
      (case h2 => k_is)
      (case h3 => k_is)
      (case h4 => k_is)
      (case h5 => k_is)
      (case f1 => k_is)
      (case f2 => k_is)
      (case f3 => k_is)
      (case f4 => k_is)
      (case no => k_is)
      (case me1 => k_is)
      (case me2 => first | k_is | rfl | decide +kernel)
      (case i1 => k_is)
      (case i2 => k_is)
      (case i3 => k_is)
      (case i4 => k_is)
      (case i5 => k_is)
    case xi_D =>
      refine' ⟨Sw.oex_mk ?h1 ?h2 ?h3 ?h4 ?h5, ⟨?f1, ?f2, ?f3, ?f4⟩, ?no, PySem.W.mg_of KX G ?hm, Sw.exm_mk ?me1 ?me2, Sw.iniq_mk ?i1 ?i2 ?i3 ?i4 ?i5⟩
      (case hm => k_is)
      (case h1 => k_is)
      (case h2 => k_is)
      (case h3 => k_is)
      (case h4 => k_is)
      (case h5 => k_is)
      (case f1 => k_is)
      (case f2 => k_is)
      (case f3 => k_is)
      (case f4 => k_is)
      (case no => k_is)
      (case me1 => k_is)
      (case me2 => first | k_is | rfl | decide +kernel)
      (case i1 => k_is)
      (case i2 => k_is)
      (case i3 => k_is)
      (case i4 => k_is)
      (case i5 => k_is)
    case ov =>
      refine' ⟨PySem.W.mg_of KX G ?b1, ?b2, ?b3, ?b4, ?b5⟩
      (case b1 => k_is)
      (case b2 => k_is)
      (case b3 => k_is)
      (case b4 => k_is)
      (case b5 => k_is)
    case ec_C =>
      refine' ⟨?c1, ?c2, ?c3, ?c4, ?c5, ?c6, ?c7, ?c8⟩
      (case c1 => k_is)
      (case c2 => k_is)
      (case c3 => k_is)
      (case c4 => k_is)
      (case c5 => k_is)
      (case c6 => k_is)
      (case c7 => k_is)
      (case c8 => k_is)
    case ki_C => first | k_is | rfl | decide +kernel
    case d_is_integer =>
      refine' Sw.def_mk KX G ?a ?l ?c ?k
      (case a => k_is)
      (case l => k_is)
      (case c => k_is)
      (case k => k_is)
    case d_is_index =>
      refine' Sw.def_mk KX G ?a ?l ?c ?k
      (case a => k_is)
      (case l => k_is)
      (case c => k_is)
      (case k => k_is)
    case d_is_signs =>
      refine' Sw.def_mk KX G ?a ?l ?c ?k
      (case a => k_is)
      (case l => k_is)
      (case c => k_is)
      (case k => k_is)
    case d_is_sign =>
      refine' Sw.def_mk KX G ?a ?l ?c ?k
      (case a => k_is)
      (case l => k_is)
      (case c => k_is)
      (case k => k_is)
    case d_check_signs =>
      refine' Sw.def_mk KX G ?a ?l ?c ?k
      (case a => k_is)
      (case l => k_is)
      (case c => k_is)
      (case k => k_is)
    case d_is_kind =>
      refine' Sw.def_mk KX G ?a ?l ?c ?k
      (case a => k_is)
      (case l => k_is)
      (case c => k_is)
      (case k => k_is)
    case d_all_kinds =>
      refine' Sw.def_mk KX G ?a ?l ?c ?k
      (case a => k_is)
      (case l => k_is)
      (case c => k_is)
      (case k => k_is)
    case d_is_same =>
      refine' Sw.def_mk KX G ?a ?l ?c ?k
      (case a => k_is)
      (case l => k_is)
      (case c => k_is)
      (case k => k_is)
    case d_is_passing =>
      refine' Sw.def_mk KX G ?a ?l ?c ?k
      (case a => k_is)
      (case l => k_is)
      (case c => k_is)
      (case k => k_is)
    case d_check_passing =>
      refine' Sw.def_mk KX G ?a ?l ?c ?k
      (case a => k_is)
      (case l => k_is)
      (case c => k_is)
      (case k => k_is)
    case d_sent =>
      refine' Sw.def_mk KX G ?a ?l ?c ?k
      (case a => k_is)
      (case l => k_is)
      (case c => k_is)
      (case k => k_is)
    case d_came =>
      refine' Sw.def_mk KX G ?a ?l ?c ?k
      (case a => k_is)
      (case l => k_is)
      (case c => k_is)
      (case k => k_is)
    case d_errors_in =>
      refine' Sw.def_mk KX G ?a ?l ?c ?k
      (case a => k_is)
      (case l => k_is)
      (case c => k_is)
      (case k => k_is)
    case d__law_cell =>
      refine' Sw.def_mk KX G ?a ?l ?c ?k
      (case a => k_is)
      (case l => k_is)
      (case c => k_is)
      (case k => k_is)
    case d__law_box =>
      refine' Sw.def_mk KX G ?a ?l ?c ?k
      (case a => k_is)
      (case l => k_is)
      (case c => k_is)
      (case k => k_is)
    case d__law_take =>
      refine' Sw.def_mk KX G ?a ?l ?c ?k
      (case a => k_is)
      (case l => k_is)
      (case c => k_is)
      (case k => k_is)
    case d__law_is_signs =>
      refine' Sw.def_mk KX G ?a ?l ?c ?k
      (case a => k_is)
      (case l => k_is)
      (case c => k_is)
      (case k => k_is)
    case d__law_is_sign =>
      refine' Sw.def_mk KX G ?a ?l ?c ?k
      (case a => k_is)
      (case l => k_is)
      (case c => k_is)
      (case k => k_is)
    case d__law_is_kind =>
      refine' Sw.def_mk KX G ?a ?l ?c ?k
      (case a => k_is)
      (case l => k_is)
      (case c => k_is)
      (case k => k_is)
    case d__law_is_passing =>
      refine' Sw.def_mk KX G ?a ?l ?c ?k
      (case a => k_is)
      (case l => k_is)
      (case c => k_is)
      (case k => k_is)
    case d__law_step =>
      refine' Sw.def_mk KX G ?a ?l ?c ?k
      (case a => k_is)
      (case l => k_is)
      (case c => k_is)
      (case k => k_is)
    case d__law_passing =>
      refine' Sw.def_mk KX G ?a ?l ?c ?k
      (case a => k_is)
      (case l => k_is)
      (case c => k_is)
      (case k => k_is)
    case d__law_odd =>
      refine' Sw.def_mk KX G ?a ?l ?c ?k
      (case a => k_is)
      (case l => k_is)
      (case c => k_is)
      (case k => k_is)
    case d__law_near =>
      refine' Sw.def_mk KX G ?a ?l ?c ?k
      (case a => k_is)
      (case l => k_is)
      (case c => k_is)
      (case k => k_is)
    case d__law_ask =>
      refine' Sw.def_mk KX G ?a ?l ?c ?k
      (case a => k_is)
      (case l => k_is)
      (case c => k_is)
      (case k => k_is)
    case d__law_doors_right =>
      refine' Sw.def_mk KX G ?a ?l ?c ?k
      (case a => k_is)
      (case l => k_is)
      (case c => k_is)
      (case k => k_is)
    case d__law_all_right =>
      refine' Sw.def_mk KX G ?a ?l ?c ?k
      (case a => k_is)
      (case l => k_is)
      (case c => k_is)
      (case k => k_is)
    case d__law_right =>
      refine' Sw.def_mk KX G ?a ?l ?c ?k
      (case a => k_is)
      (case l => k_is)
      (case c => k_is)
      (case k => k_is)
    case d_law =>
      refine' Sw.def_mk KX G ?a ?l ?c ?k
      (case a => k_is)
      (case l => k_is)
      (case c => k_is)
      (case k => k_is)
