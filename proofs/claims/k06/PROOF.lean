import PyProof.Rows.All
import Wide.All
import OpenK.AllK
import Wide.FinOn
import HandS.ForMost
import HandS.Wide
import HandS.Style
import HandS.IsInst
import HandS.Conv
import HandS.Walk
import HandS.Codes
import HandS.TupAny
import HandS.RaiseMore
import HandS.Flt
import HandS.Flow
import KE.GoesMore
import HandS.Ends
import HandS.ExcInit
import HandS.ExcField
import HandS.ExcOwn
import HandS.TryMany
import HandS.ExcIs
import KE.KExcIs
import HandS.Deep
import KE.KEqDict
import HandS.ListEq
import PyProof.NeKinds
import HandS.TupMul
import HandS.DictComp
import HandS.Small
import HandS.TryOnly
import PySem.Challenge.RW_spoiltways_k06_least_passings
set_option Elab.async false
set_option linter.all false
set_option maxRecDepth 100000
set_option maxHeartbeats 4000000
namespace Sw
open PySem PySem.Spec PyProof.Rows L2

/-! ### texts as lists of signs -/
def S (l : List Nat) : Str := ⟨l.toArray⟩
theorem S_len (l : List Nat) : (S l).length = l.length := by simp [S, Str.length]
theorem S_size (l : List Nat) : (S l).cps.size = l.length := by simp [S]
theorem S_list (l : List Nat) : (S l).cps.toList = l := by simp [S]
theorem S_app (a b : List Nat) : S a ++ S b = S (a ++ b) := by
  show Str.append _ _ = _
  simp [S, Str.append]
theorem S_get (l : List Nat) (i : Nat) : (S l).cps[i]? = l[i]? := by simp [S]
theorem S_inj {a b : List Nat} : S a = S b ↔ a = b := by
  constructor
  · intro h
    have e : (S a).cps.toList = (S b).cps.toList := by rw [h]
    rwa [S_list, S_list] at e
  · rintro rfl; rfl
theorem S_dec (a b : List Nat) : decide (V.str (S a) = V.str (S b)) = decide (a = b) := by
  by_cases h : a = b
  · subst h; simp
  · rw [decide_eq_false h, decide_eq_false]
    intro e
    exact h (S_inj.mp (V.str.inj e))

/-! ### calls of own defs -/
section
variable (P : Program) (w : World) (K : PySem.W.Frag) (mg : Str → Option Value) (base : Heap)
/-- the def x of the text st stands -/
def Def (x : Str) (st : Stmt) : Prop := ∃ (f : Addr) (fd : FuncData), Fun K x x st f fd ∧ mg x = some (.ref f)
/-- the def x keeps its promise -/
def Cal (x : Str) (ps : List Str) (k : Nat) (sp : Sp) : Prop := ∃ (f : Addr) (fd : FuncData), FnOk P w K mg base CX0 k f fd ps sp ∧ mg x = some (.ref f) ∧ PySem.W.keepIn K (.ref f) = true ∧ Binds K fd ps []
end
section
variable {P : Program} {w : World} {K : PySem.W.Frag} {mg : Str → Option Value} {base : Heap}
theorem Def.cal {x : Str} {st : Stmt} {ps : List Str} {k : Nat} {sp : Sp} (d : Def K mg x st)
    (b : ∀ (kV doc pm : Value) (an : Option Addr) (cdv ct : Value) (us : List Value), us.length = ps.length → bindArgs (PySem.W.fnOf x x (defArgs st) (defBody st) (defScope st) .none kV doc pm an cdv ct) ⟨us, []⟩ = pure (ps.zip us))
    (ok : ∀ (f : Addr) (fd : FuncData), Fun K x x st f fd → FnOk P w K mg base CX0 k f fd ps sp) : Cal P w K mg base x ps k sp := by
  obtain ⟨f, fd, F, m⟩ := d
  exact ⟨f, fd, ok f fd F, m, F.kp, F.binds b⟩
end
section
variable {X : Cx} {x : Str} {ps : List Str} {k n : Nat} {sp : Sp} {e : Expr} {es : List Expr} {t : TA} {p pos : Pos}
theorem pe_cal (c : Cal X.prog X.w X.K X.mg X.base x ps k sp) (hr : Room n X.A) (ha : PA X (e :: es) t) (hg : Gl X x := by rfl) (hk : k ≤ n := by decide)
    (hdb : (x == ("__debug__" : Str)) = false := by decide) (he : starEach (e :: es) X.env = (false, eval e X.env) :: starEach es X.env := by rfl) (hpl : (backTo pos (starEach es X.env)).any (·.1) = false := by rfl) :
    PE X (.Call (.Name x p) (e :: es) [] pos) (tCall sp [] E0 t) := by
  obtain ⟨f, fd, F, m, kp, b⟩ := c
  exact pe_call F (hr.mono hk) hg m kp b .nil pass0 ha hdb he hpl
end

/-! ### answers to readings -/
section
variable {σ : L2.St} {H : Hp} {Q : VK} {D : Ends}
theorem i_seq {t u : TS} (h : t { D with nx := u D } σ H) : tSeq t u D σ H := h
theorem i_asg {te : TE} {g : TG} (h : te σ H fun x H1 => g x σ H1 D.nx) : tAsg te g D σ H := h
theorem i_name {i : Nat} {v : V} {R : L2.St → Hp → Prop} (h : R (σ.set i (some v)) H) : gName i v σ H R := h
theorem i_ret {te : TE} (h : te σ H D.rt) : tRet te D σ H := h
theorem i_var {i : Nat} {v : V} (e : σ[i]? = some (some v)) (h : Q v H) : tVar i σ H Q := ⟨v, e, h⟩
theorem i_c {v : V} (h : Q v H) : tC v σ H Q := h
theorem i_op {r : R2} {ta tb : TE} (h : ta σ H fun x H1 => tb σ H1 fun y H2 => r x y H2 Q) : tOp r ta tb σ H Q := h
theorem i_un {r : V → Hp → VK → Prop} {ta : TE} (h : ta σ H fun x H1 => r x H1 Q) : tUn r ta σ H Q := h
theorem i_rI {C : Int → Int → Prop} {g : Int → Int → V} {a b : Int} (c : C a b) (h : Q (g a b) H) : rI C g (.int a) (.int b) H Q := ⟨a, b, rfl, rfl, c, h⟩
theorem i_rI0 {g : Int → Int → V} {a b : Int} (h : Q (g a b) H) : rI0 g (.int a) (.int b) H Q := ⟨a, b, rfl, rfl, h⟩
theorem i_cb {r : List V → Hp → VK → Prop} {t : TA} (h : t σ H fun vs H1 => r vs H1 Q) : tCB r t σ H Q := h
theorem i_cons {ta : TE} {tr : TA} {R : List V → Hp → Prop} (h : ta σ H fun x H1 => tr σ H1 fun xs H2 => R (x :: xs) H2) : tCons ta tr σ H R := h
theorem i_nil {R : List V → Hp → Prop} (h : R [] H) : tNil σ H R := h
theorem i_call {sp : Sp} {dvs : List V} {E : XK} {t : TA} (h : t σ H fun vs H1 => sp (vs ++ dvs) H1 Q E) : tCall sp dvs E t σ H Q := h
theorem i_if {c : TT} {t u : TS} (h : c σ H fun b H1 => if b = true then t D σ H1 else u D σ H1) : tIfS c t u D σ H := h
theorem i_ifE {c : TT} {t u : TE} (h : c σ H fun b H1 => if b = true then t σ H1 Q else u σ H1 Q) : tIf c t u σ H Q := h
theorem i_test {t : TE} {R : Bool → Hp → Prop} (h : t σ H fun x H1 => ∃ k, x = .bl k ∧ R k H1) : tTest t σ H R := h
theorem i_bl {k : Bool} {R : Bool → Prop} (h : R k) : ∃ k', V.bl k = .bl k' ∧ R k' := ⟨k, rfl, h⟩
theorem i_and {t u : TT} {R : Bool → Hp → Prop} (h : t σ H fun c H1 => if c = true then u σ H1 R else R false H1) : tAnd t u σ H R := h
theorem i_or {t u : TT} {R : Bool → Hp → Prop} (h : t σ H fun c H1 => if c = true then R true H1 else u σ H1 R) : tOr t u σ H R := h
theorem i_not {t : TT} {R : Bool → Hp → Prop} (h : t σ H fun c H1 => R (!c) H1) : tNot t σ H R := h
theorem i_lst {t : TA} (h : t σ H fun xs H1 => xs.length ≤ sizeLine ∧ ∀ p, H1 p = none → Q (.ref p) (upd H1 p (.lst xs))) : tLst t σ H Q := h
theorem i_tup {t : TA} (h : t σ H fun xs H1 => xs.length ≤ sizeLine ∧ ∀ p, H1 p = none → Q (.ref p) (upd H1 p (.tup xs))) : tTup t σ H Q := h
theorem iteB {p : Prop} [Decidable p] {A B : Prop} (h1 : p → A) (h2 : ¬ p → B) : if decide p = true then A else B := by
  by_cases h : p
  · rw [decide_eq_true h]; exact iteT (h1 h)
  · rw [decide_eq_false h]; exact iteF (h2 h)
theorem iteC {c : Bool} {A B : Prop} (h1 : c = true → A) (h2 : c = false → B) : if c = true then A else B := by
  cases c with
  | true => exact iteT (h1 rfl)
  | false => exact iteF (h2 rfl)
/-- xs[i], xs a list of which the item is known -/
theorem i_ixL {K : PySem.W.Frag} {p : Addr} {xs : List V} {i : Int} {v : V} (h1 : SqL K H p xs) (h2 : atI xs i = some v) (h : Q v H) : rIxL K (.ref p) (.int i) H Q := ⟨p, xs, i, v, rfl, rfl, h1, h2, h⟩
theorem i_ixT {K : PySem.W.Frag} {p : Addr} {xs : List V} {i : Int} {v : V} (h1 : SqT K H p xs) (h2 : atI xs i = some v) (h : Q v H) : rIxT K (.ref p) (.int i) H Q := ⟨p, xs, i, v, rfl, rfl, h1, h2, h⟩
end

/-! ### the box of draws -/
/-- the box at b: the rest n of a great cell, whether it is one, the seed c, the draws d so far -/
structure BoxAt (H : Hp) (b : Addr) (d : Int) : Prop where
  ex : ∃ (n : Int) (g : Bool) (c e : Int), H b = some (.lst [.int n, .bl g, .int c, .int e]) ∧ 0 ≤ n ∧ 0 ≤ c ∧ c < 2147483629 ∧ 0 ≤ e ∧ e ≤ d
/-- all but the object at b is as it was -/
def SB (b : Addr) (H H' : Hp) : Prop := ∀ a o, a ≠ b → H a = some o → H' a = some o
theorem SB.refl {b : Addr} (H : Hp) : SB b H H := fun _ _ _ h => h
theorem SB.trans {b : Addr} {H H1 H2 : Hp} (x : SB b H H1) (y : SB b H1 H2) : SB b H H2 := fun a o n h => y a o n (x a o n h)
theorem SB.of {b : Addr} {H H' : Hp} (s : Same H H') : SB b H H' := fun a o _ h => s a o h
theorem SB.upd {b : Addr} {H : Hp} {o : HO} : SB b H (upd H b o) := fun a u n h => by rw [upd_ne n]; exact h
theorem BoxAt.mono {H : Hp} {b : Addr} {d d' : Int} (x : BoxAt H b d) (h : d ≤ d') : BoxAt H b d' := by
  obtain ⟨n, g, c, e, h1, h2, h3, h4, h5, h6⟩ := x.ex
  exact ⟨n, g, c, e, h1, h2, h3, h4, h5, by omega⟩
theorem BoxAt.same {H H' : Hp} {b : Addr} {d : Int} (x : BoxAt H b d) (s : Same H H') : BoxAt H' b d := by
  obtain ⟨n, g, c, e, h1, h⟩ := x.ex
  exact ⟨n, g, c, e, s _ _ h1, h⟩
theorem same_upd {H : Hp} {p : Addr} {o : HO} (h : H p = none) : Same H (upd H p o) := fun b x e => by
  rw [upd_ne (ne_of_none e h)]
  exact e
/-- _law_take(box, many): a number below many; the box is one draw further at most -/
def spTake : Sp := fun vs H Q _ => ∃ (b : Addr) (m d : Int), vs = [.ref b, .int m] ∧ BoxAt H b d ∧ d ≤ 1000000 ∧ 0 < m ∧ m < 2 ^ 64 ∧
  ∀ (r : Int) (H' : Hp), 0 ≤ r → r < m → BoxAt H' b (d + 1) → SB b H H' → Q (.int r) H'
/-- _law_box(great) -/
def spBox : Sp := fun vs H Q _ => ∃ n : Int, vs = [.int n] ∧ ∀ (b : Addr) (H' : Hp), H b = none → Same H H' → BoxAt H' b 0 → Q (.ref b) H'
/-- _law_cell(script, k) -/
def spCell (K : PySem.W.Frag) : Sp := fun vs H Q _ => ∃ (a : Addr) (ns : List Int) (k : Int), vs = [.ref a, .int k] ∧ SqL K H a (ns.map V.int) ∧ 0 ≤ k ∧ k < 1000 ∧
  ∀ (n : Int) (H' : Hp), Same H H' → Q (.int n) H'
/-! ### more answers -/
section
variable {σ : L2.St} {H : Hp} {Q : VK} {D : Ends} {K : PySem.W.Frag}
theorem i_next (h : D.nx σ H) : tNext D σ H := h
theorem i_drop {te : TE} (h : te σ H fun _ H1 => D.nx σ H1) : tDrop te D σ H := h
theorem i_sub {to ti : TE} {t : TSet} {v : V} {R : L2.St → Hp → Prop} (h : to σ H fun o H1 => ti σ H1 fun i H2 => t o i v H2 fun H3 => R σ H3) : gSub to ti t v σ H R := h
theorem i_setL {p : Addr} {xs : List V} {k : Int} {j : Nat} {v : V} {R : Hp → Prop} (h1 : H p = some (.lst xs)) (h2 : ixN xs.length k = some j) (h : R (upd H p (.lst (xs.set j v)))) : rSetL (.ref p) (.int k) v H R := ⟨p, xs, k, j, rfl, rfl, h1, h2, h⟩
theorem i_int {i : Int} (h : Q (.int i) H) : (∃ j, [V.int i] = [.int j] ∧ Q (.int j) H) ∨ ∃ k, [V.int i] = [.bl k] ∧ Q (.int (if k = true then 1 else 0)) H := .inl ⟨i, rfl, h⟩
theorem i_intB {b : Bool} (h : Q (.int (if b = true then 1 else 0)) H) : (∃ j, [V.bl b] = [.int j] ∧ Q (.int j) H) ∨ ∃ k, [V.bl b] = [.bl k] ∧ Q (.int (if k = true then 1 else 0)) H := .inr ⟨b, rfl, h⟩
theorem i_ix1 {α : Type} {P : α → Prop} {x : α} {R : α → Prop} (h : R x) : ∃ y, x = y ∧ R y := ⟨x, rfl, h⟩
theorem i_abs {i : Int} (h : Q (.int (if i < 0 then -i else i)) H) : ∃ j, [V.int i] = [.int j] ∧ Q (.int (if j < 0 then -j else j)) H := ⟨i, rfl, h⟩
theorem i_two {R : Int → Int → Prop} {i j : Int} (h : R i j) : ∃ a b, [V.int i, V.int j] = [.int a, .int b] ∧ R a b := ⟨i, j, rfl, h⟩
theorem i_one {R : Int → Prop} {i : Int} (h : R i) : ∃ a, [V.int i] = [.int a] ∧ R a := ⟨i, rfl, h⟩
theorem i_cmod {i m : Int} (h : 0 < m) : (fun (_ j : Int) => 0 < j) i m := h
theorem i_bm {T : String} {r : V → List V → Hp → VK → Prop} {to : TE} {t : TA} (h : to σ H fun x H1 => tyV K T x H1 ∧ t σ H1 fun xs H2 => r x xs H2 Q) : tBM K T r to t σ H Q := h
theorem i_tyL {p : Addr} {xs : List V} {R : Prop} (h1 : H p = some (.lst xs)) (h : R) : tyV K "list" (.ref p) H ∧ R := ⟨.inl ⟨rfl, xs, .inl (.inl h1)⟩, h⟩
theorem i_tyS {z : Str} {R : Prop} (h : R) : tyV K "str" (.str z) H ∧ R := ⟨rfl, h⟩
theorem i_append {p : Addr} {xs : List V} {y : V} (h1 : H p = some (.lst xs)) (h2 : xs.length < sizeLine) (h : Q .non (upd H p (.lst (xs ++ [y])))) : rAppend (.ref p) [y] H Q := ⟨p, xs, y, rfl, rfl, h1, h2, h⟩
theorem i_sl {r : V → Option Int → Option Int → Hp → VK → Prop} {te : TE} {tl th : TO} (h : te σ H fun x H1 => tl σ H1 fun l H2 => th σ H2 fun u H3 => r x l u H3 Q) : L2.tSl r te tl th σ H Q := h
theorem i_part {t : TE} {R : Option Int → Hp → Prop} (h : t σ H fun x H1 => ∃ i, x = .int i ∧ R (some i) H1) : tPart t σ H R := h
theorem i_nopart {R : Option Int → Hp → Prop} (h : R none H) : tNoPart σ H R := h
theorem i_exI {R : Int → Prop} {i : Int} (h : R i) : ∃ j, V.int i = .int j ∧ R j := ⟨i, rfl, h⟩
theorem i_chain {r r' : R2} {ta tb tc : TE} (h : ta σ H fun x H1 => tb σ H1 fun y H2 => r x y H2 fun z H3 => ∃ k, z = .bl k ∧ (if k = true then tc σ H3 fun w' H4 => r' y w' H4 Q else Q (.bl false) H3)) : tChain r r' ta tb tc σ H Q := h
theorem i_aug {i : Nat} {te : TE} {ti : TIp} {x : V} (e : σ[i]? = some (some x)) (h : te σ H fun y H1 => ti x y H1 fun z H2 => D.nx (σ.set i (some z)) H2) : tAug i te ti D σ H := ⟨x, e, h⟩
theorem i_ip {g : Int → Int → Int} {a b : Int} (h : Q (.int (g a b)) H) : ipI g (.int a) (.int b) H Q := ⟨a, b, rfl, rfl, h⟩
theorem i_par {i j : Nat} {ta : TA} (h : ta σ H fun vs H1 => ∃ v w, vs = [v, w] ∧ D.nx ((σ.set i (some v)).set j (some w)) H1) : tPar i j ta D σ H := h
theorem i_pair {R : V → V → Prop} {a b : V} (h : R a b) : ∃ v w, [a, b] = [v, w] ∧ R v w := ⟨a, b, rfl, h⟩
theorem i_andV {ta tb : TE} (h : ta σ H fun x H1 => ∃ c, x = .bl c ∧ if c = true then tb σ H1 Q else Q (.bl false) H1) : tAndV ta tb σ H Q := h
theorem i_orV {ta tb : TE} (h : ta σ H fun x H1 => ∃ c, x = .bl c ∧ if c = true then Q (.bl true) H1 else tb σ H1 Q) : tOrV ta tb σ H Q := h
theorem i_notV {ta : TE} (h : ta σ H fun x H1 => ∃ c, x = .bl c ∧ Q (.bl (!c)) H1) : tNotV ta σ H Q := h
theorem i_m1 {r : V → List V → Hp → VK → Prop} {to te : TE} (h : to σ H fun x H1 => (∃ a, x = .str a) ∧ te σ H1 fun y H2 => r x [y] H2 Q) : tM1 r to te σ H Q := h
theorem i_str {z : Str} {R : Prop} (h : R) : (∃ a, V.str z = .str a) ∧ R := ⟨⟨z, rfl⟩, h⟩
theorem i_len {p : Addr} {ys : List V} (h1 : SqL K H p ys ∨ SqT K H p ys) (h : Q (.int ys.length) H) : ∃ q zs, [V.ref p] = [.ref q] ∧ (SqL K H q zs ∨ SqT K H q zs) ∧ Q (.int zs.length) H := ⟨p, ys, rfl, h1, h⟩
theorem i_lenS {l : List Nat} (h1 : l.length ≤ sizeLine) (h : Q (.int (l.length : Int)) H) : ∃ z, [V.str (S l)] = [.str z] ∧ z.length ≤ sizeLine ∧ Q (.int z.length) H := ⟨S l, rfl, by rw [S_len]; exact h1, by rw [S_len]; exact h⟩
end
theorem sqL_of {K : PySem.W.Frag} {H : Hp} {a : Addr} {xs : List V} (h : H a = some (.lst xs)) : SqL K H a xs := .inl (.inl h)
theorem sqT_of {K : PySem.W.Frag} {H : Hp} {a : Addr} {xs : List V} (h : H a = some (.tup xs)) : SqT K H a xs := .inl (.inl h)
/-- the part of a text between two places -/
def cut (l : List Nat) (lo hi : Option Int) : List Nat := (l.drop (HT.sIx l.length 0 lo)).take (HT.sIx l.length l.length hi - HT.sIx l.length 0 lo)
theorem cutS_S (l : List Nat) (lo hi : Option Int) : cutS (S l) lo hi = S (cut l lo hi) := by
  unfold cutS cut
  rw [S_list, S_len]; rfl
theorem cut_from (l : List Nat) (k : Nat) : cut l (some (k : Int)) none = l.drop k := by
  unfold cut
  rw [HT.sIx_nat, HT.sIx_none]
  rcases Nat.le_total k l.length with h | h
  · rw [Nat.min_eq_left h, List.take_of_length_le (by rw [List.length_drop]; omega)]
  · rw [Nat.min_eq_right h, List.drop_length, List.drop_of_length_le h, List.take_nil]
theorem cut_to (l : List Nat) (k : Nat) : cut l none (some (k : Int)) = l.take k := by
  unfold cut
  rw [HT.sIx_nat, HT.sIx_none, List.drop_zero, Nat.sub_zero]
  rcases Nat.le_total k l.length with h | h
  · rw [Nat.min_eq_left h]
  · rw [Nat.min_eq_right h, List.take_length, List.take_of_length_le h]
theorem i_slS {l : List Nat} {lo hi : Option Int} {H : Hp} {Q : VK} (h1 : l.length ≤ sizeLine) (h : Q (.str (S (cut l lo hi))) H) : rSlS (.str (S l)) lo hi H Q := ⟨S l, rfl, by rw [S_len]; exact h1, by rw [cutS_S]; exact h⟩
theorem i_tB {t : TE} {R : Bool → Hp → Prop} {σ : L2.St} {H : Hp} (h : t σ H fun x H1 => ∃ c, x = .bl c ∧ R c H1) : tB t σ H R := h
theorem i_retN {σ : L2.St} {H : Hp} {D : Ends} (h : D.rt .non H) : tRetN D σ H := h
theorem i_par3 {i j l : Nat} {ta : TA} {σ : L2.St} {H : Hp} {D : Ends} (h : ta σ H fun vs H1 => ∃ u v w, vs = [u, v, w] ∧ D.nx (((σ.set i (some u)).set j (some v)).set l (some w)) H1) : tPar3 i j l ta D σ H := h
theorem i_trip {R : V → V → V → Prop} {a b c : V} (h : R a b c) : ∃ u v w, [a, b, c] = [u, v, w] ∧ R u v w := ⟨a, b, c, rfl, h⟩
theorem i_gTup {K : PySem.W.Frag} {n : Nat} {t : TGs} {a : Addr} {xs : List V} {σ : L2.St} {H : Hp} {R : L2.St → Hp → Prop} (h1 : SqT K H a xs) (h2 : xs.length = n) (h : t xs σ H R) : gTup K n t (.ref a) σ H R := ⟨a, xs, rfl, h1, h2, h⟩
theorem i_gCons {t : TG} {u : TGs} {v : V} {r : List V} {σ : L2.St} {H : Hp} {R : L2.St → Hp → Prop} (h : t v σ H fun σ' H' => u r σ' H' R) : gCons t u (v :: r) σ H R := ⟨v, r, rfl, h⟩
theorem i_gNil {σ : L2.St} {H : Hp} {R : L2.St → Hp → Prop} (h : R σ H) : gNil [] σ H R := ⟨rfl, h⟩
theorem i_lstRg {te : L2.St → Hp → (Int → Int → Hp → Prop) → Prop} {σ : L2.St} {H : Hp} {Q : VK} (h : te σ H fun a b H1 => RgOk a b ∧ ∀ q, H1 q = none → Q (.ref q) (upd H1 q (.lst (rgV a b)))) : tLstRg te σ H Q := h
theorem i_rg1 {ta : TE} {σ : L2.St} {H : Hp} {R : Int → Int → Hp → Prop} (h : ta σ H fun x H1 => ∃ n, x = .int n ∧ R 0 n H1) : tRg1 ta σ H R := h
theorem i_pow {g : Int → Int → V} {a b : Int} {H : Hp} {Q : VK} (h1 : 0 ≤ b) (h2 : b ≤ 1000000) (h3 : a.natAbs < 2 ^ 64) (h : Q (g a b) H) : rI CPow g (.int a) (.int b) H Q := ⟨a, b, rfl, rfl, ⟨h1, h2, h3⟩, h⟩
theorem S_le {l : List Nat} (h : l.length ≤ 100000) : (S l).length ≤ sizeLine := Nat.le_trans h (by decide)
theorem ints_get {ns : List Int} {j : Nat} {v : V} (h : (ns.map V.int)[j]? = some v) : ∃ i, ns[j]? = some i ∧ v = .int i := by
  rw [List.getElem?_map] at h
  cases e : ns[j]? with
  | none => rw [e] at h; cases h
  | some i => rw [e] at h; exact ⟨i, rfl, (Option.some.inj h).symm⟩
theorem ints_at {ns : List Int} {j : Nat} (h : j < ns.length) : (ns.map V.int)[j]? = some (.int ns[j]) := by
  rw [List.getElem?_map, List.getElem?_eq_getElem h]; rfl
theorem atI_ints {ns : List Int} {i : Int} (h0 : 0 ≤ i) (h1 : i < ns.length) : atI (ns.map V.int) i = some (.int (ns[i.toNat]'(by omega))) := by
  have h := atI_nat (xs := ns.map V.int) (ints_at (ns := ns) (show i.toNat < ns.length by omega))
  rwa [show ((i.toNat : Nat) : Int) = i by omega] at h
end Sw
namespace Sw
open PySem PySem.Spec PyProof.Rows L2
/-! ### x[::-1] of a text -/
def tRevS (te : TE) : TE := fun σ H Q => te σ H fun x H1 => ∃ l, x = .str (S l) ∧ l.length ≤ sizeLine ∧ Q (.str (S l.reverse)) H1
theorem fmap_map {α β : Type} {f : α → Option β} {g : α → β} : ∀ {l : List α}, (∀ a ∈ l, f a = some (g a)) → l.filterMap f = l.map g
  | [], _ => rfl
  | a :: l, h => by
    rw [List.filterMap_cons, h a List.mem_cons_self, List.map_cons, fmap_map fun b hb => h b (List.mem_cons_of_mem _ hb)]
theorem rev_list (l : List Nat) : ((Builtin.Str.strSliceIndices none none (-1) l.length).filterMap (l.toArray[·]?)) = l.reverse := by
  rw [PyProof.Rows.picked_rev, List.filterMap_map]
  apply List.ext_getElem?
  intro k
  have hf : List.filterMap ((fun x => l.toArray[x]?) ∘ fun k => l.length - 1 - k) (List.range l.length) = (List.range l.length).map fun k => l.getD (l.length - 1 - k) 0 := by
    refine fmap_map fun a ha => ?_
    have ha' : a < l.length := List.mem_range.mp ha
    have hb : l.length - 1 - a < l.length := by omega
    show l.toArray[l.length - 1 - a]? = some (l.getD (l.length - 1 - a) 0)
    rw [List.getElem?_toArray, List.getD_eq_getElem?_getD, List.getElem?_eq_getElem hb]
    rfl
  rw [hf, List.getElem?_map]
  by_cases hk : k < l.length
  · have hb : l.length - 1 - k < l.length := by omega
    rw [List.getElem?_range hk, List.getElem?_reverse hk]
    show some (l.getD (l.length - 1 - k) 0) = _
    rw [List.getD_eq_getElem?_getD, List.getElem?_eq_getElem hb]
    rfl
  · rw [List.getElem?_eq_none (by rw [List.length_range]; omega), List.getElem?_eq_none (by rw [List.length_reverse]; omega)]
    rfl
theorem pe_revS {X : Cx} {e : Expr} {te : TE} {k : Nat} {p1 p2 p3 pos : Pos} (he : PE X e te) :
    PE X (.Subscript e (.Slice none none (some (.UnaryOp .USub (.Constant (.int 1) k p1) p2)) p3) pos) (tRevS te) := by
  constructor
  intro pins s σ H Q I h
  refine Subscript_ (thn (he.run pins s σ H _ I h) fun v s1 ⟨x, H1, I1, r1, l, ex, hl, q⟩ => ?_)
  subst ex
  obtain ⟨tk, rfl⟩ := r1
  have st : PO X (some (.UnaryOp .USub (.Constant (.int 1) k p1) p2)) (tPart (tUn (rU fun i => .int (-i)) (tC (.int 1)))) := po_some (pe_un un_neg pe_int)
  refine wpAny_Slice (thn (po_none.run pins s1 σ H1 (fun o G => o = none ∧ G = H1) I1 ⟨rfl, rfl⟩) fun w1 s2 ⟨o1, G1, J1, z1, a1, b1⟩ => ?_)
  subst a1 b1
  refine thn (po_none.run pins s2 σ G1 (fun o G => o = none ∧ G = G1) J1 ⟨rfl, rfl⟩) fun w2 s3 ⟨o2, G2, J2, z2, a2, b2⟩ => ?_
  subst a2 b2
  refine thn (st.run pins s3 σ G2 (fun o G => o = some (-1) ∧ G = G2) J2 ⟨1, rfl, -1, rfl, rfl, rfl⟩) fun w3 s4 ⟨o3, G3, J3, z3, a3, b3⟩ => ?_
  subst a3 b3
  have J4 : Inv X pins σ G3 { s4 with heap := s4.heap.push { cls := .type "slice", data := .fields #[w1, w2, w3] } } := J3.kept (t' := s4.toks) fun b ob q => Heap.get?_push_of_some _ q
  obtain ⟨y1, rfl, f1⟩ := IsPart.raw z1
  obtain ⟨y2, rfl, f2⟩ := IsPart.raw z2
  obtain ⟨y3, rfl, f3⟩ := IsPart.raw z3
  cases y1 with
  | some y => cases f1
  | none =>
  cases y2 with
  | some y => cases f2
  | none =>
  cases y3 with
  | none => cases f3
  | some y =>
  obtain ⟨m, u⟩ := y
  have em : m = -1 := Option.some.inj f3
  subst em
  refine tail_any (T := "str") (id := _) (ops := [.str (S l) tk, .ref s4.heap.objs.size]) (typeIs_str _ _ _) F.slot_str_getitem.lookup ?_ (by with_unfolding_all rfl)
  refine wpAny_getItem_str_slice (l := none) (u := none) (st := some (-1, u)) ⟨_, Heap.get?_push_size _ rfl, rfl, rfl⟩ rfl ?_
  show Made.post (if ((-1 : Int) == 1 && (Builtin.Str.strSliceIndices none none (-1) (S l).length).length == (S l).length) = true then Made.val (.str (S l) tk)
    else Made.str ⟨((Builtin.Str.strSliceIndices none none (-1) (S l).length).filterMap ((S l).cps[·]?)).toArray⟩) (EP X pins σ Q) _
  rw [if_neg (by rw [show ((-1 : Int) == 1) = false from rfl, Bool.false_and]; exact Bool.false_ne_true)]
  have e : ((Builtin.Str.strSliceIndices none none (-1) (S l).length).filterMap ((S l).cps[·]?)) = l.reverse := by
    rw [S_len]
    exact rev_list l
  rw [e]
  refine ⟨by show (S l.reverse).length ≤ sizeLine; rw [S_len, List.length_reverse]; exact hl, .str (S l.reverse), G3, J4.tok _, ⟨_, rfl⟩, q⟩
/-! ### enumerate(text) -/
/-- a text's signs, each in a new pair with its number -/
def ItE (x : Str) : It := ⟨fun i _ => i < x.cps.size, fun i H v H' => ∃ T c, v = .ref T ∧ H T = none ∧ x.cps[i]? = some c ∧ H' = upd H T (.tup [.int (i : Nat), .str ⟨#[c]⟩]), fun i _ => i = x.cps.size⟩
theorem turn_enumS {P : Program} {w : World} {K : PySem.W.Frag} {elts : List Expr} {kk : Nat} {tpos : Pos} (x : Str) (t : Tok) (e it : Addr) (hne : e ≠ it) :
    Turn P w K (.Tuple elts kk tpos) (ItE x) [e, it] e (fun i h => (∃ old, IsEnum h e it ((i : Nat) : Int) old) ∧ h.IsStrIter it (strIterType x) x t i) := by
  refine ⟨by simp, fun i h st b hb => ?_, fun i h h' st k => ?_, ?_, ?_, fun A i s Q E st h => ?_⟩
  · obtain ⟨⟨old, he⟩, o, ho, hc, hd⟩ := st
    have e' : b = e ∨ b = it := by simpa using hb
    rcases e' with rfl | rfl
    · exact ⟨_, he, fun v q => nomatch q⟩
    · exact ⟨o, ho, fun v q => by rw [hd] at q; cases q⟩
  · obtain ⟨⟨old, he⟩, o, ho, z⟩ := st
    exact ⟨⟨old, k e (by simp) _ he⟩, o, k it (by simp) o ho, z⟩
  · rintro X rfl rfl rfl hc i pins s σ H E I hf ⟨⟨old, he⟩, hit⟩ hg
    have hh : X.A.in1.handled = none := I.ok.hd hc
    have DD := Draws.text (prog := X.prog) (w := X.w) (A := X.A.in1) hh it x t
    have l1 : e < s.heap.objs.size := Heap.lt_size he
    have l2 : it < s.heap.objs.size := by obtain ⟨_, q, _⟩ := hit; exact Heap.lt_size q
    refine wpAny_pyNext_enum_itemD DD he hit hg hne (by simpa using hne) fun v h1 tk hv ho hit' hT hsz hk => ?_
    obtain ⟨c, u, hc', rfl⟩ := hv
    refine ⟨_, rfl, wpAny_letOwnedTupleGo_enum (s := { s with heap := h1, toks := tk + 1 }) ho fun h2 he' sb => ?_⟩
    have nT := Nat.ne_of_gt l1
    have gT : h2.get? s.heap.objs.size = some { cls := .type "tuple", data := .seq #[.int i tk, .str ⟨#[c]⟩ u] } := (sb.2 _ nT).trans hT
    have fresh : H s.heap.objs.size = none := I.hok.fresh (Nat.le_refl _)
    have new : ObjOk X.prog X.w (upd H s.heap.objs.size (.tup [.int (i : Nat), .str ⟨#[c]⟩])) h2 s.heap.objs.size (.tup [.int (i : Nat), .str ⟨#[c]⟩]) :=
      ⟨Nat.le_of_ble_eq_true rfl, [.int i tk, .str ⟨#[c]⟩ u], .cons ⟨_, rfl⟩ (.cons ⟨_, rfl⟩ .nil), _, gT, rfl, _, rfl⟩
    have J : Inv X pins σ (upd H s.heap.objs.size (.tup [.int (i : Nat), .str ⟨#[c]⟩])) { s with heap := h2, toks := tk + 1 } := by
      refine I.turnedNew (ch := [e, it]) (fun b ob hb q => ?_) hf (Nat.le_refl _) new
      have n1 : b ≠ e := fun z => hb (by simp [z])
      have n2 : b ≠ it := fun z => hb (by simp [z])
      exact (sb.2 b n1).trans (hk b ob n1 n2 q)
    refine ⟨.ref s.heap.objs.size, _, J, rfl, ⟨_, c, rfl, fresh, hc', rfl⟩, ⟨⟨.str ⟨#[c]⟩ u, ?_⟩, ?_⟩, fun b hb => ?_⟩
    · rw [show ((i + 1 : Nat) : Int) = (i : Int) + 1 by omega]
      exact he'
    · obtain ⟨o, g1, g2⟩ := hit'
      exact ⟨o, (sb.2 it (Ne.symm hne)).trans g1, g2⟩
    · have lb : b < s.heap.objs.size := by
        have e' : b = e ∨ b = it := by simpa using hb
        rcases e' with rfl | rfl <;> assumption
      rw [upd_ne (Nat.ne_of_lt lb)]
      exact (hf b hb).1
  · rintro X rfl rfl rfl hc i pins s σ H E I hf ⟨⟨old, he⟩, hit⟩ hg
    have hh : X.A.in1.handled = none := I.ok.hd hc
    have DD := Draws.text (prog := X.prog) (w := X.w) (A := X.A.in1) hh it x t
    have hi : i = x.cps.size := hg
    subst hi
    obtain ⟨f0, f1, f2, f3, f4, f5⟩ := hf it (by simp)
    exact wpAny_pyNext_enum_endD DD he hit fun h1 eb => ⟨rfl, I.turned (t' := s.toks) (fun b o hb q => eb b o hb q) f0 f1 f3 f4 f5⟩
  · obtain ⟨⟨old, he⟩, _⟩ := st
    exact wpAny_pyIter_enum he h
def iEnS (ta : TA) : TI := fun σ H R => ta σ H fun vs H1 => ∃ x, vs = [.str x] ∧ R (ItE x) H1
theorem pi_enumS {X : Cx} {e : Expr} {ta : TA} {p pos tpos : Pos} {elts : List Expr} {kk : Nat} (hg : Gl X "enumerate") (hm : X.mg "enumerate" = none) (ha : PA X [e] ta) (hs : starEach [e] X.env = [(false, eval e X.env)] := by rfl) :
    PI X (.Tuple elts kk tpos) (.Call (.Name "enumerate" p) [e] [] pos) (iEnS ta) := by
  constructor
  intro pins s σ H R I h
  refine Call_ (ld_blt I hg hm boot_enumerate (PyProof.Rows.callWith_type1 (thn (ha.run pos pins s σ H _ I h) fun us s1 q1 => ?_) hs rfl))
  obtain ⟨vs, H1, I1, r1, x, rfl, q⟩ := q1
  cases r1 with
  | cons r rr =>
    cases rr
    obtain ⟨t, rfl⟩ := r
    refine call_enumerate_str fun h1 he hit hsz hk => wpAny_pyIter_enum he ?_
    have J : Inv X pins σ H1 { s1 with heap := h1 } := I1.kept (t' := s1.toks) hk
    refine ⟨s1.heap.objs.size + 1, [s1.heap.objs.size + 1, s1.heap.objs.size], _, ItE x, H1, rfl, J, turn_enumS x t _ _ (Nat.succ_ne_self _), ⟨⟨.none, he⟩, hit⟩, fun b hb => ?_, q⟩
    have lb : s1.heap.objs.size ≤ b := by
      have e' : b = s1.heap.objs.size + 1 ∨ b = s1.heap.objs.size := by simpa using hb
      rcases e' with rfl | rfl
      · exact Nat.le_succ _
      · exact Nat.le_refl _
    exact I1.fpOk lb (I1.hok.fresh lb)
theorem walk_enumS {x : Str} : Walk (ItE x) x.cps.size (fun _ => True) (fun i H v H' => ∃ T c, v = .ref T ∧ H T = none ∧ x.cps[i]? = some c ∧ H' = upd H T (.tup [.int (i : Nat), .str ⟨#[c]⟩])) :=
  ⟨fun _ _ hi _ => hi, fun _ _ => rfl, fun _ _ _ _ _ _ y => y⟩
end Sw
namespace Sw
open PySem PySem.Spec PyProof.Rows L2
/-! ### comprehensions that leave all as it was -/
theorem lc_map {J : It} {n : Nat} {G : Hp → Prop} {Y : Nat → Hp → V → Hp → Prop} {g : TG} {te : TE} {vs : List Nat} {σ : L2.St} {H1 : Hp} {D : Addr} {Qd : Hp → Prop} (w : Walk J n G Y) (f : Nat → V)
    (hn : n ≤ 1000000) (nD : H1 D = none) (hG : ∀ H, Same H1 H → G H)
    (hs : ∀ i x H H', i < n → Same H1 H → Y i H x H' → ∀ R : V → Hp → Prop, (∀ H4, Same H H4 → R (f i) H4) → g x (wipe σ vs) H' fun σ2 H2 => wipe σ2 vs = wipe σ vs ∧ te σ2 H2 R)
    (hd : ∀ H, Same H1 H → H D = some (.lst ((List.range n).map f)) → Qd H)
    (hmono : ∀ x σ H (R R' : L2.St → Hp → Prop), (∀ σ' H', R σ' H' → R' σ' H') → g x σ H R → g x σ H R') :
    ∃ W : Nat → Nat → Hp → Prop, (∃ m, W 0 m (upd H1 D (.lst []))) ∧ ∀ i m H, W i m H →
      (J.stop i H ∧ Qd H) ∨ (J.go i H ∧ ∃ Nx : Hp → Prop, (∀ H', Nx H' → ∃ m', m' < m ∧ W (i + 1) m' H') ∧ ∀ x H', J.yld i H x H' → g x (wipe σ vs) H' fun σ2 H2 => wipe σ2 vs = wipe σ vs ∧ tYes σ2 H2 fun b H3 =>
        if b = true then te σ2 H3 fun y H4 => ∃ acc, H4 D = some (.lst acc) ∧ acc.length < sizeLine ∧ Nx (upd H4 D (.lst (acc ++ [y]))) else Nx H3) := by
  refine lc_it w (fun i H => Same H1 H ∧ H D = some (.lst ((List.range i).map f))) ⟨same_upd nD, upd_same⟩ (fun i H _ p => hG H p.1) (fun i x H H' hi p y => ?_) (fun H p => hd H p.1 p.2)
  refine hmono _ _ _ _ _ (fun σ2 H2 q => ?_) (hs i x H H' hi p.1 y (fun y H4 => ∃ acc, H4 D = some (.lst acc) ∧ acc.length < sizeLine ∧ (Same H1 (upd H4 D (.lst (acc ++ [y]))) ∧ (upd H4 D (.lst (acc ++ [y]))) D = some (.lst ((List.range (i + 1)).map f)))) (fun H4 s4 => ?_))
  · refine ⟨q.1, ?_⟩
    unfold tYes
    dsimp only
    rw [if_pos rfl]
    exact q.2
  · refine ⟨_, s4 _ _ p.2, ?_, fun b o e => ?_, ?_⟩
    · rw [List.length_map, List.length_range]
      exact Nat.lt_of_lt_of_le hi (Nat.le_trans hn (by decide))
    · rw [upd_ne (ne_of_none e nD)]
      exact s4 _ _ (p.1 _ _ e)
    · rw [upd_same, List.range_succ, List.map_append]
      rfl
theorem mono_name {i : Nat} (x : V) (σ : L2.St) (H : Hp) (R R' : L2.St → Hp → Prop) (h : ∀ σ' H', R σ' H' → R' σ' H') (q : gName i x σ H R) : gName i x σ H R' := h _ _ q
theorem range_map_get {α β : Type} (l : List α) (F : Nat → β) (g : α → β) (h : ∀ i x, l[i]? = some x → F i = g x) : (List.range l.length).map F = l.map g := by
  apply List.ext_getElem?
  intro i
  rw [List.getElem?_map, List.getElem?_map]
  by_cases hi : i < l.length
  · rw [List.getElem?_range hi, List.getElem?_eq_getElem hi]
    show some (F i) = some (g l[i])
    rw [h i _ (List.getElem?_eq_getElem hi)]
  · rw [List.getElem?_eq_none (by rw [List.length_range]; omega), List.getElem?_eq_none (by omega)]; rfl
/-! ### isinstance -/
theorem i_isi {K : PySem.W.Frag} {H : Hp} {Q : VK} {x : V} {t : Value} {n : String} (b : Bool) (h1 : TyX K H x t) (h2 : PySem.W.kitOne K t (.type n) = some b) (h : Q (.bl b) H) : rIsi K [x, .ty n] H Q := ⟨x, .ty n, t, .type n, b, rfl, .ty n, h1, h2, h⟩
/-! ### texts of letters -/
def azB (l : List Nat) : Bool := l.all fun c => decide (97 ≤ c ∧ c ≤ 122)
theorem azB_app (a b : List Nat) : azB (a ++ b) = (azB a && azB b) := by simp [azB, List.all_append]
theorem azB_take {l : List Nat} (h : azB l = true) (n : Nat) : azB (l.take n) = true := by
  unfold azB at *
  rw [List.all_eq_true] at *
  exact fun x hx => h x (List.mem_of_mem_take hx)
theorem azB_drop {l : List Nat} (h : azB l = true) (n : Nat) : azB (l.drop n) = true := by
  unfold azB at *
  rw [List.all_eq_true] at *
  exact fun x hx => h x (List.mem_of_mem_drop hx)
theorem az_letters : (("abcdefghijklmnopqrstuvwxyz" : Str)).cps.toList = List.range' 97 26 := by decide +kernel
theorem az_in (c : Nat) : decide (c ∈ (("abcdefghijklmnopqrstuvwxyz" : Str)).cps.toList) = decide (97 ≤ c ∧ c ≤ 122) := by
  rw [az_letters]
  by_cases h : 97 ≤ c ∧ c ≤ 122
  · rw [decide_eq_true h, decide_eq_true]
    exact List.mem_range'_1.mpr ⟨h.1, by omega⟩
  · rw [decide_eq_false h, decide_eq_false]
    intro q
    have := List.mem_range'_1.mp q
    omega
theorem e_empty : (("" : Str)) = S [] := by decide +kernel
theorem starts_S (a b : List Nat) : Txt.startswith (S a) (S b) = decide (a.take b.length = b) := by
  unfold Txt.startswith Builtin.Str.subAt
  rw [S_len, S_len]
  show (decide (0 + b.length ≤ a.length) && ((a.toArray.extract 0 (0 + b.length)) == b.toArray)) = _
  rw [Nat.zero_add]
  have e : (a.toArray.extract 0 b.length) = (a.take b.length).toArray := by
    rw [List.extract_toArray, List.extract_eq_take_drop]
    simp
  rw [e]
  by_cases h : a.take b.length = b
  · rw [h, decide_eq_true rfl, beq_self_eq_true, Bool.and_true, decide_eq_true]
    have := congrArg List.length h
    rw [List.length_take] at this
    omega
  · rw [decide_eq_false h]
    have : ((a.take b.length).toArray == b.toArray) = false := by
      rw [beq_eq_false_iff_ne]
      intro q
      exact h (by simpa using q)
    rw [this, Bool.and_false]
/-! ### what is known of a heap stays -/
theorem Same.at {H H' : Hp} {a : Addr} {o : HO} (s : Same H H') (h : H a = some o) : H' a = some o := s a o h
theorem Same.sqT {K : PySem.W.Frag} {H H' : Hp} {a : Addr} {xs : List V} (e : Same H H') (h : SqT K H a xs) : SqT K H' a xs := by
  rcases h with (h | ⟨o, h⟩) | h
  · exact .inl (.inl (e _ _ h))
  · exact .inl (.inr ⟨o, e _ _ h⟩)
  · exact .inr h
theorem Same.sqL {K : PySem.W.Frag} {H H' : Hp} {a : Addr} {xs : List V} (e : Same H H') (h : SqL K H a xs) : SqL K H' a xs := e.seq h
theorem Same.upd_new {H H1 : Hp} {p : Addr} {o : HO} (s : Same H H1) (n : H1 p = none) : Same H (upd H1 p o) := s.trans (same_upd n)
/-- an object that is new since H is written: what was tracked at H stays -/
theorem Same.set_new {H H1 : Hp} {p : Addr} {o : HO} (s : Same H H1) (n : H p = none) : Same H (upd H1 p o) := fun b x e => by
  rw [upd_ne (ne_of_none e n)]
  exact s _ _ e
/-! ### loops and comprehensions, their source apart -/
def LcGo (J : It) (g : TG) (tt : TT) (te : TE) (vs : List Nat) (σ : L2.St) (H : Hp) (Q : VK) : Prop := tLc (fun _ H R => R J H) g tt te vs σ H Q
def ForGo (J : It) (g : TG) (tb : TS) (D : Ends) (σ : L2.St) (H : Hp) : Prop := tFor (fun _ H R => R J H) g tb D σ H
theorem i_lc {wi : TI} {g : TG} {tt : TT} {te : TE} {vs : List Nat} {σ : L2.St} {H : Hp} {Q : VK} (h : wi σ H fun J H1 => LcGo J g tt te vs σ H1 Q) : tLc wi g tt te vs σ H Q := h
theorem i_for {wi : TI} {g : TG} {tb : TS} {D : Ends} {σ : L2.St} {H : Hp} (h : wi σ H fun J H1 => ForGo J g tb D σ H1) : tFor wi g tb D σ H := h
theorem i_iList {K : PySem.W.Frag} {tl : TE} {R : It → Hp → Prop} {σ : L2.St} {H : Hp} (h : tl σ H fun x H1 => ∃ a, x = .ref a ∧ (∃ xs, SqL K H1 a xs) ∧ R (Itl K a) H1) : iList K tl σ H R := h
theorem i_iTup {K : PySem.W.Frag} {tl : TE} {R : It → Hp → Prop} {σ : L2.St} {H : Hp} (h : tl σ H fun x H1 => ∃ a, x = .ref a ∧ (∃ xs, SqT K H1 a xs) ∧ R (Itt K a) H1) : iTup K tl σ H R := h
theorem i_iStr {te : TE} {R : It → Hp → Prop} {σ : L2.St} {H : Hp} (h : te σ H fun v H1 => ∃ x, v = .str x ∧ R (Its x) H1) : iStr te σ H R := h
theorem i_iRng1 {ta : TA} {R : It → Hp → Prop} {σ : L2.St} {H : Hp} (h : ta σ H fun vs H1 => ∃ j : Int, vs = [.int j] ∧ -(2 ^ 62) ≤ j ∧ j < 2 ^ 62 ∧ R (Itr 0 j.toNat) H1) : iRng1 ta σ H R := h
theorem i_iEnS {ta : TA} {R : It → Hp → Prop} {σ : L2.St} {H : Hp} (h : ta σ H fun vs H1 => ∃ x, vs = [.str x] ∧ R (ItE x) H1) : iEnS ta σ H R := h
theorem i_rng {j : Int} {A : Prop} (h0 : 0 ≤ j) (h1 : j ≤ 1000000) (h : A) : -(2 ^ 62) ≤ j ∧ j < 2 ^ 62 ∧ A := ⟨by omega, by omega, h⟩
theorem i_sqL {K : PySem.W.Frag} {H : Hp} {a : Addr} {xs : List V} {A : Prop} (h1 : SqL K H a xs) (h : A) : (∃ xs, SqL K H a xs) ∧ A := ⟨⟨xs, h1⟩, h⟩
section
variable {J : It} {n : Nat} {G : Hp → Prop} {Y : Nat → Hp → V → Hp → Prop} {g : TG} {tt : TT} {te : TE} {tb : TS} {vs : List Nat} {σ : L2.St} {H1 : Hp} {D : Ends} {Q : VK}
theorem go_map (w : Walk J n G Y) (f : Nat → V) (hn : n ≤ 1000000) (hG : ∀ H, Same H1 H → G H)
    (hs : ∀ i x H H', i < n → Same H1 H → Y i H x H' → ∀ R : V → Hp → Prop, (∀ H4, Same H H4 → R (f i) H4) → g x (wipe σ vs) H' fun σ2 H2 => wipe σ2 vs = wipe σ vs ∧ te σ2 H2 R)
    (hmono : ∀ x σ H (R R' : L2.St → Hp → Prop), (∀ σ' H', R σ' H' → R' σ' H') → g x σ H R → g x σ H R')
    (hd : ∀ p H, H1 p = none → Same H1 H → H p = some (.lst ((List.range n).map f)) → Q (.ref p) H) : LcGo J g tYes te vs σ H1 Q :=
  fun p np => lc_map w f hn np hG hs (fun H s e => hd p H np s e) hmono
theorem go_lc (w : Walk J n G Y) (Pv : Addr → Nat → Hp → Prop) (h0 : ∀ p, H1 p = none → Pv p 0 (upd H1 p (.lst []))) (hG : ∀ p i H, i ≤ n → Pv p i H → G H)
    (hs : ∀ p, H1 p = none → ∀ i x H H', i < n → Pv p i H → Y i H x H' → g x (wipe σ vs) H' fun σ2 H2 => wipe σ2 vs = wipe σ vs ∧ tt σ2 H2 fun b H3 =>
      if b = true then te σ2 H3 fun y H4 => ∃ acc, H4 p = some (.lst acc) ∧ acc.length < sizeLine ∧ Pv p (i + 1) (upd H4 p (.lst (acc ++ [y]))) else Pv p (i + 1) H3)
    (hd : ∀ p H, H1 p = none → Pv p n H → Q (.ref p) H) : LcGo J g tt te vs σ H1 Q :=
  fun p np => lc_it w (Pv p) (h0 p np) (hG p) (hs p np) fun H q => hd p H np q
theorem go_for (w : Walk J n G Y) (Pv : Nat → L2.St → Hp → Prop) (h0 : Pv 0 σ H1) (hG : ∀ i σ H, i ≤ n → Pv i σ H → G H)
    (hs : ∀ i x σ H H', i < n → Pv i σ H → Y i H x H' → g x σ H' fun σ2 H2 => tb { D with nx := Pv (i + 1), ct := Pv (i + 1), bk := D.nx } σ2 H2) (hd : ∀ σ H, Pv n σ H → D.nx σ H) : ForGo J g tb D σ H1 :=
  for_it w Pv h0 hG hs hd
end
theorem i_all {K : PySem.W.Frag} {p : Addr} {bs : List Bool} {H : Hp} {Q : VK} (h1 : H p = some (.lst (bs.map V.bl))) (h : Q (.bl (bs.all id)) H) : rAll K [.ref p] H Q := ⟨p, bs, rfl, sqL_of h1, h⟩
theorem i_inSeq {K : PySem.W.Frag} {p : Addr} {xs : List V} {x : V} {H : Hp} {Q : VK} (h1 : SqL K H p xs ∨ SqT K H p xs) (h2 : flatV x = true) (h3 : xs.all flatV = true) (h : Q (.bl (inV x xs)) H) : rIn K false x (.ref p) H Q := ⟨p, xs, rfl, h1, h2, h3, h⟩
theorem i_ixLH {K : PySem.W.Frag} {p : Addr} {xs : List V} {i : Int} {v : V} {H : Hp} {Q : VK} (h1 : H p = some (.lst xs)) (h2 : atI xs i = some v) (h : Q v H) : rIxL K (.ref p) (.int i) H Q := i_ixL (sqL_of h1) h2 h
theorem i_ixTH {K : PySem.W.Frag} {p : Addr} {xs : List V} {i : Int} {v : V} {H : Hp} {Q : VK} (h1 : H p = some (.tup xs)) (h2 : atI xs i = some v) (h : Q v H) : rIxT K (.ref p) (.int i) H Q := i_ixT (sqT_of h1) h2 h
theorem upd_old {H : Hp} {p a : Addr} {o u : HO} (n : H p = none) (h : H a = some u) : upd H p o a = some u := by rw [upd_ne (ne_of_none h n)]; exact h
theorem upd_skip {H : Hp} {p a : Addr} {o u : HO} (n : a ≠ p) (h : H a = some u) : upd H p o a = some u := by rw [upd_ne n]; exact h
theorem iteNT {A B : Prop} (h : B) : if (!true) = true then A else B := iteF h
theorem iteNF {A B : Prop} (h : A) : if (!false) = true then A else B := iteT h
theorem iteNB {p : Prop} [Decidable p] {A B : Prop} (h1 : ¬ p → A) (h2 : p → B) : if (!decide p) = true then A else B := by
  by_cases h : p
  · rw [decide_eq_true h]; exact iteF (h2 h)
  · rw [decide_eq_false h]; exact iteT (h1 h)
theorem iteNC {c : Bool} {A B : Prop} (h1 : c = false → A) (h2 : c = true → B) : if (!c) = true then A else B := by
  cases c with
  | true => exact iteF (h2 rfl)
  | false => exact iteT (h1 rfl)
/-! ### rules whose readings have names, over texts S l -/
section
variable {X : Cx} {H : Hp} {Q : VK} {K : PySem.W.Frag}
theorem pe_strS {x : Str} {j pos} {l : List Nat} (e : x = S l) : PE X (.Constant (.str x) j pos) (tC (.str (S l))) := by rw [e]; exact pe_str
def rAddS : R2 := fun x y H Q => ∃ a b, x = .str (S a) ∧ y = .str (S b) ∧ a.length + b.length ≤ 1000000 ∧ Q (.str (S (a ++ b))) H
theorem op_addS : OpR X (binaryOp .Add) rAddS := fun pins s σ H x y v u Q I rx ry h => by
  obtain ⟨a, b, e1, e2, hz, q⟩ := h
  exact op_add_str pins s σ H x y v u Q I rx ry ⟨S a, S b, e1, e2, by rw [S_len, S_len]; exact Nat.le_trans hz (by decide), by rw [S_app]; exact q⟩
theorem i_addS {a b : List Nat} (h1 : a.length + b.length ≤ 1000000) (h : Q (.str (S (a ++ b))) H) : rAddS (.str (S a)) (.str (S b)) H Q := ⟨a, b, rfl, rfl, h1, h⟩
def rIxSS : V → V → Hp → VK → Prop := fun x y H Q => ∃ l i c, x = .str (S l) ∧ y = .int i ∧ l.length ≤ 1000000 ∧ atI l i = some c ∧ Q (.str (S [c])) H
theorem ix_S : IxR X rIxSS := fun pins s σ H x y v u b Q I rx ry hb h => by
  obtain ⟨l, i, c, e1, e2, hz, hc, q⟩ := h
  exact ix_str pins s σ H x y v u b Q I rx ry hb ⟨S l, i, c, e1, e2, by rw [S_len]; exact Nat.le_trans hz (by decide), by rw [S_list]; exact hc, q⟩
theorem i_ixSS {l : List Nat} {i : Int} {c : Nat} (h1 : l.length ≤ 1000000) (h2 : atI l i = some c) (h : Q (.str (S [c])) H) : rIxSS (.str (S l)) (.int i) H Q := ⟨l, i, c, rfl, rfl, h1, h2, h⟩
def rSlSS : V → Option Int → Option Int → Hp → VK → Prop := fun x lo hi H Q => ∃ l, x = .str (S l) ∧ l.length ≤ 1000000 ∧ Q (.str (S (cut l lo hi))) H
theorem sl_S : SlR X rSlSS := fun pins s σ H x v vl vu lo hi sl Q I rx hs pl pu h => by
  obtain ⟨l, e1, hz, q⟩ := h
  exact sl_str pins s σ H x v vl vu lo hi sl Q I rx hs pl pu ⟨S l, e1, by rw [S_len]; exact Nat.le_trans hz (by decide), by rw [cutS_S]; exact q⟩
theorem i_slFrom {l : List Nat} {k : Int} (h0 : 0 ≤ k) (h1 : l.length ≤ 1000000) (h : Q (.str (S (l.drop k.toNat))) H) : rSlSS (.str (S l)) (some k) none H Q :=
  ⟨l, rfl, h1, by rw [show k = ((k.toNat : Nat) : Int) by omega, cut_from]; exact h⟩
theorem i_slTo {l : List Nat} {k : Int} (h0 : 0 ≤ k) (h1 : l.length ≤ 1000000) (h : Q (.str (S (l.take k.toNat))) H) : rSlSS (.str (S l)) none (some k) H Q :=
  ⟨l, rfl, h1, by rw [show k = ((k.toNat : Nat) : Int) by omega, cut_to]; exact h⟩
def rLenSS : List V → Hp → VK → Prop := fun xs H Q => ∃ l, xs = [.str (S l)] ∧ l.length ≤ 1000000 ∧ Q (.int (l.length : Int)) H
theorem call_lenS : CallR X (.builtin "len") rLenSS := fun pins s σ H xs us Q I r h => by
  obtain ⟨l, e1, hz, q⟩ := h
  exact call_len_str pins s σ H xs us Q I r ⟨S l, e1, by rw [S_len]; exact Nat.le_trans hz (by decide), by rw [S_len]; exact q⟩
theorem i_lenSS {l : List Nat} (h1 : l.length ≤ 1000000) (h : Q (.int (l.length : Int)) H) : rLenSS [.str (S l)] H Q := ⟨l, rfl, h1, h⟩
def rStartS : V → List V → Hp → VK → Prop := fun x xs H Q => ∃ a b, x = .str (S a) ∧ xs = [.str (S b)] ∧ Q (.bl (decide (a.take b.length = b))) H
theorem mt_startsS : MtR X "str.startswith" rStartS := fun pins s σ H x xs v us Q I rx rv h => by
  obtain ⟨a, b, e1, e2, q⟩ := h
  exact mt_startswith pins s σ H x xs v us Q I rx rv ⟨S a, S b, e1, e2, by rw [starts_S]; exact q⟩
theorem i_startS {a b : List Nat} (h : Q (.bl (decide (a.take b.length = b))) H) : rStartS (.str (S a)) [.str (S b)] H Q := ⟨a, b, rfl, rfl, h⟩
def rInSg : R2 := fun x y H Q => ∃ (c : Nat) (z : Str), x = .str (S [c]) ∧ y = .str z ∧ Q (.bl (decide (c ∈ z.cps.toList))) H
theorem op_inSg : OpR X (compareOp .In) rInSg := op_in_sign
theorem i_inSg {c : Nat} {z : Str} (h : Q (.bl (decide (c ∈ z.cps.toList))) H) : rInSg (.str (S [c])) (.str z) H Q := ⟨c, z, rfl, rfl, h⟩
def rAbs : List V → Hp → VK → Prop := fun xs H Q => ∃ i, xs = [.int i] ∧ Q (.int (if i < 0 then -i else i)) H
theorem call_absN : CallR X (.builtin "abs") rAbs := call_abs
theorem i_absN {i : Int} (h : Q (.int (if i < 0 then -i else i)) H) : rAbs [.int i] H Q := ⟨i, rfl, h⟩
def rMin2 : List V → Hp → VK → Prop := fun xs H Q => ∃ i j, xs = [.int i, .int j] ∧ Q (.int (if j < i then j else i)) H
theorem call_min2N (hc : X.calm = true) : CallR X (.builtin "min") rMin2 := call_min2 hc
theorem i_min2 {i j : Int} (h : Q (.int (min i j)) H) : rMin2 [.int i, .int j] H Q := ⟨i, j, rfl, by
  by_cases c : j < i
  · rw [if_pos c]; rw [show min i j = j by omega] at h; exact h
  · rw [if_neg c]; rw [show min i j = i by omega] at h; exact h⟩
def rMax2 : List V → Hp → VK → Prop := fun xs H Q => ∃ i j, xs = [.int i, .int j] ∧ Q (.int (if j > i then j else i)) H
theorem call_max2N (hc : X.calm = true) : CallR X (.builtin "max") rMax2 := call_max2 hc
theorem i_max2 {i j : Int} (h : Q (.int (max i j)) H) : rMax2 [.int i, .int j] H Q := ⟨i, j, rfl, by
  by_cases c : j > i
  · rw [if_pos c]; rw [show max i j = j by omega] at h; exact h
  · rw [if_neg c]; rw [show max i j = i by omega] at h; exact h⟩
def rMin3 : List V → Hp → VK → Prop := fun xs H Q => ∃ i j k, xs = [.int i, .int j, .int k] ∧ Q (.int (min (min i j) k)) H
theorem nuMin2_int (i j : Int) : nuMin2 (.int i) (.int j) = some (.int (min i j)) := by
  show some (if decide (j < i) = true then V.int j else V.int i) = some (.int (min i j))
  by_cases c : j < i
  · rw [decide_eq_true c, if_pos rfl, show min i j = j by omega]
  · rw [decide_eq_false c, if_neg Bool.false_ne_true, show min i j = i by omega]
theorem call_min3N (hc : X.calm = true) : CallR X (.builtin "min") rMin3 := fun pins s σ H xs us Q I r h => by
  obtain ⟨i, j, k, e1, q⟩ := h
  exact call_min3Nu hc pins s σ H xs us Q I r ⟨_, _, _, _, e1, by unfold nuMin3; rw [nuMin2_int]; show nuMin2 (.int (min i j)) (.int k) = _; rw [nuMin2_int], q⟩
theorem i_min3 {i j k : Int} (h : Q (.int (min (min i j) k)) H) : rMin3 [.int i, .int j, .int k] H Q := ⟨i, j, k, rfl, h⟩
def rInt : List V → Hp → VK → Prop := fun xs H Q => (∃ i, xs = [.int i] ∧ Q (.int i) H) ∨ ∃ k, xs = [.bl k] ∧ Q (.int (if k then 1 else 0)) H
theorem call_intN : CallR X (.type "int") rInt := call_int1
theorem i_intN {i : Int} (h : Q (.int i) H) : rInt [.int i] H Q := .inl ⟨i, rfl, h⟩
theorem i_intNB {k : Bool} (h : Q (.int (if k then 1 else 0)) H) : rInt [.bl k] H Q := .inr ⟨k, rfl, h⟩
def rLenQ (K : PySem.W.Frag) : List V → Hp → VK → Prop := fun xs H Q => ∃ p ys, xs = [.ref p] ∧ (SqL K H p ys ∨ SqT K H p ys) ∧ Q (.int ys.length) H
theorem call_lenQ : CallR X (.builtin "len") (rLenQ X.K) := call_len_seq
theorem i_lenL {p : Addr} {ys : List V} (h1 : H p = some (.lst ys)) (h : Q (.int ys.length) H) : rLenQ K [.ref p] H Q := ⟨p, ys, rfl, .inl (sqL_of h1), h⟩
theorem i_lenT {p : Addr} {ys : List V} (h1 : H p = some (.tup ys)) (h : Q (.int ys.length) H) : rLenQ K [.ref p] H Q := ⟨p, ys, rfl, .inr (sqT_of h1), h⟩
theorem i_lenK {p : Addr} {ys : List V} (h1 : SqL K H p ys) (h : Q (.int ys.length) H) : rLenQ K [.ref p] H Q := ⟨p, ys, rfl, .inl h1, h⟩
theorem dec_inj {α β : Type} [DecidableEq α] [DecidableEq β] {f : α → β} (hf : ∀ a b, f a = f b → a = b) (a b : α) : decide (f a = f b) = decide (a = b) := by
  by_cases h : a = b
  · subst h; simp
  · rw [decide_eq_false h, decide_eq_false (fun e => h (hf a b e))]
theorem dec_I (a b : Int) : decide (V.int a = V.int b) = decide (a = b) := dec_inj (fun _ _ e => V.int.inj e) a b
theorem i_eqI {a b : Int} (h : Q (.bl (decide (a = b))) H) : rEq (.int a) (.int b) H Q := ⟨rfl, by rw [dec_I]; exact h⟩
theorem i_neI {a b : Int} (h : Q (.bl (!decide (a = b))) H) : rNe (.int a) (.int b) H Q := ⟨rfl, by rw [dec_I]; exact h⟩
theorem i_eqS {a b : List Nat} (h : Q (.bl (decide (a = b))) H) : rEq (.str (S a)) (.str (S b)) H Q := ⟨rfl, by rw [S_dec]; exact h⟩
theorem i_neS {a b : List Nat} (h : Q (.bl (!decide (a = b))) H) : rNe (.str (S a)) (.str (S b)) H Q := ⟨rfl, by rw [S_dec]; exact h⟩
def rIsNo : R2 := fun x y H Q => y = .non ∧ Q (.bl (decide (x = .non))) H
theorem op_isNo : OpR X (compareOp .Is) rIsNo := op_isN
theorem i_isNoI {i : Int} (h : Q (.bl false) H) : rIsNo (.int i) .non H Q := ⟨rfl, h⟩
theorem i_isNoN (h : Q (.bl true) H) : rIsNo .non .non H Q := ⟨rfl, h⟩
theorem i_isNoR {a : Addr} (h : Q (.bl false) H) : rIsNo (.ref a) .non H Q := ⟨rfl, h⟩
def rRepI : List V → Hp → VK → Prop := fun xs H Q => ∃ i, xs = [.int i] ∧ i.natAbs.log2 < 1920 ∧ Q (.str (toString i)) H
theorem call_repI : CallR X (.builtin "repr") rRepI := SkE.call_repr_int
end
theorem walk_S {l : List Nat} : Walk (Its (S l)) l.length (fun _ => True) (fun i H v H' => H' = H ∧ ∃ c, l[i]? = some c ∧ v = .str (S [c])) := by
  have w := walk_str (z := S l)
  rw [S_size] at w
  exact w.mono (fun _ _ => trivial) fun i H x H' _ _ y => by
    obtain ⟨e, c, hc, ev⟩ := y
    rw [S_get] at hc
    exact ⟨e, c, hc, ev⟩
theorem walk_eS {l : List Nat} : Walk (ItE (S l)) l.length (fun _ => True) (fun i H v H' => ∃ T c, v = .ref T ∧ H T = none ∧ l[i]? = some c ∧ H' = upd H T (.tup [.int (i : Nat), .str (S [c])])) := by
  have w := walk_enumS (x := S l)
  rw [S_size] at w
  exact w.mono (fun _ _ => trivial) fun i H x H' _ _ y => by
    obtain ⟨T, c, e, n, hc, eh⟩ := y
    rw [S_get] at hc
    exact ⟨T, c, e, n, hc, eh⟩
theorem go_while {c : TT} {tb : TS} {D : Ends} {σ : L2.St} {H : Hp} (Pv : Nat → L2.St → Hp → Prop) (m0 : Nat) (h0 : Pv m0 σ H)
    (hs : ∀ m σ H, Pv m σ H → c σ H fun b H1 => if b = true then ∃ N : L2.St → Hp → Prop, (∀ σ' H', N σ' H' → ∃ m', m' < m ∧ Pv m' σ' H') ∧ tb { D with nx := N, ct := N, bk := D.nx } σ H1 else D.nx σ H1) : tWhile c tb D σ H :=
  ⟨Pv, ⟨m0, h0⟩, hs⟩
theorem next_turn {m : Nat} {Pv : Nat → L2.St → Hp → Prop} {A : (L2.St → Hp → Prop) → Prop} (h : A fun σ' H' => ∃ m', m' < m ∧ Pv m' σ' H') : ∃ N : L2.St → Hp → Prop, (∀ σ' H', N σ' H' → ∃ m', m' < m ∧ Pv m' σ' H') ∧ A N := ⟨_, fun _ _ q => q, h⟩
def rRevS : V → Hp → VK → Prop := fun x H Q => ∃ l, x = .str (S l) ∧ l.length ≤ sizeLine ∧ Q (.str (S l.reverse)) H
theorem i_revS {te : TE} {σ : L2.St} {H : Hp} {Q : VK} (h : te σ H fun x H1 => rRevS x H1 Q) : tRevS te σ H Q := h
theorem i_revSS {l : List Nat} {H : Hp} {Q : VK} (h1 : l.length ≤ 1000000) (h : Q (.str (S l.reverse)) H) : rRevS (.str (S l)) H Q := ⟨l, rfl, Nat.le_trans h1 (by decide), h⟩
theorem i_cut {t u : TS} {D : Ends} {σ : L2.St} {H : Hp} (Mid : L2.St → Hp → Prop) (h1 : t { D with nx := Mid } σ H) (h2 : ∀ σ' H', Mid σ' H' → u D σ' H') : C8.tCut t u D σ H := ⟨Mid, h1, h2⟩
theorem i_minL {K : PySem.W.Frag} {p : Addr} {ns : List Int} {H : Hp} {Q : VK} (h1 : H p = some (.lst (ns.map V.int))) (h2 : 0 < ns.length) (h : ∀ m, m ∈ ns → (∀ y, y ∈ ns → m ≤ y) → Q (.int m) H) : rMin K [.ref p] H Q := ⟨p, ns, rfl, sqL_of h1, h2, h⟩
/-- one half of an if: what is appended, or nothing -/
theorem i_chainLL {g : Int → Int → Bool} {g' : Int → Int → Bool} {σ : L2.St} {H : Hp} {R : Bool → Hp → Prop} {i j k : Int}
    (h : R (g i j && g' j k) H) : rI0 (fun a b => .bl (g a b)) (.int i) (.int j) H fun z H3 => ∃ c, z = .bl c ∧ (if c = true then rI0 (fun a b => .bl (g' a b)) (.int j) (.int k) H3 fun x H4 => ∃ d, x = .bl d ∧ R d H4 else ∃ d, V.bl false = .bl d ∧ R d H3) := by
  refine ⟨i, j, rfl, rfl, g i j, rfl, ?_⟩
  cases e : g i j with
  | true => rw [e] at h; exact iteT ⟨j, k, rfl, rfl, g' j k, rfl, h⟩
  | false => rw [e] at h; exact iteF ⟨false, rfl, h⟩
theorem walk_rangeZ {n : Nat} : Walk (Itr 0 n) n (fun _ => True) (YFn fun i => .int (i : Int)) :=
  (walk_range (lo := 0) (n := n)).mono (fun _ h => h) fun i H x H' _ _ y => ⟨y.1, by rw [y.2]; show V.int (0 + (i : Int)) = V.int (i : Int); rw [Int.zero_add]⟩
theorem i_ixLI {K : PySem.W.Frag} {p : Addr} {ns : List Int} {i v : Int} {H : Hp} {Q : VK} (h1 : H p = some (.lst (ns.map V.int))) (h0 : 0 ≤ i) (h2 : ns[i.toNat]? = some v) (h : Q (.int v) H) : rIxL K (.ref p) (.int i) H Q := by
  refine i_ixLH h1 ?_ h
  have e := atI_nat (xs := ns.map V.int) (j := i.toNat) (v := .int v) (by rw [List.getElem?_map, h2]; rfl)
  rwa [show ((i.toNat : Nat) : Int) = i by omega] at e
theorem i_ixSI {l : List Nat} {i : Int} {c : Nat} {H : Hp} {Q : VK} (h0 : 0 ≤ i) (h2 : l[i.toNat]? = some c) (h1 : l.length ≤ 1000000) (h : Q (.str (S [c])) H) : rIxSS (.str (S l)) (.int i) H Q := by
  refine i_ixSS h1 ?_ h
  have e := atI_nat (xs := l) (j := i.toNat) (v := c) h2
  rwa [show ((i.toNat : Nat) : Int) = i by omega] at e
theorem i_appI {p : Addr} {ns : List Int} {v : Int} {H : Hp} {Q : VK} (h1 : H p = some (.lst (ns.map V.int))) (h2 : ns.length ≤ 1000000) (h : Q .non (upd H p (.lst ((ns ++ [v]).map V.int)))) : rAppend (.ref p) [.int v] H Q := by
  refine i_append h1 (by rw [List.length_map]; exact Nat.lt_of_le_of_lt h2 (by decide)) ?_
  rw [List.map_append] at h
  exact h
theorem i_gTupH {K : PySem.W.Frag} {n : Nat} {t : TGs} {a : Addr} {xs : List V} {σ : L2.St} {H : Hp} {R : L2.St → Hp → Prop} (h1 : H a = some (.tup xs)) (h2 : xs.length = n) (h : t xs σ H R) : gTup K n t (.ref a) σ H R := ⟨a, xs, rfl, sqT_of h1, h2, h⟩
theorem join_S (ws : List (List Nat)) : Txt.join (S []) (ws.map S) = S ws.flatten := by
  unfold Txt.join
  rw [StrLaws.glued_eq_join]
  induction ws with
  | nil => rfl
  | cons w ws ih =>
    cases ws with
    | nil => simp [Str.join]
    | cons v ws =>
      show S w ++ S [] ++ Str.join (S []) ((v :: ws).map S) = _
      rw [ih, S_app, S_app, List.append_nil]
      rfl
theorem sum_lens (ws : List (List Nat)) : ((ws.map S).map (·.length)).sum = ws.flatten.length := by
  induction ws with
  | nil => rfl
  | cons w ws ih =>
    rw [List.map_cons, List.map_cons, List.sum_cons, ih, List.flatten_cons, List.length_append, S_len]
def rJoinS (K : PySem.W.Frag) : V → List V → Hp → VK → Prop := fun x xs H Q => ∃ p, ∃ ws : List (List Nat), x = .str (S []) ∧ xs = [.ref p] ∧ (SqL K H p (ws.map fun l => .str (S l)) ∨ SqT K H p (ws.map fun l => .str (S l))) ∧ ws.flatten.length ≤ 1000000 ∧ Q (.str (S ws.flatten)) H
theorem mt_joinS {X : Cx} : MtR X "str.join" (rJoinS X.K) := fun pins s σ H x xs v us Q I rx rv h => by
  obtain ⟨p, ws, e1, e2, hp, hl, q⟩ := h
  have e3 : (ws.map fun l => V.str (S l)) = (ws.map S).map V.str := by rw [List.map_map]; rfl
  rw [e3] at hp
  refine mt_join pins s σ H x xs v us Q I rx rv ⟨S [], p, ws.map S, e1, e2, hp, ?_, by rw [join_S]; exact q⟩
  rw [sum_lens, show (S []).length = 0 from rfl, Nat.mul_zero, Nat.add_zero]
  omega
theorem i_joinS {K : PySem.W.Frag} {p : Addr} {ws : List (List Nat)} {H : Hp} {Q : VK} (h1 : H p = some (.lst (ws.map fun l => .str (S l)))) (h2 : ws.flatten.length ≤ 1000000) (h : Q (.str (S ws.flatten)) H) : rJoinS K (.str (S [])) [.ref p] H Q :=
  ⟨p, ws, rfl, rfl, .inl (sqL_of h1), h2, h⟩
theorem atI_neg1 {α : Type} {xs : List α} {v : α} {n : Nat} (h : xs.length = n + 1) (h2 : xs[n]? = some v) : atI xs (-1) = some v := by
  have e : xs = xs.dropLast ++ [v] := by
    have hne : xs ≠ [] := by intro z; rw [z] at h; cases h
    have := List.dropLast_concat_getLast hne
    have e2 : xs.getLast hne = v := by
      rw [List.getLast_eq_getElem]
      have := List.getElem?_eq_some_iff.mp h2
      obtain ⟨_, q⟩ := this
      simpa [h] using q
    rw [e2] at this
    exact this.symm
  rw [e]
  exact atI_last _ _
theorem i_ixLv {K : PySem.W.Frag} {p : Addr} {xs : List V} {i : Int} {v : V} {H : Hp} {Q : VK} (h1 : H p = some (.lst xs)) (h0 : 0 ≤ i) (h2 : xs[i.toNat]? = some v) (h : Q v H) : rIxL K (.ref p) (.int i) H Q := by
  refine i_ixLH h1 ?_ h
  have e := atI_nat (xs := xs) (j := i.toNat) (v := v) h2
  rwa [show ((i.toNat : Nat) : Int) = i by omega] at e
theorem i_rU {g : Int → V} {i : Int} {H : Hp} {Q : VK} (h : Q (g i) H) : rU g (.int i) H Q := ⟨i, rfl, h⟩
end Sw
namespace Sw
open PySem PySem.Spec PyProof.Rows L2
/-! ### t[::-1] of a tuple -/
theorem back_adjust (n : Nat) : Builtin.Slice.sliceAdjust none none (-1) (n : Int) = ((n : Int) - 1, -1) := by
  unfold Builtin.Slice.sliceAdjust
  simp
theorem back_places (n : Nat) : Builtin.Slice.slicePlaces ((n : Int) - 1) (-1) (-1) = n := by
  unfold Builtin.Slice.slicePlaces
  simp only [show ¬ ((-1 : Int) > 0) by decide, if_false]
  split <;> simp <;> omega
theorem fm_congr {α β : Type} {f g : α → Option β} : ∀ {l : List α}, (∀ a ∈ l, f a = g a) → l.filterMap f = l.filterMap g
  | [], _ => rfl
  | a :: l, h => by
    rw [List.filterMap_cons, List.filterMap_cons, h a List.mem_cons_self, fm_congr fun b hb => h b (List.mem_cons_of_mem _ hb)]
theorem back_pick {α : Type} (l : List α) : ((List.range l.length).filterMap fun (k : Nat) => l.toArray[(((l.length : Int) - 1) + (k : Int) * (-1)).toNat]?) = l.reverse := by
  have e : ∀ k ∈ List.range l.length, l.toArray[(((l.length : Int) - 1) + (k : Int) * (-1)).toNat]? = l.reverse[k]? := by
    intro k hk
    have hk := List.mem_range.mp hk
    rw [List.getElem?_reverse hk, List.getElem?_toArray]
    congr 1
    omega
  rw [fm_congr e]
  have h2 : ∀ m : List α, (List.range m.length).filterMap (fun k => m[k]?) = m := by
    intro m
    induction m with
    | nil => rfl
    | cons a m ih =>
      rw [List.length_cons, List.range_succ_eq_map, List.filterMap_cons, List.filterMap_map]
      show a :: List.filterMap ((fun k => (a :: m)[k]?) ∘ Nat.succ) (List.range m.length) = a :: m
      congr 1
  have := h2 l.reverse
  rwa [List.length_reverse] at this
theorem getItem_tuple_back {prog : Program} {w : World} {A : Around} {E : Value → Shared → Prop} {s : Shared} {t sl : Addr} {ys : List Value} {u : Tok} {Q : Value → Shared → Prop} (ht : IsTup s.heap t ys.toArray)
    (hs : ∃ os, s.heap.get? sl = some os ∧ os.cls = .type "slice" ∧ os.data = .fields #[.none, .none, .int (-1) u])
    (h : Q (.ref s.heap.objs.size) { s with heap := s.heap.push { cls := .type "tuple", data := .seq ys.reverse.toArray } }) (hz : ys.length ≤ sizeLine) : wpAny (model prog w) A (getItem (.ref t) (.ref sl)) Q E s := by
  have hno' : sizeOk (.seq ys.reverse.toArray) := by
    show ys.reverse.toArray.size ≤ sizeLine
    rw [List.size_toArray, List.length_reverse]
    exact hz
  obtain ⟨os, hos, hcs, hds⟩ := hs
  have hTs : s.TypeIs (.ref sl) "slice" := ⟨os, hos, hcs⟩
  unfold getItem
  try with_reducible refine wpAny_holding ?_
  first | refine wpAny_bind (wpAny_pure ?_) | skip
  refine wpAny_bind (wpAny_sequenceKey ht.typeIs (by decide) ?_)
  refine wpAny_bind (wpAny_callSpecial?_slot (name := Str.ofString "__getitem__") ht.typeIs PyProof.Rows.slot_tuple_getitem (wpAny_call_entry PyProof.Rows.slot_tuple_getitem ht.typeIs entry_tuple_getitem ?_ (args_tuple_getitem _ _)))
  show wpAny _ _ (Builtin.Tuple.tupleItemsOf (.ref t) >>= _) _ _ s
  refine wpAny_bind (tupleItemsOf_ ht ?_)
  refine wpAny_bind (wpAny_typeOf hTs ?_)
  rw [if_pos (by decide)]
  have ap : ∀ {R : Int × Int × Nat → Shared → Prop}, R (((ys.toArray.size : Nat) : Int) - 1, -1, ys.toArray.size) s → wpAny (model prog w) A.in1 (Builtin.Slice.sliceApplied (.ref sl) (pure ((ys.toArray.size : Nat) : Int))) R E s := by
    intro R hR
    unfold Builtin.Slice.sliceApplied Builtin.Slice.sliceFields
    refine wpAny_bind (wpAny_bind (wpAny_field hos hds (x := .none) rfl (wpAny_bind (wpAny_field hos hds (x := .none) rfl (wpAny_bind (wpAny_field hos hds (x := .int (-1) u) rfl (wpAny_pure ?_)))))))
    refine wpAny_bind (slicePart_int ?_)
    show wpAny _ _ (if ((-1 : Int) == 0) = true then _ else _) _ _ s
    rw [if_neg (by decide)]
    refine wpAny_bind (slicePart_none (wpAny_bind (slicePart_none (wpAny_bind (wpAny_pure ?_)))))
    show wpAny _ _ (match Builtin.Slice.sliceAdjust none none (-1) ((ys.toArray.size : Nat) : Int) with | (lo, hi) => pure (lo, (-1 : Int), Builtin.Slice.slicePlaces lo hi (-1))) _ _ s
    rw [back_adjust]
    show wpAny _ _ (pure (((ys.toArray.size : Nat) : Int) - 1, (-1 : Int), Builtin.Slice.slicePlaces (((ys.toArray.size : Nat) : Int) - 1) (-1) (-1))) _ _ s
    rw [back_places]
    exact wpAny_pure hR
  refine wpAny_bind (ap ?_)
  show wpAny _ _ (if (((ys.toArray.size : Nat) : Int) - 1 == 0 && (-1 : Int) == 1 && ys.toArray.size == ys.toArray.size) = true then _ else _) _ _ s
  rw [if_neg (by simp)]
  have e := back_pick ys
  rw [show ys.length = ys.toArray.size from List.size_toArray.symm] at e
  rw [e]
  first
    | exact wpAny_bind (m := Builtin.Tuple.tupleExact _) (wpAny_newObj_type (wpAny_pure ⟨_, rfl, wpAny_pure h⟩) hno')
    | exact wpAny_bind (m := Builtin.Tuple.tupleExact _) (wpAny_newObj_type (wpAny_bind (wpAny_pure (wpAny_pure ⟨_, rfl, wpAny_pure h⟩))) hno')
    | exact wpAny_bind (wpAny_bind (m := Builtin.Tuple.tupleExact _) (wpAny_newObj_type (wpAny_pure (wpAny_pure ⟨_, rfl, wpAny_pure h⟩)) hno'))
def tRevT (K : PySem.W.Frag) (te : TE) : TE := fun σ H Q => te σ H fun x H1 => ∃ a xs, x = .ref a ∧ SqT K H1 a xs ∧ ∀ p, H1 p = none → Q (.ref p) (upd H1 p (.tup xs.reverse))
theorem Vals.back {xs : List V} {us : List Value} (r : Vals xs us) : Vals xs.reverse us.reverse := by
  induction r with
  | nil => exact .nil
  | cons r1 _ ih =>
    rw [List.reverse_cons, List.reverse_cons]
    exact ih.append (.cons r1 .nil)
theorem pe_revT {X : Cx} {e : Expr} {te : TE} {k : Nat} {p1 p2 p3 pos : Pos} (he : PE X e te) :
    PE X (.Subscript e (.Slice none none (some (.UnaryOp .USub (.Constant (.int 1) k p1) p2)) p3) pos) (tRevT X.K te) := by
  constructor
  intro pins s σ H Q I h
  refine Subscript_ (thn (he.run pins s σ H _ I h) fun v s1 ⟨x, H1, I1, r1, a, xs, ex, hx, q⟩ => ?_)
  subst ex
  cases r1
  have st : PO X (some (.UnaryOp .USub (.Constant (.int 1) k p1) p2)) (tPart (tUn (rU fun i => .int (-i)) (tC (.int 1)))) := po_some (pe_un un_neg pe_int)
  refine wpAny_Slice (thn (po_none.run pins s1 σ H1 (fun o G => o = none ∧ G = H1) I1 ⟨rfl, rfl⟩) fun w1 s2 ⟨o1, G1, J1, z1, a1, b1⟩ => ?_)
  subst a1 b1
  refine thn (po_none.run pins s2 σ G1 (fun o G => o = none ∧ G = G1) J1 ⟨rfl, rfl⟩) fun w2 s3 ⟨o2, G2, J2, z2, a2, b2⟩ => ?_
  subst a2 b2
  refine thn (st.run pins s3 σ G2 (fun o G => o = some (-1) ∧ G = G2) J2 ⟨1, rfl, -1, rfl, rfl, rfl⟩) fun w3 s4 ⟨o3, G3, J3, z3, a3, b3⟩ => ?_
  subst a3 b3
  have J4 : Inv X pins σ G3 { s4 with heap := s4.heap.push { cls := .type "slice", data := .fields #[w1, w2, w3] } } := J3.kept (t' := s4.toks) fun b ob q => Heap.get?_push_of_some _ q
  obtain ⟨y1, rfl, f1⟩ := IsPart.raw z1
  obtain ⟨y2, rfl, f2⟩ := IsPart.raw z2
  obtain ⟨y3, rfl, f3⟩ := IsPart.raw z3
  cases y1 with
  | some y => cases f1
  | none =>
  cases y2 with
  | some y => cases f2
  | none =>
  cases y3 with
  | none => cases f3
  | some y =>
  obtain ⟨m, u⟩ := y
  have em : m = -1 := Option.some.inj f3
  subst em
  obtain ⟨its, r, ht, hz⟩ := J4.tuple hx
  refine tail_any (T := "tuple") (id := _) (ops := [.ref a, .ref s4.heap.objs.size]) ht.typeIs PyProof.Rows.slot_tuple_getitem.lookup ?_ (by with_unfolding_all rfl)
  have hz' : its.length ≤ sizeLine := by rw [← r.length]; exact hz
  refine getItem_tuple_back (u := u) ht ⟨_, Heap.get?_push_size _ rfl, rfl, rfl⟩ ?_ hz'
  refine ⟨.ref _, _, J4.laid (t' := s4.toks) (o := .tup xs.reverse) (fun b ob q => Heap.get?_push_of_some _ q) (Nat.le_refl _) ?_, rfl, q _ (J4.hok.fresh (Nat.le_refl _))⟩
  exact ⟨by rw [List.length_reverse]; exact hz, _, Vals.back r, IsTup.new _ _⟩
theorem i_revT {K : PySem.W.Frag} {te : TE} {σ : L2.St} {H : Hp} {Q : VK} (h : te σ H fun x H1 => ∃ a xs, x = .ref a ∧ SqT K H1 a xs ∧ ∀ p, H1 p = none → Q (.ref p) (upd H1 p (.tup xs.reverse))) : tRevT K te σ H Q := h
/-! ### text * int -/
def rMulS : R2 := fun x y H Q => ∃ (l : List Nat) (n : Nat), x = .str (S l) ∧ y = .int (n : Int) ∧ l.length ≤ 1000 ∧ n ≤ 1000 ∧ Q (.str (S (List.replicate n l).flatten)) H
theorem mul_S (l : List Nat) (n : Nat) : Txt.mul (S l) (n : Int) = S (List.replicate n l).flatten := by
  unfold Txt.mul
  by_cases h0 : n = 0
  · subst h0; simp [S, Str.empty]
  · rw [if_neg (by omega)]
    by_cases h1 : (((n : Int) == 1 || (S l).length == 0) = true)
    · rw [if_pos h1]
      rcases Bool.or_eq_true_iff.mp h1 with h1 | h1
      · have : n = 1 := by have := eq_of_beq h1; omega
        subst this; simp
      · have e : l = [] := by have := eq_of_beq h1; rw [S_len] at this; exact List.length_eq_zero_iff.mp this
        subst e
        simp
    · rw [if_neg h1]
      show (⟨(List.replicate n l.toArray).foldl (· ++ ·) #[]⟩ : Str) = ⟨(List.replicate n l).flatten.toArray⟩
      congr 1
      have : ∀ (m : Nat) (b : Array Nat), (List.replicate m l.toArray).foldl (· ++ ·) b = b ++ (List.replicate m l).flatten.toArray := by
        intro m
        induction m with
        | zero => intro b; simp
        | succ m ih =>
          intro b
          rw [List.replicate_succ, List.foldl_cons, ih, List.replicate_succ, List.flatten_cons]
          simp
      rw [this]
      simp
theorem op_mulS {X : Cx} : OpR X (binaryOp .Mult) rMulS := fun pins s σ H x y v u Q I rx ry h => by
  obtain ⟨l, n, rfl, rfl, h1, h2, q⟩ := h
  obtain ⟨t, rfl⟩ := rx
  obtain ⟨t', rfl⟩ := ry
  refine SB.mul ⟨?_, ?_, ?_⟩ fun t' tk => ⟨.str (S (List.replicate n l).flatten), H, I.tok _, ⟨_, by rw [mul_S]⟩, q⟩
  · rw [Bool.or_eq_false_iff]; exact ⟨decide_eq_false (by omega), decide_eq_false (by omega)⟩
  · intro hn _
    rw [S_len]
    have : (n : Int) * (l.length : Int) ≤ 2 ^ 63 - 1 := by
      have := Nat.mul_le_mul h2 h1
      have e : (n : Int) * (l.length : Int) = ((n * l.length : Nat) : Int) := by simp
      rw [e]; omega
    have := (Int.le_ediv_iff_mul_le (a := (l.length : Int)) (b := 2 ^ 63 - 1) (c := (n : Int)) (by omega)).mpr (by rw [Int.mul_comm]; exact this)
    omega
  · intro _ _
    rw [S_len, Int.toNat_natCast]
    have := Nat.mul_le_mul h1 h2
    unfold Builtin.Str.tooLong
    exact decide_eq_false (by rw [show sizeLine = 16777216 from rfl]; omega)
theorem i_mulS {l : List Nat} {n : Nat} {H : Hp} {Q : VK} (h1 : l.length ≤ 1000) (h2 : n ≤ 1000) (h : Q (.str (S (List.replicate n l).flatten)) H) : rMulS (.str (S l)) (.int (n : Int)) H Q := ⟨l, n, rfl, rfl, h1, h2, h⟩
/-! ### a def called by names alone -/
def tKw (sp : Sp) (gV : List V → List V → List V) (tk : TA) : TE := fun σ H Q => tk σ H fun zs H1 => sp (gV [] zs) H1 Q E0
section
variable (P : Program) (w : World) (K : PySem.W.Frag) (mg : Str → Option Value) (base : Heap)
def CalK (x : Str) (ps : List Str) (k : Nat) (sp : Sp) (ks : List Str) (g : List Value → List Value → List Value) (gV : List V → List V → List V) : Prop := ∃ (f : Addr) (fd : FuncData), FnOk P w K mg base CX0 k f fd ps sp ∧ mg x = some (.ref f) ∧ PySem.W.keepIn K (.ref f) = true ∧ KBinds K fd ps ks g gV
end
theorem Def.calK {P : Program} {w : World} {K : PySem.W.Frag} {mg : Str → Option Value} {base : Heap} {x : Str} {st : Stmt} {ps ks : List Str} {k : Nat} {sp : Sp} {g : List Value → List Value → List Value} {gV : List V → List V → List V} (d : Def K mg x st)
    (b : ∀ (kV doc pm : Value) (an : Option Addr) (cdv ct : Value) (us ws : List Value), (g us ws).length = ps.length → bindArgs (PySem.W.fnOf x x (defArgs st) (defBody st) (defScope st) .none kV doc pm an cdv ct) ⟨us, ks.zip ws⟩ = pure (ps.zip (g us ws)))
    (rel : ∀ {vs : List V} {us : List Value} {zs : List V} {ws : List Value}, Vals vs us → Vals zs ws → Vals (gV vs zs) (g us ws))
    (ok : ∀ (f : Addr) (fd : FuncData), Fun K x x st f fd → FnOk P w K mg base CX0 k f fd ps sp) : CalK P w K mg base x ps k sp ks g gV := by
  obtain ⟨f, fd, F, m⟩ := d
  have O := ok f fd F
  have kp := F.kp
  obtain ⟨oc, od, kV, doc, pm, an, cdv, ct, osl, rfl, lk, hcd⟩ := F.ex
  exact ⟨f, _, O, m, kp, fun s us ws _ hl => .of_eq (b kV doc pm an cdv ct us ws hl), rel⟩
section
variable {X : Cx} {x : Str} {ps ks : List Str} {k n : Nat} {sp : Sp} {g : List Value → List Value → List Value} {gV : List V → List V → List V} {kws : List Keyword} {tk : TA} {p pos : Pos}
theorem pe_calK (c : CalK X.prog X.w X.K X.mg X.base x ps k sp ks g gV) (hr : Room n X.A) (hkw : PK X kws tk) (hg : Gl X x := by rfl) (hk : k ≤ n := by decide)
    (hall : (backToKw pos (keywordEach kws X.env)).all (·.1.isSome) = true := by rfl) (hks : (backToKw pos (keywordEach kws X.env)).filterMap (·.1) = ks := by rfl) (hdb : (x == ("__debug__" : Str)) = false := by decide)
    (hpl : ((backTo pos (starEach [] X.env)).any (·.1) || (backToKw pos (keywordEach kws X.env)).any (·.1.isNone)) = false := by rfl) :
    PE X (.Call (.Name x p) [] kws pos) (tKw sp gV tk) := by
  obtain ⟨f, fd, F, m, kp, b⟩ := c
  refine ⟨fun pins s σ H Q I h => ?_⟩
  refine wpAny_Call_Name_kw (ld_glob I hg m ?_ hdb)
  refine PySem.W.callWith_KW0 (h₀ := X.base) I.ok.mod.kin kp hall (thn (hkw.run pos pins s σ H _ I h) fun ws s2 ⟨zs, H2, I2, rz, q2⟩ => ⟨I2.kIn, ?_⟩) hpl
  rw [hks]
  exact run_fnk F (hr.mono hk) b pass0 I2 .nil rz q2
theorem i_kw {σ : L2.St} {H : Hp} {Q : VK} (h : tk σ H fun zs H1 => sp (gV [] zs) H1 Q E0) : tKw sp gV tk σ H Q := h
end
end Sw
namespace Sw
open PySem PySem.Spec PyProof.Rows L2
/-! ### promises of defs that are called where nothing is being shown (repr) -/
structure FnG (P : Program) (w : World) (K : PySem.W.Frag) (mg : Str → Option Value) (base : Heap) (CX : CXT) (k : Nat) (f : Addr) (fd : FuncData) (ps : List Str) (sp : Sp) : Prop where
  len : ∀ xs M R X, sp xs M R X → xs.length = ps.length
  go : ∀ (A : Around) (out : List Env) (t : Shared) (M : Hp) (args : Args) (us : List Value) (xs : List V) (R : VK) (X : XK), Room k A → A.guards = some [] → Env0 P w K mg base A out t M → BindsTo t fd args (ps.zip us) → Vals xs us → sp xs M R X →
    codeAny (model P w) A (.call (.ref f) args) (CR CX out P w M t R X) t
section
variable {P : Program} {w : World} {K : PySem.W.Frag} {mg : Str → Option Value} {base : Heap} {CX : CXT} {k : Nat} {f : Addr} {fd : FuncData} {ps : List Str} {sp : Sp}
theorem FnG.of (F : FnOk P w K mg base CX k f fd ps sp) : FnG P w K mg base CX k f fd ps sp := ⟨F.len, fun A out t M args us xs R X room _ => F.run A out t M args us xs R X room⟩
theorem FnG.low {j : Nat} (F : FnG P w K mg base CX j f fd ps sp) (h : j ≤ k) : FnG P w K mg base CX k f fd ps sp := ⟨F.len, fun A out t M args us xs R X room => F.go A out t M args us xs R X (room.mono h)⟩
theorem Fun.okG {x qual : Str} {st : Stmt} {N : List Str} (F : Fun K x qual st f fd) (S : FnScope N ps (defScope st)) (len : ∀ xs M R X, sp xs M R X → xs.length = ps.length)
    (body : ∀ (cdv : Value) (A : Around) (out : List Env) (t : Shared) (M : Hp) (xs : List V) (R : VK) (X : XK), Room k (A.deeper (envOfC qual (defScope st) t.heap.objs.size f cdv)) → A.guards = some [] → sp xs M R X →
      ∃ r, PSs (cxOf CX P w K mg base N qual (defScope st) f cdv A out t M X) (defBody st) r ∧ r { nx := fun _ M' => R .non M', rt := R } (start N xs) M) : FnG P w K mg base CX (k + 1) f fd ps sp := by
  obtain ⟨oc, od, kV, doc, pm, an, cdv, ct, osl, rfl, found, coded⟩ := F.ex
  constructor
  · exact len
  intro A out t M args us xs R X room quiet env bind rel prom
  have count := len xs M R X prom
  have inHeap := env.mod.kin.keeps fun b o e => (env.bs b o e).1
  have quota := env.mod.nolimit.keeps fun b o e => (env.bs b o e).1
  have kinds : ∀ z ∈ ps.zip us, (defScope st).names.lookup z.1 = some .local ∨ ((defScope st).names.lookup z.1 = some .cell ∧ ((cellsFrom (t.heap.objs.size + 1) (defScope st).names []).lookup z.1).isSome = true) := by
    rintro ⟨n, v⟩ hz
    have hn := (List.of_mem_zip hz).1
    rcases S.par n hn with l | c
    · left; exact l
    · right; exact ⟨c, PySem.W.cellsFrom_some _ _ _ (.inl c)⟩
  apply codeAny_call_function room.depth (inHeap _ _ found) rfl S.co S.gen rfl (PySem.W.codeRec_of inHeap coded) (bind _ _ _ _ ?_)
  apply wpAny_newFunctionEnv_cells S.kind kinds
  intro env2 e2 t1 entry
  subst e2
  refine ⟨quota.keeps entry.toInCall.keep, codeAny_func ?_⟩
  obtain ⟨r, hr, runs⟩ := body cdv A out t M xs R X (room.deeper _) quiet prom
  have I := inv_start (CX := CX) (E := X) S room.hd env count rel entry
  apply wpAny_mono (hr.run [] t1 (start N xs) M _ I runs)
  · intro fl t' leaves
    cases fl with
    | ret u =>
      obtain ⟨v, σ', M', J, rv, q⟩ := leaves
      exact ⟨v, M', J.os, J.bare, J.base, J.hok, rv, q⟩
    | next =>
      obtain ⟨σ', M', J, q⟩ := leaves
      exact ⟨V.non, M', J.os, J.bare, J.base, J.hok, rfl, q⟩
    | brk => obtain ⟨_, _, _, q⟩ := leaves; exact q.elim
    | cont => obtain ⟨_, _, _, q⟩ := leaves; exact q.elim
  · exact fun _ _ z => z
end
section
variable {X : Cx} {ps : List Str} {k : Nat} {f : Addr} {fd : FuncData} {sp : Sp} {ds : List Value} {dvs : List V} {CX : CXT} {E : XK}
theorem run_G {pins : List (Addr × Obj)} {σ : L2.St} {M : Hp} {t : Shared} {R : VK} {us : List Value} {xs : List V} (F : FnG X.prog X.w X.K X.mg X.base CX k f fd ps sp) (room : Room k X.A) (quiet : X.A.guards = some []) (b : Binds X.K fd ps ds) (hd : Vals dvs ds) (px : Passes CX X E)
    (I : Inv X pins σ M t) (r : Vals xs us) (h : sp (xs ++ dvs) M R E) : wpAny (model X.prog X.w) X.A (call (.ref f) us) (EP X pins σ R) X.xe t := by
  have both := r.append hd
  have count : (us ++ ds).length = ps.length := both.length.symm.trans (F.len _ _ _ _ h)
  apply wpAny_call
  apply codeAny_mono (F.go X.A X.stack t M ⟨us, []⟩ (us ++ ds) (xs ++ dvs) R E room quiet I.env0 (b t us I.kIn count) both h)
  intro o t' q
  rcases o with e | fl
  · exact px pins σ M t e t' I q
  · cases fl with
    | ret u => exact I.after q
    | next => exact q.elim
    | brk => exact q.elim
    | cont => exact q.elim
end
section
variable (P : Program) (w : World) (K : PySem.W.Frag) (mg : Str → Option Value) (base : Heap)
def CalG (x : Str) (ps : List Str) (k : Nat) (sp : Sp) : Prop := ∃ (f : Addr) (fd : FuncData), FnG P w K mg base CX0 k f fd ps sp ∧ mg x = some (.ref f) ∧ PySem.W.keepIn K (.ref f) = true ∧ Binds K fd ps []
end
theorem Def.calG {P : Program} {w : World} {K : PySem.W.Frag} {mg : Str → Option Value} {base : Heap} {x : Str} {st : Stmt} {ps : List Str} {k : Nat} {sp : Sp} (d : Def K mg x st)
    (b : ∀ (kV doc pm : Value) (an : Option Addr) (cdv ct : Value) (us : List Value), us.length = ps.length → bindArgs (PySem.W.fnOf x x (defArgs st) (defBody st) (defScope st) .none kV doc pm an cdv ct) ⟨us, []⟩ = pure (ps.zip us))
    (ok : ∀ (f : Addr) (fd : FuncData), Fun K x x st f fd → FnG P w K mg base CX0 k f fd ps sp) : CalG P w K mg base x ps k sp := by
  obtain ⟨f, fd, F, m⟩ := d
  exact ⟨f, fd, ok f fd F, m, F.kp, F.binds b⟩
theorem pe_calG {X : Cx} {x : Str} {ps : List Str} {k n : Nat} {sp : Sp} {e : Expr} {es : List Expr} {t : TA} {p pos : Pos} (c : CalG X.prog X.w X.K X.mg X.base x ps k sp) (hr : Room n X.A) (quiet : X.A.guards = some []) (ha : PA X (e :: es) t) (hg : Gl X x := by rfl) (hk : k ≤ n := by decide)
    (hdb : (x == ("__debug__" : Str)) = false := by decide) (he : starEach (e :: es) X.env = (false, eval e X.env) :: starEach es X.env := by rfl) (hpl : (backTo pos (starEach es X.env)).any (·.1) = false := by rfl) :
    PE X (.Call (.Name x p) (e :: es) [] pos) (tCall sp [] E0 t) := by
  obtain ⟨f, fd, F, m, kp, b⟩ := c
  constructor
  intro pins s σ M R I h
  apply wpAny_Call_Name_kw (ld_glob I hg m ?_ hdb)
  exact PySem.W.callWith_K (h₀ := X.base) I.ok.mod.kin kp (thn (ha.run pos pins s σ M _ I h) fun us s1 ⟨xs, M1, I1, r, q⟩ => ⟨I1.kIn, run_G F (hr.mono hk) quiet b .nil pass0 I1 r q⟩) he hpl
/-! ### repr of data -/
def rRepD (K : PySem.W.Frag) : List V → Hp → VK → Prop := fun xs M R => ∃ x d, xs = [x] ∧ Dp K M x d ∧ d.showable = true ∧ d.hasDict = false ∧ d.depth ≤ 60 ∧ d.shown.length ≤ sizeLine ∧ R (.str d.shown) M
theorem call_repD {X : Cx} (quiet : X.A.guards = some []) (hu : X.A.units + 64 < cLine) : CallR X (.builtin "repr") (rRepD X.K) := by
  intro pins s σ M xs us R I r h
  obtain ⟨x, d, rfl, hd, sh, nd, dp, sz, q⟩ := h
  obtain ⟨u, rfl, ru⟩ := vals1 r
  obtain ⟨as, rd⟩ := Dp.reads I d x u hd ru
  cases hd with
  | non =>
    cases ru
    exact PySem.P.repr_of_none ⟨.str (PyData.shown .none), M, I.tok _, ⟨_, by simp only [PyData.shown]; rfl⟩, q⟩
  | bl b =>
    cases ru
    exact PySem.P.repr_of_bool ⟨.str (PyData.shown (.bool b)), M, I.tok _, ⟨_, by simp only [PyData.shown]; rfl⟩, q⟩
  | int i =>
    obtain ⟨t, rfl⟩ := ru
    exact PySem.P.repr_of_int (of_decide_eq_true (by simpa only [PyData.showable] using sh)) ⟨.str (PyData.shown (.int i)), M, I.tok _, ⟨_, by simp only [PyData.shown]; rfl⟩, q⟩
  | str z =>
    obtain ⟨t, rfl⟩ := ru
    exact PySem.P.repr_of_str ⟨.str (PyData.shown (.str z)), M, I.tok _, ⟨_, by simp only [PyData.shown]; rfl⟩, q⟩ (by simpa only [PyData.shown] using sz)
  | lst h1 h2 =>
    cases ru
    exact repr_of_reads' rd sh (PyData.noDict_hsm nd) quiet (by omega) (fun _ _ e => e) (fun h' t tk keep => ⟨.str _, M, I.kept (t' := tk) keep, ⟨t, rfl⟩, q⟩) sz
  | tup h1 h2 =>
    cases ru
    exact repr_of_reads' rd sh (PyData.noDict_hsm nd) quiet (by omega) (fun _ _ e => e) (fun h' t tk keep => ⟨.str _, M, I.kept (t' := tk) keep, ⟨t, rfl⟩, q⟩) sz
end Sw
namespace Sw
open PySem PySem.Spec PyProof.Rows L2
/-! ### the end of a law whose def is called where nothing is being shown -/
theorem law_G {P : Program} {w : World} {K : PySem.W.Frag} {mg mb : Str → Option Value} {k : Nat} {fa a : Addr} {fd : FuncData} {x : Str} {sp : Sp} {t : Shared} {vs : List Value} {ns : List Int}
    (inK : K.In t.heap) (gl : t.heap.Ns mainGlobals mg) (bl : t.heap.Ns builtinsNs mb) (bb : ∀ y : Str, y ≠ "__name__" → mb y = bootBuiltins y) (lim : t.heap.NoLimit) (quietGens : t.gens = #[])
    (script : t.heap.get? a = some { cls := .type "list", data := .seq vs.toArray }) (nums : IntsAre vs ns) (short : ns.length ≤ sizeLine) (room : Room k callerA)
    (F : ∀ base : Heap, K.In base → base.Ns mainGlobals mg → FnG P w K mg base CX0 k fa fd [x] sp) (bind : ∀ (s : Shared) (u : Value), BindsTo s fd ⟨[u], []⟩ [(x, u)])
    (prom : ∀ M : Hp, Only M → SqL K M a (ns.map V.int) → sp [.ref a] M (fun v _ => v = .bl true) E0) :
    codeAny (model P w) callerA (.call (.ref fa) ⟨[.ref a], []⟩) (fun r s' => r = .ok (.ret (.bool true)) ∧ OldK t.heap s'.heap ∧ s'.os = t.os ∧ AllBare s'.gens) t := by
  have vals := vals_ints nums
  have sameLen := nums.length
  -- tracked: the script alone, and only if the module does not hold it already
  let M : Hp := fun b => if b = a ∧ K.lookup a = none then some (.frz { cls := .type "list", data := .seq vs.toArray } (.lst (ns.map V.int))) else none
  have at_a : ∀ {b : Addr} {o : HO}, M b = some o → b = a ∧ K.lookup a = none ∧ o = .frz { cls := .type "list", data := .seq vs.toArray } (.lst (ns.map V.int)) := by
    intro b o q
    by_cases c : b = a ∧ K.lookup a = none
    · have q' := (if_pos c).symm.trans q
      exact ⟨c.1, c.2, (Option.some.inj q').symm⟩
    · have q' := (if_neg c).symm.trans q
      cases q'
  have only : Only M := by
    intro b
    by_cases c : b = a ∧ K.lookup a = none
    · right; exact ⟨_, _, if_pos c⟩
    · left; exact if_neg c
  have ok : HOk P w M t.heap := by
    intro b o q
    obtain ⟨rfl, _, rfl⟩ := at_a q
    exact ⟨script, by rw [List.length_map]; exact short, vs, _, vals, script⟩
  have known : SqL K M a (ns.map V.int) := by
    cases hk : K.lookup a with
    | none => exact .inl (.inr ⟨_, if_pos ⟨rfl, hk⟩⟩)
    | some o =>
      have e := inK a o hk
      rw [script] at e
      cases e
      exact .inr ⟨_, vs.toArray, _, hk, rfl, rfl, rfl, by rw [List.size_toArray, sameLen]; exact short, by simpa using vals⟩
  have under : ∀ {b : Addr} {o : Obj}, t.heap.get? b = some o → M b = none → (hidT t.heap M).get? b = some o := fun e n => hidT_get e n
  have dictFree : ∀ {b : Addr} {o : Obj} {es : Array DictEntry} {n : Nat}, t.heap.get? b = some o → o.data = .dict es n → M b = none := by
    intro b o es n e hd
    rcases q : M b with _ | u
    · rfl
    · obtain ⟨rfl, _, _⟩ := at_a q
      rw [script] at e
      cases e
      cases hd
  have names : ∀ {b : Addr} {m : Str → Option Value}, t.heap.Ns b m → (hidT t.heap M).Ns b m := by
    rintro b m ⟨o, es, n, e, hd, r⟩
    exact ⟨o, es, n, under e (dictFree e hd), hd, r⟩
  have baseIn : K.In (hidT t.heap M) := by
    intro b o e
    apply under (inK b o e)
    rcases q : M b with _ | u
    · rfl
    · obtain ⟨rfl, no, _⟩ := at_a q
      rw [no] at e
      cases e
  obtain ⟨mc, lim1, lim2⟩ := lim
  have env : Env0 P w K mg (hidT t.heap M) callerA [] t M :=
    ⟨rfl, ⟨baseIn, names gl, ⟨mb, names bl, bb⟩, ⟨mc, names lim1, lim2⟩⟩, fun b o e => of_hidT e, Nat.le_of_eq (hidT_size _ _), trivial, (fun b z => by have y : b ∈ ([] : List Addr) := z; simp at y), ok, .of_eq quietGens⟩
  apply codeAny_mono ((F _ baseIn (names gl)).go callerA [] t M ⟨[.ref a], []⟩ [.ref a] [.ref a] _ _ room rfl env (bind t (.ref a)) (.cons rfl .nil) (prom M only known))
  intro r s' q
  rcases r with e | fl
  · exact q.elim
  · cases fl with
    | next => exact q.elim
    | brk => exact q.elim
    | cont => exact q.elim
    | ret u =>
      obtain ⟨v, M', os, bare, un, ok', rel, said⟩ := q
      have said' : v = .bl true := said
      subst said'
      have isTrue : u = Value.bool true := rel
      subst isTrue
      refine ⟨rfl, OldK.of_keep ?_, os, bare⟩
      intro b o e
      rcases q : M b with _ | u
      · exact un.keep b o e q (fun z => by have y : b ∈ ([] : List Addr) := z; simp at y) (by simp)
      · obtain ⟨rfl, _, rfl⟩ := at_a q
        obtain ⟨e1, _⟩ := ok _ _ q
        obtain ⟨e2, _⟩ := ok' _ _ (un.frzs _ _ _ q)
        rw [e] at e1
        cases e1
        exact e2
theorem walk_G {l : PySem.W.OpenLaw} {n k : Nat} {q : Program} {loose : List Str} {XP : (Str → Option Value) → Heap → Prop} {YP : World → Heap → Prop} {d : DefRec} {K : Params → PySem.W.Frag} {sp : PySem.W.Frag → Sp} {x : Str}
    (many : l.most = some n) (few : n ≤ sizeLine) (plain : d.params.defaults = []) (room : Room k callerA) (inK : ∀ (w : World) (h : Heap), YP w h → (K w.params).In h)
    (F : ∀ (w : World) (mg : Str → Option Value) (fa : Addr) (h : Heap), (K w.params).In h → h.Ns mainGlobals mg → mg d.name = some (.ref fa) →
      ∃ fd : FuncData, (∀ (s : Shared) (u : Value), BindsTo s fd ⟨[u], []⟩ [(x, u)]) ∧ ∀ base : Heap, (K w.params).In base → base.Ns mainGlobals mg → FnG l.prog w (K w.params) mg base CX0 k fa fd [x] (sp (K w.params)))
    (prom : ∀ (K : PySem.W.Frag) (M : Hp) (a : Addr) (ns : List Int), ns.length ≤ n → Only M → SqL K M a (ns.map V.int) → sp K [.ref a] M (fun v _ => v = .bl true) E0) :
    PySem.W.WalkO q loose XP YP l.row.toRowW d [] (fun f vs => PySem.call f vs) := by
  apply Att.attach_call many plain
  intro w s₀ t mg mb fa o pm cd doc a vs ns G Y _ _ _ named script nums short gens
  have kin := inK w _ Y
  obtain ⟨fd, bind, hF⟩ := F w mg fa _ kin G.T.g named
  exact law_G kin G.T.g G.T.b G.T.builtins G.T.nolimit gens script nums (Nat.le_trans short few) room hF bind fun M o s => prom _ M a ns short o s
end Sw
/-! own exceptions over Exception, by own classes between, with own fields -/
namespace PySem
namespace SwE
open PySem.W PySem.Calls PyProof.Rows PySem.HandSPX
abbrev exT : List Value := [.type "Exception", .type "BaseException", .type "object"]
def over (rs : List Addr) : List Value := rs.map Value.ref ++ exT
theorem over_pass (self : Value) : ∀ rs : List Addr, refuseLoop self "__setattr__" (over rs) = pure ()
  | [] => F.store_Exception.passes self
  | r :: rs => by
    show refuseLoop self "__setattr__" (.ref r :: over rs) = pure ()
    rw [refuseLoop_ref]
    exact over_pass self rs
theorem over_has (T : String) : ∀ rs : List Addr, (over rs).contains (.type T) = exT.contains (.type T)
  | [] => rfl
  | r :: rs => by
    show (Value.ref r :: over rs).contains (.type T) = exT.contains (.type T)
    rw [List.contains_cons, over_has T rs]
    rfl
theorem over_cons (r : Addr) (rs : List Addr) : Value.ref r :: over rs = over (r :: rs) := rfl
section
open Builtin Builtin.ObjectAttr
variable {prog : Program} {w : World} {A : Around} {E : Value → Shared → Prop} {R : Result → Shared → Prop} {hp : Heap} {g : Array GenState} {d : Drawn} {t : Nat} {os : OsState}
/-- the first field of such an exception -/
theorem first_field {K : W.Frag} {name : Str} {tk : Tok} {v : Value} {x C : Addr} {fv : Array Value} {cd : ClassData} {rs : List Addr}
    (inK : K.In hp) (here : hp.get? x = some { cls := .ref C, data := .fields fv }) (cls : W.clsIn K C = some cd) (mro : cd.mro = over rs) (dict : cd.hasDict = true) (none' : W.findIn K (.ref C) name = some none)
    (hq : ∀ h' tk' dx, (∀ b o, b ≠ x → hp.get? b = some o → h'.get? b = some o) → hp.objs.size ≤ dx → dx ≠ x → h'.get? x = some { cls := .ref C, dict := some dx, data := .fields fv } →
      h'.Ns1 dx (fun y => if y = name then some v else none) → R (.ok (.ret .none)) ⟨h', g, d, tk', os⟩) :
    codeAny (model prog w) A (.call (.builtin "object.__setattr__") ⟨[.ref x, .str name tk, v], []⟩) R ⟨hp, g, d, t, os⟩ := by
  have inst : W.InstAt hp x { cls := .ref C, data := .fields fv } C none := ⟨here, rfl, rfl, trivial⟩
  have facts := F.store_object
  have isObj : cd.mro.contains (.type "object") = true := by rw [mro, over_has]; decide +kernel
  have notEmpty : cd.mro.isEmpty = false := by rw [mro]; cases rs <;> rfl
  have apart : x ≠ hp.objs.size := Nat.ne_of_lt (Heap.lt_size here)
  have sub : W.Looks (model prog w) hp (isInstance (.ref x) (.type "object")) true := inst.type.andThen (W.looks_mroIn inK (by unfold W.mroIn; rw [cls, Option.bind_some, if_neg (by rw [notEmpty]; decide), isObj]))
  apply codeAny_call_builtin facts.slot.plain facts.entry (@W.check_slot (model prog w) _ _ ⟨hp, g, d, t, os⟩ "object.__setattr__" "object" "__setattr__" (.ref x) [.str name tk, v] [] _ facts.kind facts.split sub (facts.args (.ref x) (.str name tk) v) ?_)
  have looksMro : W.Looks (model prog w) hp (mroOf (.ref C)) cd.mro := (W.looks_clsIn inK cls).andThen .now
  have noTaker : W.Looks (model prog w) hp (storeTaker? none) none := .now
  have looksCls : W.Looks (model prog w) hp (classData C) cd := W.looks_clsIn inK cls
  rw [W.osa_eq, refuse_eq]
  refine wpAny_bind (wpAny_bind (inst.type.at (wpAny_bind (looksMro.at ?_))))
  rw [mro, over_pass]
  refine wpAny_pure (wpAny_bind (inst.type.at (wpAny_bind ((W.looks_findIn inK none').at (wpAny_bind (noTaker.at ?_))))))
  show wpAny _ _ (storeInOwnDict (.ref x) (.ref C) (.str name tk) name v false) _ _ _
  obtain ⟨nm, bs, mr, ns, qn, hd, sn, sb, ab, col, del⟩ := cd
  dsimp only at dict
  subst dict
  unfold storeInOwnDict ownDictForStores
  repeat (first | with_reducible refine store_in_new ?_ ?_ | with_reducible refine wpAny_loadPart_at here ?_ | with_reducible refine looksCls.at ?_ | wp_step)
  · exact ⟨_, #[], _, (Heap.get?_update_ne _ _ _ _ apart.symm).trans (Heap.get?_push_at rfl rfl), rfl, fun e he => absurd he (by simp), fun _ => rfl⟩
  · intro h' tk' named same
    have still : (hp.push { cls := .type "dict", data := .dict #[] }).get? x = some { cls := .ref C, data := .fields fv } := Heap.get?_push_of_some _ here
    apply hq h' tk' hp.objs.size ?_ (Nat.le_refl _) apart.symm ?_ named
    · intro b o hb ho
      exact (same.2 b (Nat.ne_of_lt (Heap.lt_size ho))).trans ((Heap.get?_update_ne _ _ _ _ hb).trans (Heap.get?_push_of_some _ ho))
    · exact (same.2 x apart).trans (Heap.get?_update_self _ still rfl)
end
end SwE
end PySem
namespace Sw
open PySem PySem.Spec PyProof.Rows L2 PySem.SwE
/-- what the written part says of an own exception class over Exception -/
structure OexE (K : PySem.W.Frag) (C : Addr) : Prop where
  cls : ∃ nm q N bs rs sn sub ab col dd k0 k1 k2 k3 k5, K.lookup C = some (excClassObj nm q C N bs (over rs) true sn sub ab col dd k0 k1 k2 k3 k5 "Exception.__new__")
  sa : PySem.W.findIn K (.ref C) "__setattr__" = some (some (.builtin "object.__setattr__"))
  exC : PySem.W.subIn K (.ref C) (.type "BaseException") = some true
  tyC : PySem.W.typeIn K (.ref C) = some (.type "type")
  kC : PySem.W.keepIn K (.ref C) = true
section
variable {X : Cx} {pins : List (Addr × Obj)} {σ : L2.St} {H : Hp} {s : Shared} {a C dx : Addr} {f : Str} {y : V} {u : Value} {fs : List (Str × V)} {Q : Unit → Shared → Prop} {E : Value → Shared → Prop} {A : Around}
theorem field_new (T : OexE X.K C) (I : Inv X pins σ H s) (e : H a = some (exo a C none)) (no : PySem.W.findIn X.K (.ref C) f = some none) (ry : RelV y u)
    (h : ∀ dx s', H dx = none → dx ≠ a → Inv X pins σ (upd (upd H dx (exd dx [(f, y)])) a (exo a C (some dx))) s' → Q () s') : wpAny (model X.prog X.w) A (setAttr (.ref a) f u) Q E s := by
  obtain ⟨nm, q, N, bs, rs, sn, sub, ab, col, dd, k0, k1, k2, k3, k5, hC⟩ := T.cls
  have data : PySem.W.clsIn X.K C = some { name := nm, bases := bs, mro := .ref C :: over rs, ns := N, qualname := q, hasDict := true, slotNames := sn, subclasses := sub, abstract := ab, collection := col, hasDel := false } := by
    unfold PySem.W.clsIn
    rw [hC] <;> rfl
  obtain ⟨t1, there⟩ := exo_at I.hok e
  obtain ⟨hp, g, d, t, os⟩ := s
  apply PySem.W.set_plain I.kIn (ox := { cls := .ref C, dict := none, data := .fields #[.ref t1, .none, .none, .none, .bool false, .none] }) (od := none) ⟨there, rfl, rfl, trivial⟩ T.sa
  apply first_field I.kIn there data (over_cons C rs) rfl no
  intro h' tk' dx keep new apart now named
  have free : H dx = none := I.hok.fresh new
  have notNew : ∀ {b : Addr} {o : Obj}, hp.get? b = some o → b ≠ dx := fun z => Nat.ne_of_lt (Nat.lt_of_lt_of_le (Heap.lt_size z) new)
  have notIt : ∀ {b : Addr}, H b = none → b ≠ a := by
    rintro b n rfl
    rw [e] at n
    cases n
  have un : Un X.fs [] H (upd (upd H dx (exd dx [(f, y)])) a (exo a C (some dx))) hp h' := by
    constructor
    · exact fun b o z n _ _ => keep b o (notIt n) z
    · exact fun b o z n _ _ => ⟨o.slots, keep b o (notIt n) z⟩
    · intro b o z n _
      rw [upd_ne (notIt n), upd_ne (notNew z)]
      exact n
    · intro b o z _
      by_cases c : b = a
      · exact ⟨_, by rw [c]; exact now⟩
      · exact ⟨o, keep b o c z⟩
    · intro b xs z
      rw [upd_ne (at_ne e z exo_tup), upd_ne (ne_of_none z free)]
      exact z
    · intro b o v z
      rw [upd_ne (at_ne e z exo_frz), upd_ne (ne_of_none z free)]
      exact z
    · exact fun b ps z => ⟨#[], by rw [upd_ne (at_ne e z exo_tbl), upd_ne (ne_of_none z free), z]; simp⟩
  apply h dx _ free apart
  apply I.un (t' := tk') un
  intro b o z
  by_cases c : b = a
  · subst c
    rw [upd_same] at z
    cases z
    exact exo_ok now
  · rw [upd_ne c] at z
    by_cases c2 : b = dx
    · subst c2
      rw [upd_same] at z
      cases z
      exact exd_ok named (relO_put (fs := []) ry fun g => True.intro)
    · rw [upd_ne c2] at z
      apply (I.hok b o z).stay
      · intro cc v hc zz
        apply keep cc v _ zz
        rcases hc with hc | hc
        · rw [hc]; exact c
        · exact at_ne e hc exo_own
      · intro cc hc
        rw [upd_ne (at_ne e hc exo_own), upd_ne (ne_of_none hc free)]
        exact hc
      · intro cc xs hc
        rw [upd_ne (at_ne e hc exo_tup), upd_ne (ne_of_none hc free)]
        exact hc
/-- Exception.__init__(self, ..): nothing of it is told -/
theorem init_plain {us : List Value} {R : Value → Shared → Prop} (T : OexE X.K C) (I : Inv X pins σ H s) (e : H a = some (exo a C none)) (few : us.length ≤ sizeLine) (h : ∀ s', Inv X pins σ H s' → R .none s') :
    wpAny (model X.prog X.w) A (call (.builtin "Exception.__init__") (.ref a :: us)) R E s := by
  obtain ⟨nm, q, N, bs, rs, sn, sub, ab, col, dd, k0, k1, k2, k3, k5, hC⟩ := T.cls
  obtain ⟨t1, there⟩ := exo_at I.hok e
  obtain ⟨hp, g, d, t, os⟩ := s
  apply wpAny_call (PySem.HandSPX.init_base F.excBase_Exception (fun Y => over_has Y rs) (I.kIn _ _ hC) there few ?_)
  intro h' t2 keep now
  have J := I.write (t' := t) (x := a) (e := a) (o := exo a C none) (by rw [e]; exact True.intro) (.inl rfl) keep ⟨_, now⟩ (exo_ok now)
  have same : upd H a (exo a C none) = H := by
    funext b
    by_cases c : b = a
    · rw [c, upd_same, e]
    · rw [upd_ne c]
  rw [same] at J
  exact h _ J
end
/-- B.__init__(self, ..), B's own one being Exception's -/
def tInit (K : PySem.W.Frag) (ta : TA) : TE := fun σ H Q => ta σ H fun vs H1 => ∃ (a C : Addr) (ws : List V), vs = .ref a :: ws ∧ ws.length ≤ 1000 ∧ OexE K C ∧ H1 a = some (exo a C none) ∧ Q .non H1
/-- self.f = e, the first field -/
def tFst (K : PySem.W.Frag) (f : Str) (to te : TE) : TS := fun D σ H => te σ H fun y H1 => to σ H1 fun x H2 => ∃ a C : Addr, x = .ref a ∧ OexE K C ∧ PySem.W.findIn K (.ref C) f = some none ∧
  H2 a = some (exo a C none) ∧ ∀ dx, H2 dx = none → dx ≠ a → D.nx σ (upd (upd H2 dx (exd dx [(f, y)])) a (exo a C (some dx)))
section
variable {X : Cx} {o e : Expr} {es : List Expr} {to te : TE} {ta : TA} {f : Str} {p p' p1 p2 pos : Pos}
theorem ps_fst (ho : PE X o to) (he : PE X e te) (hs : swapsWith e (some (.Attribute o f p')) pos.line X.env = pure false := by rfl) : PS X (.Assign [.Attribute o f p'] e pos) (tFst X.K f to te) := by
  constructor
  intro pins s σ H D I h
  apply plainObj_wpAny_Assign_Attribute (thn (he.run pins s σ H _ I h) fun v s1 ⟨y, H1, I1, r1, q1⟩ => thn (ho.run pins s1 σ H1 _ I1 q1) fun u s2 ⟨x, H2, I2, r2, a, C, ex, T, no, ea, q⟩ => ?_) hs
  subst ex
  obtain rfl : u = Value.ref a := r2
  exact field_new T I2 ea no r1 fun dx s' n ne J => ⟨σ, _, J, q dx n ne⟩
theorem ps_init {x : Str} {B : Addr} {pl : Sem Bool} (hg : Gl X x) (hm : X.mg x = some (.ref B)) (ga : PySem.W.specialIn X.K (.ref B) "__getattribute__" = some (some (.builtin "type.__getattribute__"))) (tyB : PySem.W.typeIn X.K (.ref B) = some (.type "type"))
    (rd : PySem.W.readsIn X.K B (.type "type") = true) (fi : PySem.W.findCls X.K (.ref B) (.type "type") "__init__" = some (.val (.builtin "Exception.__init__"))) (ha : PA X (e :: es) ta)
    (hc : eval (.Call (.Attribute (.Name x p1) "__init__" p2) (e :: es) [] pos) X.env = (do
      let ov ← eval (.Name x p1) X.env
      standAt p2.atName
      let (f, first) ← holding [ov] (getMethod ov "__init__" pl)
      callWith pos f first (backTo pos (starEach (e :: es) X.env)) (backToKw pos (keywordEach [] X.env))) := by rfl)
    (hdb : (x == ("__debug__" : Str)) = false := by decide)
    (he : starEach (e :: es) X.env = (false, eval e X.env) :: starEach es X.env := by rfl) (hpl : (backTo pos (starEach es X.env)).any (·.1) = false := by rfl) :
    PE X (.Call (.Attribute (.Name x p1) "__init__" p2) (e :: es) [] pos) (tInit X.K ta) := by
  constructor
  intro pins s σ H Q I h
  apply PySem.W.methodCall_KW (ld_glob I hg hm ?_ hdb) hc
  apply PySem.W.method_cls I.kIn ga
  apply PySem.W.cls_value I.kIn rd fi (by decide +kernel)
  show wpAny _ _ (callWith pos (Value.builtin "Exception.__init__") [] (backTo pos (starEach (e :: es) X.env)) []) _ _ _
  apply PyProof.Rows.callWith_method1 (thn (ha.run pos pins _ σ H _ (I.tok _) h) fun us s1 ⟨vs, H1, I1, r1, a, C, ws, ev, hl, T, ea, q⟩ => ?_) he hpl
  subst ev
  cases r1 with
  | @cons _ u0 _ ur ra rest =>
    obtain rfl : u0 = Value.ref a := ra
    have few : ur.length ≤ sizeLine := by
      rw [← Paired.length rest, sizeLine_eq]
      omega
    exact init_plain T I1 ea few fun s' J => ⟨.non, H1, J, rfl, q⟩
end
end Sw
namespace Sw
open PySem PySem.Spec PyProof.Rows L2 PySem.SwE
section
variable {X : Cx} {e : Expr} {es : List Expr} {ta : TA} {p pos : Pos} {CX : CXT} {x : Str} {C fI : Addr} {k : Nat} {fd : FuncData} {ps : List Str} {sp : Sp}
/-- C(e, ..), C an own exception class over Exception whose __init__ keeps sp -/
theorem pmk_E (T : OexE X.K C) (iC : PySem.W.findIn X.K (.ref C) "__init__" = some (some (.ref fI))) (tI : PySem.W.typeIn X.K (.ref fI) = some (.type "function")) (F1 : FnOk X.prog X.w X.K X.mg X.base CX k fI fd ps sp) (room : Room (k + 1) X.A) (bd : Binds X.K fd ps [])
    (px : Passes CX X E0) (hm : X.mg x = some (.ref C)) (ha : PA X (e :: es) ta) (hg : Gl X x := by rfl)
    (hdb : (x == ("__debug__" : Str)) = false := by decide) (he : starEach (e :: es) X.env = (false, eval e X.env) :: starEach es X.env := by rfl) (hpl : (backTo pos (starEach es X.env)).any (·.1) = false := by rfl) :
    PMk X (.Call (.Name x p) (e :: es) [] pos) (tMkO C sp [] ta) := by
  intro pins s σ H Q I h
  obtain ⟨nm, q, N, bs, rs, sn, sub, ab, col, dd, k0, k1, k2, k3, k5, hC⟩ := T.cls
  refine wpAny_Call_Name_kw (ld_glob I hg hm ?_ hdb)
  refine PySem.W.callWith_K (h₀ := X.base) I.ok.mod.kin T.kC (thn (ha.run pos pins s σ H _ I h) fun us s1 ⟨vs, H1, I1, r1, few, q1⟩ => ⟨I1.kIn, ?_⟩) he hpl
  show wpAny _ _ (call (.ref C) us) _ _ _
  obtain ⟨hp, g, dr, tk, os⟩ := s1
  have le : hp.objs.size ≤ hp.objs.size + 1 := Nat.le_succ _
  have free : H1 (hp.objs.size + 1) = none := I1.hok.fresh le
  have said := q1 (hp.objs.size + 1) free
  have keep : ∀ b o, hp.get? b = some o → ((hp.push (PySem.W.kdv_tup us)).push (PySem.HandSPX.excO C hp.objs.size)).get? b = some o := fun b o z => Heap.get?_push_of_some _ (Heap.get?_push_of_some _ z)
  have made : ((hp.push (PySem.W.kdv_tup us)).push (PySem.HandSPX.excO C hp.objs.size)).get? (hp.objs.size + 1) = some (PySem.HandSPX.excO C hp.objs.size) := by heap_get
  have I2 : Inv X pins σ (upd H1 (hp.objs.size + 1) (exo (hp.objs.size + 1) C none)) ⟨(hp.push (PySem.W.kdv_tup us)).push (PySem.HandSPX.excO C hp.objs.size), g, dr, tk, os⟩ :=
    I1.laid (t' := tk) (a := hp.objs.size + 1) (o := exo (hp.objs.size + 1) C none) (h' := (hp.push (PySem.W.kdv_tup us)).push (PySem.HandSPX.excO C hp.objs.size)) keep le (exo_ok made)
  have both : Vals (V.ref (hp.objs.size + 1) :: (vs ++ [])) (Value.ref (hp.objs.size + 1) :: (us ++ [])) := .cons rfl (r1.append .nil)
  have count : (Value.ref (hp.objs.size + 1) :: us ++ []).length = ps.length := by
    have z := both.length
    rw [F1.len _ _ _ _ said] at z
    exact z.symm
  have bound := bd _ (Value.ref (hp.objs.size + 1) :: us) I2.kIn count
  rw [List.cons_append] at bound
  have few' : us.length ≤ sizeLine := by
    rw [← Paired.length r1, sizeLine_eq]
    omega
  refine wpAny_call (PySem.HandSPX.call_own F.excBase_Exception (fun Y => over_has Y rs) (I1.kIn _ _ hC) (PySem.W.looks_findIn I1.kIn iC) (fun self => PySem.W.bind_fn I1.kIn self tI) few' (codeAny_mono (F1.run _ X.stack _ _ ⟨Value.ref (hp.objs.size + 1) :: us, []⟩ (Value.ref (hp.objs.size + 1) :: (us ++ [])) _ _ E0
    (room.make C us []) (I2.env0.make C us []) bound both said) fun r s' z => ?_))
  rcases r with er | fl
  · exact px pins σ _ _ er s' I2 z
  · cases fl with
    | next => exact z.elim
    | brk => exact z.elim
    | cont => exact z.elim
    | ret u =>
      obtain ⟨v, H2, os2, bare, un, ok, rv, ev, d, fs, ea, ed, hd1, q2⟩ := z
      subst ev
      obtain ⟨h2, g2, d2, t2, os'⟩ := s'
      exact ⟨rv, mk_end (raises_own T.exC T.tyC) I1 le keep un ok os2 bare ea ed hd1 q2⟩
end
end Sw
namespace Sw
open PySem PySem.Spec PyProof.Rows L2 PySem.SwE
/-! ### defs that may let out an exception -/
theorem Fun.okX {P : Program} {w : World} {K : PySem.W.Frag} {mg : Str → Option Value} {base : Heap} {k : Nat} {f : Addr} {fd : FuncData} {ps : List Str} {sp : Sp} {x qual : Str} {st : Stmt} {N : List Str} (F : Fun K x qual st f fd) (S : FnScope N ps (defScope st)) (len : ∀ xs M R X, sp xs M R X → xs.length = ps.length)
    (body : ∀ (cdv : Value) (A : Around) (out : List Env) (t : Shared) (M : Hp) (xs : List V) (R : VK) (E : XK), Room k (A.deeper (envOfC qual (defScope st) t.heap.objs.size f cdv)) → sp xs M R E →
      Takes (cxOf (L2.CX P w) P w K mg base N qual (defScope st) f cdv A out t M E) (fun cls d _ M' => E cls d M') →
      ∃ r, PSs (cxOf (L2.CX P w) P w K mg base N qual (defScope st) f cdv A out t M E) (defBody st) r ∧ r { nx := fun _ M' => R .non M', rt := R } (start N xs) M) : FnOk P w K mg base (L2.CX P w) (k + 1) f fd ps sp := by
  obtain ⟨oc, od, kV, doc, pm, an, cdv, ct, osl, rfl, found, coded⟩ := F.ex
  exact fn_of found coded S len fun A out t M xs R E room prom => body cdv A out t M xs R E room prom (takes_of rfl rfl rfl rfl)
section
variable (P : Program) (w : World) (K : PySem.W.Frag) (mg : Str → Option Value) (base : Heap)
def CalX (x : Str) (ps : List Str) (k : Nat) (sp : Sp) : Prop := ∃ (f : Addr) (fd : FuncData), FnOk P w K mg base (L2.CX P w) k f fd ps sp ∧ mg x = some (.ref f) ∧ PySem.W.keepIn K (.ref f) = true ∧ Binds K fd ps []
def CalKX (x : Str) (ps : List Str) (k : Nat) (sp : Sp) (ks : List Str) (g : List Value → List Value → List Value) (gV : List V → List V → List V) : Prop := ∃ (f : Addr) (fd : FuncData), FnOk P w K mg base (L2.CX P w) k f fd ps sp ∧ mg x = some (.ref f) ∧ PySem.W.keepIn K (.ref f) = true ∧ KBinds K fd ps ks g gV
end
section
variable {P : Program} {w : World} {K : PySem.W.Frag} {mg : Str → Option Value} {base : Heap} {x : Str} {st : Stmt} {ps ks : List Str} {k : Nat} {sp : Sp}
theorem Def.calX (d : Def K mg x st)
    (b : ∀ (kV doc pm : Value) (an : Option Addr) (cdv ct : Value) (us : List Value), us.length = ps.length → bindArgs (PySem.W.fnOf x x (defArgs st) (defBody st) (defScope st) .none kV doc pm an cdv ct) ⟨us, []⟩ = pure (ps.zip us))
    (ok : ∀ (f : Addr) (fd : FuncData), Fun K x x st f fd → FnOk P w K mg base (L2.CX P w) k f fd ps sp) : CalX P w K mg base x ps k sp := by
  obtain ⟨f, fd, F, m⟩ := d
  exact ⟨f, fd, ok f fd F, m, F.kp, F.binds b⟩
theorem Def.calKX {g : List Value → List Value → List Value} {gV : List V → List V → List V} (d : Def K mg x st)
    (b : ∀ (kV doc pm : Value) (an : Option Addr) (cdv ct : Value) (us ws : List Value), (g us ws).length = ps.length → bindArgs (PySem.W.fnOf x x (defArgs st) (defBody st) (defScope st) .none kV doc pm an cdv ct) ⟨us, ks.zip ws⟩ = pure (ps.zip (g us ws)))
    (rel : ∀ {vs : List V} {us : List Value} {zs : List V} {ws : List Value}, Vals vs us → Vals zs ws → Vals (gV vs zs) (g us ws))
    (ok : ∀ (f : Addr) (fd : FuncData), Fun K x x st f fd → FnOk P w K mg base (L2.CX P w) k f fd ps sp) : CalKX P w K mg base x ps k sp ks g gV := by
  obtain ⟨f, fd, F, m⟩ := d
  have O := ok f fd F
  have kp := F.kp
  obtain ⟨oc, od, kV, doc, pm, an, cdv, ct, osl, rfl, lk, hcd⟩ := F.ex
  exact ⟨f, _, O, m, kp, fun s us ws _ hl => .of_eq (b kV doc pm an cdv ct us ws hl), rel⟩
end
def tKwS (sp : Sp) (gV : List V → List V → List V) (E : L2.St → XK) (tk : TA) : TE := fun σ H Q => tk σ H fun zs H1 => sp (gV [] zs) H1 Q (E σ)
section
variable {X : Cx} {x : Str} {ps ks : List Str} {k n : Nat} {sp : Sp} {e : Expr} {es : List Expr} {t : TA} {p pos : Pos} {W : WX} {g : List Value → List Value → List Value} {gV : List V → List V → List V} {kws : List Keyword}
theorem pe_calX (c : CalX X.prog X.w X.K X.mg X.base x ps k sp) (hr : Room n X.A) (tk : Takes X W) (ha : PA X (e :: es) t) (hg : Gl X x := by rfl) (hk : k ≤ n := by decide)
    (hdb : (x == ("__debug__" : Str)) = false := by decide) (he : starEach (e :: es) X.env = (false, eval e X.env) :: starEach es X.env := by rfl) (hpl : (backTo pos (starEach es X.env)).any (·.1) = false := by rfl) :
    PE X (.Call (.Name x p) (e :: es) [] pos) (tCallS sp (WE W) t) := by
  obtain ⟨f, fd, F, m, kp, b⟩ := c
  exact pe_callS F (hr.mono hk) hg m kp b (passAt tk) ha hdb he hpl
theorem i_callS {σ : L2.St} {H : Hp} {Q : VK} {E : L2.St → XK} (h : t σ H fun vs H1 => sp vs H1 Q (E σ)) : tCallS sp E t σ H Q := h
theorem pe_calKX (c : CalKX X.prog X.w X.K X.mg X.base x ps k sp ks g gV) (hr : Room n X.A) (tk : Takes X W) (hkw : PK X kws t) (hg : Gl X x := by rfl) (hk : k ≤ n := by decide)
    (hall : (backToKw pos (keywordEach kws X.env)).all (·.1.isSome) = true := by rfl) (hks : (backToKw pos (keywordEach kws X.env)).filterMap (·.1) = ks := by rfl) (hdb : (x == ("__debug__" : Str)) = false := by decide)
    (hpl : ((backTo pos (starEach [] X.env)).any (·.1) || (backToKw pos (keywordEach kws X.env)).any (·.1.isNone)) = false := by rfl) :
    PE X (.Call (.Name x p) [] kws pos) (tKwS sp gV (WE W) t) := by
  obtain ⟨f, fd, F, m, kp, b⟩ := c
  constructor
  intro pins s σ H Q I h
  apply wpAny_Call_Name_kw (ld_glob I hg m ?_ hdb)
  refine PySem.W.callWith_KW0 (h₀ := X.base) I.ok.mod.kin kp hall (thn (hkw.run pos pins s σ H _ I h) fun ws s2 ⟨zs, H2, I2, rz, q⟩ => ⟨I2.kIn, ?_⟩) hpl
  rw [hks]
  have rel := b.rel (vs := []) (us := []) .nil rz
  have count : (g [] ws).length = ps.length := by rw [← rel.length]; exact F.len _ _ _ _ q
  apply wpAny_call
  apply codeAny_mono (F.run X.A X.stack s2 H2 ⟨[], ks.zip ws⟩ (g [] ws) (gV [] zs) Q (WE W σ) (hr.mono hk) I2.env0 (b.to s2 [] ws I2.kIn count) rel q)
  intro o s' z
  rcases o with er | fl
  · exact passAt tk σ pins H2 s2 er s' I2 z
  · cases fl with
    | ret u => exact I2.after z
    | next => exact z.elim
    | brk => exact z.elim
    | cont => exact z.elim
theorem i_kwS {σ : L2.St} {H : Hp} {Q : VK} {E : L2.St → XK} (h : t σ H fun zs H1 => sp (gV [] zs) H1 Q (E σ)) : tKwS sp gV E t σ H Q := h
end
theorem takes_none {X : Cx} : Takes X (fun _ _ _ _ => False) := fun u s' z => by
  obtain ⟨a, B, sI, pins, σ, H, cls, d, e, I, nb, up, sky, na, os, ag, w⟩ := z
  exact w.elim
end Sw
namespace Sw
open PySem PySem.Spec PyProof.Rows L2 PySem.SwE
/-- InvalidText.__init__(self, given) -/
def spInit (K : PySem.W.Frag) : Sp := fun vs H Q _ => ∃ (a C : Addr) (v : V), vs = [.ref a, v] ∧ H a = some (exo a C none) ∧ OexE K C ∧ PySem.W.findIn K (.ref C) "given" = some none ∧
  ∀ dx, H dx = none → dx ≠ a → Q .non (upd (upd H dx (exd dx [("given", v)])) a (exo a C (some dx)))
/-- what the written part says of the class that is called over -/
structure Over (K : PySem.W.Frag) (mg : Str → Option Value) (B : Addr) : Prop where
  hm : mg "CodecError" = some (.ref B)
  ga : PySem.W.specialIn K (.ref B) "__getattribute__" = some (some (.builtin "type.__getattribute__"))
  ty : PySem.W.typeIn K (.ref B) = some (.type "type")
  rd : PySem.W.readsIn K B (.type "type") = true
  fi : PySem.W.findCls K (.ref B) (.type "type") "__init__" = some (.val (.builtin "Exception.__init__"))
theorem i_init {K : PySem.W.Frag} {ta : TA} {σ : L2.St} {H : Hp} {Q : VK} (h : ta σ H fun vs H1 => ∃ (a C : Addr) (ws : List V), vs = .ref a :: ws ∧ ws.length ≤ 1000 ∧ OexE K C ∧ H1 a = some (exo a C none) ∧ Q .non H1) : tInit K ta σ H Q := h
theorem i_fst {K : PySem.W.Frag} {f : Str} {to te : TE} {D : Ends} {σ : L2.St} {H : Hp} (h : te σ H fun y H1 => to σ H1 fun x H2 => ∃ a C : Addr, x = .ref a ∧ OexE K C ∧ PySem.W.findIn K (.ref C) f = some none ∧
  H2 a = some (exo a C none) ∧ ∀ dx, H2 dx = none → dx ≠ a → D.nx σ (upd (upd H2 dx (exd dx [(f, y)])) a (exo a C (some dx)))) : tFst K f to te D σ H := h
/-- the class InvalidText, as it stands behind the top -/
structure XT (P : Program) (w : World) (K : PySem.W.Frag) (mg : Str → Option Value) (base : Heap) (C : Addr) : Prop where
  T : OexE K C
  xf : XfC K C
  no : PySem.W.findIn K (.ref C) "given" = some none
  hm : mg "InvalidText" = some (.ref C)
  me : PySem.W.exmOne K (.ref C) (.ref C) = some true
  ini : ∃ (fI : Addr) (fd : FuncData), PySem.W.findIn K (.ref C) "__init__" = some (some (.ref fI)) ∧ PySem.W.typeIn K (.ref fI) = some (.type "function") ∧ FnOk P w K mg base CX0 1 fI fd ["self", "given"] (spInit K) ∧ Binds K fd ["self", "given"] []
theorem pmk_T {X : Cx} {C : Addr} {n : Nat} {e : Expr} {te : TE} {p pos : Pos} (xt : XT X.prog X.w X.K X.mg X.base C) (hr : Room n X.A) (he : PE X e te) (hn : 2 ≤ n := by decide) (hg : Gl X "InvalidText" := by rfl)
    (he2 : starEach [e] X.env = (false, eval e X.env) :: starEach [] X.env := by rfl) : PMk X (.Call (.Name "InvalidText" p) [e] [] pos) (tMkO C (spInit X.K) [] (tCons te tNil)) := by
  obtain ⟨fI, fd, h1, h2, h3, h4⟩ := xt.ini
  exact pmk_E xt.T h1 h2 h3 (hr.mono hn) h4 pass0 xt.hm (pa_cons he pa_nil he2) hg (by decide) he2 (by rfl)
def Thrown (K : PySem.W.Frag) (C : Addr) (vs : List V) (H1 : Hp) (Q : XK) : Prop := vs.length ≤ 1000 ∧ ∀ a, H1 a = none → spInit K (.ref a :: (vs ++ [])) (upd H1 a (exo a C none))
  (fun v H2 => v = .non ∧ ∃ (d : Addr) (fs : List (Str × V)), H2 a = some (exo a C (some d)) ∧ H2 d = some (exd d fs) ∧ H1 d = none ∧ Q (.ref C) (some d) (upd (del H2 a) d (.xd fs))) (fun _ _ _ => False)
theorem i_mk {K : PySem.W.Frag} {C : Addr} {ta : TA} {σ : L2.St} {H : Hp} {Q : XK} (h : ta σ H fun vs H1 => Thrown K C vs H1 Q) : tMkO C (spInit K) [] ta σ H Q := h
def tRs (t : L2.St → Hp → XK → Prop) (W : WX) : TS := fun _ σ H => t σ H fun cls d H' => W cls d σ H'
theorem ps_rs {X : Cx} {W : WX} {e : Expr} {t : L2.St → Hp → XK → Prop} {pos : Pos} (hc : X.calm = true) (tk : Takes X W) (he : PMk X e t) : PS X (.Raise (some e) none pos) (tRs t W) := L2.ps_raise hc tk he
theorem i_raise {t : L2.St → Hp → XK → Prop} {W : WX} {D : Ends} {σ : L2.St} {H : Hp} (h : t σ H fun cls d H' => W cls d σ H') : tRs t W D σ H := h
theorem i_thrown {K : PySem.W.Frag} {C : Addr} {v : V} {H1 : Hp} {Q : XK} (T : OexE K C) (no : PySem.W.findIn K (.ref C) "given" = some none) (h : ∀ dx, H1 dx = none → Q (.ref C) (some dx) (upd H1 dx (.xd [("given", v)]))) : Thrown K C [v] H1 Q := by
  refine ⟨by simp, fun a na => ⟨a, C, v, rfl, upd_same, T, no, fun dx nx ne => ⟨rfl, dx, [("given", v)], upd_same, ?_, ?_, ?_⟩⟩⟩
  · rw [upd_ne ne, upd_same]
  · rw [upd_ne ne] at nx; exact nx
  · rw [upd_ne ne] at nx
    have e : upd (del (upd (upd (upd H1 a (exo a C none)) dx (exd dx [("given", v)])) a (exo a C (some dx))) a) dx (.xd [("given", v)]) = upd H1 dx (.xd [("given", v)]) := by
      funext b
      by_cases c : b = dx
      · rw [c, upd_same, upd_same]
      · rw [upd_ne c, upd_ne c]
        by_cases c2 : b = a
        · rw [c2, del_same, na]
        · rw [del_ne c2, upd_ne c2, upd_ne c, upd_ne c2]
    rw [e]
    exact h dx nx
theorem i_dnew {σ : L2.St} {H : Hp} {Q : VK} (h : ∀ p, H p = none → Q (.ref p) (upd H p (.dK []))) : tDNewK σ H Q := h
end Sw
namespace Sw
open PySem PySem.Spec PyProof.Rows L2
/-! ### try with several clauses that name the error -/
inductive AsOk (X : Cx) (Wo : WX) : List ExceptHandler → (Ends → WX) → Prop
  | nil : AsOk X Wo [] fun _ => Wo
  | cons {x n : Str} {c : Value} {i : Nat} {ts : Addr → Value → Option Addr → TS} {st : Stmt} {more : List Stmt} {p1 p2 : Pos} {hds : List ExceptHandler} {W : Ends → WX}
      (hi : X.N[i]? = some n) (hl : X.env.kindOf n = some .local) (hc : Names X x c)
      (su : ∀ (a : Addr) (o : Obj) (cls : Value) (d : Option Addr) (pn : List (Addr × Obj)), Zc cls d o → (∃ vs, o.data = .fields vs) → PSs (X.suite a ((a, o) :: pn)) (st :: more) (ts a cls d))
      (rest : AsOk X Wo hds W) : AsOk X Wo (.ExceptHandler (some (.Name x p1)) (some n) (st :: more) p2 :: hds) fun D => wAs X.K c i ts (W D) D
theorem ps_tries {X : Cx} {Wo : WX} {W : Ends → WX} {body : List Stmt} {h₀ : ExceptHandler} {hds : List ExceptHandler} {pos : Pos} {tb : WX → TS} (hs : X.stack = X.env :: X.outer) (hf : X.env.frame = some X.env.locals) (nd : X.N.Nodup) (tk : Takes X Wo)
    (hb : ∀ (V : WX) (pn : List (Addr × Obj)) (xe : Value → Shared → Prop), Takes (X.tr pn xe) V → PassesOwn (model X.prog X.w) X.A X.env xe → PSs (X.tr pn xe) body (tb V))
    (hh : AsOk X Wo (h₀ :: hds) W) : PS X (.Try body (h₀ :: hds) [] [] pos) fun D σ H => tb (W D) D σ H := by
  constructor
  intro pins s σ H D I h
  have ok := I.ok
  have fr : X.A.frames = some (X.env :: X.outer) := by rw [← hs]; exact ok.frames
  let after : Value → Shared → Prop := fun e s₁ => wpAny (model X.prog X.w) X.A (noteFrame e X.env) (fun _ s₂ => wpAny (model X.prog X.w) X.A (setFlight e none) (fun _ s₃ => wpAny (model X.prog X.w) X.A (handleBy e X.env (h₀ :: hds)) (SP X pins D) X.xe s₃) X.xe s₂) X.xe s₁
  have run := (hb (W D) (X.pn ++ pins) after (fun u s' air => ?_) PassesOwn.looking).run [] s σ H D (I.toTry _) h
  · refine wpAny_Try_except (wpAny_mono run (fun f s1 z => ?_) fun _ _ z => z)
    cases f <;> obtain ⟨_, _, z⟩ := z
    · exact wpAny_execs_nil ⟨_, _, z.1.ofTry ok, z.2⟩
    · exact ⟨_, _, z.1.ofTry ok, z.2⟩
    · exact ⟨_, _, z.1.ofTry ok, z.2⟩
    · obtain ⟨H', J, r, q⟩ := z
      exact ⟨_, _, _, J.ofTry ok, r, q⟩
  · obtain ⟨a, B, sI, pins', σ', H', cls, d, rfl, J0, nb, up, sky, na, os, ag, w⟩ := air
    have J := J0.ofTry ok
    show wpAny (model X.prog X.w) X.A (noteFrame (.ref a) X.env) _ _ _
    refine Sky.land Zc.steady fr hf (by rw [← hs]; exact sky) fun h3 fl3 up3 => ?_
    have J3 : Inv X pins σ' H' { s' with heap := h3 } := J.landed nb fl3.1 (up.trans up3) os ag
    obtain ⟨o3, vs3, ho3, z3, d3⟩ := fl3.there
    have out : a ∉ frs (X.env :: X.outer) := fun hm => by
      obtain ⟨_, o', e', hn⟩ := fl3.2.2.1.mem hm
      cases ho3.symm.trans e'
      exact hn _ d3
    have nL : a ≠ X.env.locals := fun z => out (List.mem_filterMap.mpr ⟨_, List.mem_cons_self, by rw [hf, z]⟩)
    have nF : a ∉ X.fs := fun hm => by
      obtain ⟨e, he, q⟩ := List.mem_filterMap.mp hm
      exact out (List.mem_filterMap.mpr ⟨e, List.mem_cons_of_mem _ he, q⟩)
    have S3 := J3.suite ho3 d3 na nL nF
    clear h
    revert w
    generalize h₀ :: hds = all at hh
    intro w
    induction hh with
    | nil =>
      refine wpAny_handleBy_nil ?_
      obtain ⟨_, _, _, o, vs, T, _, _, g1, _, g2, g3, _⟩ := id fl3
      unfold PySem.passOn
      refine wpAny_bind (wpAny_field g1 g2 g3 ?_)
      rw [if_neg (by simp : ¬ (Value.ref T == Value.none) = true)]
      have away : wpAny (model X.prog X.w) X.A (setFlight (.ref a) X.env.frame) (fun _ s4 => wpAny (model X.prog X.w) X.A (throw (.ref a) : Sem Flow) (SP X pins D) X.xe s4) X.xe { s' with heap := h3 } := by
        rw [hf]
        exact HandSPX.setFlight_upZ fl3 fun h4 hh4 up4 => wpAny_throw (tk _ _ ⟨a, B, sI, pins, σ', H', cls, d, rfl, J, nb, (up.trans up3).trans up4, .inr (.inr (by rw [hs]; exact hh4)), na, os, ag, w⟩)
      first | exact wpAny_bind (wpAny_pure (wpAny_bind away)) | exact wpAny_bind away
    | @cons x n c i ts st more p1 p2 hds W hi hl hc su rest ih =>
      obtain ⟨b, hb1, yes, no⟩ := w
      refine wpAny_handleBy_cons (codeAny_handlers_test ?_) (by intro q; cases q)
      have ty : PySem.W.Looks (model X.prog X.w) h3 (typeOf (.ref a)) cls := fun _ _ _ s k q => wpAny_typeOf_ref (k _ _ ho3) (by rw [z3.1]; exact q)
      have hit := PySem.W.exm_one (M := model X.prog X.w) J3.kIn ty hb1
      have name : ∀ {Q E : Value → Shared → Prop}, Q c { s' with heap := h3 } → wpAny (model X.prog X.w) (X.A.mark (some (.ref a))) (eval (.Name x p1) X.env) Q E { s' with heap := h3 } := fun q => by
        obtain ⟨hg, hd, ⟨hm⟩ | ⟨hm, hv, hn⟩⟩ := hc
        · exact ld_glob (X := X.suite a ((a, o3) :: (X.pn ++ pins))) S3 hg (by assumption) q hd
        · exact ld_blt (X := X.suite a ((a, o3) :: (X.pn ++ pins))) S3 hg hm hv q hn hd
      refine name (hit.here ?_)
      cases b with
      | false => exact ih (no rfl)
      | true =>
        refine codeAny_handlers_suite_as (HandSPX.lands_againZ fl3 fun h4 fl4 up4 => ?_)
        obtain ⟨o4, vs4, ho4, z4, d4⟩ := fl4.there
        have J4 : Inv X pins σ' H' { s' with heap := h4 } := J.landed nb fl4.1 ((up.trans up3).trans up4) os ag
        refine store_ok (X := X.suite a ((a, o4) :: (X.pn ++ pins))) (v := .ref a) (J4.suite ho4 d4 na nL nF) nd hi (.inl hl) rfl (fun s5 S5 => ?_) (.inr hl)
        refine wpAny_mono ((su a o4 cls d (X.pn ++ pins) z4 ⟨_, d4⟩).run [] s5 _ H' _ S5 (yes rfl a na)) (fun f s6 z => ?_) fun _ _ z => z.elim
        have bye : ∀ {σ6 : L2.St} {H6 : Hp} {Q : Shared → Prop}, Inv (X.suite a ((a, o4) :: (X.pn ++ pins))) [] σ6 H6 s6 → (∀ s7, Inv X pins (σ6.set i none) H6 s7 → Q s7) →
            wpAny (model X.prog X.w) X.A (do bindName X.env n .none; unbindBehindTheSuite X.env n p2) (fun _ s7 => Q s7) X.xe s6 := fun S6 hq => gone_ok (S6.unsuite ok) nd hi hl hq
        cases f <;> obtain ⟨_, _, z⟩ := z
        · exact bye z.1 fun s7 J7 => ⟨_, _, J7, z.2⟩
        · exact bye z.1 fun s7 J7 => ⟨_, _, J7, z.2⟩
        · exact bye z.1 fun s7 J7 => ⟨_, _, J7, z.2⟩
        · obtain ⟨H6, S6, r6, q6⟩ := z
          exact bye S6 fun s7 J7 => ⟨_, _, _, J7, r6, q6⟩
end Sw
namespace Sw
open PySem PySem.Spec PyProof.Rows L2
/-- isinstance(e, c), e the caught error, its fields at d -/
def rIsEd (K : PySem.W.Frag) (a : Addr) (cls : Value) (d : Option Addr) : List V → Hp → VK → Prop := fun xs H Q => ∃ (D c dd : Addr) (fs : List (Str × V)) (b : Bool), xs = [.ref a, .ref c] ∧ cls = .ref D ∧ ExcC K D ∧ d = some dd ∧ H dd = some (.xd fs) ∧ PySem.W.kitOne K (.ref D) (.ref c) = some b ∧ Q (.bl b) H
theorem call_isEd {X : Cx} {a : Addr} {oe : Obj} {cls : Value} {d : Option Addr} {pn : List (Addr × Obj)} (hz : Zc cls d oe) (hf : ∃ vs, oe.data = .fields vs) : CallR (X.suite a ((a, oe) :: pn)) (.builtin "isinstance") (rIsEd X.K a cls d) := by
  intro pins s σ H xs us Q I r h
  obtain ⟨D, c, dd, fs, b, rfl, rfl, C, rfl, ea, e, q⟩ := h
  cases r with
  | cons rx rr =>
    cases rr with
    | cons rt rr =>
      cases rr
      cases rx
      cases rt
      obtain ⟨hget, _⟩ := I.pin (a, oe) (List.mem_append.mpr (.inl List.mem_cons_self))
      obtain ⟨vs, hv⟩ := hf
      have hx : ObjOk X.prog X.w H s.heap dd (.xd fs) := I.hok dd _ ea
      obtain ⟨mA, hns, hr⟩ := hx
      obtain ⟨od, ho, hl⟩ := lookIn_ns hns
      have J : PySem.W.InstAt s.heap a oe D (some od) := ⟨hget, hz.1, by unfold PySem.W.notCls; rw [hv] <;> rfl, by rw [hz.2]; exact ho⟩
      exact PySem.W.kia_one (PySem.W.kitx_exc (by obtain ⟨cd, hc, _⟩ := PySem.W.any_some C.hd; rw [hc]; rfl) C.hg C.hk C.hs C.ha C.hn C.ht C.hm) I.kIn J e (fun z => nomatch z) fun tk => ⟨.bl b, H, I.kept (t' := tk) fun _ _ z => z, rfl, q⟩
end Sw
namespace Sw
open PySem PySem.Spec PyProof.Rows L2
/-! ### data with dicts in it -/
def keyD : Key → PyData
  | .inl i => .int i
  | .inr x => .str x
mutual
inductive De (K : PySem.W.Frag) (H : Hp) : V → PyData → Prop
  | non : De K H .non .none
  | bl (b : Bool) : De K H (.bl b) (.bool b)
  | int (i : Int) : De K H (.int i) (.int i)
  | str (x : Str) : De K H (.str x) (.str x)
  | lst {a : Addr} {xs : List V} {ds : List PyData} : H a = some (.lst xs) → sysModules < a → DeAll K H xs ds → De K H (.ref a) (.list ds)
  | tup {a : Addr} {xs : List V} {ds : List PyData} : SqT K H a xs → DeAll K H xs ds → De K H (.ref a) (.tuple ds)
  | dict {a : Addr} {kvs : List (Key × V)} {ds : List (PyData × PyData)} : H a = some (.dK kvs) → DeKv K H kvs ds → De K H (.ref a) (.dict ds)
inductive DeAll (K : PySem.W.Frag) (H : Hp) : List V → List PyData → Prop
  | nil : DeAll K H [] []
  | cons {v : V} {vs : List V} {d : PyData} {ds : List PyData} : De K H v d → DeAll K H vs ds → DeAll K H (v :: vs) (d :: ds)
inductive DeKv (K : PySem.W.Frag) (H : Hp) : List (Key × V) → List (PyData × PyData) → Prop
  | nil : DeKv K H [] []
  | cons {k : Key} {v : V} {vs : List (Key × V)} {d : PyData} {ds : List (PyData × PyData)} : De K H v d → DeKv K H vs ds → DeKv K H ((k, v) :: vs) ((keyD k, d) :: ds)
end
theorem key_reads {h : Heap} {k : Key} {u : Value} (e : keyIs k u = true) : Reads h u (keyD k) [] := by
  rcases keyIs_shape e with ⟨i, t, rfl, rfl⟩ | ⟨x, t, rfl, rfl⟩
  · exact .int i t
  · exact .str x t
section
variable {X : Cx} {pins : List (Addr × Obj)} {σ : L2.St} {H : Hp} {s : Shared}
mutual
theorem De.reads (I : Inv X pins σ H s) : ∀ (d : PyData) (v : V) (u : Value), De X.K H v d → RelV v u → ∃ as, Reads s.heap u d as ∧ sysModules ∉ as
  | .none, _, _, h, r => by
    cases h
    cases r
    exact ⟨_, Reads.none, by simp⟩
  | .bool b, _, _, h, r => by
    cases h
    cases r
    exact ⟨_, Reads.bool b, by simp⟩
  | .int i, _, _, h, r => by
    cases h
    obtain ⟨t, rfl⟩ := r
    exact ⟨_, Reads.int i t, by simp⟩
  | .str x, _, _, h, r => by
    cases h
    obtain ⟨t, rfl⟩ := r
    exact ⟨_, Reads.str x t, by simp⟩
  | .list ds, _, _, h, r => by
    cases h with
    | lst hs hlt ha =>
      cases r
      obtain ⟨its, rv, ⟨o, n, ho, hc, _, hd⟩, _⟩ := I.list (.inl (.inl hs))
      obtain ⟨as, hr, hn⟩ := De.readsAll I ds _ its ha rv
      exact ⟨_, Reads.list ho hc hd hr, by
        intro z
        rcases List.mem_cons.mp z with z | z
        · exact Nat.lt_irrefl _ (z ▸ hlt)
        · exact hn z⟩
  | .tuple ds, _, _, h, r => by
    cases h with
    | tup hs ha =>
      cases r
      obtain ⟨its, rv, ⟨o, ho, hc, n, hd⟩, _⟩ := I.tuple hs
      obtain ⟨as, hr, hn⟩ := De.readsAll I ds _ its ha rv
      exact ⟨_, Reads.tuple ho hc hd hr, hn⟩
  | .dict ds, _, _, h, r => by
    cases h with
    | dict hs ha =>
      cases r
      obtain ⟨_, notSys, vs, kv, o, es, ep, ho, ex, hd, _, pr, _⟩ : ObjOk X.prog X.w H s.heap _ (.dK _) := I.hok _ _ hs
      obtain ⟨as, bs, hr1, hr2, hn1, hn2⟩ := De.readsKv I ds _ vs es.toList ha kv pr
      exact ⟨_, Reads.dict ho ex.1 hd hr1 hr2, by
        intro z
        rcases List.mem_append.mp z with z | z
        · rcases List.mem_cons.mp z with z | z
          · rw [← z] at notSys
            exact absurd notSys (by decide)
          · exact hn1 z
        · exact hn2 z⟩
theorem De.readsAll (I : Inv X pins σ H s) : ∀ (ds : List PyData) (vs : List V) (us : List Value), DeAll X.K H vs ds → Vals vs us → ∃ as, ReadsAll s.heap us ds as ∧ sysModules ∉ as
  | [], _, _, h, r => by
    cases h
    cases r
    exact ⟨_, ReadsAll.nil, by simp⟩
  | d :: ds, _, _, h, r => by
    cases h with
    | cons h1 h2 =>
      cases r with
      | cons r1 r2 =>
        obtain ⟨as, q1, n1⟩ := De.reads I d _ _ h1 r1
        obtain ⟨bs, q2, n2⟩ := De.readsAll I ds _ _ h2 r2
        exact ⟨_, ReadsAll.cons q1 q2, fun z => (List.mem_append.mp z).elim n1 n2⟩
theorem De.readsKv (I : Inv X pins σ H s) : ∀ (ds : List (PyData × PyData)) (kvs : List (Key × V)) (vs : List (Key × Value)) (es : List DictEntry), DeKv X.K H kvs ds → KV kvs vs → Pairs (mixKind X.prog X.w) es vs →
    ∃ as bs, ReadsAll s.heap (es.map (·.key)) (ds.map (·.1)) as ∧ ReadsAll s.heap (es.map (·.val)) (ds.map (·.2)) bs ∧ sysModules ∉ as ∧ sysModules ∉ bs
  | [], _, _, _, h, r, p => by
    cases h
    cases r
    cases p
    exact ⟨_, _, ReadsAll.nil, ReadsAll.nil, by simp, by simp⟩
  | d :: ds, _, _, _, h, r, p => by
    cases h with
    | cons h1 h2 =>
      cases r with
      | cons r1 r2 =>
        cases p with
        | cons p1 p2 p3 =>
          obtain ⟨as, q1, n1⟩ := De.reads I _ _ _ h1 r1.2
          obtain ⟨bs, cs, q2, q3, n2, n3⟩ := De.readsKv I _ _ _ _ h2 r2 p3
          refine ⟨[] ++ bs, as ++ cs, ?_, ?_, by simpa using n2, fun z => (List.mem_append.mp z).elim n1 n3⟩
          · rw [List.map_cons, List.map_cons]
            refine .cons (key_reads ?_) q2
            have e := r1.1
            dsimp only at e
            rw [e]
            exact p1
          · rw [List.map_cons, List.map_cons]
            refine .cons ?_ q3
            rw [p2]
            exact q1
end
/-! ### small data -/
mutual
def sok : PyData → Bool
  | .str z => PyData.strOk z
  | .list xs => sokAll xs
  | .tuple xs => sokAll xs
  | _ => true
def sokAll : List PyData → Bool
  | [] => true
  | x :: xs => sok x && sokAll xs
end
mutual
theorem sok_lay : ∀ {d : PyData}, sok d = true → d.hasDict = false → d.canLay0 = true
  | .none, _, _ => by simp only [PyData.canLay0]
  | .bool _, _, _ => by simp only [PyData.canLay0]
  | .int _, _, _ => by simp only [PyData.canLay0]
  | .str z, h, _ => by simp only [PyData.canLay0]; simpa only [sok] using h
  | .list xs, h, z => by
    simp only [PyData.canLay0]
    exact sokAll_lay (by simpa only [sok] using h) (by simpa only [PyData.hasDict] using z)
  | .tuple xs, h, z => by
    simp only [PyData.canLay0]
    exact sokAll_lay (by simpa only [sok] using h) (by simpa only [PyData.hasDict] using z)
  | .dict _, _, z => by simp only [PyData.hasDict] at z; cases z
theorem sokAll_lay : ∀ {ds : List PyData}, sokAll ds = true → PyData.hasDictAll ds = false → PyData.canLayAll0 ds = true
  | [], _, _ => by simp only [PyData.canLayAll0]
  | d :: ds, h, z => by
    simp only [sokAll, Bool.and_eq_true] at h
    simp only [PyData.hasDictAll, Bool.or_eq_false_iff] at z
    simp only [PyData.canLayAll0, sok_lay h.1 z.1, sokAll_lay h.2 z.2, Bool.and_self]
end
structure Sd (n w : Nat) (d : PyData) : Prop where
  dep : d.depth ≤ n
  wei : d.weight ≤ w
  sh : d.showable = true
  ls : d.leavesShort 60 = true
  ok : sok d = true
structure SdAll (n w : Nat) (ds : List PyData) : Prop where
  dep : PyData.depthAll ds ≤ n
  wei : PyData.weightAll ds ≤ w
  sh : PyData.showableAll ds = true
  ls : PyData.leavesShortAll 60 ds = true
  ok : sokAll ds = true
theorem Sd.mono {n w n' w' : Nat} {d : PyData} (s : Sd n w d) (h1 : n ≤ n') (h2 : w ≤ w') : Sd n' w' d := ⟨Nat.le_trans s.dep h1, Nat.le_trans s.wei h2, s.sh, s.ls, s.ok⟩
theorem SdAll.mono {n w n' w' : Nat} {d : List PyData} (s : SdAll n w d) (h1 : n ≤ n') (h2 : w ≤ w') : SdAll n' w' d := ⟨Nat.le_trans s.dep h1, Nat.le_trans s.wei h2, s.sh, s.ls, s.ok⟩
theorem SdAll.nil {n : Nat} : SdAll n 0 [] := ⟨by simp only [PyData.depthAll]; omega, by simp only [PyData.weightAll]; omega, by simp only [PyData.showableAll], by simp only [PyData.leavesShortAll], by simp only [sokAll]⟩
theorem SdAll.cons {n w v : Nat} {d : PyData} {ds : List PyData} (h : Sd n w d) (k : SdAll n v ds) : SdAll n (w + 1 + v) (d :: ds) := by
  obtain ⟨a1, a2, a3, a4, a5⟩ := h
  obtain ⟨b1, b2, b3, b4, b5⟩ := k
  exact ⟨by simp only [PyData.depthAll]; omega, by simp only [PyData.weightAll]; omega, by simp only [PyData.showableAll, a3, b3, Bool.and_self], by simp only [PyData.leavesShortAll, a4, b4, Bool.and_self], by simp only [sokAll, a5, b5, Bool.and_self]⟩
theorem SdAll.inv {n w : Nat} {d : PyData} {ds : List PyData} (h : SdAll n w (d :: ds)) : ∃ u v, u + 1 + v ≤ w ∧ Sd n u d ∧ SdAll n v ds := by
  obtain ⟨a1, a2, a3, a4, a5⟩ := h
  simp only [PyData.depthAll] at a1
  simp only [PyData.weightAll] at a2
  simp only [PyData.showableAll, Bool.and_eq_true] at a3
  simp only [PyData.leavesShortAll, Bool.and_eq_true] at a4
  simp only [sokAll, Bool.and_eq_true] at a5
  exact ⟨d.weight, PyData.weightAll ds, by omega, ⟨by omega, Nat.le_refl _, a3.1, a4.1, a5.1⟩, ⟨by omega, Nat.le_refl _, a3.2, a4.2, a5.2⟩⟩
theorem SdAll.app {n : Nat} : ∀ {w v : Nat} {ds es : List PyData}, SdAll n w ds → SdAll n v es → SdAll n (w + v) (ds ++ es)
  | _, _, [], _, _, k => k.mono (Nat.le_refl _) (by omega)
  | _, _, d :: ds, es, h, k => by
    obtain ⟨a, b, hab, h1, h2⟩ := h.inv
    exact (SdAll.cons h1 (h2.app k)).mono (Nat.le_refl _) (by omega)
theorem SdAll.take {n : Nat} : ∀ {w : Nat} {ds : List PyData} (k : Nat), SdAll n w ds → SdAll n w (ds.take k)
  | _, ds, 0, _ => by rw [List.take_zero]; exact SdAll.nil.mono (Nat.le_refl _) (by omega)
  | _, [], k + 1, h => by rw [List.take_nil]; exact h
  | _, d :: ds, k + 1, h => by
    obtain ⟨a, b, hab, h1, h2⟩ := h.inv
    rw [List.take_succ_cons]
    exact (SdAll.cons h1 (h2.take k)).mono (Nat.le_refl _) (by omega)
theorem SdAll.drop {n : Nat} : ∀ {w : Nat} {ds : List PyData} (k : Nat), SdAll n w ds → SdAll n w (ds.drop k)
  | _, ds, 0, h => h
  | _, [], k + 1, h => by rw [List.drop_nil]; exact h
  | _, d :: ds, k + 1, h => by
    obtain ⟨a, b, hab, h1, h2⟩ := h.inv
    rw [List.drop_succ_cons]
    exact (h2.drop k).mono (Nat.le_refl _) (by omega)
theorem SdAll.get {n : Nat} : ∀ {w : Nat} {ds : List PyData} {d : PyData}, SdAll n w ds → d ∈ ds → Sd n w d
  | _, d :: ds, e, h, hm => by
    obtain ⟨a, b, hab, h1, h2⟩ := h.inv
    rcases List.mem_cons.mp hm with rfl | hm
    · exact h1.mono (Nat.le_refl _) (by omega)
    · exact (h2.get hm).mono (Nat.le_refl _) (by omega)
theorem sd_all {n w : Nat} : ∀ {ds : List PyData}, (∀ d ∈ ds, Sd n w d) → SdAll n (ds.length * (w + 1)) ds
  | [], _ => SdAll.nil.mono (Nat.le_refl _) (by omega)
  | d :: ds, h => (SdAll.cons (h d List.mem_cons_self) (sd_all (ds := ds) fun x hx => h x (List.mem_cons_of_mem _ hx))).mono (Nat.le_refl _) (by rw [List.length_cons, Nat.succ_mul]; omega)
theorem sd_lst' {n w : Nat} {ds : List PyData} (h : SdAll n w ds) : Sd (n + 1) w (.list ds) := by
  obtain ⟨b1, b2, b3, b4, b5⟩ := h
  exact ⟨by simp only [PyData.depth]; omega, by simp only [PyData.weight]; exact b2, by simp only [PyData.showable, b3], by simp only [PyData.leavesShort, b4], by simp only [sok, b5]⟩
theorem sd_tup' {n w : Nat} {ds : List PyData} (h : SdAll n w ds) : Sd (n + 1) w (.tuple ds) := by
  obtain ⟨b1, b2, b3, b4, b5⟩ := h
  exact ⟨by simp only [PyData.depth]; omega, by simp only [PyData.weight]; exact b2, by simp only [PyData.showable, b3], by simp only [PyData.leavesShort, b4], by simp only [sok, b5]⟩
theorem sd_lst {n w : Nat} {ds : List PyData} (h : ∀ d ∈ ds, Sd n w d) : Sd (n + 1) (ds.length * (w + 1)) (.list ds) := sd_lst' (sd_all h)
theorem sd_tup {n w : Nat} {ds : List PyData} (h : ∀ d ∈ ds, Sd n w d) : Sd (n + 1) (ds.length * (w + 1)) (.tuple ds) := sd_tup' (sd_all h)
theorem Sd.tupI {n w : Nat} {ds : List PyData} (s : Sd (n + 1) w (.tuple ds)) : SdAll n w ds := by
  obtain ⟨b1, b2, b3, b4, b5⟩ := s
  simp only [PyData.depth] at b1
  exact ⟨by omega, by simpa only [PyData.weight] using b2, by simpa only [PyData.showable] using b3, by simpa only [PyData.leavesShort] using b4, by simpa only [sok] using b5⟩
theorem Sd.lstI {n w : Nat} {ds : List PyData} (s : Sd (n + 1) w (.list ds)) : SdAll n w ds := by
  obtain ⟨b1, b2, b3, b4, b5⟩ := s
  simp only [PyData.depth] at b1
  exact ⟨by omega, by simpa only [PyData.weight] using b2, by simpa only [PyData.showable] using b3, by simpa only [PyData.leavesShort] using b4, by simpa only [sok] using b5⟩
theorem sd_non : Sd 0 0 .none := ⟨by simp only [PyData.depth]; omega, by simp only [PyData.weight]; omega, by simp only [PyData.showable], by simp only [PyData.leavesShort], by simp only [sok]⟩
theorem sd_bl (b : Bool) : Sd 0 0 (.bool b) := ⟨by simp only [PyData.depth]; omega, by simp only [PyData.weight]; omega, by simp only [PyData.showable], by simp only [PyData.leavesShort], by simp only [sok]⟩
theorem sd_emp : Sd 1 0 (.dict []) := ⟨by simp only [PyData.depth, PyData.depthKv]; omega, by simp only [PyData.weight, PyData.weightKv]; omega, by simp only [PyData.showable, PyData.showableKv], by simp only [PyData.leavesShort, PyData.leavesShortKv], by simp only [sok]⟩
theorem strOk_lt' {l : List Nat} (h : ∀ c ∈ l, c ≤ 1000) : PyData.strOk (S l) = true := by
  unfold PyData.strOk
  rw [Array.all_eq_true]
  intro i hi
  have q := h (l[i]'(by simpa [S] using hi)) (List.getElem_mem _)
  have e : (S l).cps[i] = l[i]'(by simpa [S] using hi) := by simp [S]
  rw [e]
  exact decide_eq_true (by omega)
theorem sd_str {l : List Nat} (h : ∀ c ∈ l, c ≤ 1000) : Sd 0 l.length (.str (S l)) := by
  refine ⟨by simp only [PyData.depth]; omega, by simp only [PyData.weight, S_size]; omega, by simp only [PyData.showable], ?_, by simp only [sok]; exact strOk_lt' h⟩
  simp only [PyData.leavesShort]
  rw [List.all_eq_true]
  intro c hc
  have : c ∈ l := by simpa [S] using hc
  exact decide_eq_true (by have := h c this; omega)
theorem sd_intW {i : Int} {n k : Nat} (h : i.natAbs < 10 ^ 40) (h2 : i.natAbs < 2 ^ k) : Sd 0 k (.int i) := by
  refine ⟨by simp only [PyData.depth]; omega, ?_, ?_, ?_, by simp only [sok]⟩
  · simp only [PyData.weight]
    split
    · omega
    · rename_i z
      have z' : i.natAbs ≠ 0 := by
        intro e
        have : i = 0 := by omega
        rw [this] at z
        exact z rfl
      have := (Nat.log2_lt z' (k := k)).mpr h2
      omega
  · simp only [PyData.showable]
    refine decide_eq_true ?_
    by_cases z : i.natAbs = 0
    · rw [z]; decide
    · have := (Nat.log2_lt z (k := 139)).mpr (Nat.lt_of_lt_of_le h (by decide))
      omega
  · simp only [PyData.leavesShort]
    have e := int_text_length_le10 (k := 40) (by decide) h
    refine decide_eq_true ?_
    show (Str.ofString (toString i)).length ≤ 60
    rw [PySem.ofString_length]
    omega
theorem sd_int {i : Int} (h : i.natAbs < 10 ^ 40) : Sd 0 140 (.int i) := sd_intW (n := 0) h (Nat.lt_of_lt_of_le h (by decide))
/-- an int of a few digits -/
theorem sd_int9 {i : Int} (h : i.natAbs < 512) : Sd 0 9 (.int i) := sd_intW (n := 0) (Nat.lt_of_lt_of_le h (by decide)) (by omega)
theorem Sd.len {n w : Nat} {d : PyData} (s : Sd n w d) (hw : w ≤ 270000) : d.shown.length ≤ sizeLine := by
  have := PyData.shown_le 60 (by omega) d s.ls
  have h2 := s.wei
  have : d.shown.length ≤ 62 * 270000 + 60 := Nat.le_trans this (by omega)
  exact Nat.le_trans this (by decide)
end
def rRepE (K : PySem.W.Frag) : List V → Hp → VK → Prop := fun xs M R => ∃ x d n w, xs = [x] ∧ (De K M x d ∨ (Dp K M x d ∧ d.hasDict = false)) ∧ Sd n w d ∧ n ≤ 60 ∧ w ≤ 270000 ∧ R (.str d.shown) M
theorem call_repE {X : Cx} (quiet : X.A.guards = some []) (hu : X.A.units + 64 < cLine) : CallR X (.builtin "repr") (rRepE X.K) := by
  intro pins s σ M xs us R I r h
  obtain ⟨x, d, n, w, rfl, hd, sd, hn, hw, q⟩ := h
  obtain ⟨u, rfl, ru⟩ := vals1 r
  have sz := sd.len hw
  have dp := sd.dep
  rcases hd with hd | ⟨hd, nd⟩
  rotate_left
  · obtain ⟨as, rd⟩ := Dp.reads I d x u hd ru
    cases hd with
    | non =>
      cases ru
      exact PySem.P.repr_of_none ⟨.str (PyData.shown .none), M, I.tok _, ⟨_, by simp only [PyData.shown]; rfl⟩, q⟩
    | bl b =>
      cases ru
      exact PySem.P.repr_of_bool ⟨.str (PyData.shown (.bool b)), M, I.tok _, ⟨_, by simp only [PyData.shown]; rfl⟩, q⟩
    | int i =>
      obtain ⟨t, rfl⟩ := ru
      exact PySem.P.repr_of_int (of_decide_eq_true (by simpa only [PyData.showable] using sd.sh)) ⟨.str (PyData.shown (.int i)), M, I.tok _, ⟨_, by simp only [PyData.shown]; rfl⟩, q⟩
    | str z =>
      obtain ⟨t, rfl⟩ := ru
      exact PySem.P.repr_of_str ⟨.str (PyData.shown (.str z)), M, I.tok _, ⟨_, by simp only [PyData.shown]; rfl⟩, q⟩ (by simpa only [PyData.shown] using sz)
    | lst h1 h2 =>
      cases ru
      exact repr_of_reads' rd sd.sh (PyData.noDict_hsm nd) quiet (by omega) (fun _ _ e => e) (fun h' t tk keep => ⟨.str _, M, I.kept (t' := tk) keep, ⟨t, rfl⟩, q⟩) sz
    | tup h1 h2 =>
      cases ru
      exact repr_of_reads' rd sd.sh (PyData.noDict_hsm nd) quiet (by omega) (fun _ _ e => e) (fun h' t tk keep => ⟨.str _, M, I.kept (t' := tk) keep, ⟨t, rfl⟩, q⟩) sz
  obtain ⟨as, rd, nn⟩ := De.reads I d x u hd ru
  cases hd with
  | non =>
    cases ru
    exact PySem.P.repr_of_none ⟨.str (PyData.shown .none), M, I.tok _, ⟨_, by simp only [PyData.shown]; rfl⟩, q⟩
  | bl b =>
    cases ru
    exact PySem.P.repr_of_bool ⟨.str (PyData.shown (.bool b)), M, I.tok _, ⟨_, by simp only [PyData.shown]; rfl⟩, q⟩
  | int i =>
    obtain ⟨t, rfl⟩ := ru
    exact PySem.P.repr_of_int (of_decide_eq_true (by simpa only [PyData.showable] using sd.sh)) ⟨.str (PyData.shown (.int i)), M, I.tok _, ⟨_, by simp only [PyData.shown]; rfl⟩, q⟩
  | str z =>
    obtain ⟨t, rfl⟩ := ru
    exact PySem.P.repr_of_str ⟨.str (PyData.shown (.str z)), M, I.tok _, ⟨_, by simp only [PyData.shown]; rfl⟩, q⟩ (by simpa only [PyData.shown] using sz)
  | lst h1 h0 h2 =>
    cases ru
    exact repr_of_reads' rd sd.sh (fun _ => nn) quiet (by omega) (fun _ _ e => e) (fun h' t tk keep => ⟨.str _, M, I.kept (t' := tk) keep, ⟨t, rfl⟩, q⟩) sz
  | tup h1 h2 =>
    cases ru
    exact repr_of_reads' rd sd.sh (fun _ => nn) quiet (by omega) (fun _ _ e => e) (fun h' t tk keep => ⟨.str _, M, I.kept (t' := tk) keep, ⟨t, rfl⟩, q⟩) sz
  | dict h1 h2 =>
    cases ru
    exact repr_of_reads' rd sd.sh (fun _ => nn) quiet (by omega) (fun _ _ e => e) (fun h' t tk keep => ⟨.str _, M, I.kept (t' := tk) keep, ⟨t, rfl⟩, q⟩) sz
theorem i_repE {K : PySem.W.Frag} {M : Hp} {x : V} {d : PyData} {n w : Nat} {R : VK} (h : De K M x d) (s : Sd n w d) (hn : n ≤ 60 := by omega) (hw : w ≤ 270000 := by omega) (k : R (.str d.shown) M) : rRepE K [x] M R := ⟨x, d, n, w, rfl, .inl h, s, hn, hw, k⟩
theorem i_repP {K : PySem.W.Frag} {M : Hp} {x : V} {d : PyData} {n w : Nat} {R : VK} (h : Dp K M x d) (z : d.hasDict = false) (s : Sd n w d) (hn : n ≤ 60 := by omega) (hw : w ≤ 270000 := by omega) (k : R (.str d.shown) M) : rRepE K [x] M R := ⟨x, d, n, w, rfl, .inr ⟨h, z⟩, s, hn, hw, k⟩
/-! ### what is kept -/
mutual
theorem De.same {K : PySem.W.Frag} {H H' : Hp} (s : Same H H') : ∀ {v : V} {d : PyData}, De K H v d → De K H' v d
  | _, _, .non => .non
  | _, _, .bl b => .bl b
  | _, _, .int i => .int i
  | _, _, .str x => .str x
  | _, _, .lst h1 h0 h2 => .lst (s _ _ h1) h0 (DeAll.same s h2)
  | _, _, .tup h1 h2 => .tup (Same.sqT s h1) (DeAll.same s h2)
  | _, _, .dict h1 h2 => .dict (s _ _ h1) (DeKv.same s h2)
theorem DeAll.same {K : PySem.W.Frag} {H H' : Hp} (s : Same H H') : ∀ {vs : List V} {ds : List PyData}, DeAll K H vs ds → DeAll K H' vs ds
  | _, _, .nil => .nil
  | _, _, .cons h1 h2 => .cons (De.same s h1) (DeAll.same s h2)
theorem DeKv.same {K : PySem.W.Frag} {H H' : Hp} (s : Same H H') : ∀ {vs : List (Key × V)} {ds : List (PyData × PyData)}, DeKv K H vs ds → DeKv K H' vs ds
  | _, _, .nil => .nil
  | _, _, .cons h1 h2 => .cons (De.same s h1) (DeKv.same s h2)
end
theorem DeAll.len {K : PySem.W.Frag} {H : Hp} : ∀ {vs : List V} {ds : List PyData}, DeAll K H vs ds → vs.length = ds.length
  | _, _, .nil => rfl
  | _, _, .cons _ h2 => by rw [List.length_cons, List.length_cons, h2.len]
theorem DeAll.get {K : PySem.W.Frag} {H : Hp} : ∀ {vs : List V} {ds : List PyData} {i : Nat} {v : V}, DeAll K H vs ds → vs[i]? = some v → ∃ d, ds[i]? = some d ∧ De K H v d
  | _, _, _, _, .nil, e => by simp at e
  | _, _, 0, _, .cons h1 _, e => by simp at e; subst e; exact ⟨_, rfl, h1⟩
  | _, _, i + 1, v, .cons _ h2, e => by
    obtain ⟨d, h1, h3⟩ := h2.get (i := i) (v := v) (by simpa using e)
    exact ⟨d, by simpa using h1, h3⟩
theorem DeAll.app {K : PySem.W.Frag} {H : Hp} : ∀ {vs ws : List V} {ds es : List PyData}, DeAll K H vs ds → DeAll K H ws es → DeAll K H (vs ++ ws) (ds ++ es)
  | _, _, _, _, .nil, h => h
  | _, _, _, _, .cons h1 h2, h => .cons h1 (h2.app h)
theorem DeAll.take {K : PySem.W.Frag} {H : Hp} : ∀ {vs : List V} {ds : List PyData} (n : Nat), DeAll K H vs ds → DeAll K H (vs.take n) (ds.take n)
  | _, _, 0, _ => by rw [List.take_zero, List.take_zero]; exact .nil
  | _, _, n + 1, .nil => by rw [List.take_nil, List.take_nil]; exact .nil
  | _, _, n + 1, .cons h1 h2 => .cons h1 (h2.take n)
theorem DeAll.drop {K : PySem.W.Frag} {H : Hp} : ∀ {vs : List V} {ds : List PyData} (n : Nat), DeAll K H vs ds → DeAll K H (vs.drop n) (ds.drop n)
  | _, _, 0, h => h
  | _, _, n + 1, .nil => by rw [List.drop_nil, List.drop_nil]; exact .nil
  | _, _, n + 1, .cons _ h2 => h2.drop n
mutual
theorem De.dp {K : PySem.W.Frag} {H : Hp} : ∀ {v : V} {d : PyData}, De K H v d → d.hasDict = false → Dp K H v d
  | _, _, .non, _ => .non
  | _, _, .bl b, _ => .bl b
  | _, _, .int i, _ => .int i
  | _, _, .str x, _ => .str x
  | _, _, .lst h1 _ h2, z => .lst (.inl (.inl h1)) (h2.dp (by simpa only [PyData.hasDict] using z))
  | _, _, .tup h1 h2, z => .tup h1 (h2.dp (by simpa only [PyData.hasDict] using z))
  | _, _, .dict _ _, z => by simp only [PyData.hasDict] at z; cases z
theorem DeAll.dp {K : PySem.W.Frag} {H : Hp} : ∀ {vs : List V} {ds : List PyData}, DeAll K H vs ds → PyData.hasDictAll ds = false → DpAll K H vs ds
  | _, _, .nil, _ => .nil
  | _, _, .cons h1 h2, z => by
    simp only [PyData.hasDictAll, Bool.or_eq_false_iff] at z
    exact .cons (h1.dp z.1) (h2.dp z.2)
end
theorem Sd.shaped {n w : Nat} {d : PyData} (s : Sd n w d) (h : n ≤ 60) (z : d.hasDict = false) : SeqAt.shaped d = true := by
  show (PyData.canLay0 d && decide (PyData.depth d ≤ 64)) = true
  rw [sok_lay s.ok z, Bool.true_and]
  exact decide_eq_true (Nat.le_trans s.dep (by omega))
theorem i_eqE {K : PySem.W.Frag} {H : Hp} {x y : V} {d e : PyData} {Q : VK} {n w m u : Nat} (h1 : De K H x d) (h2 : De K H y e) (s1 : Sd n w d) (s2 : Sd m u e) (z1 : d.hasDict = false) (z2 : e.hasDict = false) (k : Q (.bl (PyData.eqv d e)) H) (hn : n ≤ 60 := by omega) (hm : m ≤ 60 := by omega) : rEqD K x y H Q :=
  ⟨d, e, h1.dp z1, h2.dp z2, s1.shaped hn z1, s2.shaped hm z2, k⟩
theorem i_neE {K : PySem.W.Frag} {H : Hp} {x y : V} {d e : PyData} {Q : VK} {n w m u : Nat} (h1 : De K H x d) (h2 : De K H y e) (s1 : Sd n w d) (s2 : Sd m u e) (z1 : d.hasDict = false) (z2 : e.hasDict = false) (k : Q (.bl (!PyData.eqv d e)) H) (hn : n ≤ 60 := by omega) (hm : m ≤ 60 := by omega) : rNeD K x y H Q :=
  ⟨d, e, h1.dp z1, h2.dp z2, s1.shaped hn z1, s2.shaped hm z2, k⟩
/-! ### isinstance of data -/
def tyB : String → PyData → Bool
  | "int", .int _ => true
  | "int", .bool _ => true
  | "bool", .bool _ => true
  | "str", .str _ => true
  | "list", .list _ => true
  | "tuple", .tuple _ => true
  | _, _ => false
theorem tyx_tup {K : PySem.W.Frag} {H : Hp} {a : Addr} {xs : List V} (h : SqT K H a xs) : TyX K H (.ref a) (.type "tuple") := by
  rcases h with (h | ⟨o, h⟩) | ⟨o, its, n, h, c, _⟩
  · exact .base (.tup h)
  · exact .fTuple h
  · exact .kTuple h c
theorem De.isi {K : PySem.W.Frag} {H : Hp} {v : V} {d : PyData} {Q : VK} {n : String} (h : De K H v d) (hn : n = "int" ∨ n = "bool" ∨ n = "str" ∨ n = "list" ∨ n = "tuple") (k : Q (.bl (tyB n d)) H) : rIsi K [v, .ty n] H Q := by
  cases h with
  | non => rcases hn with rfl | rfl | rfl | rfl | rfl <;> exact i_isi _ (.base .non) (kit_ty (by first | (show _ = some true; decide +kernel) | (show _ = some false; decide +kernel))) k
  | bl b => rcases hn with rfl | rfl | rfl | rfl | rfl <;> exact i_isi _ (.base (.bl _)) (kit_ty (by first | (show _ = some true; decide +kernel) | (show _ = some false; decide +kernel))) k
  | int i => rcases hn with rfl | rfl | rfl | rfl | rfl <;> exact i_isi _ (.base (.int _)) (kit_ty (by first | (show _ = some true; decide +kernel) | (show _ = some false; decide +kernel))) k
  | str x => rcases hn with rfl | rfl | rfl | rfl | rfl <;> exact i_isi _ (.base (.str _)) (kit_ty (by first | (show _ = some true; decide +kernel) | (show _ = some false; decide +kernel))) k
  | lst h1 _ h2 => rcases hn with rfl | rfl | rfl | rfl | rfl <;> exact i_isi _ (.base (.lst h1)) (kit_ty (by first | (show _ = some true; decide +kernel) | (show _ = some false; decide +kernel))) k
  | tup h1 h2 => rcases hn with rfl | rfl | rfl | rfl | rfl <;> exact i_isi _ (tyx_tup h1) (kit_ty (by first | (show _ = some true; decide +kernel) | (show _ = some false; decide +kernel))) k
  | dict h1 h2 => rcases hn with rfl | rfl | rfl | rfl | rfl <;> exact i_isi _ (.base (.dK h1)) (kit_ty (by first | (show _ = some true; decide +kernel) | (show _ = some false; decide +kernel))) k
theorem De.tupI {K : PySem.W.Frag} {H : Hp} {v : V} {ds : List PyData} (h : De K H v (.tuple ds)) : ∃ a xs, v = .ref a ∧ SqT K H a xs ∧ DeAll K H xs ds := by
  cases h with | tup h1 h2 => exact ⟨_, _, rfl, h1, h2⟩
theorem De.lstI {K : PySem.W.Frag} {H : Hp} {v : V} {ds : List PyData} (h : De K H v (.list ds)) : ∃ a xs, v = .ref a ∧ H a = some (.lst xs) ∧ sysModules < a ∧ DeAll K H xs ds := by
  cases h with | lst h1 h0 h2 => exact ⟨_, _, rfl, h1, h0, h2⟩
theorem De.intI {K : PySem.W.Frag} {H : Hp} {v : V} {i : Int} (h : De K H v (.int i)) : v = .int i := by cases h; rfl
section
variable {X : Cx} {es : List Expr} {t : TA} {pos : Pos}
def tLstL (t : TA) : TE := fun σ H Q => t σ H fun xs H1 => xs.length ≤ sizeLine ∧ ∀ p, H1 p = none → sysModules < p → Q (.ref p) (upd H1 p (.lst xs))
theorem pe_lstL (h : PA X es t) : PE X (.List es pos) (tLstL t) := by
  refine ⟨fun pins s σ H Q I hq => ?_⟩
  refine wpAny_List_spliced (thn (h.run pos pins s σ H _ I hq) fun us s1 ⟨xs, H1, I1, r, z, q⟩ => ⟨by rw [← r.length]; exact z, ?_⟩)
  have hf : H1 s1.heap.objs.size = none := I1.hok.fresh (Nat.le_refl _)
  refine ⟨.ref s1.heap.objs.size, upd H1 s1.heap.objs.size (.lst xs), I1.laid (t' := s1.toks) (fun b u e => Heap.get?_push_of_some _ e) (Nat.le_refl _) ?_, rfl, q _ hf I1.big⟩
  exact ⟨z, us, 0, r, Heap.get?_push_size _ rfl⟩
theorem i_lstL {σ : L2.St} {H : Hp} {Q : VK} (h : t σ H fun xs H1 => xs.length ≤ sizeLine ∧ ∀ p, H1 p = none → sysModules < p → Q (.ref p) (upd H1 p (.lst xs))) : tLstL t σ H Q := h
def rListL (K : PySem.W.Frag) : List V → Hp → VK → Prop := fun xs H Q => ∃ p ys, xs = [.ref p] ∧ (SqL K H p ys ∨ SqT K H p ys) ∧ ∀ l, H l = none → sysModules < l → Q (.ref l) (upd H l (.lst ys))
theorem call_listL : CallR X (.type "list") (rListL X.K) := by
  intro pins s σ H xs us Q I r h
  obtain ⟨p, ys, rfl, hq, q⟩ := h
  obtain ⟨u, rfl, rx⟩ := vals1 r
  cases rx
  have fin : ∀ (its : List Value), Vals ys its → ys.length ≤ sizeLine → ∀ (h' : Heap) (c' : Nat), (∀ b o', s.heap.get? b = some o' → h'.get? b = some o') →
      h'.get? s.heap.objs.size = some { cls := .type "list", dict := none, data := .seq its.toArray c', slots := #[] } → EP X pins σ Q (.ref s.heap.objs.size) { s with heap := h' } := fun its r' hz h' c' kp e =>
    ⟨.ref s.heap.objs.size, _, I.laid (t' := s.toks) kp (Nat.le_refl _) (show ObjOk X.prog X.w _ h' _ (.lst ys) from ⟨hz, its, c', r', e⟩), rfl, q _ (I.hok.fresh (Nat.le_refl _)) I.big⟩
  rcases hq with hq | hq
  · obtain ⟨its, r', pl, hz⟩ := I.list hq
    have hlen := r'.length
    obtain ⟨o, ho, hc, n, hd⟩ := pl.isList
    exact call_list_seq p (.inl rfl) ho hc hd (fun h' c' kp e => fin its r' hz h' c' kp e) (by simp only [List.size_toArray] <;> omega)
  · obtain ⟨its, r', pl, hz⟩ := I.tuple hq
    have hlen := r'.length
    obtain ⟨o, ho, hc, n, hd⟩ := pl
    exact call_list_seq p (.inr rfl) ho hc hd (fun h' c' kp e => fin its r' hz h' c' kp e) (by simp only [List.size_toArray] <;> omega)
theorem i_listL {K : PySem.W.Frag} {p : Addr} {ys : List V} {H : Hp} {Q : VK} (h : SqL K H p ys ∨ SqT K H p ys) (k : ∀ l, H l = none → sysModules < l → Q (.ref l) (upd H l (.lst ys))) : rListL K [.ref p] H Q := ⟨p, ys, rfl, h, k⟩
end
end Sw
namespace PySem.SeqAt
open MeetsSeq PySem
theorem dict_eq_declines_str (l : Addr) (es : Array DictEntry) (n : Nat) (dd : Option Addr) (sl : Array (Option Value)) (b : Str) (u : Tok) :
    Meets (Builtin.«dict.__eq__» ⟨[.ref l, .str b u], []⟩) (fun _ R s => s.heap.get? l = some { cls := .type "dict", dict := dd, data := .dict es n, slots := sl } ∧ R (.ok (.ret .notImplemented)) s) :=
  .of_wp fun prog w A R s h => by obtain ⟨hp, g, d, tk, os⟩ := s; obtain ⟨hl, h⟩ := h; have f1 := F.sub_str_dict; wp_walk using wpAny_loadPart' hl, wpAny_load hl; exact ⟨_, rfl, h⟩
theorem str_eq_declines_dict (b : Str) (u : Tok) (l : Addr) (c : Value) (es : Array DictEntry) (n : Nat) (dd : Option Addr) (sl : Array (Option Value)) :
    Meets (Builtin.«str.__eq__» ⟨[.str b u, .ref l], []⟩) (fun _ R s => s.heap.get? l = some { cls := c, dict := dd, data := .dict es n, slots := sl } ∧ R (.ok (.ret .notImplemented)) s) :=
  .of_wp fun prog w A R s h => by obtain ⟨hp, g, d, tk, os⟩ := s; obtain ⟨hl, h⟩ := h; wp_walk using wpAny_loadPart' hl, wpAny_load hl; exact ⟨_, rfl, h⟩
theorem dict_ne_declines_str (l : Addr) (es : Array DictEntry) (n : Nat) (dd : Option Addr) (sl : Array (Option Value)) (b : Str) (u : Tok) :
    Meets (Builtin.«dict.__ne__» ⟨[.ref l, .str b u], []⟩) (fun _ R s => s.heap.get? l = some { cls := .type "dict", dict := dd, data := .dict es n, slots := sl } ∧ R (.ok (.ret .notImplemented)) s) :=
  .of_wp fun prog w A R s h => by obtain ⟨hp, g, d, tk, os⟩ := s; obtain ⟨hl, h⟩ := h; have f1 := F.sub_str_dict; wp_walk using wpAny_loadPart' hl, wpAny_load hl; exact ⟨_, rfl, h⟩
theorem str_ne_declines_dict (b : Str) (u : Tok) (l : Addr) (c : Value) (es : Array DictEntry) (n : Nat) (dd : Option Addr) (sl : Array (Option Value)) :
    Meets (Builtin.«str.__ne__» ⟨[.str b u, .ref l], []⟩) (fun _ R s => s.heap.get? l = some { cls := c, dict := dd, data := .dict es n, slots := sl } ∧ R (.ok (.ret .notImplemented)) s) :=
  .of_wp fun prog w A R s h => by obtain ⟨hp, g, d, tk, os⟩ := s; obtain ⟨hl, h⟩ := h; wp_walk using wpAny_loadPart' hl, wpAny_load hl; exact ⟨_, rfl, h⟩
section
variable {A : Around} {s : Shared}
theorem RcAt.dict_str {l : Addr} {es : Array DictEntry} {n : Nat} {o : Obj} (b : Str) (u : Tok) (ho : s.heap.get? l = some o) (hc : o.cls = .type "dict") (hd : o.data = .dict es n) (hu : A.units < cLine) : RcAt A s (.ref l) (.str b u) false := fun prog w E Q h => by
  obtain ⟨cls, dd, data, sl⟩ := o
  simp only at hc hd
  subst hc hd
  exact rc_eq_decline_or (k := false) ⟨_, ho, rfl⟩ (typeIs_str s b u) (by decide) F.sub_str_dict F.slot_dict_eq F.slot_str_eq_refl
    (fun _ hq => call_meets F.slot_dict_eq ⟨_, ho, rfl⟩ F.entry_dict_eq (F.args_dict_eq_2 _ _) (dict_eq_declines_str l es n dd sl b u) ⟨ho, hq⟩)
    (fun _ hq => call_meets F.slot_str_eq_refl (typeIs_str s b u) F.entry_str_eq (F.args_str_eq_2 _ _) (str_eq_declines_dict b u l (.type "dict") es n dd sl) ⟨ho, hq⟩)
    (fun _ hq => wpAny_of_eq (rfl : isSame (.ref l) (.str b u) = pure false) hq) (.inr hu) h
theorem RcNeAt.dict_str {l : Addr} {es : Array DictEntry} {n : Nat} {o : Obj} (b : Str) (u : Tok) (ho : s.heap.get? l = some o) (hc : o.cls = .type "dict") (hd : o.data = .dict es n) (hu : A.units < cLine) : RcNeAt A s (.ref l) (.str b u) true := fun prog w E Q h => by
  obtain ⟨cls, dd, data, sl⟩ := o
  simp only at hc hd
  subst hc hd
  exact rc_ne_decline_or (k := false) ⟨_, ho, rfl⟩ (typeIs_str s b u) (by decide) F.sub_str_dict F.slot_dict_ne F.slot_str_ne_refl
    (fun _ hq => call_meets F.slot_dict_ne ⟨_, ho, rfl⟩ F.entry_dict_ne (F.args_dict_ne_2 _ _) (dict_ne_declines_str l es n dd sl b u) ⟨ho, hq⟩)
    (fun _ hq => call_meets F.slot_str_ne_refl (typeIs_str s b u) F.entry_str_ne (F.args_str_ne_2 _ _) (str_ne_declines_dict b u l (.type "dict") es n dd sl) ⟨ho, hq⟩)
    (fun _ hq => wpAny_of_eq (rfl : isSame (.ref l) (.str b u) = pure false) hq) (.inr hu) h
end
end PySem.SeqAt
namespace Sw
open PySem PySem.Spec PyProof.Rows L2
section
variable {X : Cx}
/-- x == y, x data, y data; a dict and a text are unlike -/
def rEqX (K : PySem.W.Frag) : R2 := fun x y H Q => rEqD K x y H Q ∨ ∃ a kvs z, x = .ref a ∧ H a = some (.dK kvs) ∧ y = .str z ∧ Q (.bl false) H
def rNeX (K : PySem.W.Frag) : R2 := fun x y H Q => rNeD K x y H Q ∨ ∃ a kvs z, x = .ref a ∧ H a = some (.dK kvs) ∧ y = .str z ∧ Q (.bl true) H
theorem op_eqX (hu : X.A.units + 64 < cLine) : OpR X (compareOp .Eq) (rEqX X.K) := by
  intro pins s σ H x y v u Q I rx ry h
  rcases h with h | ⟨a, kvs, z, rfl, ha, rfl, q⟩
  · exact op_eqD hu pins s σ H x y v u Q I rx ry h
  · cases rx
    obtain ⟨t, rfl⟩ := ry
    obtain ⟨_, notSys, vs, kv, o, es, ep, ho, ex, hd, _, pr, _⟩ : ObjOk X.prog X.w H s.heap _ (.dK _) := I.hok _ _ ha
    exact SeqAt.RcAt.dict_str z t ho ex.1 hd (by omega) _ _ _ _ ⟨.bl _, H, I, rfl, q⟩
theorem op_neX (hu : X.A.units + 64 < cLine) : OpR X (compareOp .NotEq) (rNeX X.K) := by
  intro pins s σ H x y v u Q I rx ry h
  rcases h with h | ⟨a, kvs, z, rfl, ha, rfl, q⟩
  · exact op_neD hu pins s σ H x y v u Q I rx ry h
  · cases rx
    obtain ⟨t, rfl⟩ := ry
    obtain ⟨_, notSys, vs, kv, o, es, ep, ho, ex, hd, _, pr, _⟩ : ObjOk X.prog X.w H s.heap _ (.dK _) := I.hok _ _ ha
    exact SeqAt.RcNeAt.dict_str z t ho ex.1 hd (by omega) _ _ _ _ ⟨.bl _, H, I, rfl, q⟩
/-- x in y, y a tuple of data -/
def rInT (K : PySem.W.Frag) : R2 := fun x y H Q => ∃ d ds, Dp K H x d ∧ Dp K H y (.tuple ds) ∧ SeqAt.shaped d = true ∧ SeqAt.shaped (.tuple ds) = true ∧ PyData.depthAll ds ≤ 10 ∧ Q (.bl (ds.any fun z => PyData.eqv z d)) H
theorem op_inT (hu : X.A.units + 64 < cLine) : OpR X (compareOp .In) (rInT X.K) := by
  intro pins s σ H x y v u Q I rx ry h
  obtain ⟨d, ds, hd, he, sd, se, dp, q⟩ := h
  obtain ⟨as, r1⟩ := Dp.reads I d x v hd rx
  obtain ⟨bs, r2⟩ := Dp.reads I (.tuple ds) y u he ry
  exact SeqAt.in_tuple_reads r2 r1 (SeqAt.canLay_of_shaped se) (SeqAt.canLay_of_shaped sd) (by have := Nat.min_le_left (PyData.depthAll ds) d.depth; omega) ⟨.bl _, H, I, rfl, q⟩
end
/-- whether data is the text l -/
def isS (l : List Nat) : PyData → Bool
  | .str z => decide (z = S l)
  | _ => false
theorem eqv_str_r (d : PyData) (l : List Nat) : PyData.eqv d (.str (S l)) = isS l d := by
  cases d <;> simp [PyData.eqv, isS] <;> rfl
theorem eqv_str_l (d : PyData) (l : List Nat) : PyData.eqv (.str (S l)) d = isS l d := by
  cases d with
  | str z =>
    simp only [PyData.eqv, isS]
    by_cases h : z = S l
    · rw [h, decide_eq_true rfl]; exact beq_self_eq_true _
    · rw [decide_eq_false h]; exact beq_eq_false_iff_ne.mpr (Ne.symm h)
  | _ => simp [PyData.eqv, isS]
theorem dp_strs' {K : PySem.W.Frag} {H : Hp} : ∀ ws : List (List Nat), DpAll K H (ws.map fun l => V.str (S l)) (ws.map fun l => PyData.str (S l))
  | [] => .nil
  | l :: ws => .cons (.str _) (dp_strs' ws)
/-- data without a dict inside, or an empty dict -/
def Ok1 (d : PyData) : Prop := d = .dict [] ∨ d.hasDict = false
theorem i_eqS1 {K : PySem.W.Frag} {H : Hp} {x : V} {d : PyData} {l : List Nat} {Q : VK} {n w : Nat} (h : De K H x d) (s : Sd n w d) (o : Ok1 d) (hl : ∀ c ∈ l, c ≤ 1000) (k : Q (.bl (isS l d)) H) (hn : n ≤ 60 := by omega) : rEqX K x (.str (S l)) H Q := by
  rcases o with rfl | z
  · cases h with | dict h1 h2 => exact .inr ⟨_, _, _, rfl, h1, rfl, k⟩
  · refine .inl (i_eqE h (.str _) s (sd_str hl) z (by simp only [PyData.hasDict]) ?_ hn)
    rw [eqv_str_r]
    exact k
theorem i_neS1 {K : PySem.W.Frag} {H : Hp} {x : V} {d : PyData} {l : List Nat} {Q : VK} {n w : Nat} (h : De K H x d) (s : Sd n w d) (o : Ok1 d) (hl : ∀ c ∈ l, c ≤ 1000) (k : Q (.bl (!isS l d)) H) (hn : n ≤ 60 := by omega) : rNeX K x (.str (S l)) H Q := by
  rcases o with rfl | z
  · cases h with | dict h1 h2 => exact .inr ⟨_, _, _, rfl, h1, rfl, k⟩
  · refine .inl (i_neE h (.str _) s (sd_str hl) z (by simp only [PyData.hasDict]) ?_ hn)
    rw [eqv_str_r]
    exact k
theorem i_inT {K : PySem.W.Frag} {H : Hp} {x : V} {d : PyData} {Q : VK} {n w : Nat} {a : Addr} (ls : List (List Nat)) (h : De K H x d) (s : Sd n w d) (z : d.hasDict = false) (hl : ∀ l ∈ ls, ∀ c ∈ l, c ≤ 1000) (ha : H a = some (.tup (ls.map fun l => .str (S l)))) (k : Q (.bl (ls.any fun l => isS l d)) H) (hn : n ≤ 60 := by omega) : rInT K x (.ref a) H Q := by
  refine ⟨d, ls.map fun l => .str (S l), h.dp z, .tup (sqT_of ha) (dp_strs' ls), s.shaped hn z, ?_, ?_, ?_⟩
  · have s2 : Sd 1 _ (.tuple (ls.map fun l => .str (S l))) := sd_tup (n := 0) (w := (ls.map List.length).foldr max 0) fun d hd => by
      obtain ⟨l, hl2, rfl⟩ := List.mem_map.mp hd
      refine (sd_str (hl l hl2)).mono (by omega) ?_
      clear hd hl k ha
      induction ls with
      | nil => cases hl2
      | cons y ys ih =>
        rw [List.map_cons, List.foldr_cons]
        rcases List.mem_cons.mp hl2 with rfl | hl2
        · exact Nat.le_max_left _ _
        · exact Nat.le_trans (ih hl2) (Nat.le_max_right _ _)
    refine s2.shaped (by omega) ?_
    simp only [PyData.hasDict]
    clear s2 hl k ha
    induction ls with
    | nil => rfl
    | cons y ys ih => simp only [List.map_cons, PyData.hasDictAll, PyData.hasDict, ih, Bool.or_self]
  · have : ∀ ks : List (List Nat), PyData.depthAll (ks.map fun l => PyData.str (S l)) = 0 := by
      intro ks
      induction ks with
      | nil => simp only [List.map_nil, PyData.depthAll]
      | cons y ys ih => simp only [List.map_cons, PyData.depthAll, PyData.depth, ih]; omega
    rw [this]; omega
  · rw [List.any_map]
    simp only [Function.comp_def, eqv_str_l]
    exact k
end Sw
namespace Sw
open PySem PySem.Spec PyProof.Rows L2
/-! ### kinds and passings as data -/
abbrev tLost : List Nat := [108, 111, 115, 116]
abbrev tPut : List Nat := [112, 117, 116]
abbrev tTurned : List Nat := [116, 117, 114, 110, 101, 100]
abbrev tSame : List Nat := [115, 97, 109, 101]
def isI : PyData → Bool
  | .int _ => true
  | _ => false
def isX (m : Int) : PyData → Bool
  | .int i => decide (0 ≤ i) && decide (i < m)
  | _ => false
def isG : PyData → Bool
  | .int i => decide (1 ≤ i) && decide (i ≤ 5)
  | _ => false
def kindB (m : Int) : PyData → Bool
  | .tuple [a, b] => isX m b && (isS tLost a || isS tPut a)
  | .tuple [a, b, c] => isX m b && isX m c && (isS tTurned a && !PyData.eqv b c)
  | _ => false
def sameB (m : Int) : PyData → Bool
  | .tuple [a, b] => isS tSame a && isX m b
  | _ => false
def passB (m : Int) : PyData → Bool
  | .tuple ds => ds.all fun s => sameB m s || kindB m s
  | _ => false
/-- the number of signs, if the data is one -/
def sgn (e : PyData) : Option Int := match e with
  | .int m => if 1 ≤ m ∧ m ≤ 5 then some m else none
  | _ => none
def onG (e : PyData) (b : Int → Bool) : Bool := match sgn e with
  | some m => b m
  | none => false
theorem sgn_some {e : PyData} {m : Int} (h : sgn e = some m) : e = .int m ∧ 1 ≤ m ∧ m ≤ 5 := by
  unfold sgn at h
  split at h
  · split at h
    · cases h; exact ⟨rfl, by assumption⟩
    · cases h
  · cases h
theorem isG_sgn (e : PyData) : isG e = (sgn e).isSome := by
  cases e <;> simp only [isG, sgn, Option.isSome]
  rename_i i
  by_cases h : 1 ≤ i ∧ i ≤ 5
  · rw [if_pos h, decide_eq_true h.1, decide_eq_true h.2]; rfl
  · rw [if_neg h, Bool.and_eq_false_iff]
    by_cases h1 : 1 ≤ i
    · exact .inr (decide_eq_false fun q => h ⟨h1, q⟩)
    · exact .inl (decide_eq_false h1)
/-- a step or what is told in its place: each part is without a dict, or is an empty one; a word ahead of one number has no dict -/
structure StOk (d : PyData) : Prop where
  parts : ∀ ds, d = .tuple ds → ∀ y ∈ ds, Ok1 y
  two : ∀ a b, d = .tuple [a, b] → isI b = true → a.hasDict = false
structure PsOk (d : PyData) : Prop where
  st : StOk d
  all : ∀ ds, d = .tuple ds → ∀ y ∈ ds, StOk y
theorem StOk.flat {d : PyData} (h : d.hasDict = false) : StOk d := by
  have p : ∀ ds, d = .tuple ds → ∀ y ∈ ds, y.hasDict = false := by
    rintro ds rfl y hy
    simp only [PyData.hasDict] at h
    induction ds with
    | nil => cases hy
    | cons z zs ih =>
      simp only [PyData.hasDictAll, Bool.or_eq_false_iff] at h
      rcases List.mem_cons.mp hy with rfl | hy
      · exact h.1
      · exact ih h.2 hy
  exact ⟨fun ds e y hy => .inr (p ds e y hy), fun a b e _ => p _ e _ List.mem_cons_self⟩
theorem hasDict_tup {ds : List PyData} : (PyData.tuple ds).hasDict = false ↔ ∀ y ∈ ds, y.hasDict = false := by
  simp only [PyData.hasDict]
  induction ds with
  | nil => simp [PyData.hasDictAll]
  | cons z zs ih => simp only [PyData.hasDictAll, Bool.or_eq_false_iff, ih, List.mem_cons, forall_eq_or_imp]
theorem PsOk.flat {d : PyData} (h : d.hasDict = false) : PsOk d := by
  refine ⟨.flat h, ?_⟩
  rintro ds rfl y hy
  exact .flat (hasDict_tup.mp h y hy)
theorem StOk.emp : StOk (.dict []) := ⟨fun ds e => by (cases e), fun a b e => by (cases e)⟩
theorem PsOk.emp : PsOk (.dict []) := ⟨.emp, fun ds e => by (cases e)⟩
end Sw
namespace Sw
open PySem PySem.Spec PyProof.Rows L2
theorem Sd.tupI' {n w : Nat} {ds : List PyData} (s : Sd n w (.tuple ds)) : SdAll n w ds := (Sd.tupI (n := n) (s.mono (by omega) (Nat.le_refl _)))
theorem Sd.lstI' {n w : Nat} {ds : List PyData} (s : Sd n w (.list ds)) : SdAll n w ds := (Sd.lstI (n := n) (s.mono (by omega) (Nat.le_refl _)))
theorem i_yes {σ : L2.St} {H : Hp} {R : Bool → Hp → Prop} (h : R true H) : tYes σ H R := h
/-! ### parts of tuples -/
theorem i_slTF {K : PySem.W.Frag} {a : Addr} {xs : List V} {k : Nat} {H : Hp} {Q : VK} (h : SqT K H a xs) (q : ∀ b H', Same H H' → SqT K H' b (xs.drop k) → Q (.ref b) H') : rSlA K (.ref a) (some (k : Int)) none H Q := by
  refine ⟨a, xs, rfl, h, fun e => ?_, fun e p np => ?_⟩
  · rw [HT.sIx_nat] at e
    refine q _ _ (Same.refl _) ?_
    by_cases hk : k = 0
    · rw [hk, List.drop_zero]; exact h
    · have : xs = [] := List.eq_nil_of_length_eq_zero (by omega)
      rw [this, List.drop_nil]; rw [this] at h; exact h
  · have : cutV xs (some (k : Int)) none = xs.drop k := by
      unfold cutV
      rw [HT.sIx_nat, HT.sIx_none]
      by_cases hk : k ≤ xs.length
      · rw [Nat.min_eq_left hk, List.take_of_length_le (by rw [List.length_drop]; omega)]
      · rw [Nat.min_eq_right (by omega), List.drop_of_length_le (by omega), List.drop_of_length_le (by omega), List.take_nil]
    rw [this]
    exact q _ _ (same_upd np) (sqT_of upd_same)
theorem i_slTT {K : PySem.W.Frag} {a : Addr} {xs : List V} {k : Nat} {H : Hp} {Q : VK} (h : SqT K H a xs) (q : ∀ b H', Same H H' → SqT K H' b (xs.take k) → Q (.ref b) H') : rSlA K (.ref a) none (some (k : Int)) H Q := by
  refine ⟨a, xs, rfl, h, fun e => ?_, fun e p np => ?_⟩
  · rw [HT.sIx_nat, HT.sIx_none] at e
    refine q _ _ (Same.refl _) ?_
    rw [List.take_of_length_le (by omega)]; exact h
  · have : cutV xs none (some (k : Int)) = xs.take k := by
      unfold cutV
      rw [HT.sIx_nat, HT.sIx_none, List.drop_zero, Nat.sub_zero]
      by_cases hk : k ≤ xs.length
      · rw [Nat.min_eq_left hk]
      · rw [Nat.min_eq_right (by omega), List.take_length, List.take_of_length_le (by omega)]
    rw [this]
    exact q _ _ (same_upd np) (sqT_of upd_same)
theorem i_catT {K : PySem.W.Frag} {a b : Addr} {xs ys : List V} {H : Hp} {Q : VK} (h : SqT K H a xs) (h2 : SqT K H b ys) (l : xs.length + ys.length ≤ sizeLine) (q : ∀ c H', Same H H' → SqT K H' c (xs ++ ys) → Q (.ref c) H') : rCatA K (.ref a) (.ref b) H Q := by
  refine ⟨a, b, xs, ys, rfl, rfl, h, h2, l, fun e => ?_, fun e1 e2 => ?_, fun e1 e2 p np => ?_⟩
  · rw [e] at q; exact q _ _ (Same.refl _) h2
  · rw [e2, List.append_nil] at q; exact q _ _ (Same.refl _) h
  · exact q _ _ (same_upd np) (sqT_of upd_same)
theorem inV_two (n i j : Int) : inV (.int n) [.int i, .int j] = (decide (n = i) || decide (n = j)) := by
  show (i == n || (j == n || false)) = _
  rw [Bool.or_false]
  congr 1
  · by_cases h : n = i
    · rw [h, decide_eq_true rfl]; exact beq_self_eq_true _
    · rw [decide_eq_false h]; exact beq_eq_false_iff_ne.mpr (Ne.symm h)
  · by_cases h : n = j
    · rw [h, decide_eq_true rfl]; exact beq_self_eq_true _
    · rw [decide_eq_false h]; exact beq_eq_false_iff_ne.mpr (Ne.symm h)
theorem i_ixTn {K : PySem.W.Frag} {p : Addr} {xs : List V} {k : Nat} {v : V} {H : Hp} {Q : VK} (h1 : SqT K H p xs) (h2 : xs[k]? = some v) (h : Q v H) : rIxT K (.ref p) (.int (k : Int)) H Q := by
  refine i_ixT h1 ?_ h
  have : k < xs.length := by
    rcases Nat.lt_or_ge k xs.length with q | q
    · exact q
    · rw [List.getElem?_eq_none q] at h2; cases h2
  unfold atI ixN
  rw [if_pos (by omega), if_pos (by omega), Int.toNat_natCast]
  exact h2
theorem i_lenSqT {K : PySem.W.Frag} {p : Addr} {xs : List V} {H : Hp} {Q : VK} (h1 : SqT K H p xs) (h : Q (.int xs.length) H) : rLenQ K [.ref p] H Q := ⟨p, xs, rfl, .inr h1, h⟩
theorem DeAll.getD {K : PySem.W.Frag} {H : Hp} {vs : List V} {ds : List PyData} {i : Nat} {v : V} (h : DeAll K H vs ds) (e : vs[i]? = some v) : De K H v (ds.getD i .none) := by
  obtain ⟨d, h1, h2⟩ := h.get e
  rw [List.getD_eq_getElem?_getD, h1]; exact h2
theorem map_getD {α : Type} (ds : List PyData) (g : PyData → α) : (List.range ds.length).map (fun i => g (ds.getD i .none)) = ds.map g := range_map_get ds _ g fun i x hx => by rw [List.getD_eq_getElem?_getD, hx]; rfl
end Sw
namespace Sw
open PySem PySem.Spec PyProof.Rows L2
/-! ### data without lists stays while a list changes -/
mutual
def noL : PyData → Bool
  | .list _ => false
  | .tuple xs => noLAll xs
  | .dict [] => true
  | .dict _ => false
  | _ => true
def noLAll : List PyData → Bool
  | [] => true
  | x :: xs => noL x && noLAll xs
end
/-- all is kept but the list at p -/
def KeepP (p : Addr) (H H' : Hp) : Prop := ∀ a o, (a ≠ p ∨ ∀ xs, o ≠ .lst xs) → H a = some o → H' a = some o
theorem keepP_upd {H : Hp} {p : Addr} {xs ys : List V} (h : H p = some (.lst xs)) : KeepP p H (upd H p (.lst ys)) := fun a o q e => by
  by_cases c : a = p
  · subst c
    rw [h] at e
    cases e
    exact (q.elim (fun q => q rfl) fun q => q _ rfl).elim
  · rw [L2.upd_ne c]; exact e
theorem Same.keepP {H H' : Hp} {p : Addr} (s : Same H H') : KeepP p H H' := fun a o _ e => s a o e
theorem KeepP.trans {H1 H2 H3 : Hp} {p : Addr} (s : KeepP p H1 H2) (t : KeepP p H2 H3) : KeepP p H1 H3 := fun a o q e => t a o q (s a o q e)
theorem KeepP.sqT {K : PySem.W.Frag} {H H' : Hp} {p a : Addr} {xs : List V} (k : KeepP p H H') (h : SqT K H a xs) : SqT K H' a xs := by
  rcases h with (h | ⟨o, h⟩) | h
  · exact .inl (.inl (k _ _ (.inr fun _ => HO.noConfusion) h))
  · exact .inl (.inr ⟨o, k _ _ (.inr fun _ => HO.noConfusion) h⟩)
  · exact .inr h
mutual
theorem De.keep {K : PySem.W.Frag} {H H' : Hp} {p : Addr} (s : KeepP p H H') : ∀ {v : V} {d : PyData}, De K H v d → noL d = true → De K H' v d
  | _, _, .non, _ => .non
  | _, _, .bl b, _ => .bl b
  | _, _, .int i, _ => .int i
  | _, _, .str x, _ => .str x
  | _, _, .lst h1 h0 h2, n => by simp [noL] at n
  | _, _, .tup h1 h2, n => .tup (s.sqT h1) (DeAll.keep s h2 (by simpa only [noL] using n))
  | _, _, .dict h1 (.nil), n => .dict (s _ _ (.inr fun _ => HO.noConfusion) h1) .nil
  | _, _, .dict h1 (.cons _ _), n => by simp [noL] at n
theorem DeAll.keep {K : PySem.W.Frag} {H H' : Hp} {p : Addr} (s : KeepP p H H') : ∀ {vs : List V} {ds : List PyData}, DeAll K H vs ds → noLAll ds = true → DeAll K H' vs ds
  | _, _, .nil, _ => .nil
  | _, _, .cons h1 h2, n => by
    simp only [noLAll, Bool.and_eq_true] at n
    exact .cons (De.keep s h1 n.1) (DeAll.keep s h2 n.2)
end
theorem noLAll_iff {ds : List PyData} : noLAll ds = true ↔ ∀ d ∈ ds, noL d = true := by
  induction ds with
  | nil => simp [noLAll]
  | cons d ds ih => simp only [noLAll, Bool.and_eq_true, ih, List.mem_cons, forall_eq_or_imp]
theorem push_de {K : PySem.W.Frag} {H : Hp} {t p : Addr} {vs : List V} {ds : List PyData} {o : HO} {d : PyData} (hp : H p = some (.lst vs)) (hd : DeAll K H vs ds) (nl : noLAll ds = true) (nt : H t = none) (new : De K (upd H t o) (.ref t) d) (nd : noL d = true) :
    DeAll K (upd (upd H t o) p (.lst (vs ++ [.ref t]))) (vs ++ [.ref t]) (ds ++ [d]) := by
  have hp2 := upd_old (o := o) nt hp
  have k := keepP_upd (ys := vs ++ [.ref t]) hp2
  exact ((hd.same (same_upd nt)).keep k nl).app (.cons (new.keep k nd) .nil)
theorem push_val {K : PySem.W.Frag} {H : Hp} {p : Addr} {vs : List V} {ds : List PyData} {v : V} {d : PyData} (hp : H p = some (.lst vs)) (hd : DeAll K H vs ds) (nl : noLAll ds = true) (new : De K H v d) (nd : noL d = true) :
    DeAll K (upd H p (.lst (vs ++ [v]))) (vs ++ [v]) (ds ++ [d]) := by
  have k := keepP_upd (ys := vs ++ [v]) hp
  exact (hd.keep k nl).app (.cons (new.keep k nd) .nil)
end Sw
namespace Sw
open PySem PySem.Spec PyProof.Rows L2
/-! ### heaps beside the box of draws -/
theorem del_sb {b : Addr} {H H' : Hp} (s : SB b H H') : Same (L2.del H b) (L2.del H' b) := fun a o e => by
  by_cases c : a = b
  · subst c; rw [L2.del_same] at e; cases e
  · rw [L2.del_ne c] at e ⊢; exact s a o c e
theorem del_sub {b : Addr} {H : Hp} : Same (L2.del H b) H := fun a o e => by
  by_cases c : a = b
  · subst c; rw [L2.del_same] at e; cases e
  · rw [L2.del_ne c] at e; exact e
theorem box_some {H : Hp} {b : Addr} {d : Int} (B : BoxAt H b d) : ∃ o, H b = some o := by obtain ⟨_, _, _, _, e, _⟩ := B.ex; exact ⟨_, e⟩
theorem box_ne {H : Hp} {b p : Addr} {d : Int} (B : BoxAt H b d) (n : H p = none) : p ≠ b := by
  rintro rfl
  obtain ⟨o, e⟩ := box_some B
  rw [n] at e; cases e
theorem del_new {H : Hp} {b p : Addr} {d : Int} {o : HO} (B : BoxAt H b d) (n : H p = none) : L2.del (upd H p o) b p = some o := by rw [L2.del_ne (box_ne B n)]; exact upd_same
theorem BoxAt.upd_ne' {H : Hp} {b p : Addr} {d : Int} {o : HO} (B : BoxAt H b d) (h : p ≠ b) : BoxAt (upd H p o) b d := by
  obtain ⟨n, g, c, e, hb, hr⟩ := B.ex
  exact ⟨n, g, c, e, by rw [L2.upd_ne (Ne.symm h)]; exact hb, hr⟩
/-- a new thing is made and told -/
def NewT (xs : List V) (H : Hp) (Q : VK) : Prop := xs.length ≤ sizeLine ∧ ∀ p, H p = none → Q (.ref p) (upd H p (.tup xs))
def NewL (xs : List V) (H : Hp) (Q : VK) : Prop := xs.length ≤ sizeLine ∧ ∀ p, H p = none → Q (.ref p) (upd H p (.lst xs))
def NewLL (xs : List V) (H : Hp) (Q : VK) : Prop := xs.length ≤ sizeLine ∧ ∀ p, H p = none → sysModules < p → Q (.ref p) (upd H p (.lst xs))
def NewD (H : Hp) (Q : VK) : Prop := ∀ p, H p = none → Q (.ref p) (upd H p (.dK []))
section
variable {σ : L2.St} {H : Hp} {Q : VK} {b : Addr} {d : Int} {t : TA} {xs : List V}
theorem i_tupM (h : t σ H fun xs H1 => NewT xs H1 Q) : tTup t σ H Q := h
theorem i_lstM (h : t σ H fun xs H1 => NewL xs H1 Q) : tLst t σ H Q := h
theorem i_lstLM (h : t σ H fun xs H1 => NewLL xs H1 Q) : tLstL t σ H Q := h
theorem i_dnewM (h : NewD H Q) : tDNewK σ H Q := h
theorem newT (B : BoxAt H b d) (l : xs.length ≤ sizeLine) (k : ∀ p H', BoxAt H' b d → Same (L2.del H b) (L2.del H' b) → L2.del H' b p = some (.tup xs) → Same H H' → Q (.ref p) H') : NewT xs H Q :=
  ⟨l, fun p n => k p _ (B.same (same_upd n)) (del_sb (SB.of (same_upd n))) (del_new B n) (same_upd n)⟩
theorem newL (B : BoxAt H b d) (l : xs.length ≤ sizeLine) (k : ∀ p H', BoxAt H' b d → Same (L2.del H b) (L2.del H' b) → L2.del H' b p = some (.lst xs) → Same H H' → Q (.ref p) H') : NewL xs H Q :=
  ⟨l, fun p n => k p _ (B.same (same_upd n)) (del_sb (SB.of (same_upd n))) (del_new B n) (same_upd n)⟩
theorem newLL (B : BoxAt H b d) (l : xs.length ≤ sizeLine) (k : ∀ p H', sysModules < p → H p = none → BoxAt H' b d → Same (L2.del H b) (L2.del H' b) → L2.del H' b p = some (.lst xs) → Same H H' → Q (.ref p) H') : NewLL xs H Q :=
  ⟨l, fun p n lt => k p _ lt n (B.same (same_upd n)) (del_sb (SB.of (same_upd n))) (del_new B n) (same_upd n)⟩
theorem newD (B : BoxAt H b d) (k : ∀ p H', BoxAt H' b d → Same (L2.del H b) (L2.del H' b) → L2.del H' b p = some (.dK []) → Same H H' → Q (.ref p) H') : NewD H Q :=
  fun p n => k p _ (B.same (same_upd n)) (del_sb (SB.of (same_upd n))) (del_new B n) (same_upd n)
/-- without a box -/
theorem newT0 (l : xs.length ≤ sizeLine) (k : ∀ p H', H p = none → Same H H' → H' p = some (.tup xs) → Q (.ref p) H') : NewT xs H Q := ⟨l, fun p n => k p _ n (same_upd n) upd_same⟩
theorem newL0 (l : xs.length ≤ sizeLine) (k : ∀ p H', H p = none → Same H H' → H' p = some (.lst xs) → Q (.ref p) H') : NewL xs H Q := ⟨l, fun p n => k p _ n (same_upd n) upd_same⟩
theorem newLL0 (l : xs.length ≤ sizeLine) (k : ∀ p H', H p = none → sysModules < p → Same H H' → H' p = some (.lst xs) → Q (.ref p) H') : NewLL xs H Q := ⟨l, fun p n lt => k p _ n lt (same_upd n) upd_same⟩
theorem newD0 (k : ∀ p H', H p = none → Same H H' → H' p = some (.dK []) → Q (.ref p) H') : NewD H Q := fun p n => k p _ n (same_upd n) upd_same
end
/-! ### odd values -/
/-- H' has all of G but the lists that lie in H0 -/
def Kept (H0 G H' : Hp) : Prop := ∀ a o, G a = some o → ((∀ xs, o ≠ .lst xs) ∨ H0 a = none) → H' a = some o
theorem Kept.refl (H0 G : Hp) : Kept H0 G G := fun _ _ e _ => e
theorem Kept.same {H0 G G' H' : Hp} (k : Kept H0 G' H') (s : Same G G') : Kept H0 G H' := fun a o e q => k a o (s a o e) q
theorem Kept.sqT {K : PySem.W.Frag} {H0 H H' : Hp} {a : Addr} {xs : List V} (k : Kept H0 H H') (h : SqT K H a xs) : SqT K H' a xs := by
  rcases h with (h | ⟨o, h⟩) | h
  · exact .inl (.inl (k _ _ h (.inl fun _ => HO.noConfusion)))
  · exact .inl (.inr ⟨o, k _ _ h (.inl fun _ => HO.noConfusion)⟩)
  · exact .inr h
mutual
theorem De.kept {K : PySem.W.Frag} {H0 H H' : Hp} (s : Kept H0 H H') : ∀ {v : V} {d : PyData}, De K H v d → noL d = true → De K H' v d
  | _, _, .non, _ => .non
  | _, _, .bl b, _ => .bl b
  | _, _, .int i, _ => .int i
  | _, _, .str x, _ => .str x
  | _, _, .lst h1 h0 h2, n => by simp [noL] at n
  | _, _, .tup h1 h2, n => .tup (s.sqT h1) (DeAll.kept s h2 (by simpa only [noL] using n))
  | _, _, .dict h1 (.nil), n => .dict (s _ _ h1 (.inl fun _ => HO.noConfusion)) .nil
  | _, _, .dict h1 (.cons _ _), n => by simp [noL] at n
theorem DeAll.kept {K : PySem.W.Frag} {H0 H H' : Hp} (s : Kept H0 H H') : ∀ {vs : List V} {ds : List PyData}, DeAll K H vs ds → noLAll ds = true → DeAll K H' vs ds
  | _, _, .nil, _ => .nil
  | _, _, .cons h1 h2, n => by
    simp only [noLAll, Bool.and_eq_true] at n
    exact .cons (De.kept s h1 n.1) (DeAll.kept s h2 n.2)
end
section
variable {K : PySem.W.Frag} {H0 G G' : Hp} {v x : V} {p : Addr} {xs : List V}
/-- what may lie in a told tuple: data of little size without a dict, its lists not in H0 -/
def AtomV (K : PySem.W.Frag) (H0 G : Hp) (v : V) : Prop := ∃ d, (∀ H', Kept H0 G H' → De K H' v d) ∧ d.hasDict = false ∧ Sd 3 170 d
/-- the same without lists -/
def AtomN (K : PySem.W.Frag) (H0 G : Hp) (v : V) : Prop := ∃ d, (∀ H', Kept H0 G H' → De K H' v d) ∧ d.hasDict = false ∧ Sd 3 170 d ∧ noL d = true
def AllA (K : PySem.W.Frag) (H0 G : Hp) : List V → Prop
  | [] => True
  | x :: xs => AtomV K H0 G x ∧ AllA K H0 G xs
def AllN (K : PySem.W.Frag) (H0 G : Hp) : List V → Prop
  | [] => True
  | x :: xs => AtomN K H0 G x ∧ AllN K H0 G xs
theorem AtomV.same (h : AtomV K H0 G v) (s : Same G G') : AtomV K H0 G' v := by
  obtain ⟨d, h1, h2, h3⟩ := h
  exact ⟨d, fun H' k => h1 H' (k.same s), h2, h3⟩
theorem AtomN.same (h : AtomN K H0 G v) (s : Same G G') : AtomN K H0 G' v := by
  obtain ⟨d, h1, h2, h3, h4⟩ := h
  exact ⟨d, fun H' k => h1 H' (k.same s), h2, h3, h4⟩
theorem AtomN.va (h : AtomN K H0 G v) : AtomV K H0 G v := by
  obtain ⟨d, h1, h2, h3, _⟩ := h
  exact ⟨d, h1, h2, h3⟩
theorem AllN.va : ∀ {vs : List V}, AllN K H0 G vs → AllA K H0 G vs
  | [], _ => trivial
  | _ :: _, h => ⟨h.1.va, AllN.va h.2⟩
theorem AllN.same (s : Same G G') : ∀ {vs : List V}, AllN K H0 G vs → AllN K H0 G' vs
  | [], _ => trivial
  | _ :: _, h => ⟨h.1.same s, AllN.same s h.2⟩
theorem AtomV.str {l : List Nat} (h : ∀ c ∈ l, c ≤ 1000) (n : l.length ≤ 20) : AtomV K H0 G (.str (S l)) := ⟨_, fun _ _ => .str _, by simp only [PyData.hasDict], (sd_str h).mono (by omega) (by omega)⟩
theorem AtomV.int {i : Int} (h : i.natAbs < 10 ^ 40) : AtomV K H0 G (.int i) := ⟨_, fun _ _ => .int _, by simp only [PyData.hasDict], (sd_int h).mono (by omega) (by omega)⟩
theorem AtomV.bl (c : Bool) : AtomV K H0 G (.bl c) := ⟨_, fun _ _ => .bl _, by simp only [PyData.hasDict], (sd_bl c).mono (by omega) (by omega)⟩
theorem AtomV.non : AtomV K H0 G .non := ⟨_, fun _ _ => .non, by simp only [PyData.hasDict], sd_non.mono (by omega) (by omega)⟩
theorem AtomN.str {l : List Nat} (h : ∀ c ∈ l, c ≤ 1000) (n : l.length ≤ 20) : AtomN K H0 G (.str (S l)) := ⟨_, fun _ _ => .str _, by simp only [PyData.hasDict], (sd_str h).mono (by omega) (by omega), rfl⟩
theorem AtomN.int {i : Int} (h : i.natAbs < 10 ^ 40) : AtomN K H0 G (.int i) := ⟨_, fun _ _ => .int _, by simp only [PyData.hasDict], (sd_int h).mono (by omega) (by omega), rfl⟩
theorem AtomN.deD {d : PyData} (h : De K G v d) (z : d.hasDict = false) (s : Sd 3 170 d) (n : noL d = true) : AtomN K H0 G v := ⟨d, fun _ k => h.kept k n, z, s, n⟩
theorem AtomN.tupD {ds : List PyData} (h : G p = some (.tup xs)) (a : DeAll K G xs ds) (z : (PyData.tuple ds).hasDict = false) (s : Sd 3 170 (.tuple ds)) (n : noLAll ds = true) : AtomN K H0 G (.ref p) := .deD (.tup (sqT_of h) a) z s (by simpa only [noL] using n)
theorem AtomV.lst {i : Int} (h : G p = some (.lst [.int i])) (lt : sysModules < p) (n : H0 p = none) (hi : i.natAbs < 10 ^ 20) : AtomV K H0 G (.ref p) := by
  have si : Sd 2 140 (.int i) := (sd_int (Nat.lt_of_lt_of_le hi (by decide))).mono (by omega) (by omega)
  exact ⟨.list [.int i], fun H' k => .lst (k _ _ h (.inr n)) lt (.cons (.int _) .nil), by simp only [PyData.hasDict, PyData.hasDictAll, Bool.or_self], (sd_lst' (.cons si .nil)).mono (by omega) (by omega)⟩
theorem AtomV.tup {i : Int} (h : G p = some (.tup [.int i])) (hi : i.natAbs < 10 ^ 20) : AtomV K H0 G (.ref p) := by
  have si : Sd 2 140 (.int i) := (sd_int (Nat.lt_of_lt_of_le hi (by decide))).mono (by omega) (by omega)
  exact (AtomN.tupD h (.cons (.int _) .nil) (by simp only [PyData.hasDict, PyData.hasDictAll, Bool.or_self]) ((sd_tup' (.cons si .nil)).mono (by omega) (by omega)) rfl).va
theorem AtomV.tupS {l : List Nat} (h : G p = some (.tup [.str (S l)])) (h1 : ∀ c ∈ l, c ≤ 1000) (h2 : l.length ≤ 20) : AtomV K H0 G (.ref p) :=
  (AtomN.tupD h (.cons (.str _) .nil) (by simp only [PyData.hasDict, PyData.hasDictAll, Bool.or_self]) ((sd_tup' (n := 2) (.cons ((sd_str h1).mono (by omega) (Nat.le_refl _)) .nil)).mono (by omega) (by omega)) rfl).va
theorem AllA.data : ∀ {vs : List V}, AllA K H0 G vs → ∃ ds, (∀ H', Kept H0 G H' → DeAll K H' vs ds) ∧ ds.length = vs.length ∧ (∀ d ∈ ds, d.hasDict = false ∧ Sd 3 170 d)
  | [], _ => ⟨[], fun _ _ => .nil, rfl, fun d h => by cases h⟩
  | v :: vs, h => by
    obtain ⟨d, h1, h2, h3⟩ := h.1
    obtain ⟨ds, k1, kl, k2⟩ := AllA.data h.2
    exact ⟨d :: ds, fun H' k => .cons (h1 H' k) (k1 H' k), by rw [List.length_cons, List.length_cons, kl], fun x hx => (List.mem_cons.mp hx).elim (fun e => e ▸ ⟨h2, h3⟩) (k2 x)⟩
theorem AllN.data : ∀ {vs : List V}, AllN K H0 G vs → ∃ ds, (∀ H', Kept H0 G H' → DeAll K H' vs ds) ∧ ds.length = vs.length ∧ (∀ d ∈ ds, d.hasDict = false ∧ Sd 3 170 d ∧ noL d = true)
  | [], _ => ⟨[], fun _ _ => .nil, rfl, fun d h => by cases h⟩
  | v :: vs, h => by
    obtain ⟨d, h1, h2, h3, h4⟩ := h.1
    obtain ⟨ds, k1, kl, k2⟩ := AllN.data h.2
    exact ⟨d :: ds, fun H' k => .cons (h1 H' k) (k1 H' k), by rw [List.length_cons, List.length_cons, kl], fun x hx => (List.mem_cons.mp hx).elim (fun e => e ▸ ⟨h2, h3, h4⟩) (k2 x)⟩
/-- what may lie in a told list -/
def LsOk (d : PyData) : Prop := ∀ ds, d = .list ds → noLAll ds = true
/-- a value that may be told for a step -/
def OddV (K : PySem.W.Frag) (H0 G : Hp) (v : V) : Prop := ∃ d, (∀ H', Kept H0 G H' → De K H' v d) ∧ Ok1 d ∧ Sd 4 1000 d ∧ LsOk d
theorem OddV.same (h : OddV K H0 G v) (s : Same G G') : OddV K H0 G' v := by
  obtain ⟨d, h1, h2, h3, h4⟩ := h
  exact ⟨d, fun H' k => h1 H' (k.same s), h2, h3, h4⟩
theorem OddV.atom (h : AtomN K H0 G v) : OddV K H0 G v := by
  obtain ⟨d, h1, h2, h3, h4⟩ := h
  exact ⟨d, h1, .inr h2, h3.mono (by omega) (by omega), fun ds e => by rw [e] at h4; simp [noL] at h4⟩
theorem OddV.non : OddV K H0 G .non := ⟨_, fun _ _ => .non, .inr (by simp only [PyData.hasDict]), sd_non.mono (by omega) (by omega), fun ds e => by cases e⟩
theorem OddV.bl (c : Bool) : OddV K H0 G (.bl c) := ⟨_, fun _ _ => .bl c, .inr (by simp only [PyData.hasDict]), (sd_bl c).mono (by omega) (by omega), fun ds e => by cases e⟩
theorem OddV.emp (h : G p = some (.dK [])) : OddV K H0 G (.ref p) := ⟨_, fun _ k => .dict (k _ _ h (.inl fun _ => HO.noConfusion)) .nil, .inl rfl, sd_emp.mono (by omega) (by omega), fun ds e => by cases e⟩
theorem OddV.tupS (h : SqT K G p xs) (l : xs.length ≤ 5) (a : AllA K H0 G xs) : OddV K H0 G (.ref p) := by
  obtain ⟨ds, h1, hl, h2⟩ := a.data
  refine ⟨_, fun H' k => .tup (k.sqT h) (h1 H' k), .inr (hasDict_tup.mpr fun y hy => (h2 y hy).1), (sd_tup fun d hd => (h2 d hd).2).mono (by omega) ?_, fun ds e => by cases e⟩
  rw [hl]
  exact Nat.le_trans (Nat.mul_le_mul_right _ l) (by decide)
theorem OddV.tup (h : G p = some (.tup xs)) (l : xs.length ≤ 5) (a : AllA K H0 G xs) : OddV K H0 G (.ref p) := .tupS (sqT_of h) l a
theorem OddV.lst (h : G p = some (.lst xs)) (lt : sysModules < p) (n : H0 p = none) (l : xs.length ≤ 5) (a : AllN K H0 G xs) : OddV K H0 G (.ref p) := by
  obtain ⟨ds, h1, hl, h2⟩ := a.data
  have z : ∀ y ∈ ds, y.hasDict = false := fun y hy => (h2 y hy).1
  refine ⟨_, fun H' k => .lst (k _ _ h (.inr n)) lt (h1 H' k), .inr ?_, (sd_lst fun d hd => (h2 d hd).2.1).mono (by omega) ?_, fun es e => ?_⟩
  · have := hasDict_tup.mpr z
    simpa only [PyData.hasDict] using this
  · rw [hl]
    exact Nat.le_trans (Nat.mul_le_mul_right _ l) (by decide)
  · cases e; exact noLAll_iff.mpr fun y hy => (h2 y hy).2.2
def Odds (K : PySem.W.Frag) (H0 G : Hp) (vs : List V) : Prop := ∀ v ∈ vs, OddV K H0 G v
theorem Odds.nil : Odds K H0 G [] := fun v h => by cases h
theorem Odds.same {vs : List V} (h : Odds K H0 G vs) (s : Same G G') : Odds K H0 G' vs := fun v hv => (h v hv).same s
theorem Odds.snoc {vs : List V} (h : Odds K H0 G vs) (o : OddV K H0 G v) : Odds K H0 G (vs ++ [v]) := fun x hx => (List.mem_append.mp hx).elim (h x) fun q => by rw [List.mem_singleton.mp q]; exact o
theorem Odds.app {vs ws : List V} (h : Odds K H0 G vs) (o : Odds K H0 G ws) : Odds K H0 G (vs ++ ws) := fun x hx => (List.mem_append.mp hx).elim (h x) (o x)
end
theorem fresh0 {b p : Addr} {d : Int} {H0 H : Hp} (s : SB b H0 H) (B : BoxAt H b d) (n : H p = none) : H0 p = none := by
  have npb := box_ne B n
  rcases e : H0 p with _ | o
  · rfl
  · rw [s _ _ npb e] at n; cases n
section
variable {K : PySem.W.Frag} {H : Hp} {Q : VK} {b : Addr} {d : Int}
theorem i_listB {p : Addr} {ys : List V} (B : BoxAt H b d) (h : SqL K H p ys ∨ SqT K H p ys) (k : ∀ l H', sysModules < l → H l = none → BoxAt H' b d → Same (L2.del H b) (L2.del H' b) → L2.del H' b l = some (.lst ys) → Same H H' → Q (.ref l) H') : rListL K [.ref p] H Q :=
  i_listL h fun l n lt => k l _ lt n (B.same (same_upd n)) (del_sb (SB.of (same_upd n))) (del_new B n) (same_upd n)
theorem i_catB {a c : Addr} {xs ys : List V} (B : BoxAt H b d) (h : SqT K (L2.del H b) a xs) (h2 : SqT K (L2.del H b) c ys) (l : xs.length + ys.length ≤ sizeLine) (k : ∀ t H', BoxAt H' b d → Same (L2.del H b) (L2.del H' b) → SqT K (L2.del H' b) t (xs ++ ys) → Same H H' → Q (.ref t) H') : rCatA K (.ref a) (.ref c) H Q := by
  refine ⟨a, c, xs, ys, rfl, rfl, Same.sqT del_sub h, Same.sqT del_sub h2, l, fun e => ?_, fun e1 e2 => ?_, fun e1 e2 p np => ?_⟩
  · rw [e] at k; exact k _ _ B (Same.refl _) h2 (Same.refl _)
  · rw [e2, List.append_nil] at k; exact k _ _ B (Same.refl _) h (Same.refl _)
  · exact k _ _ (B.same (same_upd np)) (del_sb (SB.of (same_upd np))) (sqT_of (del_new B np)) (same_upd np)
theorem i_sl1B {a : Addr} {xs : List V} (B : BoxAt H b d) (h : SqT K H a xs) (l : 2 ≤ xs.length) (k : ∀ t H', BoxAt H' b d → Same (L2.del H b) (L2.del H' b) → L2.del H' b t = some (.tup (xs.take 1)) → Same H H' → Q (.ref t) H') : rSlA K (.ref a) none (some 1) H Q := by
  refine ⟨a, xs, rfl, h, fun e => ?_, fun e p np => ?_⟩
  · rw [show (some (1 : Int)) = some ((1 : Nat) : Int) from rfl, HT.sIx_nat] at e
    omega
  · have : cutV xs none (some 1) = xs.take 1 := by
      unfold cutV
      rw [show (some (1 : Int)) = some ((1 : Nat) : Int) from rfl, HT.sIx_nat, HT.sIx_none, List.drop_zero, Nat.sub_zero, Nat.min_eq_left (by omega)]
    rw [this]
    exact k _ _ (B.same (same_upd np)) (del_sb (SB.of (same_upd np))) (del_new B np) (same_upd np)
theorem i_slTB {a : Addr} {xs : List V} {n : Nat} (B : BoxAt H b d) (h : SqT K (L2.del H b) a xs) (k : ∀ t H', BoxAt H' b d → Same (L2.del H b) (L2.del H' b) → SqT K (L2.del H' b) t (xs.take n) → Same H H' → Q (.ref t) H') : rSlA K (.ref a) none (some (n : Int)) H Q := by
  refine ⟨a, xs, rfl, Same.sqT del_sub h, fun e => ?_, fun e p np => ?_⟩
  · rw [HT.sIx_nat, HT.sIx_none] at e
    refine k _ _ B (Same.refl _) ?_ (Same.refl _)
    rw [List.take_of_length_le (by omega)]; exact h
  · have : cutV xs none (some (n : Int)) = xs.take n := by
      unfold cutV
      rw [HT.sIx_nat, HT.sIx_none, List.drop_zero, Nat.sub_zero]
      by_cases hk : n ≤ xs.length
      · rw [Nat.min_eq_left hk]
      · rw [Nat.min_eq_right (by omega), List.take_length, List.take_of_length_le (by omega)]
    rw [this]
    exact k _ _ (B.same (same_upd np)) (del_sb (SB.of (same_upd np))) (sqT_of (del_new B np)) (same_upd np)
theorem i_slFB {a : Addr} {xs : List V} {n : Nat} (B : BoxAt H b d) (h : SqT K (L2.del H b) a xs) (k : ∀ t H', BoxAt H' b d → Same (L2.del H b) (L2.del H' b) → SqT K (L2.del H' b) t (xs.drop n) → Same H H' → Q (.ref t) H') : rSlA K (.ref a) (some (n : Int)) none H Q := by
  refine ⟨a, xs, rfl, Same.sqT del_sub h, fun e => ?_, fun e p np => ?_⟩
  · rw [HT.sIx_nat] at e
    refine k _ _ B (Same.refl _) ?_ (Same.refl _)
    by_cases hk : n = 0
    · rw [hk, List.drop_zero]; exact h
    · have : xs = [] := List.eq_nil_of_length_eq_zero (by omega)
      rw [this, List.drop_nil]; rw [this] at h; exact h
  · have : cutV xs (some (n : Int)) none = xs.drop n := by
      unfold cutV
      rw [HT.sIx_nat, HT.sIx_none]
      by_cases hk : n ≤ xs.length
      · rw [Nat.min_eq_left hk, List.take_of_length_le (by rw [List.length_drop]; omega)]
      · rw [Nat.min_eq_right (by omega), List.drop_of_length_le (by omega), List.drop_of_length_le (by omega), List.take_nil]
    rw [this]
    exact k _ _ (B.same (same_upd np)) (del_sb (SB.of (same_upd np))) (sqT_of (del_new B np)) (same_upd np)
theorem i_catLB {a c : Addr} {xs ys : List V} (B : BoxAt H b d) (h : L2.del H b a = some (.lst xs)) (h2 : L2.del H b c = some (.lst ys)) (l : xs.length + ys.length ≤ sizeLine) (k : ∀ t H', BoxAt H' b d → Same (L2.del H b) (L2.del H' b) → L2.del H' b t = some (.lst (xs ++ ys)) → Same H H' → Q (.ref t) H') : rCat (.ref a) (.ref c) H Q :=
  ⟨a, c, xs, ys, rfl, rfl, del_sub _ _ h, del_sub _ _ h2, l, fun p np => k _ _ (B.same (same_upd np)) (del_sb (SB.of (same_upd np))) (del_new B np) (same_upd np)⟩
end
end Sw
namespace Sw
open PySem PySem.Spec PyProof.Rows L2
/-! ### calls by names -/
def rev2 {α : Type} : List α → List α → List α
  | [], [b, a] => [a, b]
  | _, _ => []
theorem rev2_inv {α : Type} {us ws : List α} (h : (rev2 us ws).length = 2) : us = [] ∧ ∃ b a, ws = [b, a] := by
  unfold rev2 at h
  split at h
  · exact ⟨rfl, _, _, rfl⟩
  · cases h
theorem rev2_rel {vs : List V} {us : List Value} {zs : List V} {ws : List Value} (r : Vals vs us) (r2 : Vals zs ws) : Vals (rev2 vs zs) (rev2 us ws) := by
  unfold rev2
  cases r with
  | cons _ _ => exact .nil
  | nil =>
    cases r2 with
    | nil => exact .nil
    | cons a r2 =>
      cases r2 with
      | nil => exact .nil
      | cons b r2 =>
        cases r2 with
        | nil => exact .cons b (.cons a .nil)
        | cons _ _ => exact .nil
def one1 {α : Type} : List α → List α → List α
  | [], [a] => [a]
  | _, _ => []
theorem one1_inv {α : Type} {us ws : List α} (h : (one1 us ws).length = 1) : us = [] ∧ ∃ a, ws = [a] := by
  unfold one1 at h
  split at h
  · exact ⟨rfl, _, rfl⟩
  · cases h
theorem one1_rel {vs : List V} {us : List Value} {zs : List V} {ws : List Value} (r : Vals vs us) (r2 : Vals zs ws) : Vals (one1 vs zs) (one1 us ws) := by
  unfold one1
  cases r with
  | cons _ _ => exact .nil
  | nil =>
    cases r2 with
    | nil => exact .nil
    | cons a r2 =>
      cases r2 with
      | nil => exact .cons a .nil
      | cons _ _ => exact .nil
end Sw
namespace Sw
open PySem PySem.Spec PyProof.Rows L2
theorem Fun.okG0 {P : Program} {w : World} {K : PySem.W.Frag} {mg : Str → Option Value} {base : Heap} {k : Nat} {f : Addr} {fd : FuncData} {ps : List Str} {sp : Sp} {x qual : Str} {st : Stmt} {N : List Str} (F : Fun K x qual st f fd) (S : FnScope N ps (defScope st)) (len : ∀ xs M R X, sp xs M R X → xs.length = ps.length)
    (body : ∀ (cdv : Value) (A : Around) (out : List Env) (t : Shared) (M : Hp) (xs : List V) (R : VK) (X : XK), Room k (A.deeper (envOfC qual (defScope st) t.heap.objs.size f cdv)) → A.guards = some [] → sp xs M R X →
      ∃ r, PSs (cxOf CX0 P w K mg base N qual (defScope st) f cdv A out t M X).nox (defBody st) r ∧ r { nx := fun _ M' => R .non M', rt := R } (start N xs) M) : FnG P w K mg base CX0 (k + 1) f fd ps sp :=
  Sw.Fun.okG F S len fun cdv A out t M xs R X room quiet prom => by
    obtain ⟨r, h, q⟩ := body cdv A out t M xs R X room quiet prom
    exact ⟨r, h.nox, q⟩
end Sw
namespace Sw
open PySem PySem.Spec PyProof.Rows L2 PySem.SwE
/-- an own exception class with the one attribute given, named x, as it stands behind the top -/
structure XQ (x : Str) (P : Program) (w : World) (K : PySem.W.Frag) (mg : Str → Option Value) (base : Heap) (C : Addr) : Prop where
  T : OexE K C
  xf : XfC K C
  no : PySem.W.findIn K (.ref C) "given" = some none
  hm : mg x = some (.ref C)
  me : PySem.W.exmOne K (.ref C) (.ref C) = some true
  ini : ∃ (fI : Addr) (fd : FuncData), PySem.W.findIn K (.ref C) "__init__" = some (some (.ref fI)) ∧ PySem.W.typeIn K (.ref fI) = some (.type "function") ∧ FnOk P w K mg base CX0 1 fI fd ["self", "given"] (spInit K) ∧ Binds K fd ["self", "given"] []
theorem pmk_Q {X : Cx} {x : Str} {C : Addr} {n : Nat} {e : Expr} {te : TE} {p pos : Pos} (xt : XQ x X.prog X.w X.K X.mg X.base C) (hr : Room n X.A) (he : PE X e te) (hn : 2 ≤ n := by decide) (hg : Gl X x := by rfl)
    (hdb : (x == ("__debug__" : Str)) = false := by decide) (he2 : starEach [e] X.env = (false, eval e X.env) :: starEach [] X.env := by rfl) : PMk X (.Call (.Name x p) [e] [] pos) (tMkO C (spInit X.K) [] (tCons te tNil)) := by
  obtain ⟨fI, fd, h1, h2, h3, h4⟩ := xt.ini
  exact pmk_E xt.T h1 h2 h3 (hr.mono hn) h4 pass0 xt.hm (pa_cons he pa_nil he2) hg hdb he2 (by rfl)
theorem names_Q {x : Str} {P : Program} {w : World} {K : PySem.W.Frag} {mg : Str → Option Value} {base : Heap} {X : Cx} {C : Addr} (xt : XQ x P w K mg base C) (hm : X.mg = mg := by rfl) (hg : Gl X x := by rfl) (hd : (x == ("__debug__" : Str)) = false := by decide) : Names X x (.ref C) := ⟨hg, hd, .inl (by rw [hm]; exact xt.hm)⟩
end Sw
namespace Sw
open PySem PySem.Spec PyProof.Rows L2
/-! ### a tuple once, or more often -/
theorem tuple_mul1 (l : Addr) (items : Array Value) (n : Nat) (dd : Option Addr) (sl : Array (Option Value)) (u : Tok) :
    Meets (Builtin.«tuple.__mul__» ⟨[.ref l, .int 1 u], []⟩) (fun _ R s => s.heap.get? l = some { cls := .type "tuple", dict := dd, data := .seq items n, slots := sl } ∧
      R (.ok (.ret (Value.ref l))) s) :=
  .of_wp fun prog w A R s h => by
    obtain ⟨hp, g, d, tk, os⟩ := s
    obtain ⟨hl, h⟩ := h
    have f1 := AutoSeq1.idx_int
    have c1 : (items.isEmpty || ((1 : Int) == 1)) = true := by rw [show ((1 : Int) == 1) = true from rfl, Bool.or_true]
    wp_walk using wpAny_loadPart' hl, wpAny_load hl
    repeat (first
      | (refine wpAny_ite_true c1 ?_; wp_walk using wpAny_loadPart' hl, wpAny_load hl)
      | (refine wpAny_ite_true (decide_eq_true c1) ?_; wp_walk using wpAny_loadPart' hl, wpAny_load hl))
    exact ⟨_, rfl, h⟩
/-- a tuple once is itself -/
def rRepU (K : PySem.W.Frag) : R2 := fun x y H Q => (∃ l xs, x = .ref l ∧ y = .int 1 ∧ SqT K H l xs ∧ Q (.ref l) H) ∨ rRepT K x y H Q
theorem op_repU {X : Cx} : OpR X (binaryOp .Mult) (rRepU X.K) := by
  intro pins s σ H x y v u Q I rx ry h
  rcases h with ⟨l, xs, rfl, rfl, hT, q⟩ | h
  · cases rx
    obtain ⟨t, rfl⟩ := ry
    obtain ⟨its, r, ⟨⟨cls, dd, data, sl⟩, ho, hc, n, hd⟩, hs⟩ := I.tuple hT
    simp only at hc hd
    subst hc hd
    refine wpAny_binaryOp_repeat_ref (T := "tuple") (U := "int") (by decide) ⟨_, ho, rfl⟩ (fun s' => typeIs_int s' 1 t) noFill_tuple_mul F.fills_int_mul F.slot_int_rmul repeat_tuple F.slot_int_index.lookup
      (call_meets F.slot_int_rmul (typeIs_int s 1 t) F.entry_int_rmul (F.args_int_rmul_2 _ _) (int_rmul_tuple 1 t l its.toArray n dd sl)
        ⟨ho, rfl, ⟨_, ho, rfl⟩, call_meets F.slot_tuple_mul ⟨_, ho, rfl⟩ F.entry_tuple_mul (F.args_tuple_mul_2 _ _) (tuple_mul1 l its.toArray n dd sl t) ⟨ho, ?_⟩⟩)
    exact ⟨.ref l, H, I, rfl, q⟩
  · exact op_repT pins s σ H x y v u Q I rx ry h
theorem i_rep1 {K : PySem.W.Frag} {l : Addr} {xs : List V} {H : Hp} {Q : VK} (h : SqT K H l xs) (q : Q (.ref l) H) : rRepU K (.ref l) (.int 1) H Q := .inl ⟨l, xs, rfl, rfl, h, q⟩
theorem i_repN {K : PySem.W.Frag} {l : Addr} {xs : List V} {k : Nat} {H : Hp} {Q : VK} (h : SqT K H l xs) (ne : xs ≠ []) (h2 : 2 ≤ k) (h3 : k ≤ 1000) (h4 : xs.length ≤ 1000) (q : ∀ p H', H p = none → Same H H' → H' p = some (.tup (List.replicate k xs).flatten) → Q (.ref p) H') : rRepU K (.ref l) (.int (k : Int)) H Q :=
  .inr ⟨l, k, xs, rfl, rfl, h, ne, by omega, by omega, h4, fun p n => by
    rw [Int.toNat_natCast]; exact q p _ n (same_upd n) upd_same⟩
end Sw
namespace Sw
open PySem PySem.Spec PyProof.Rows L2
/-! ### dicts whose keys are tuples: a store, a display of one pair, a comprehension -/
section
variable {X : Cx}
/-- the store of a display and of a comprehension -/
theorem put_tup {pins : List (Addr × Obj)} {σ : L2.St} {H : Hp} {s : Shared} {E : Value → Shared → Prop} {d b : Addr} {kvs : List (List Key × V)} {ks : List Key} {z : V} {r : Value} {Q : Unit → Shared → Prop}
    (room : X.A.units + 1 < cLine) (I : Inv X pins σ H s) (ed : H d = some (.dT kvs)) (eb : H b = some (.tup (ks.map kV))) (few : kvs.length < sizeLine) (rz : RelV z r)
    (go : ∀ s', Inv X pins σ (upd H d (.dT (putK kvs ks z))) s' → Q () s') : wpAny (model X.prog X.w) X.A (dictSet d (.ref b) r) Q E s := by
  have facts := dt_of I.hok ed
  obtain ⟨small, plain, xs, paired, laid⟩ := facts
  have lx : xs.length ≤ sizeLine := Nat.le_trans (Nat.le_of_eq (Paired.length paired).symm) small
  have lp : (putK kvs ks z).length ≤ sizeLine := Nat.le_trans (length_putK kvs ks z) few
  apply wpAny_dictSet_heap (knd := tupleKind (mixKind X.prog X.w)) (hsz := lx) (show X.A.units < cLine from Nat.lt_of_succ_lt room) (key_of I.hok eb) laid
  rintro h2 ⟨o, es, ep, ho, g1, g2, g3, _, g4⟩ only
  have stays : ∀ c ys, H c = some (.tup ys) → upd H d (.dT (putK kvs ks z)) c = some (.tup ys) := by
    intro c ys ec
    have : c ≠ d := fun q => by rw [q, ed] at ec; cases ec
    rw [upd_ne this]; exact ec
  apply go
  exact d_write I (by rw [ed]; trivial) only ⟨o, ho⟩ ⟨lp, plain, _, (paired.put ks eb rz).keeps stays, o, es, ep, ho, g1, g2, g3, g4⟩
/-- {k: v}, k a tuple of ints and texts -/
def tDisp1T (tk tv : TE) : TE := fun σ H Q => ∀ p, H p = none → tk σ (upd H p (.dT [])) fun x H1 => tv σ H1 fun y H2 => ∃ b ks, x = .ref b ∧ H2 p = some (.dT []) ∧ H2 b = some (.tup (ks.map kV)) ∧ Q (.ref p) (upd H2 p (.dT [(ks, y)]))
theorem pe_disp1T {k v : Expr} {pos : Pos} {tk tv : TE} (room : X.A.units + 1 < cLine) (hk : PE X k tk) (hv : PE X v tv) : PE X (.Dict [some k] [v] pos) (tDisp1T tk tv) := by
  constructor
  intro pins s σ H Q I h
  have new := I.hok.fresh (Nat.le_refl s.heap.objs.size)
  have I1 := I.laid (a := s.heap.objs.size) (o := .dT []) (t' := s.toks) (h' := s.heap.push { cls := .type "dict", data := .dict #[] }) (fun _ _ q => Heap.get?_push_of_some _ q) (Nat.le_refl _) (dt_empty s.heap I.big)
  apply wpAny_Dict_any rfl rfl (by simp) (by simp)
  let R : List (V × V) → Hp → Prop := fun ps H2 => match ps with
    | [(x, y)] => ∃ b ks, x = .ref b ∧ H2 s.heap.objs.size = some (.dT []) ∧ H2 b = some (.tup (ks.map kV)) ∧ Q (.ref s.heap.objs.size) (upd H2 s.heap.objs.size (.dT [(ks, y)]))
    | _ => False
  apply thn ((pps_cons (pos := pos) hk hv pps_nil).run pins _ σ _ R I1 (h _ new))
  rintro vs s1 ⟨ps, H2, I2, rel, q⟩
  obtain ⟨x, y, rfl⟩ : ∃ x y, ps = [(x, y)] := by
    rcases ps with _ | ⟨⟨x, y⟩, _ | ⟨_, _⟩⟩
    · exact q.elim
    · exact ⟨x, y, rfl⟩
    · exact q.elim
  obtain ⟨b, ks, rfl, ed, eb, q⟩ : ∃ b ks, x = .ref b ∧ H2 s.heap.objs.size = some (.dT []) ∧ H2 b = some (.tup (ks.map kV)) ∧ Q (.ref s.heap.objs.size) (upd H2 s.heap.objs.size (.dT [(ks, y)])) := q
  obtain ⟨u, r, rfl, ru, rr⟩ : ∃ u r, vs = [(u, r)] ∧ RelV (.ref b) u ∧ RelV y r := by
    cases rel with
    | cons h t =>
      cases t
      exact ⟨_, _, rfl, h.1, h.2⟩
  cases (show u = Value.ref b from ru)
  show wpAny _ _ (forIn [(Value.ref b, r)] PUnit.unit _) _ _ _
  rw [List.forIn_cons]
  refine wpAny_bind (wpAny_bind (put_tup room I2 ed eb (Nat.lt_of_lt_of_le (by decide : 0 < 100000) (Nat.le_of_ble_eq_true rfl)) rr fun s2 I3 => wpAny_pure ?_))
  show wpAny _ _ (forIn [] PUnit.unit _) _ _ _
  rw [List.forIn_nil]
  exact wpAny_pure ⟨.ref s.heap.objs.size, _, I3, rfl, q⟩
/-- {k: v for target in iter}, the keys tuples; D the new dict -/
def tDcT (wi : TI) (g : TG) (tk tv : TE) (vs : List Nat) : TE := fun σ H Q => wi σ H fun J H1 => ∀ D, H1 D = none → ∃ W : Nat → Nat → Hp → Prop, (∃ m, W 0 m (upd H1 D (.dT []))) ∧ ∀ i m H, W i m H →
  (J.stop i H ∧ Q (.ref D) H) ∨ (J.go i H ∧ ∃ Nx : Hp → Prop, (∀ H', Nx H' → ∃ m', m' < m ∧ W (i + 1) m' H') ∧ ∀ x H', J.yld i H x H' → g x (wipe σ vs) H' fun σ2 H2 => wipe σ2 vs = wipe σ vs ∧
    tk σ2 H2 fun y H4 => tv σ2 H4 fun z H5 => ∃ kvs ks b, y = .ref b ∧ H5 b = some (.tup (ks.map kV)) ∧ H5 D = some (.dT kvs) ∧ kvs.length < sizeLine ∧ Nx (upd H5 D (.dT (putK kvs ks z))))
theorem pe_dcT {kx vx tg iter : Expr} {scope : Scope} {own : List (Str × Nat)} {pos : Pos} {wi : TI} {g : TG} {tk tv : TE} (room : X.A.units + 1 < cLine) (calm : X.calm = true) (nd : X.N.Nodup) (src : PI X tg iter wi) (ok : BlkOk X.N X.env.scope scope own)
    (pg : ∀ (s : Shared) (H : Hp) (C : Addr) (cl : List (Str × Addr)) (fp : List Addr), PG (X.blk s H scope (compEnvC scope cl C X.env) fp) tg g)
    (pk : ∀ (s : Shared) (H : Hp) (C : Addr) (cl : List (Str × Addr)) (fp : List Addr), PE (X.blk s H scope (compEnvC scope cl C X.env) fp) kx tk)
    (pv : ∀ (s : Shared) (H : Hp) (C : Addr) (cl : List (Str × Addr)) (fp : List Addr), PE (X.blk s H scope (compEnvC scope cl C X.env) fp) vx tv) (plain : ∀ x, foldedSetIterable iter X.env x = pure x := by intro _; rfl) :
    PE X (.DictComp kx vx [⟨tg, iter, [], 0⟩] scope pos) (tDcT wi g tk tv (own.map (·.2))) := by
  constructor
  intro pins s σ H Q I h
  rw [arm_eval_DictComp]
  have cells : ∀ y ∈ scope.names, y.2 = .free → ∃ c, X.env.cells.lookup y.1 = some c := by
    intro y hy e
    apply I.ok.has
    rcases ok.free y hy e with q | q
    · exact .inl q
    · exact .inr q
  apply wpAny_comprehension_free rfl plain (closure_ok cells) ok.kind (fun y hy e => by rw [ok.uniq y hy, e])
  apply thn (src.run pins s σ H _ I h)
  intro xv s1 hx
  apply thn hx
  rintro itv s2 ⟨it, fp, tn, J, H2, rfl, I2, T, st2, f2, q⟩
  refine wpAny_newObj_type (newEnv_comp ?_)
  obtain ⟨D, eD⟩ : ∃ D, D = s2.heap.objs.size := ⟨_, rfl⟩
  rw [← eD]
  have noD : H2 D = none := I2.hok.fresh (Nat.le_of_eq eD.symm)
  obtain ⟨W, ⟨m0, w0⟩, turn⟩ := q D noD
  obtain ⟨H3, eH3⟩ : ∃ H3, H3 = upd H2 D (.dT []) := ⟨_, rfl⟩
  obtain ⟨s3, e3⟩ : ∃ s3 : Shared, s3 = { s2 with heap := s2.heap.push { cls := .type "dict", data := .dict #[] } } := ⟨_, rfl⟩
  rw [← eH3] at w0
  have heap3 : s3.heap = s2.heap.push { cls := .type "dict", data := .dict #[] } := by rw [e3]
  have I3 : Inv X pins σ H3 s3 := by
    rw [e3, eH3, eD]
    exact I2.laid (t' := s2.toks) (fun b o e => Heap.get?_push_of_some _ e) (Nat.le_refl _) (dt_empty s2.heap I2.big)
  have fp3 : ∀ b ∈ fp, FpOk X pins H3 b ∧ b < s3.heap.objs.size := by
    intro b hb
    obtain ⟨o, e, _⟩ := T.obj _ _ st2 b hb
    have lt := Heap.lt_size e
    constructor
    · refine ⟨?_, (f2 b hb).2⟩
      rw [eH3, upd_ne (by rw [eD]; exact Nat.ne_of_lt lt)]
      exact (f2 b hb).1
    · rw [heap3, Heap.size_push]; exact Nat.lt_succ_of_lt lt
  have out3 : ∀ b ∈ fp, H3 b = none := fun b hb => (fp3 b hb).1.1
  have I4 := block_start I3 ok nd fp3
  have pg := pg s3 H3 s3.heap.objs.size (cellsFrom (s3.heap.objs.size + 1) scope.names (cloFrom X.env.cells scope.names [])) fp
  have pk := pk s3 H3 s3.heap.objs.size (cellsFrom (s3.heap.objs.size + 1) scope.names (cloFrom X.env.cells scope.names [])) fp
  have pv := pv s3 H3 s3.heap.objs.size (cellsFrom (s3.heap.objs.size + 1) scope.names (cloFrom X.env.cells scope.names [])) fp
  obtain ⟨ce, ece⟩ : ∃ ce, ce = compEnvC scope (cellsFrom (s3.heap.objs.size + 1) scope.names (cloFrom X.env.cells scope.names [])) s3.heap.objs.size X.env := ⟨_, rfl⟩
  obtain ⟨s4, e4⟩ : ∃ s4 : Shared, s4 = { s3 with heap := pushCells (s3.heap.push { cls := .type "dict", data := .dict #[] }) scope.names } := ⟨_, rfl⟩
  rw [← ece] at I4 pg pk pv
  rw [← e4] at I4
  have ceL : ce.locals = s3.heap.objs.size := by rw [ece]; rfl
  have st4 : tn 0 s4.heap := by
    apply T.keep _ _ _ st2
    intro b _ o e
    rw [e4]
    refine pushCells_keeps _ _ _ _ (Heap.get?_push_of_some _ ?_)
    rw [heap3]
    exact Heap.get?_push_of_some _ e
  have gate : ∀ {σ' : L2.St} {H' : Hp} {s' : Shared}, Inv (X.blk s3 H3 scope ce fp) [] σ' H' s' → (∀ b ∈ fp, H' b = none) → ∀ b ∈ fp, FpOk (X.blk s3 H3 scope ce fp) [] H' b := by
    intro σ' H' s' I' out b hb
    have z := I'.ok.exf b hb
    exact ⟨out b hb, z.1, I'.ok.exfs b hb, .inl hb, fun x c e => z.2 x c e, fun p hp => absurd (show p ∈ ([] : List (Addr × Obj)) ++ [] from hp) (by simp)⟩
  have key : codeAny (model X.prog X.w) X.A (.compLoop (.DictComp kx vx [⟨tg, iter, [], 0⟩] scope pos) 0 (.ref it) (.ref D) ce) (compPost (model X.prog X.w) X.A X.xe none (EP X pins σ Q) (.ref D) s3.heap.objs.size) s4 := by
    apply compLoop_anyD (fun n s' => ∃ i H', Inv (X.blk s3 H3 scope ce fp) [] (wipe σ (own.map (·.2))) H' s' ∧ tn i s'.heap ∧ (∀ b ∈ fp, H' b = none) ∧ W i n H') ?_ m0 ⟨0, H3, I4, st4, out3, w0⟩
    rintro n s5 ⟨i, H5, I5, st5, out5, w5⟩
    rcases turn i n H5 w5 with ⟨stop, done⟩ | ⟨go, Nx, nxt, step⟩
    · apply thnF (T.done (X.blk s3 H3 scope ce fp) rfl rfl rfl calm i [] s5 _ H5 (fun _ _ => False) I5 (gate I5 out5) st5 stop)
      rintro r s6 ⟨rfl, I6⟩
      have I7 : Inv X pins σ H5 s6 := by
        apply I3.call' (ch := fp) I6.os I6.base I6.hok I6.bare
        intro b hb
        have z := (fp3 b hb).1.2
        exact ⟨z.2.2.1, z.1, z.2.2.2.1, z.2.2.2.2⟩
      have noC : H5 s3.heap.objs.size = none := by
        have z : H5 ce.locals = none := I6.free
        rwa [ceL] at z
      obtain ⟨m, ns, _⟩ := I6.loc
      have ns : s6.heap.Ns ce.locals m := ns
      rw [ceL] at ns
      refine ⟨m, ns, fun h'' sb => ?_⟩
      obtain ⟨f0, f1, _, f3, f4, f5⟩ := I3.fpOk (Nat.le_refl _) noC
      exact ⟨.ref D, H5, I7.turned (t' := s6.toks) (fun b o hb e => (sb.2 b hb).trans e) f0 f1 f3 f4 f5, rfl, done⟩
    · apply thnF (T.item (X.blk s3 H3 scope ce fp) rfl rfl rfl calm i [] s5 _ H5 (fun _ _ => False) I5 (gate I5 out5) st5 go)
      rintro r s6 ⟨u, rfl, h6⟩
      apply thnF h6
      rintro _ s7 ⟨x, H7, I7, r7, y7, st7, out7⟩
      have I7p := I7.pinned (gate I7 out7) (T.obj _ _ st7)
      apply thnF (pg.run _ s7 _ H7 x u _ I7p r7 (step x H7 y7))
      rintro _ s8 ⟨σ8, H8, I8, same8, q8⟩
      refine wpAny_pure ?_
      rw [if_pos rfl]
      apply thnF (pk.run _ s8 σ8 H8 _ I8 q8)
      rintro z s10 ⟨yk, H10, I10, r10, q10⟩
      apply thnF (pv.run _ s10 σ8 H10 _ I10 q10)
      rintro z2 s11 ⟨yv, H11, I11, r11, kvs, ks, b, rfl, eb, eD11, few, nx⟩
      cases (show z = Value.ref b from r10)
      apply put_tup (X := X.blk s3 H3 scope ce fp) room I11 eD11 eb few r11
      intro s12 I12
      obtain ⟨m', lt, w'⟩ := nxt _ nx
      have pin : ∀ c ∈ fp, ∀ o, s7.heap.get? c = some o → s12.heap.get? c = some o ∧ upd H11 D (.dT (putK kvs ks yv)) c = none := by
        intro c hc o e
        have z := I12.pin (c, o) (List.mem_append_right _ (List.mem_append_right _ (mem_pinsAt hc e)))
        exact ⟨z.1, z.2.1⟩
      have len8 : (wipe σ (own.map (·.2))).length = σ8.length := by rw [← same8, wipe_length]
      refine ⟨m', lt, i + 1, _, (I12.unpinned (pins := [])).weak len8 ?_, T.keep _ _ _ st7 fun c hc o e => (pin c hc o e).1, ?_, w'⟩
      · intro j v e
        rw [← same8] at e
        exact (wipe_some e).1
      · intro c hc
        obtain ⟨o, e, _⟩ := T.obj _ _ st7 c hc
        exact (pin c hc o e).2
  have all := codeAny_compStart_dict key (T.self X.A 0 _ _ _ st4 key)
  rw [e4, ece, e3, eD] at all
  rw [eD]
  exact all
end
end Sw
namespace Sw
open PySem PySem.Spec PyProof.Rows L2
/-! ### answers for dicts keyed by tuples, for a list or a tuple walked by its name -/
theorem room1 {u c : Nat} (h : u + 64 < c) : u + 1 < c := by omega
def rDGet : V → V → Hp → VK → Prop := fun x y H Q => ∃ a v, x = .ref a ∧ DGet H a y (some v) ∧ Q v H
theorem i_dget {td ty : TE} {σ : L2.St} {H : Hp} {Q : VK} (h : td σ H fun x H1 => ty σ H1 fun y H2 => rDGet x y H2 Q) : tDGet td ty σ H Q := h
theorem i_dgetT {a b : Addr} {kvs : List (List Key × V)} {ks : List Key} {v : V} {H : Hp} {Q : VK} (e : H a = some (.dT kvs)) (eb : H b = some (.tup (ks.map kV))) (ev : valV kvs ks = some v) (q : Q v H) : rDGet (.ref a) (.ref b) H Q :=
  ⟨a, v, rfl, by rw [← ev]; exact DGet.t e eb, q⟩
def rInDt : R2 := fun x y H Q => ∃ a o, y = .ref a ∧ DGet H a x o ∧ Q (.bl o.isSome) H
theorem op_inDt {X : Cx} (hu : X.A.units + 64 < cLine) : OpR X (compareOp .In) rInDt := by
  intro pins s σ H x y v u Q I rx ry h
  obtain ⟨a, o, rfl, g, q⟩ := h
  cases (show u = Value.ref a from ry)
  exact d_in (room1 hu) I g rx fun s' I' => ⟨.bl o.isSome, H, I', rfl, q⟩
theorem i_inDt {a b : Addr} {kvs : List (List Key × V)} {ks : List Key} {H : Hp} {Q : VK} (e : H a = some (.dT kvs)) (eb : H b = some (.tup (ks.map kV))) (q : Q (.bl (valV kvs ks).isSome) H) : rInDt (.ref b) (.ref a) H Q := ⟨a, _, rfl, DGet.t e eb, q⟩
theorem i_setD {a b : Addr} {kvs : List (List Key × V)} {ks : List Key} {v : V} {H : Hp} {Q : Hp → Prop} (e : H a = some (.dT kvs)) (eb : H b = some (.tup (ks.map kV))) (l : kvs.length < sizeLine) (q : Q (upd H a (.dT (putK kvs ks v)))) : rSetD (.ref a) (.ref b) v H Q :=
  ⟨a, _, rfl, DPut.t e eb l, q⟩
def NewE (H : Hp) (R : Addr → Hp → Prop) : Prop := ∀ p, H p = none → R p (upd H p (.dT []))
theorem i_dnewT {σ : L2.St} {H : Hp} {Q : VK} (h : NewE H fun p H1 => Q (.ref p) H1) : tDNewT σ H Q := h
theorem i_disp1T {tk tv : TE} {σ : L2.St} {H : Hp} {Q : VK} (h : NewE H fun p H0 => tk σ H0 fun x H1 => tv σ H1 fun y H2 => ∃ b ks, x = .ref b ∧ H2 p = some (.dT []) ∧ H2 b = some (.tup (ks.map kV)) ∧ Q (.ref p) (upd H2 p (.dT [(ks, y)]))) : tDisp1T tk tv σ H Q := h
/-! a list or a tuple, by its name -/
def iSeqV (K : PySem.W.Frag) (i : Nat) : TI := fun σ H R => ∃ a xs J, σ[i]? = some (some (.ref a)) ∧ ((SqL K H a xs ∧ J = Itl K a) ∨ (SqT K H a xs ∧ J = Itt K a)) ∧ R J H
theorem pi_seqV {X : Cx} {tg l : Expr} {i : Nat} (h : PE X l (tVar i)) : PI X tg l (iSeqV X.K i) := by
  refine ⟨fun pins s σ H R I q => ?_⟩
  obtain ⟨a, xs, J, e, ⟨hs, rfl⟩ | ⟨hs, rfl⟩, r⟩ := q
  · exact (pi_list (tg := tg) h).run pins s σ H R I ⟨_, e, a, rfl, ⟨xs, hs⟩, r⟩
  · exact (pi_tup (tg := tg) h).run pins s σ H R I ⟨_, e, a, rfl, ⟨xs, hs⟩, r⟩
theorem walk_seqV {K : PySem.W.Frag} {a : Addr} {xs : List V} {J : It} {H : Hp} (h : (SqL K H a xs ∧ J = Itl K a) ∨ (SqT K H a xs ∧ J = Itt K a)) : Walk J xs.length (fun H' => Same H H') (YAt xs) := by
  rcases h with ⟨h, rfl⟩ | ⟨h, rfl⟩
  · exact walk_list.mono (fun H' s => Same.sqL s h) fun _ _ _ _ _ _ y => y
  · exact walk_tup.mono (fun H' s => Same.sqT s h) fun _ _ _ _ _ _ y => y
theorem i_seqV {K : PySem.W.Frag} {a : Addr} {xs : List V} {i : Nat} {σ : L2.St} {H : Hp} {R : It → Hp → Prop} (e : σ[i]? = some (some (.ref a))) (h : SqL K H a xs ∨ SqT K H a xs) (r : ∀ J, Walk J xs.length (fun H' => Same H H') (YAt xs) → R J H) : iSeqV K i σ H R := by
  rcases h with h | h
  · exact ⟨a, xs, _, e, .inl ⟨h, rfl⟩, r _ (walk_seqV (.inl ⟨h, rfl⟩))⟩
  · exact ⟨a, xs, _, e, .inr ⟨h, rfl⟩, r _ (walk_seqV (.inr ⟨h, rfl⟩))⟩
def DcGo (J : It) (g : TG) (tk tv : TE) (vs : List Nat) (σ : L2.St) (H1 : Hp) (Q : VK) : Prop := ∀ D, H1 D = none → ∃ W : Nat → Nat → Hp → Prop, (∃ m, W 0 m (upd H1 D (.dT []))) ∧ ∀ i m H, W i m H →
  (J.stop i H ∧ Q (.ref D) H) ∨ (J.go i H ∧ ∃ Nx : Hp → Prop, (∀ H', Nx H' → ∃ m', m' < m ∧ W (i + 1) m' H') ∧ ∀ x H', J.yld i H x H' → g x (wipe σ vs) H' fun σ2 H2 => wipe σ2 vs = wipe σ vs ∧
    tk σ2 H2 fun y H4 => tv σ2 H4 fun z H5 => ∃ kvs ks b, y = .ref b ∧ H5 b = some (.tup (ks.map kV)) ∧ H5 D = some (.dT kvs) ∧ kvs.length < sizeLine ∧ Nx (upd H5 D (.dT (putK kvs ks z))))
theorem i_dcT {wi : TI} {g : TG} {tk tv : TE} {vs : List Nat} {σ : L2.St} {H : Hp} {Q : VK} (h : wi σ H fun J H1 => DcGo J g tk tv vs σ H1 Q) : tDcT wi g tk tv vs σ H Q := h
theorem go_dcT {J : It} {n : Nat} {G : Hp → Prop} {Y : Nat → Hp → V → Hp → Prop} {g : TG} {tk tv : TE} {vs : List Nat} {σ : L2.St} {H1 : Hp} {Q : VK} (w : Walk J n G Y) (Pv : Addr → Nat → Hp → Prop) (h0 : ∀ p, H1 p = none → Pv p 0 (upd H1 p (.dT []))) (hG : ∀ p i H, H1 p = none → i ≤ n → Pv p i H → G H)
    (hs : ∀ p, H1 p = none → ∀ i x H H', i < n → Pv p i H → Y i H x H' → g x (wipe σ vs) H' fun σ2 H2 => wipe σ2 vs = wipe σ vs ∧
      tk σ2 H2 fun y H4 => tv σ2 H4 fun z H5 => ∃ kvs ks b, y = .ref b ∧ H5 b = some (.tup (ks.map kV)) ∧ H5 p = some (.dT kvs) ∧ kvs.length < sizeLine ∧ Pv p (i + 1) (upd H5 p (.dT (putK kvs ks z))))
    (hd : ∀ p H, H1 p = none → Pv p n H → Q (.ref p) H) : DcGo J g tk tv vs σ H1 Q := by
  intro p np
  refine ⟨fun i m H => i + m = n ∧ Pv p i H, ⟨n, by omega, h0 p np⟩, ?_⟩
  rintro i m H ⟨le, pv⟩
  have ok := hG p i H np (by omega) pv
  rcases m with _ | m
  · obtain rfl : i = n := by omega
    exact .inl ⟨w.stops H ok, hd p H np pv⟩
  · exact .inr ⟨w.goes i H (by omega) ok, Pv p (i + 1), fun H' q => ⟨m, Nat.lt_succ_self m, by omega, q⟩, fun x H' y => hs p np i x H H' (by omega) pv (w.yields i H x H' (by omega) ok y)⟩
/-- isinstance(x, (list, tuple)) -/
theorem kit_two {K : PySem.W.Frag} {t u1 u2 : Value} {b1 b2 : Bool} (h1 : PySem.W.kitOne K t u1 = some b1) (h2 : PySem.W.kitOne K t u2 = some b2) : PySem.W.kitAny K t [u1, u2] = some (b1 || b2) := by
  cases b1 <;> cases b2 <;> simp [PySem.W.kitAny, h1, h2]
theorem isiLT {K : PySem.W.Frag} {H : Hp} {v : V} {t : Value} {b1 b2 : Bool} {Q : VK} {p : Addr} (ty : TyX K H v t) (e : H p = some (.tup [.ty "list", .ty "tuple"])) (h1 : PySem.W.kitOne K t (.type "list") = some b1) (h2 : PySem.W.kitOne K t (.type "tuple") = some b2) (k : Q (.bl (b1 || b2)) H) : rIsiT K [v, .ref p] H Q :=
  ⟨v, p, _, t, _, _, rfl, e, .cons (.ty _) (.cons (.ty _) .nil), ty, kit_two h1 h2, k⟩
theorem De.isiLT {K : PySem.W.Frag} {H : Hp} {v : V} {d : PyData} {Q : VK} {p : Addr} (h : De K H v d) (e : H p = some (.tup [.ty "list", .ty "tuple"])) (k : Q (.bl (tyB "list" d || tyB "tuple" d)) H) : rIsiT K [v, .ref p] H Q := by
  have a : ∀ {n m : String} {b : Bool}, PySem.W.kitOne K (.type n) (.type m) = some b → PySem.W.kitOne K (.type n) (.type m) = some b := fun q => q
  cases h with
  | non => exact Sw.isiLT (.base .non) e (kit_ty (show _ = some false by decide +kernel)) (kit_ty (show _ = some false by decide +kernel)) k
  | bl b => exact Sw.isiLT (.base (.bl _)) e (kit_ty (show _ = some false by decide +kernel)) (kit_ty (show _ = some false by decide +kernel)) k
  | int i => exact Sw.isiLT (.base (.int _)) e (kit_ty (show _ = some false by decide +kernel)) (kit_ty (show _ = some false by decide +kernel)) k
  | str x => exact Sw.isiLT (.base (.str _)) e (kit_ty (show _ = some false by decide +kernel)) (kit_ty (show _ = some false by decide +kernel)) k
  | lst h1 _ h2 => exact Sw.isiLT (.base (.lst h1)) e (kit_ty (show _ = some true by decide +kernel)) (kit_ty (show _ = some false by decide +kernel)) k
  | tup h1 h2 => exact Sw.isiLT (tyx_tup h1) e (kit_ty (show _ = some false by decide +kernel)) (kit_ty (show _ = some true by decide +kernel)) k
  | dict h1 h2 => exact Sw.isiLT (.base (.dK h1)) e (kit_ty (show _ = some false by decide +kernel)) (kit_ty (show _ = some false by decide +kernel)) k
end Sw
namespace Sw
open PySem PySem.Spec PyProof.Rows L2
/-! ### steps of passings, the table of best ends, the way through it -/
inductive Pg where
  | same (a : Nat)
  | lost (a : Nat)
  | put (a : Nat)
  | turned (a b : Nat)
deriving DecidableEq
def Pg.key : Pg → List Key
  | .same a => [.inr (S tSame), .inl a]
  | .lost a => [.inr (S tLost), .inl a]
  | .put a => [.inr (S tPut), .inl a]
  | .turned a b => [.inr (S tTurned), .inl a, .inl b]
def Pg.vals : Pg → List V
  | .same a => [.str (S tSame), .int a]
  | .lost a => [.str (S tLost), .int a]
  | .put a => [.str (S tPut), .int a]
  | .turned a b => [.str (S tTurned), .int a, .int b]
def Pg.dat : Pg → PyData
  | .same a => .tuple [.str (S tSame), .int a]
  | .lost a => .tuple [.str (S tLost), .int a]
  | .put a => .tuple [.str (S tPut), .int a]
  | .turned a b => .tuple [.str (S tTurned), .int a, .int b]
theorem Pg.kvals (s : Pg) : s.key.map kV = s.vals := by cases s <;> rfl
theorem Pg.key_inj {s t : Pg} : s.key = t.key ↔ s = t := by
  constructor
  · intro h
    have w : ∀ {a b : List Nat}, (Sum.inr (S a) : Key) = .inr (S b) → a = b := fun q => S_inj.mp (Sum.inr.inj q)
    have n : ∀ {a b : Nat}, (Sum.inl (a : Int) : Key) = .inl (b : Int) → a = b := fun q => by have := Sum.inl.inj q; omega
    cases s <;> cases t <;> simp only [Pg.key, List.cons.injEq, and_true] at h <;>
      first
      | (have := w h.1; exact absurd this (by decide))
      | (have := n h.2; rw [this])
      | (have e1 := n h.2.1; have e2 := n h.2.2; rw [e1, e2])
      | (exact absurd h.2.2 (by simp))
      | (exact absurd h.2 (by simp))
  · exact fun h => by rw [h]
def Pg.cost : Pg → Nat
  | .same _ => 0
  | _ => 1
def Pg.left : Pg → List Nat
  | .same a => [a]
  | .lost a => [a]
  | .put _ => []
  | .turned a _ => [a]
def Pg.right : Pg → List Nat
  | .same a => [a]
  | .lost _ => []
  | .put a => [a]
  | .turned _ b => [b]
def Pg.top : Pg → Nat
  | .same a => a
  | .lost a => a
  | .put a => a
  | .turned a b => max a b
/-- one of the kinds for five signs, as this type tells it -/
def Pg.kind : Pg → Bool
  | .same _ => false
  | .lost a => decide (a < 5)
  | .put a => decide (a < 5)
  | .turned a b => decide (a < 5) && decide (b < 5) && !decide (a = b)
def plefts (ss : List Pg) : List Nat := (ss.map Pg.left).flatten
def prights (ss : List Pg) : List Nat := (ss.map Pg.right).flatten
def pcosts (ss : List Pg) : Nat := (ss.map Pg.cost).sum
abbrev Cell := Option (Nat × Option (Pg × Nat × Nat))
/-- one way to end is looked at: what is ahead, the step, the lengths ahead, what was found so far -/
def turnC (A : Pg → Bool) (c : Cell) (s : Pg) (i j : Nat) (f : Cell) : Cell := match c with
  | none => f
  | some (e, _) => if (decide (s.cost = 0) || A s) = true then (match f with
    | none => some (e + s.cost, some (s, i, j))
    | some (m, r) => if e + s.cost < m then some (e + s.cost, some (s, i, j)) else some (m, r)) else f
def dgP (x y : Nat) : Pg := if x = y then .same x else .turned x y
def tb (A : Pg → Bool) (a b : List Nat) : Nat → Nat → Cell
  | 0, 0 => some (0, none)
  | i + 1, 0 => turnC A (tb A a b i 0) (.lost (a.getD i 0)) i 0 none
  | 0, j + 1 => turnC A (tb A a b 0 j) (.put (b.getD j 0)) 0 j none
  | i + 1, j + 1 => turnC A (tb A a b (i + 1) j) (.put (b.getD j 0)) (i + 1) j (turnC A (tb A a b i (j + 1)) (.lost (a.getD i 0)) i (j + 1) (turnC A (tb A a b i j) (dgP (a.getD i 0) (b.getD j 0)) i j none))
termination_by i j => i + j
def waysP (a b : List Nat) : Nat → Nat → List (Pg × Nat × Nat)
  | 0, 0 => []
  | i + 1, 0 => [(.lost (a.getD i 0), i, 0)]
  | 0, j + 1 => [(.put (b.getD j 0), 0, j)]
  | i + 1, j + 1 => [(dgP (a.getD i 0) (b.getD j 0), i, j), (.lost (a.getD i 0), i, j + 1), (.put (b.getD j 0), i + 1, j)]
def foldP (A : Pg → Bool) (T : Nat → Nat → Cell) (l : List (Pg × Nat × Nat)) (f : Cell) : Cell := l.foldl (fun f w => turnC A (T w.2.1 w.2.2) w.1 w.2.1 w.2.2 f) f
theorem fold_tb {A : Pg → Bool} {a b : List Nat} {i j : Nat} (h : 0 < i + j) : foldP A (tb A a b) (waysP a b i j) none = tb A a b i j := by
  rcases i with _ | i <;> rcases j with _ | j
  · omega
  · rw [tb]; rfl
  · rw [tb]; rfl
  · rw [tb]; rfl
theorem turnC_from {A : Pg → Bool} {c f : Cell} {s t : Pg} {i j p q e : Nat} (h : turnC A c s i j f = some (e, some (t, p, q))) : f = some (e, some (t, p, q)) ∨ (t = s ∧ p = i ∧ q = j ∧ ∃ e' r, c = some (e', r) ∧ e = e' + s.cost ∧ (s.cost = 0 ∨ A s = true)) := by
  unfold turnC at h
  rcases c with _ | ⟨e', r⟩
  · exact .inl h
  · dsimp only at h
    by_cases k : (decide (s.cost = 0) || A s) = true
    · rw [if_pos k] at h
      have k' : s.cost = 0 ∨ A s = true := by simpa using k
      rcases f with _ | ⟨m, r'⟩
      · dsimp only at h
        cases h
        exact .inr ⟨rfl, rfl, rfl, e', r, rfl, rfl, k'⟩
      · dsimp only at h
        by_cases l : e' + s.cost < m
        · rw [if_pos l] at h
          cases h
          exact .inr ⟨rfl, rfl, rfl, e', r, rfl, rfl, k'⟩
        · rw [if_neg l] at h
          exact .inl h
    · rw [if_neg k] at h
      exact .inl h
/-- what is told of the end of a best passing -/
structure EndP (A : Pg → Bool) (a b : List Nat) (i j e : Nat) (s : Pg) (p q : Nat) : Prop where
  ahead : ∃ e' r, tb A a b p q = some (e', r) ∧ e = e' + s.cost
  ok : s.cost = 0 ∨ A s = true
  less : p + q < i + j
  pi : p ≤ i
  qj : q ≤ j
  l : i ≤ a.length → a.drop p = s.left ++ a.drop i
  r : j ≤ b.length → b.drop q = s.right ++ b.drop j
  sg : i ≤ a.length → j ≤ b.length → ∀ n, (∀ x ∈ a, x < n) → (∀ x ∈ b, x < n) → s.top < n
theorem drop_getD {l : List Nat} {i : Nat} (h : i < l.length) : l.drop i = l.getD i 0 :: l.drop (i + 1) := by
  rw [List.drop_eq_getElem_cons h, List.getD_eq_getElem?_getD, List.getElem?_eq_getElem h]; rfl
theorem getD_mem {l : List Nat} {i : Nat} (h : i < l.length) : l.getD i 0 ∈ l := by
  rw [List.getD_eq_getElem?_getD, List.getElem?_eq_getElem h]; exact List.getElem_mem h
theorem dgP_left (x y : Nat) : (dgP x y).left = [x] := by unfold dgP; split <;> rfl
theorem dgP_right (x y : Nat) : (dgP x y).right = [y] := by
  unfold dgP; split
  · rename_i h; rw [h]; rfl
  · rfl
theorem tb_end {A : Pg → Bool} {a b : List Nat} {i j e p q : Nat} {s : Pg} (h : tb A a b i j = some (e, some (s, p, q))) : EndP A a b i j e s p q := by
  have dg : ∀ {i j}, i + 1 ≤ a.length → j + 1 ≤ b.length → ∀ n, (∀ x ∈ a, x < n) → (∀ x ∈ b, x < n) → (dgP (a.getD i 0) (b.getD j 0)).top < n := fun {i j} hi hj n ha hb => by
    have h1 := ha _ (getD_mem (l := a) (i := i) (by omega))
    have h2 := hb _ (getD_mem (l := b) (i := j) (by omega))
    unfold dgP
    split
    · exact h1
    · exact Nat.max_lt.mpr ⟨h1, h2⟩
  rcases i with _ | i <;> rcases j with _ | j
  · rw [tb] at h; cases h
  · rw [tb] at h
    rcases turnC_from h with h | ⟨rfl, rfl, rfl, ah, ok⟩
    · cases h
    · obtain ⟨r', h1, h2, h3⟩ := ok
      exact ⟨⟨ah, r', h1, h2⟩, h3, by omega, by omega, by omega, fun _ => rfl, fun hj => drop_getD (by omega), fun _ hj n _ hb => hb _ (getD_mem (by omega))⟩
  · rw [tb] at h
    rcases turnC_from h with h | ⟨rfl, rfl, rfl, ah, ok⟩
    · cases h
    · obtain ⟨r', h1, h2, h3⟩ := ok
      exact ⟨⟨ah, r', h1, h2⟩, h3, by omega, by omega, by omega, fun hi => drop_getD (by omega), fun _ => rfl, fun hi _ n ha _ => ha _ (getD_mem (by omega))⟩
  · rw [tb] at h
    rcases turnC_from h with h | ⟨rfl, rfl, rfl, ah, ok⟩
    · rcases turnC_from h with h | ⟨rfl, rfl, rfl, ah, ok⟩
      · rcases turnC_from h with h | ⟨rfl, rfl, rfl, ah, ok⟩
        · cases h
        · obtain ⟨r', h1, h2, h3⟩ := ok
          exact ⟨⟨ah, r', h1, h2⟩, h3, by omega, by omega, by omega, fun hi => by rw [dgP_left]; exact drop_getD (by omega), fun hj => by rw [dgP_right]; exact drop_getD (by omega), dg⟩
      · obtain ⟨r', h1, h2, h3⟩ := ok
        exact ⟨⟨ah, r', h1, h2⟩, h3, by omega, by omega, by omega, fun hi => drop_getD (by omega), fun _ => rfl, fun hi _ n ha _ => ha _ (getD_mem (by omega))⟩
    · obtain ⟨r', h1, h2, h3⟩ := ok
      exact ⟨⟨ah, r', h1, h2⟩, h3, by omega, by omega, by omega, fun _ => rfl, fun hj => drop_getD (by omega), fun _ hj n _ hb => hb _ (getD_mem (by omega))⟩
theorem turnC_none {A : Pg → Bool} {c f : Cell} {s : Pg} {i j e : Nat} (h : turnC A c s i j f = some (e, none)) : f = some (e, none) := by
  unfold turnC at h
  rcases c with _ | ⟨e', r⟩
  · exact h
  · dsimp only at h
    by_cases k : (decide (s.cost = 0) || A s) = true
    · rw [if_pos k] at h
      rcases f with _ | ⟨m, r'⟩
      · cases h
      · dsimp only at h
        by_cases l : e' + s.cost < m
        · rw [if_pos l] at h; cases h
        · rw [if_neg l] at h; exact h
    · rw [if_neg k] at h; exact h
theorem tb_zero {A : Pg → Bool} {a b : List Nat} {i j e : Nat} (h : tb A a b i j = some (e, none)) : i = 0 ∧ j = 0 ∧ e = 0 := by
  rcases i with _ | i <;> rcases j with _ | j
  · rw [tb] at h; cases h; exact ⟨rfl, rfl, rfl⟩
  · rw [tb] at h; cases turnC_none h
  · rw [tb] at h; cases turnC_none h
  · rw [tb] at h; cases turnC_none (turnC_none (turnC_none h))
theorem tb_00 {A : Pg → Bool} {a b : List Nat} : tb A a b 0 0 = some (0, none) := by rw [tb]
/-! the way back from the ends of both lines -/
inductive RunP (A : Pg → Bool) (a b : List Nat) : Nat → Nat → List Pg → List Pg → Prop
  | done {ss : List Pg} : RunP A a b 0 0 ss ss
  | step {i j p q e : Nat} {s : Pg} {ss res : List Pg} : tb A a b i j = some (e, some (s, p, q)) → RunP A a b p q (s :: ss) res → RunP A a b i j ss res
theorem RunP.det {A : Pg → Bool} {a b : List Nat} {i j : Nat} {ss r1 r2 : List Pg} (h : RunP A a b i j ss r1) : RunP A a b i j ss r2 → r1 = r2 := by
  induction h with
  | done =>
    intro k
    cases k with
    | done => rfl
    | step t _ => rw [tb_00] at t; cases t
  | step t _ ih =>
    intro k
    cases k with
    | done => rw [tb_00] at t; cases t
    | step t2 k2 =>
      rw [t] at t2
      cases t2
      exact ih k2
/-- what holds of the steps found behind i and j -/
structure FndP (A : Pg → Bool) (a b : List Nat) (n i j : Nat) (ss : List Pg) : Prop where
  l : plefts ss = a.drop i
  r : prights ss = b.drop j
  c : ∃ e e0 r r0, tb A a b i j = some (e, r) ∧ tb A a b a.length b.length = some (e0, r0) ∧ pcosts ss + e = e0
  ok : ∀ s ∈ ss, (s.cost = 0 ∨ A s = true) ∧ s.top < n
  n : ss.length + i + j ≤ a.length + b.length
  i : i ≤ a.length
  j : j ≤ b.length
theorem FndP.start {A : Pg → Bool} {a b : List Nat} {n e : Nat} {r : Option (Pg × Nat × Nat)} (h : tb A a b a.length b.length = some (e, r)) : FndP A a b n a.length b.length [] :=
  ⟨by simp [plefts], by simp [prights], ⟨e, e, r, r, h, h, by simp [pcosts]⟩, (fun s hs => by cases hs), by simp, Nat.le_refl _, Nat.le_refl _⟩
theorem FndP.next {A : Pg → Bool} {a b : List Nat} {n i j e p q : Nat} {s : Pg} {ss : List Pg} (f : FndP A a b n i j ss) (h : tb A a b i j = some (e, some (s, p, q))) (ha : ∀ x ∈ a, x < n) (hb : ∀ x ∈ b, x < n) : FndP A a b n p q (s :: ss) ∧ p + q < i + j := by
  obtain ⟨l, r, ⟨e1, e0, r1, r0, t1, t0, c⟩, ok, nn, hi, hj⟩ := f
  obtain ⟨⟨e2, r2, t2, e2'⟩, sok, less, pi, qj, sl, sr, sg⟩ := tb_end h
  rw [h] at t1
  cases t1
  refine ⟨⟨?_, ?_, ⟨e2, e0, r2, r0, t2, t0, ?_⟩, ?_, ?_, by omega, by omega⟩, less⟩
  · rw [sl hi, ← l]; rfl
  · rw [sr hj, ← r]; rfl
  · have : pcosts (s :: ss) = s.cost + pcosts ss := by simp [pcosts]
    omega
  · intro x hx
    rcases List.mem_cons.mp hx with rfl | hx
    · exact ⟨sok, sg hi hj n ha hb⟩
    · exact ok x hx
  · rw [List.length_cons]; omega
/-- a whole passing from one line to the other of the least number of errors -/
structure PassP (A : Pg → Bool) (a b : List Nat) (n due : Nat) (ss : List Pg) : Prop where
  l : plefts ss = a
  r : prights ss = b
  c : pcosts ss = due
  ok : ∀ s ∈ ss, (s.cost = 0 ∨ A s = true) ∧ s.top < n
  n : ss.length ≤ a.length + b.length
/-- the fewest errors -/
def fwP (A : Pg → Bool) (a b : List Nat) (i j : Nat) : Option Nat := (tb A a b i j).map (·.1)
theorem FndP.whole {A : Pg → Bool} {a b : List Nat} {n due : Nat} {ss : List Pg} (f : FndP A a b n 0 0 ss) (h : fwP A a b a.length b.length = some due) : PassP A a b n due ss := by
  obtain ⟨l, r, ⟨e1, e0, r1, r0, t1, t0, c⟩, ok, nn, _, _⟩ := f
  rw [tb_00] at t1
  cases t1
  unfold fwP at h
  rw [t0] at h
  cases h
  exact ⟨l, r, by simpa using c, ok, by simpa using nn⟩
/-! the law's own table -/
def ominP : Option Nat → Option Nat → Option Nat
  | none, y => y
  | x, none => x
  | some x, some y => some (min x y)
def cndP (A : Pg → Bool) (c : Option Nat) (s : Pg) : Option Nat := if (decide (s.cost = 0) || A s) = true then c.map (· + s.cost) else none
theorem turnC_min {A : Pg → Bool} {c f : Cell} {s : Pg} {i j : Nat} : (turnC A c s i j f).map (·.1) = ominP (cndP A (c.map (·.1)) s) (f.map (·.1)) := by
  unfold turnC cndP
  rcases c with _ | ⟨e, r⟩
  · dsimp only
    split <;> cases f <;> rfl
  · dsimp only
    by_cases k : (decide (s.cost = 0) || A s) = true
    · rw [if_pos k, if_pos k]
      rcases f with _ | ⟨m, r'⟩
      · rfl
      · dsimp only
        by_cases l : e + s.cost < m
        · rw [if_pos l]
          simp only [Option.map_some, ominP]
          rw [Nat.min_eq_left (Nat.le_of_lt l)]
        · rw [if_neg l]
          simp only [Option.map_some, ominP]
          rw [Nat.min_eq_right (by omega)]
    · rw [if_neg k, if_neg k]
      cases f <;> rfl
theorem fw_00 {A : Pg → Bool} {a b : List Nat} : fwP A a b 0 0 = some 0 := by unfold fwP; rw [tb_00]; rfl
theorem fw_i0 {A : Pg → Bool} {a b : List Nat} {i : Nat} : fwP A a b (i + 1) 0 = cndP A (fwP A a b i 0) (.lost (a.getD i 0)) := by
  unfold fwP; rw [tb, turnC_min]
  cases cndP A ((tb A a b i 0).map (·.1)) (.lost (a.getD i 0)) <;> rfl
theorem fw_0j {A : Pg → Bool} {a b : List Nat} {j : Nat} : fwP A a b 0 (j + 1) = cndP A (fwP A a b 0 j) (.put (b.getD j 0)) := by
  unfold fwP; rw [tb, turnC_min]
  cases cndP A ((tb A a b 0 j).map (·.1)) (.put (b.getD j 0)) <;> rfl
theorem fw_ij {A : Pg → Bool} {a b : List Nat} {i j : Nat} : fwP A a b (i + 1) (j + 1) = ominP (cndP A (fwP A a b (i + 1) j) (.put (b.getD j 0))) (ominP (cndP A (fwP A a b i (j + 1)) (.lost (a.getD i 0))) (cndP A (fwP A a b i j) (dgP (a.getD i 0) (b.getD j 0)))) := by
  unfold fwP; rw [tb, turnC_min, turnC_min, turnC_min]
  cases cndP A ((tb A a b i j).map (·.1)) (dgP (a.getD i 0) (b.getD j 0)) <;> rfl
end Sw
namespace Sw
open PySem PySem.Spec PyProof.Rows L2
local macro_rules | `(tactic| walk_at "hp") => `(tactic| first
  | (with_reducible assumption) | (with_reducible exact upd_same)
  | ((with_reducible refine' upd_old ?q1 ?q2); (case q1 => (with_reducible assumption)); (case q2 => walk_at "hp"))
  | ((with_reducible refine' Same.at ?q1 ?q2); (case q1 => (with_reducible assumption)); (case q2 => walk_at "hp"))
  | ((with_reducible refine' upd_skip ?q1 ?q2); (case q1 => walk_at "ne"); (case q2 => walk_at "hp"))
  | fail)
local macro_rules | `(tactic| walk_at "ne") => `(tactic| first
  | (with_reducible assumption) | (with_reducible exact Ne.symm (by assumption))
  | ((with_reducible refine' ne_of_none ?q1 ?q2); (case q2 => (with_reducible assumption)); (case q1 => walk_at "hp"))
  | fail)
local macro_rules | `(tactic| walk_at "ci") => `(tactic| first | assumption | (show (0 : Int) < _; first | decide | (with_reducible omega)) | exact ⟨by decide, by decide⟩ | exact .inl ⟨by decide, by decide⟩ | exact .inr ⟨by decide, by decide⟩)
local macro_rules | `(tactic| walk_at "ln") => `(tactic| first | (with_reducible assumption) | (with_reducible omega) | (simp only [List.length_append, List.length_take, List.length_drop, List.length_reverse, List.length_cons, List.length_nil]; with_reducible omega))
local macro_rules | `(tactic| walk_at "rd1") => `(tactic| first
  | (with_reducible refine i_seq ?_) | (with_reducible refine i_asg ?_) | (with_reducible refine i_ret ?_) | (with_reducible refine i_name ?_) | ((with_reducible refine' i_var ?q1 ?_); (case q1 => exact rfl)) | (with_reducible refine i_c ?_) | (with_reducible refine i_op ?_) | (with_reducible refine i_un ?_)
  | (with_reducible refine i_rI0 ?_) | (with_reducible refine i_cb ?_) | (with_reducible refine i_cons ?_) | (with_reducible refine i_nil ?_) | (with_reducible refine i_call ?_) | (with_reducible refine i_if ?_) | (with_reducible refine i_ifE ?_) | (with_reducible refine i_test ?_) | (with_reducible refine i_bl ?_)
  | (with_reducible refine i_and ?_) | (with_reducible refine i_or ?_) | (with_reducible refine i_not ?_) | (with_reducible refine i_lst ?_) | (with_reducible refine i_tup ?_) | (with_reducible refine i_next ?_) | (with_reducible refine i_drop ?_) | (with_reducible refine i_sub ?_)
  | (with_reducible refine i_bm ?_) | (with_reducible refine i_sl ?_) | (with_reducible refine i_part ?_) | (with_reducible refine i_nopart ?_) | (with_reducible refine i_exI ?_) | (with_reducible refine i_chain ?_) | ((with_reducible refine' i_aug ?q1 ?_); (case q1 => exact rfl)) | (with_reducible refine i_ip ?_)
  | (with_reducible refine i_par ?_) | (with_reducible refine i_pair ?_) | (with_reducible refine i_andV ?_) | (with_reducible refine i_orV ?_) | (with_reducible refine i_notV ?_) | (with_reducible refine i_m1 ?_) | (with_reducible refine i_str ?_)
  | (with_reducible refine iteF ?_) | (with_reducible refine iteT ?_) | (with_reducible refine iteNT ?_) | (with_reducible refine iteNF ?_) | (with_reducible refine i_tyS ?_) | (with_reducible refine i_tB ?_) | (with_reducible refine i_retN ?_) | (with_reducible refine i_par3 ?_) | (with_reducible refine i_trip ?_) | (with_reducible refine i_gCons ?_) | (with_reducible refine i_gNil ?_) | (with_reducible refine i_lstRg ?_) | (with_reducible refine i_rg1 ?_)
  | (with_reducible refine i_lc ?_) | (with_reducible refine i_for ?_) | (with_reducible refine i_iList ?_) | (with_reducible refine i_iTup ?_) | (with_reducible refine i_iStr ?_) | (with_reducible refine i_iRng1 ?_) | (with_reducible refine i_iEnS ?_)
  | ((with_reducible refine' i_ixTH ?q1 ?q2 ?_); (case q1 => walk_at "hp"); (case q2 => exact rfl))
  | ((with_reducible refine' i_ixLH ?q1 ?q2 ?_); (case q1 => walk_at "hp"); (case q2 => exact rfl))
  | ((with_reducible refine i_addS ?q1 ?_); (case q1 => walk_at "ln")) | ((with_reducible refine i_lenSS ?q1 ?_); (case q1 => walk_at "ln")) | ((with_reducible refine i_slFrom ?q1 ?q2 ?_); (case q1 => walk_at "ln"); (case q2 => walk_at "ln")) | ((with_reducible refine i_slTo ?q1 ?q2 ?_); (case q1 => walk_at "ln"); (case q2 => walk_at "ln"))
  | ((with_reducible refine' i_tyL ?q1 ?_); (case q1 => walk_at "hp"))
  | ((with_reducible refine' i_gTupH ?q1 ?q2 ?_); (case q1 => walk_at "hp"); (case q2 => exact rfl))
  | (with_reducible refine i_dnew ?_) | (with_reducible refine i_init ?_) | (with_reducible refine i_fst ?_) | (with_reducible refine i_mk ?_) | (with_reducible refine i_raise ?_) | (with_reducible refine i_callS ?_) | (with_reducible refine i_kwS ?_)
  | (with_reducible refine i_revT ?_) | (with_reducible refine i_kw ?_) | ((with_reducible refine' ⟨_, _, rfl, sqT_of ?q1, ?_⟩); (case q1 => walk_at "hp"))
  | (with_reducible refine i_revS ?_) | ((with_reducible refine i_revSS ?q1 ?_); (case q1 => walk_at "ln"))
  | (with_reducible refine i_startS ?_) | (with_reducible refine i_inSg ?_) | (with_reducible refine i_absN ?_) | (with_reducible refine i_min2 ?_) | (with_reducible refine i_max2 ?_) | (with_reducible refine i_min3 ?_) | (with_reducible refine i_intN ?_) | (with_reducible refine i_intNB ?_)
  | ((with_reducible refine' i_lenL ?q1 ?_); (case q1 => walk_at "hp")) | ((with_reducible refine' i_lenT ?q1 ?_); (case q1 => walk_at "hp"))
  | (with_reducible refine i_eqI ?_) | (with_reducible refine i_neI ?_) | (with_reducible refine i_eqS ?_) | (with_reducible refine i_neS ?_) | (with_reducible refine i_isNoI ?_) | (with_reducible refine i_isNoN ?_) | (with_reducible refine i_isNoR ?_)
  | ((with_reducible refine i_pow ?q1 ?q2 ?q3 ?_); (case q1 => decide); (case q2 => decide); (case q3 => (with_reducible omega)))
  | ((with_reducible refine i_rI ?q1 ?_); (case q1 => walk_at "ci"))
  | (with_reducible refine Or.inl ⟨_, rfl, ?_⟩) | (with_reducible refine Or.inr ⟨_, rfl, ?_⟩) | (with_reducible refine ⟨_, rfl, ?_⟩) | (with_reducible refine ⟨_, _, rfl, ?_⟩) | (with_reducible refine ⟨_, _, rfl, rfl, ?_⟩)
  | ((with_reducible refine' ⟨_, _, rfl, Or.inl (sqL_of ?q1), ?_⟩); (case q1 => walk_at "hp")) | ((with_reducible refine' ⟨_, _, rfl, Or.inr (sqT_of ?q1), ?_⟩); (case q1 => walk_at "hp")) | (with_reducible refine i_dget ?_) | (with_reducible refine i_disp1T ?_) | (with_reducible refine i_dcT ?_) | (with_reducible refine i_dnewT ?_) | fail)
local macro_rules | `(tactic| walk_at "rd") => `(tactic| repeat' walk_at "rd1")

def topS (i : Nat) : Stmt := PySem.Challenge.pw_spoiltways_k06_least_passings.main.body.getD i (.Pass ⟨0, 0, 0, 0⟩)
abbrev s_is_list : Stmt := topS 6
abbrev n_is_list : List Str := ["value"]
theorem sc_is_list : FnScope n_is_list ["value"] (defScope s_is_list) := ⟨rfl, rfl, rfl, by decide +kernel, rfl, by decide +kernel, by decide +kernel⟩
abbrev s_is_integer : Stmt := topS 7
abbrev n_is_integer : List Str := ["value"]
theorem sc_is_integer : FnScope n_is_integer ["value"] (defScope s_is_integer) := ⟨rfl, rfl, rfl, by decide +kernel, rfl, by decide +kernel, by decide +kernel⟩
abbrev s_is_index : Stmt := topS 8
abbrev n_is_index : List Str := ["value", "many"]
theorem sc_is_index : FnScope n_is_index ["value", "many"] (defScope s_is_index) := ⟨rfl, rfl, rfl, by decide +kernel, rfl, by decide +kernel, by decide +kernel⟩
abbrev s_is_signs : Stmt := topS 9
abbrev n_is_signs : List Str := ["value"]
theorem sc_is_signs : FnScope n_is_signs ["value"] (defScope s_is_signs) := ⟨rfl, rfl, rfl, by decide +kernel, rfl, by decide +kernel, by decide +kernel⟩
abbrev s_is_sign : Stmt := topS 10
abbrev n_is_sign : List Str := ["value", "signs"]
theorem sc_is_sign : FnScope n_is_sign ["value", "signs"] (defScope s_is_sign) := ⟨rfl, rfl, rfl, by decide +kernel, rfl, by decide +kernel, by decide +kernel⟩
abbrev s_is_line : Stmt := topS 11
abbrev n_is_line : List Str := ["value", "signs", "sign"]
theorem sc_is_line : FnScope n_is_line ["value", "signs"] (defScope s_is_line) := ⟨rfl, rfl, rfl, by decide +kernel, rfl, by decide +kernel, by decide +kernel⟩
abbrev s_check_line : Stmt := topS 12
abbrev n_check_line : List Str := ["line", "signs"]
theorem sc_check_line : FnScope n_check_line ["line", "signs"] (defScope s_check_line) := ⟨rfl, rfl, rfl, by decide +kernel, rfl, by decide +kernel, by decide +kernel⟩
abbrev s_is_kind : Stmt := topS 14
abbrev n_is_kind : List Str := ["value", "signs", "part"]
theorem sc_is_kind : FnScope n_is_kind ["value", "signs"] (defScope s_is_kind) := ⟨rfl, rfl, rfl, by decide +kernel, rfl, by decide +kernel, by decide +kernel⟩
abbrev s_are_kinds : Stmt := topS 15
abbrev n_are_kinds : List Str := ["value", "signs", "kind"]
theorem sc_are_kinds : FnScope n_are_kinds ["value", "signs"] (defScope s_are_kinds) := ⟨rfl, rfl, rfl, by decide +kernel, rfl, by decide +kernel, by decide +kernel⟩
abbrev s_last_steps : Stmt := topS 16
abbrev n_last_steps : List Str := ["one", "other", "i", "j", "found", "alike", "step"]
theorem sc_last_steps : FnScope n_last_steps ["one", "other", "i", "j"] (defScope s_last_steps) := ⟨rfl, rfl, rfl, by decide +kernel, rfl, by decide +kernel, by decide +kernel⟩
abbrev s_least_end : Stmt := topS 17
abbrev n_least_end : List Str := ["best", "ways", "allowed", "found", "step", "ahead", "errors"]
theorem sc_least_end : FnScope n_least_end ["best", "ways", "allowed"] (defScope s_least_end) := ⟨rfl, rfl, rfl, by decide +kernel, rfl, by decide +kernel, by decide +kernel⟩
abbrev s_least_passing : Stmt := topS 18
abbrev n_least_passing : List Str := ["one", "other", "kinds", "allowed", "best", "found", "kind", "i", "j", "ends", "step"]
theorem sc_least_passing : FnScope n_least_passing ["one", "other", "kinds"] (defScope s_least_passing) := ⟨rfl, rfl, rfl, by decide +kernel, rfl, by decide +kernel, by decide +kernel⟩
abbrev s__law_cell : Stmt := topS 20
abbrev n__law_cell : List Str := ["script", "k"]
theorem sc__law_cell : FnScope n__law_cell ["script", "k"] (defScope s__law_cell) := ⟨rfl, rfl, rfl, by decide +kernel, rfl, by decide +kernel, by decide +kernel⟩
abbrev s__law_box : Stmt := topS 21
abbrev n__law_box : List Str := ["great"]
theorem sc__law_box : FnScope n__law_box ["great"] (defScope s__law_box) := ⟨rfl, rfl, rfl, by decide +kernel, rfl, by decide +kernel, by decide +kernel⟩
abbrev s__law_take : Stmt := topS 22
abbrev n__law_take : List Str := ["box", "many", "digit", "mixed"]
theorem sc__law_take : FnScope n__law_take ["box", "many"] (defScope s__law_take) := ⟨rfl, rfl, rfl, by decide +kernel, rfl, by decide +kernel, by decide +kernel⟩
abbrev s__law_mixed : Stmt := topS 23
abbrev n__law_mixed : List Str := ["box", "items", "left", "found"]
theorem sc__law_mixed : FnScope n__law_mixed ["box", "items"] (defScope s__law_mixed) := ⟨rfl, rfl, rfl, by decide +kernel, rfl, by decide +kernel, by decide +kernel⟩
abbrev s__law_all : Stmt := topS 24
abbrev n__law_all : List Str := ["signs", "found", "a", "b"]
theorem sc__law_all : FnScope n__law_all ["signs"] (defScope s__law_all) := ⟨rfl, rfl, rfl, by decide +kernel, rfl, by decide +kernel, by decide +kernel⟩
abbrev s__law_kinds : Stmt := topS 25
abbrev n__law_kinds : List Str := ["box", "signs", "way", "every", "a", "kind", "some"]
theorem sc__law_kinds : FnScope n__law_kinds ["box", "signs"] (defScope s__law_kinds) := ⟨rfl, rfl, rfl, by decide +kernel, rfl, by decide +kernel, by decide +kernel⟩
abbrev s__law_line : Stmt := topS 26
abbrev n__law_line : List Str := ["box", "signs", "many", "k"]
theorem sc__law_line : FnScope n__law_line ["box", "signs"] (defScope s__law_line) := ⟨rfl, rfl, rfl, by decide +kernel, rfl, by decide +kernel, by decide +kernel⟩
abbrev s__law_spoilt : Stmt := topS 27
abbrev n__law_spoilt : List Str := ["box", "line", "kinds", "often", "found", "put", "kind", "sign", "some"]
theorem sc__law_spoilt : FnScope n__law_spoilt ["box", "line", "kinds", "often"] (defScope s__law_spoilt) := ⟨rfl, rfl, rfl, by decide +kernel, rfl, by decide +kernel, by decide +kernel⟩
abbrev s__law_scene : Stmt := topS 28
abbrev n__law_scene : List Str := ["box", "signs", "kinds", "one", "way"]
theorem sc__law_scene : FnScope n__law_scene ["box"] (defScope s__law_scene) := ⟨rfl, rfl, rfl, by decide +kernel, rfl, by decide +kernel, by decide +kernel⟩
abbrev s__law_fewest : Stmt := topS 29
abbrev n__law_fewest : List Str := ["one", "other", "kinds", "table", "i", "j", "ways"]
theorem sc__law_fewest : FnScope n__law_fewest ["one", "other", "kinds"] (defScope s__law_fewest) := ⟨rfl, rfl, rfl, by decide +kernel, rfl, by decide +kernel, by decide +kernel⟩
abbrev s__law_told_right : Stmt := topS 30
abbrev n__law_told_right : List Str := ["told", "one", "other", "kinds", "due", "step", "part"]
theorem sc__law_told_right : FnScope n__law_told_right ["told", "one", "other", "kinds", "due"] (defScope s__law_told_right) := ⟨rfl, rfl, rfl, by decide +kernel, rfl, by decide +kernel, by decide +kernel⟩
abbrev s__law_scene_right : Stmt := topS 31
abbrev n__law_scene_right : List Str := ["box", "scene", "one", "other", "kinds", "handed", "due", "told", "again", "turned"]
theorem sc__law_scene_right : FnScope n__law_scene_right ["box", "scene"] (defScope s__law_scene_right) := ⟨rfl, rfl, rfl, by decide +kernel, rfl, by decide +kernel, by decide +kernel⟩
abbrev s__law_long_right : Stmt := topS 32
abbrev n__law_long_right : List Str := ["box", "n", "m", "sizes", "one", "other", "kinds"]
theorem sc__law_long_right : FnScope n__law_long_right ["box"] (defScope s__law_long_right) := ⟨rfl, rfl, rfl, by decide +kernel, rfl, by decide +kernel, by decide +kernel⟩
abbrev s__law_met : Stmt := topS 33
abbrev n__law_met : List Str := ["values", "e"]
theorem sc__law_met : FnScope n__law_met ["values"] (defScope s__law_met) := ⟨rfl, rfl, rfl, by decide +kernel, rfl, by decide +kernel, by decide +kernel⟩
abbrev s__law_refused : Stmt := topS 34
abbrev n__law_refused : List Str := ["values", "place", "word", "given", "value", "told"]
theorem sc__law_refused : FnScope n__law_refused ["values", "place", "word"] (defScope s__law_refused) := ⟨rfl, rfl, rfl, by decide +kernel, rfl, by decide +kernel, by decide +kernel⟩
abbrev s__law_no_line : Stmt := topS 35
abbrev n__law_no_line : List Str := ["box", "line", "at", "sign", "bad"]
theorem sc__law_no_line : FnScope n__law_no_line ["box", "line"] (defScope s__law_no_line) := ⟨rfl, rfl, rfl, by decide +kernel, rfl, by decide +kernel, by decide +kernel⟩
abbrev s__law_no_kinds : Stmt := topS 36
abbrev n__law_no_kinds : List Str := ["box", "kinds", "bad", "at"]
theorem sc__law_no_kinds : FnScope n__law_no_kinds ["box", "kinds"] (defScope s__law_no_kinds) := ⟨rfl, rfl, rfl, by decide +kernel, rfl, by decide +kernel, by decide +kernel⟩
abbrev s__law_right : Stmt := topS 37
abbrev n__law_right : List Str := ["box", "scenes", "k", "one", "other", "kinds", "first", "second", "third"]
theorem sc__law_right : FnScope n__law_right ["box"] (defScope s__law_right) := ⟨rfl, rfl, rfl, by decide +kernel, rfl, by decide +kernel, by decide +kernel⟩
abbrev s_law : Stmt := topS 38
abbrev n_law : List Str := ["script", "k"]
theorem sc_law : FnScope n_law ["script"] (defScope s_law) := ⟨rfl, rfl, rfl, by decide +kernel, rfl, by decide +kernel, by decide +kernel⟩
/-- names that stay the built-in ones -/
structure Z (mg : Str → Option Value) : Prop where
  abs : mg "abs" = none
  all : mg "all" = none
  bool : mg "bool" = none
  enumerate : mg "enumerate" = none
  int : mg "int" = none
  isinstance : mg "isinstance" = none
  len : mg "len" = none
  list : mg "list" = none
  max_ : mg "max" = none
  min_ : mg "min" = none
  range : mg "range" = none
  repr : mg "repr" = none
  str : mg "str" = none
  sum : mg "sum" = none
  tuple : mg "tuple" = none
end Sw
namespace Sw
open PySem PySem.Spec PyProof.Rows L2
local macro_rules | `(tactic| walk_at "hp") => `(tactic| first
  | (with_reducible assumption) | (with_reducible exact upd_same)
  | ((with_reducible refine' upd_old ?q1 ?q2); (case q1 => (with_reducible assumption)); (case q2 => walk_at "hp"))
  | ((with_reducible refine' Same.at ?q1 ?q2); (case q1 => (with_reducible assumption)); (case q2 => walk_at "hp"))
  | ((with_reducible refine' upd_skip ?q1 ?q2); (case q1 => walk_at "ne"); (case q2 => walk_at "hp"))
  | fail)
local macro_rules | `(tactic| walk_at "ne") => `(tactic| first
  | (with_reducible assumption) | (with_reducible exact Ne.symm (by assumption))
  | ((with_reducible refine' ne_of_none ?q1 ?q2); (case q2 => (with_reducible assumption)); (case q1 => walk_at "hp"))
  | fail)
local macro_rules | `(tactic| walk_at "ci") => `(tactic| first | assumption | (show (0 : Int) < _; first | decide | (with_reducible omega)) | exact ⟨by decide, by decide⟩ | exact .inl ⟨by decide, by decide⟩ | exact .inr ⟨by decide, by decide⟩)
local macro_rules | `(tactic| walk_at "ln") => `(tactic| first | (with_reducible assumption) | (with_reducible omega) | (simp only [List.length_append, List.length_take, List.length_drop, List.length_reverse, List.length_cons, List.length_nil]; with_reducible omega))
local macro_rules | `(tactic| walk_at "rd1") => `(tactic| first
  | (with_reducible refine i_seq ?_) | (with_reducible refine i_asg ?_) | (with_reducible refine i_ret ?_) | (with_reducible refine i_name ?_) | ((with_reducible refine' i_var ?q1 ?_); (case q1 => exact rfl)) | (with_reducible refine i_c ?_) | (with_reducible refine i_op ?_) | (with_reducible refine i_un ?_)
  | (with_reducible refine i_rI0 ?_) | (with_reducible refine i_cb ?_) | (with_reducible refine i_cons ?_) | (with_reducible refine i_nil ?_) | (with_reducible refine i_call ?_) | (with_reducible refine i_if ?_) | (with_reducible refine i_ifE ?_) | (with_reducible refine i_test ?_) | (with_reducible refine i_bl ?_)
  | (with_reducible refine i_and ?_) | (with_reducible refine i_or ?_) | (with_reducible refine i_not ?_) | (with_reducible refine i_lst ?_) | (with_reducible refine i_tup ?_) | (with_reducible refine i_next ?_) | (with_reducible refine i_drop ?_) | (with_reducible refine i_sub ?_)
  | (with_reducible refine i_bm ?_) | (with_reducible refine i_sl ?_) | (with_reducible refine i_part ?_) | (with_reducible refine i_nopart ?_) | (with_reducible refine i_exI ?_) | (with_reducible refine i_chain ?_) | ((with_reducible refine' i_aug ?q1 ?_); (case q1 => exact rfl)) | (with_reducible refine i_ip ?_)
  | (with_reducible refine i_par ?_) | (with_reducible refine i_pair ?_) | (with_reducible refine i_andV ?_) | (with_reducible refine i_orV ?_) | (with_reducible refine i_notV ?_) | (with_reducible refine i_m1 ?_) | (with_reducible refine i_str ?_)
  | (with_reducible refine iteF ?_) | (with_reducible refine iteT ?_) | (with_reducible refine iteNT ?_) | (with_reducible refine iteNF ?_) | (with_reducible refine i_tyS ?_) | (with_reducible refine i_tB ?_) | (with_reducible refine i_retN ?_) | (with_reducible refine i_par3 ?_) | (with_reducible refine i_trip ?_) | (with_reducible refine i_gCons ?_) | (with_reducible refine i_gNil ?_) | (with_reducible refine i_lstRg ?_) | (with_reducible refine i_rg1 ?_)
  | (with_reducible refine i_lc ?_) | (with_reducible refine i_for ?_) | (with_reducible refine i_iList ?_) | (with_reducible refine i_iTup ?_) | (with_reducible refine i_iStr ?_) | (with_reducible refine i_iRng1 ?_) | (with_reducible refine i_iEnS ?_)
  | ((with_reducible refine' i_ixTH ?q1 ?q2 ?_); (case q1 => walk_at "hp"); (case q2 => exact rfl))
  | ((with_reducible refine' i_ixLH ?q1 ?q2 ?_); (case q1 => walk_at "hp"); (case q2 => exact rfl))
  | ((with_reducible refine i_addS ?q1 ?_); (case q1 => walk_at "ln")) | ((with_reducible refine i_lenSS ?q1 ?_); (case q1 => walk_at "ln")) | ((with_reducible refine i_slFrom ?q1 ?q2 ?_); (case q1 => walk_at "ln"); (case q2 => walk_at "ln")) | ((with_reducible refine i_slTo ?q1 ?q2 ?_); (case q1 => walk_at "ln"); (case q2 => walk_at "ln"))
  | ((with_reducible refine' i_tyL ?q1 ?_); (case q1 => walk_at "hp"))
  | ((with_reducible refine' i_gTupH ?q1 ?q2 ?_); (case q1 => walk_at "hp"); (case q2 => exact rfl))
  | (with_reducible refine i_dnew ?_) | (with_reducible refine i_init ?_) | (with_reducible refine i_fst ?_) | (with_reducible refine i_mk ?_) | (with_reducible refine i_raise ?_) | (with_reducible refine i_callS ?_) | (with_reducible refine i_kwS ?_)
  | (with_reducible refine i_revT ?_) | (with_reducible refine i_kw ?_) | ((with_reducible refine' ⟨_, _, rfl, sqT_of ?q1, ?_⟩); (case q1 => walk_at "hp"))
  | (with_reducible refine i_revS ?_) | ((with_reducible refine i_revSS ?q1 ?_); (case q1 => walk_at "ln"))
  | (with_reducible refine i_startS ?_) | (with_reducible refine i_inSg ?_) | (with_reducible refine i_absN ?_) | (with_reducible refine i_min2 ?_) | (with_reducible refine i_max2 ?_) | (with_reducible refine i_min3 ?_) | (with_reducible refine i_intN ?_) | (with_reducible refine i_intNB ?_)
  | ((with_reducible refine' i_lenL ?q1 ?_); (case q1 => walk_at "hp")) | ((with_reducible refine' i_lenT ?q1 ?_); (case q1 => walk_at "hp"))
  | (with_reducible refine i_eqI ?_) | (with_reducible refine i_neI ?_) | (with_reducible refine i_eqS ?_) | (with_reducible refine i_neS ?_) | (with_reducible refine i_isNoI ?_) | (with_reducible refine i_isNoN ?_) | (with_reducible refine i_isNoR ?_)
  | ((with_reducible refine i_pow ?q1 ?q2 ?q3 ?_); (case q1 => decide); (case q2 => decide); (case q3 => (with_reducible omega)))
  | ((with_reducible refine i_rI ?q1 ?_); (case q1 => walk_at "ci"))
  | (with_reducible refine Or.inl ⟨_, rfl, ?_⟩) | (with_reducible refine Or.inr ⟨_, rfl, ?_⟩) | (with_reducible refine ⟨_, rfl, ?_⟩) | (with_reducible refine ⟨_, _, rfl, ?_⟩) | (with_reducible refine ⟨_, _, rfl, rfl, ?_⟩)
  | ((with_reducible refine' ⟨_, _, rfl, Or.inl (sqL_of ?q1), ?_⟩); (case q1 => walk_at "hp")) | ((with_reducible refine' ⟨_, _, rfl, Or.inr (sqT_of ?q1), ?_⟩); (case q1 => walk_at "hp")) | (with_reducible refine i_dget ?_) | (with_reducible refine i_disp1T ?_) | (with_reducible refine i_dcT ?_) | (with_reducible refine i_dnewT ?_) | fail)
local macro_rules | `(tactic| walk_at "rd") => `(tactic| repeat' walk_at "rd1")

/-! ### the exceptions that tell a bad value -/
abbrev s_initL : Stmt := inClass (topS 3) 0
abbrev s_initK : Stmt := inClass (topS 2) 0
abbrev n_init : List Str := ["self", "given"]
theorem sc_initL : FnScope n_init ["self", "given"] (defScope s_initL) := ⟨rfl, rfl, rfl, by decide +kernel, rfl, by decide +kernel, by decide +kernel⟩
theorem sc_initK : FnScope n_init ["self", "given"] (defScope s_initK) := ⟨rfl, rfl, rfl, by decide +kernel, rfl, by decide +kernel, by decide +kernel⟩
section
variable {P : Program} {w : World} {K : PySem.W.Frag} {mg : Str → Option Value} {base : Heap} {f : Addr} {fd : FuncData}
theorem ok_initL {B : Addr} (F : Fun K "__init__" "InvalidLine.__init__" s_initL f fd) (o : Over K mg B) : FnOk P w K mg base CX0 1 f fd ["self", "given"] (spInit K) := by
  refine F.ok sc_initL (fun vs H Q E h => ?_) (fun cdv A outer s H vs Q E hr h => ?_)
  · obtain ⟨a, C, v, rfl, _⟩ := h; rfl
  · obtain ⟨a, C, v, rfl, ha, T, no, k⟩ := h
    refine ⟨_, (pss_cons (ps_expr (ps_init (by rfl) o.hm o.ga o.ty o.rd o.fi (pa_cons (pv 0) (pa_cons pe_str pa_nil))))
      (pss_one (ps_fst (pv 0) (pv 1)))), ?_⟩
    walk_at "rd"
    refine ⟨a, C, _, rfl, by simp, T, ha, ?_⟩
    walk_at "rd"
    exact ⟨a, C, rfl, T, no, ha, fun dx n ne => k dx n ne⟩
theorem ok_initK {B : Addr} (F : Fun K "__init__" "InvalidKinds.__init__" s_initK f fd) (o : Over K mg B) : FnOk P w K mg base CX0 1 f fd ["self", "given"] (spInit K) := by
  refine F.ok sc_initK (fun vs H Q E h => ?_) (fun cdv A outer s H vs Q E hr h => ?_)
  · obtain ⟨a, C, v, rfl, _⟩ := h; rfl
  · obtain ⟨a, C, v, rfl, ha, T, no, k⟩ := h
    refine ⟨_, (pss_cons (ps_expr (ps_init (by rfl) o.hm o.ga o.ty o.rd o.fi (pa_cons (pv 0) (pa_cons pe_str pa_nil))))
      (pss_one (ps_fst (pv 0) (pv 1)))), ?_⟩
    walk_at "rd"
    refine ⟨a, C, _, rfl, by simp, T, ha, ?_⟩
    walk_at "rd"
    exact ⟨a, C, rfl, T, no, ha, fun dx n ne => k dx n ne⟩
end
end Sw
namespace Sw
open PySem PySem.Spec PyProof.Rows L2
local macro_rules | `(tactic| walk_at "hp") => `(tactic| first
  | (with_reducible assumption) | (with_reducible exact upd_same)
  | ((with_reducible refine' upd_old ?q1 ?q2); (case q1 => (with_reducible assumption)); (case q2 => walk_at "hp"))
  | ((with_reducible refine' Same.at ?q1 ?q2); (case q1 => (with_reducible assumption)); (case q2 => walk_at "hp"))
  | ((with_reducible refine' upd_skip ?q1 ?q2); (case q1 => walk_at "ne"); (case q2 => walk_at "hp"))
  | fail)
local macro_rules | `(tactic| walk_at "ne") => `(tactic| first
  | (with_reducible assumption) | (with_reducible exact Ne.symm (by assumption))
  | ((with_reducible refine' ne_of_none ?q1 ?q2); (case q2 => (with_reducible assumption)); (case q1 => walk_at "hp"))
  | fail)
local macro_rules | `(tactic| walk_at "ci") => `(tactic| first | assumption | (show (0 : Int) < _; first | decide | (with_reducible omega)) | exact ⟨by decide, by decide⟩ | exact .inl ⟨by decide, by decide⟩ | exact .inr ⟨by decide, by decide⟩)
local macro_rules | `(tactic| walk_at "ln") => `(tactic| first | (with_reducible assumption) | (with_reducible omega) | (simp only [List.length_append, List.length_take, List.length_drop, List.length_reverse, List.length_cons, List.length_nil]; with_reducible omega))
local macro_rules | `(tactic| walk_at "rd1") => `(tactic| first
  | (with_reducible refine i_seq ?_) | (with_reducible refine i_asg ?_) | (with_reducible refine i_ret ?_) | (with_reducible refine i_name ?_) | ((with_reducible refine' i_var ?q1 ?_); (case q1 => exact rfl)) | (with_reducible refine i_c ?_) | (with_reducible refine i_op ?_) | (with_reducible refine i_un ?_)
  | (with_reducible refine i_rI0 ?_) | (with_reducible refine i_cb ?_) | (with_reducible refine i_cons ?_) | (with_reducible refine i_nil ?_) | (with_reducible refine i_call ?_) | (with_reducible refine i_if ?_) | (with_reducible refine i_ifE ?_) | (with_reducible refine i_test ?_) | (with_reducible refine i_bl ?_)
  | (with_reducible refine i_and ?_) | (with_reducible refine i_or ?_) | (with_reducible refine i_not ?_) | (with_reducible refine i_lst ?_) | (with_reducible refine i_tup ?_) | (with_reducible refine i_next ?_) | (with_reducible refine i_drop ?_) | (with_reducible refine i_sub ?_)
  | (with_reducible refine i_bm ?_) | (with_reducible refine i_sl ?_) | (with_reducible refine i_part ?_) | (with_reducible refine i_nopart ?_) | (with_reducible refine i_exI ?_) | (with_reducible refine i_chain ?_) | ((with_reducible refine' i_aug ?q1 ?_); (case q1 => exact rfl)) | (with_reducible refine i_ip ?_)
  | (with_reducible refine i_par ?_) | (with_reducible refine i_pair ?_) | (with_reducible refine i_andV ?_) | (with_reducible refine i_orV ?_) | (with_reducible refine i_notV ?_) | (with_reducible refine i_m1 ?_) | (with_reducible refine i_str ?_)
  | (with_reducible refine iteF ?_) | (with_reducible refine iteT ?_) | (with_reducible refine iteNT ?_) | (with_reducible refine iteNF ?_) | (with_reducible refine i_tyS ?_) | (with_reducible refine i_tB ?_) | (with_reducible refine i_retN ?_) | (with_reducible refine i_par3 ?_) | (with_reducible refine i_trip ?_) | (with_reducible refine i_gCons ?_) | (with_reducible refine i_gNil ?_) | (with_reducible refine i_lstRg ?_) | (with_reducible refine i_rg1 ?_)
  | (with_reducible refine i_lc ?_) | (with_reducible refine i_for ?_) | (with_reducible refine i_iList ?_) | (with_reducible refine i_iTup ?_) | (with_reducible refine i_iStr ?_) | (with_reducible refine i_iRng1 ?_) | (with_reducible refine i_iEnS ?_)
  | ((with_reducible refine' i_ixTH ?q1 ?q2 ?_); (case q1 => walk_at "hp"); (case q2 => exact rfl))
  | ((with_reducible refine' i_ixLH ?q1 ?q2 ?_); (case q1 => walk_at "hp"); (case q2 => exact rfl))
  | ((with_reducible refine i_addS ?q1 ?_); (case q1 => walk_at "ln")) | ((with_reducible refine i_lenSS ?q1 ?_); (case q1 => walk_at "ln")) | ((with_reducible refine i_slFrom ?q1 ?q2 ?_); (case q1 => walk_at "ln"); (case q2 => walk_at "ln")) | ((with_reducible refine i_slTo ?q1 ?q2 ?_); (case q1 => walk_at "ln"); (case q2 => walk_at "ln"))
  | ((with_reducible refine' i_tyL ?q1 ?_); (case q1 => walk_at "hp"))
  | ((with_reducible refine' i_gTupH ?q1 ?q2 ?_); (case q1 => walk_at "hp"); (case q2 => exact rfl))
  | (with_reducible refine i_dnew ?_) | (with_reducible refine i_init ?_) | (with_reducible refine i_fst ?_) | (with_reducible refine i_mk ?_) | (with_reducible refine i_raise ?_) | (with_reducible refine i_callS ?_) | (with_reducible refine i_kwS ?_)
  | (with_reducible refine i_revT ?_) | (with_reducible refine i_kw ?_) | ((with_reducible refine' ⟨_, _, rfl, sqT_of ?q1, ?_⟩); (case q1 => walk_at "hp"))
  | (with_reducible refine i_revS ?_) | ((with_reducible refine i_revSS ?q1 ?_); (case q1 => walk_at "ln"))
  | (with_reducible refine i_startS ?_) | (with_reducible refine i_inSg ?_) | (with_reducible refine i_absN ?_) | (with_reducible refine i_min2 ?_) | (with_reducible refine i_max2 ?_) | (with_reducible refine i_min3 ?_) | (with_reducible refine i_intN ?_) | (with_reducible refine i_intNB ?_)
  | ((with_reducible refine' i_lenL ?q1 ?_); (case q1 => walk_at "hp")) | ((with_reducible refine' i_lenT ?q1 ?_); (case q1 => walk_at "hp"))
  | (with_reducible refine i_eqI ?_) | (with_reducible refine i_neI ?_) | (with_reducible refine i_eqS ?_) | (with_reducible refine i_neS ?_) | (with_reducible refine i_isNoI ?_) | (with_reducible refine i_isNoN ?_) | (with_reducible refine i_isNoR ?_)
  | ((with_reducible refine i_pow ?q1 ?q2 ?q3 ?_); (case q1 => decide); (case q2 => decide); (case q3 => (with_reducible omega)))
  | ((with_reducible refine i_rI ?q1 ?_); (case q1 => walk_at "ci"))
  | (with_reducible refine Or.inl ⟨_, rfl, ?_⟩) | (with_reducible refine Or.inr ⟨_, rfl, ?_⟩) | (with_reducible refine ⟨_, rfl, ?_⟩) | (with_reducible refine ⟨_, _, rfl, ?_⟩) | (with_reducible refine ⟨_, _, rfl, rfl, ?_⟩)
  | ((with_reducible refine' ⟨_, _, rfl, Or.inl (sqL_of ?q1), ?_⟩); (case q1 => walk_at "hp")) | ((with_reducible refine' ⟨_, _, rfl, Or.inr (sqT_of ?q1), ?_⟩); (case q1 => walk_at "hp")) | (with_reducible refine i_dget ?_) | (with_reducible refine i_disp1T ?_) | (with_reducible refine i_dcT ?_) | (with_reducible refine i_dnewT ?_) | fail)
local macro_rules | `(tactic| walk_at "rd") => `(tactic| repeat' walk_at "rd1")

section
variable {P : Program} {w : World} {K : PySem.W.Frag} {mg : Str → Option Value} {base : Heap} {f : Addr} {fd : FuncData}
theorem ok__law_take (F : Fun K "_law_take" "_law_take" s__law_take f fd) (z : Z mg) : FnOk P w K mg base CX0 1 f fd ["box", "many"] spTake := by
  refine F.ok sc__law_take (fun vs H Q E h => ?_) (fun cdv A outer s H vs Q E hr h => ?_)
  · obtain ⟨b, m, d, rfl, _⟩ := h; rfl
  · obtain ⟨b, m, d, rfl, B, hd, hm, hm2, k⟩ := h
    obtain ⟨n, g, c, e, hb, hn, hc0, hc1, he0, he1⟩ := B.ex
    have L : SqL K H b [.int n, .bl g, .int c, .int e] := .inl (.inl hb)
    refine ⟨_, (pss_cons (ps_if (PW.pt (pw_and (pt_val (pe_ix ix_list (pv 0) pe_int (fun _ _ => rfl))) (pw_and1 (pt_cmpR op_gt (pe_ix ix_list (pv 0) pe_int (fun _ _ => rfl)) pe_int (nomark _)))))
        (pss_cons (ps_set (i := 2) sc__law_take.nd rfl (.inl rfl) (pe_op op_mod (pe_callTy call_intN (by rfl) z.int (by decide +kernel) (pa_cons (pe_ix ix_list (pv 0) pe_int (fun _ _ => rfl)) pa_nil)) (pv 1)))
        (pss_cons (ps_asg (pe_op op_fdivW (pe_ix ix_list (pv 0) pe_int (fun _ _ => rfl)) (pv 1)) (pg_sub (pv 0) pe_int set_list))
        (pss_one (ps_ret (pv 2)))))
        pss_nil)
      (pss_cons (ps_asg (pe_op op_add (pe_ix ix_list (pv 0) pe_int (fun _ _ => rfl)) pe_int) (pg_sub (pv 0) pe_int set_list))
      (pss_cons (ps_set (i := 3) sc__law_take.nd rfl (.inl rfl) (pe_op op_mod (pe_callTy call_intN (by rfl) z.int (by decide +kernel) (pa_cons (pe_op op_pow (pe_op op_add (pe_op op_add (pe_ix ix_list (pv 0) pe_int (fun _ _ => rfl)) (pe_op op_mul pe_int (pe_ix ix_list (pv 0) pe_int (fun _ _ => rfl)))) pe_int) pe_int) pa_nil)) pe_int))
      (pss_one (ps_ret (pe_op op_mod (pe_op op_fdiv (pe_op op_mod (pe_callTy call_intN (by rfl) z.int (by decide +kernel) (pa_cons (pe_op op_pow (pe_op op_add (pe_op op_mul (pv 3) pe_int) (pe_op op_mul pe_int (pe_ix ix_list (pv 0) pe_int (fun _ _ => rfl)))) pe_int) pa_nil)) pe_int) pe_int) (pv 1))))))), ?_⟩
    walk_at "rd"
    refine iteC (fun hg => ?_) (fun hg => ?_)
    · walk_at "rd"
      refine iteB (fun h0 => ?_) (fun h0 => ?_)
      · walk_at "rd"
        refine i_rI (wide_div hm (by omega : m.natAbs < 2 ^ 64) (by decide) (by decide)) ?_
        walk_at "rd"
        refine i_setL hb rfl ?_
        walk_at "rd"
        refine k _ _ (Int.emod_nonneg _ (by omega)) (Int.emod_lt_of_pos _ hm) ⟨n / m, g, c, e, upd_same, Int.ediv_nonneg hn (by omega), hc0, hc1, he0, by omega⟩ SB.upd
      · walk_at "rd"
        refine i_setL hb rfl ?_
        walk_at "rd"
        exact k _ _ (Int.emod_nonneg _ (by omega)) (Int.emod_lt_of_pos _ hm) ⟨n, g, c, e + 1, upd_same, hn, hc0, hc1, by omega, by omega⟩ SB.upd
    · walk_at "rd"
      refine i_setL hb rfl ?_
      walk_at "rd"
      exact k _ _ (Int.emod_nonneg _ (by omega)) (Int.emod_lt_of_pos _ hm) ⟨n, g, c, e + 1, upd_same, hn, hc0, hc1, by omega, by omega⟩ SB.upd
theorem ok__law_box (F : Fun K "_law_box" "_law_box" s__law_box f fd) (z : Z mg) : FnOk P w K mg base CX0 1 f fd ["great"] spBox := by
  refine F.ok sc__law_box (fun vs H Q E h => ?_) (fun cdv A outer s H vs Q E hr h => ?_)
  · obtain ⟨n, rfl, _⟩ := h; rfl
  · obtain ⟨n, rfl, k⟩ := h
    refine ⟨_, (pss_one (ps_ret (pe_lst (pa_cons (pe_callB call_absN (by rfl) z.abs (by decide +kernel) (pa_cons (pv 0) pa_nil)) (pa_cons (pe_cmpR op_ge (pe_callB call_absN (by rfl) z.abs (by decide +kernel) (pa_cons (pv 0) pa_nil)) (pe_op op_pow pe_int pe_int) (nomark _)) (pa_cons (pe_op op_mod (pe_callTy call_intN (by rfl) z.int (by decide +kernel) (pa_cons (pe_callB call_absN (by rfl) z.abs (by decide +kernel) (pa_cons (pv 0) pa_nil)) pa_nil)) pe_int) (pa_cons pe_int pa_nil))))))), ?_⟩
    walk_at "rd"
    have q0 := Int.emod_nonneg (if n < 0 then -n else n) (show (2147483629 : Int) ≠ 0 by decide)
    have q1 := Int.emod_lt_of_pos (if n < 0 then -n else n) (show (0 : Int) < 2147483629 by decide)
    refine ⟨Nat.le_of_ble_eq_true rfl, fun p np => ?_⟩
    refine k p _ np (same_upd np) ⟨_, _, _, _, upd_same, by split <;> omega, q0, q1, by omega, by omega⟩
theorem ok__law_cell (F : Fun K "_law_cell" "_law_cell" s__law_cell f fd) (z : Z mg) : FnOk P w K mg base CX0 1 f fd ["script", "k"] (spCell K) := by
  refine F.ok sc__law_cell (fun vs H Q E h => ?_) (fun cdv A outer s H vs Q E hr h => ?_)
  · obtain ⟨a, ns, j, rfl, _⟩ := h; rfl
  · obtain ⟨a, ns, j, rfl, L, h0, h1, k⟩ := h
    refine ⟨_, (pss_one (ps_ret (pe_ifExp (pt_cmpR op_lt (pv 1) (pe_callB call_lenQ (by rfl) z.len PySem.boot_len (pa_cons (pv 0) pa_nil)) (nomark _)) (pe_ix ix_list (pv 0) (pv 1) (fun _ _ => rfl)) (pe_op op_add (pe_op op_mul pe_int (pv 1)) (pe_op op_mod (pe_callB (cr_sum rfl) (by rfl) z.sum (by decide +kernel) (pa_cons (pe_slice sl_list (pv 0) po_none (po_some pe_int)) pa_nil)) pe_int))))), ?_⟩
    walk_at "rd"
    refine i_lenK L ?_
    walk_at "rd"
    rw [List.length_map]
    refine iteB (fun hlt => ?_) (fun hlt => ?_)
    · walk_at "rd"
      refine i_ixL L (atI_ints h0 hlt) ?_
      exact k _ _ (Same.refl _)
    · walk_at "rd"
      refine ⟨a, _, rfl, L, fun p np => ?_⟩
      walk_at "rd"
      have e : cutV (ns.map V.int) none (some 1) = (ns.take 1).map V.int := by
        unfold cutV
        rw [show HT.sIx (ns.map V.int).length (ns.map V.int).length (some 1) = min 1 (ns.map V.int).length from HT.sIx_nat _ _ 1, HT.sIx_none, List.drop_zero, Nat.sub_zero, List.map_take]
        rcases Nat.le_total 1 (ns.map V.int).length with q | q
        · rw [Nat.min_eq_left q]
        · rw [Nat.min_eq_right q, List.take_length, List.take_of_length_le q]
      rw [e]
      refine ⟨p, ns.take 1, rfl, sqL_of upd_same, ?_⟩
      walk_at "rd"
      exact k _ _ (same_upd np)
end
end Sw
namespace Sw
open PySem PySem.Spec PyProof.Rows L2
local macro_rules | `(tactic| walk_at "hp") => `(tactic| first
  | (with_reducible assumption) | (with_reducible exact upd_same)
  | ((with_reducible refine' upd_old ?q1 ?q2); (case q1 => (with_reducible assumption)); (case q2 => walk_at "hp"))
  | ((with_reducible refine' Same.at ?q1 ?q2); (case q1 => (with_reducible assumption)); (case q2 => walk_at "hp"))
  | ((with_reducible refine' upd_skip ?q1 ?q2); (case q1 => walk_at "ne"); (case q2 => walk_at "hp"))
  | fail)
local macro_rules | `(tactic| walk_at "ne") => `(tactic| first
  | (with_reducible assumption) | (with_reducible exact Ne.symm (by assumption))
  | ((with_reducible refine' ne_of_none ?q1 ?q2); (case q2 => (with_reducible assumption)); (case q1 => walk_at "hp"))
  | fail)
local macro_rules | `(tactic| walk_at "ci") => `(tactic| first | assumption | (show (0 : Int) < _; first | decide | (with_reducible omega)) | exact ⟨by decide, by decide⟩ | exact .inl ⟨by decide, by decide⟩ | exact .inr ⟨by decide, by decide⟩)
local macro_rules | `(tactic| walk_at "ln") => `(tactic| first | (with_reducible assumption) | (with_reducible omega) | (simp only [List.length_append, List.length_take, List.length_drop, List.length_reverse, List.length_cons, List.length_nil]; with_reducible omega))
local macro_rules | `(tactic| walk_at "rd1") => `(tactic| first
  | (with_reducible refine i_seq ?_) | (with_reducible refine i_asg ?_) | (with_reducible refine i_ret ?_) | (with_reducible refine i_name ?_) | ((with_reducible refine' i_var ?q1 ?_); (case q1 => exact rfl)) | (with_reducible refine i_c ?_) | (with_reducible refine i_op ?_) | (with_reducible refine i_un ?_)
  | (with_reducible refine i_rI0 ?_) | (with_reducible refine i_cb ?_) | (with_reducible refine i_cons ?_) | (with_reducible refine i_nil ?_) | (with_reducible refine i_call ?_) | (with_reducible refine i_if ?_) | (with_reducible refine i_ifE ?_) | (with_reducible refine i_test ?_) | (with_reducible refine i_bl ?_)
  | (with_reducible refine i_and ?_) | (with_reducible refine i_or ?_) | (with_reducible refine i_not ?_) | (with_reducible refine i_lst ?_) | (with_reducible refine i_tup ?_) | (with_reducible refine i_next ?_) | (with_reducible refine i_drop ?_) | (with_reducible refine i_sub ?_)
  | (with_reducible refine i_bm ?_) | (with_reducible refine i_sl ?_) | (with_reducible refine i_part ?_) | (with_reducible refine i_nopart ?_) | (with_reducible refine i_exI ?_) | (with_reducible refine i_chain ?_) | ((with_reducible refine' i_aug ?q1 ?_); (case q1 => exact rfl)) | (with_reducible refine i_ip ?_)
  | (with_reducible refine i_par ?_) | (with_reducible refine i_pair ?_) | (with_reducible refine i_andV ?_) | (with_reducible refine i_orV ?_) | (with_reducible refine i_notV ?_) | (with_reducible refine i_m1 ?_) | (with_reducible refine i_str ?_)
  | (with_reducible refine iteF ?_) | (with_reducible refine iteT ?_) | (with_reducible refine iteNT ?_) | (with_reducible refine iteNF ?_) | (with_reducible refine i_tyS ?_) | (with_reducible refine i_tB ?_) | (with_reducible refine i_retN ?_) | (with_reducible refine i_par3 ?_) | (with_reducible refine i_trip ?_) | (with_reducible refine i_gCons ?_) | (with_reducible refine i_gNil ?_) | (with_reducible refine i_lstRg ?_) | (with_reducible refine i_rg1 ?_)
  | (with_reducible refine i_lc ?_) | (with_reducible refine i_for ?_) | (with_reducible refine i_iList ?_) | (with_reducible refine i_iTup ?_) | (with_reducible refine i_iStr ?_) | (with_reducible refine i_iRng1 ?_) | (with_reducible refine i_iEnS ?_)
  | ((with_reducible refine' i_ixTH ?q1 ?q2 ?_); (case q1 => walk_at "hp"); (case q2 => exact rfl))
  | ((with_reducible refine' i_ixLH ?q1 ?q2 ?_); (case q1 => walk_at "hp"); (case q2 => exact rfl))
  | ((with_reducible refine i_addS ?q1 ?_); (case q1 => walk_at "ln")) | ((with_reducible refine i_lenSS ?q1 ?_); (case q1 => walk_at "ln")) | ((with_reducible refine i_slFrom ?q1 ?q2 ?_); (case q1 => walk_at "ln"); (case q2 => walk_at "ln")) | ((with_reducible refine i_slTo ?q1 ?q2 ?_); (case q1 => walk_at "ln"); (case q2 => walk_at "ln"))
  | ((with_reducible refine' i_tyL ?q1 ?_); (case q1 => walk_at "hp"))
  | ((with_reducible refine' i_gTupH ?q1 ?q2 ?_); (case q1 => walk_at "hp"); (case q2 => exact rfl))
  | (with_reducible refine i_dnew ?_) | (with_reducible refine i_init ?_) | (with_reducible refine i_fst ?_) | (with_reducible refine i_mk ?_) | (with_reducible refine i_raise ?_) | (with_reducible refine i_callS ?_) | (with_reducible refine i_kwS ?_)
  | (with_reducible refine i_revT ?_) | (with_reducible refine i_kw ?_) | ((with_reducible refine' ⟨_, _, rfl, sqT_of ?q1, ?_⟩); (case q1 => walk_at "hp"))
  | (with_reducible refine i_revS ?_) | ((with_reducible refine i_revSS ?q1 ?_); (case q1 => walk_at "ln"))
  | (with_reducible refine i_startS ?_) | (with_reducible refine i_inSg ?_) | (with_reducible refine i_absN ?_) | (with_reducible refine i_min2 ?_) | (with_reducible refine i_max2 ?_) | (with_reducible refine i_min3 ?_) | (with_reducible refine i_intN ?_) | (with_reducible refine i_intNB ?_)
  | ((with_reducible refine' i_lenL ?q1 ?_); (case q1 => walk_at "hp")) | ((with_reducible refine' i_lenT ?q1 ?_); (case q1 => walk_at "hp"))
  | (with_reducible refine i_eqI ?_) | (with_reducible refine i_neI ?_) | (with_reducible refine i_eqS ?_) | (with_reducible refine i_neS ?_) | (with_reducible refine i_isNoI ?_) | (with_reducible refine i_isNoN ?_) | (with_reducible refine i_isNoR ?_)
  | ((with_reducible refine i_pow ?q1 ?q2 ?q3 ?_); (case q1 => decide); (case q2 => decide); (case q3 => (with_reducible omega)))
  | ((with_reducible refine i_rI ?q1 ?_); (case q1 => walk_at "ci"))
  | (with_reducible refine Or.inl ⟨_, rfl, ?_⟩) | (with_reducible refine Or.inr ⟨_, rfl, ?_⟩) | (with_reducible refine ⟨_, rfl, ?_⟩) | (with_reducible refine ⟨_, _, rfl, ?_⟩) | (with_reducible refine ⟨_, _, rfl, rfl, ?_⟩)
  | ((with_reducible refine' ⟨_, _, rfl, Or.inl (sqL_of ?q1), ?_⟩); (case q1 => walk_at "hp")) | ((with_reducible refine' ⟨_, _, rfl, Or.inr (sqT_of ?q1), ?_⟩); (case q1 => walk_at "hp")) | (with_reducible refine i_dget ?_) | (with_reducible refine i_disp1T ?_) | (with_reducible refine i_dcT ?_) | (with_reducible refine i_dnewT ?_) | fail)
local macro_rules | `(tactic| walk_at "rd") => `(tactic| repeat' walk_at "rd1")

/-- is_integer(value) -/
def spInt (K : PySem.W.Frag) : Sp := fun vs H Q _ => ∃ x d, vs = [x] ∧ De K H x d ∧ Q (.bl (isI d)) H
/-- is_index(value, many) -/
def spIdx (K : PySem.W.Frag) : Sp := fun vs H Q _ => ∃ x d m, vs = [x, .int m] ∧ De K H x d ∧ Q (.bl (isX m d)) H
/-- is_signs(value) -/
def spSg (K : PySem.W.Frag) : Sp := fun vs H Q _ => ∃ x d, vs = [x] ∧ De K H x d ∧ Q (.bl (isG d)) H
/-- is_kind(value, signs) -/
def spKind (K : PySem.W.Frag) : Sp := fun vs H Q _ => ∃ x y d e n w, vs = [x, y] ∧ De K H x d ∧ Sd n w d ∧ n ≤ 50 ∧ StOk d ∧ De K H y e ∧ ∀ H', Same H H' → Q (.bl (onG e fun m => kindB m d)) H'
theorem kindB_no {m : Int} {ds : List PyData} (h : ds.length = 2 ∨ ds.length = 3) (e : (ds.drop 1).all (isX m) = false) : kindB m (.tuple ds) = false := by
  rcases ds with _ | ⟨x1, _ | ⟨x2, _ | ⟨x3, _ | ⟨x4, ys⟩⟩⟩⟩
  · rfl
  · rfl
  · simp only [List.drop_succ_cons, List.drop_zero, List.all_cons, List.all_nil, Bool.and_true] at e
    simp only [kindB, e, Bool.false_and]
  · simp only [List.drop_succ_cons, List.drop_zero, List.all_cons, List.all_nil, Bool.and_true] at e
    simp only [kindB, e, Bool.false_and]
  · rfl
theorem eqv_int (i j : Int) : PyData.eqv (.int i) (.int j) = decide (i = j) := by
  simp only [PyData.eqv]
  by_cases h : i = j
  · rw [h, decide_eq_true rfl]; exact beq_self_eq_true _
  · rw [decide_eq_false h]; exact beq_eq_false_iff_ne.mpr h
theorem tyB_int (d : PyData) : (tyB "int" d && !tyB "bool" d) = isI d := by cases d <;> rfl
theorem De.intB {K : PySem.W.Frag} {H : Hp} {x : V} {d : PyData} (h : De K H x d) (h2 : isI d = true) : ∃ i, d = .int i ∧ x = .int i := by
  cases h with
  | int i => exact ⟨i, rfl, rfl⟩
  | _ => cases h2
section
variable {P : Program} {w : World} {K : PySem.W.Frag} {mg : Str → Option Value} {base : Heap} {f : Addr} {fd : FuncData}
theorem ok_integer (F : Fun K "is_integer" "is_integer" s_is_integer f fd) (z : Z mg) : FnOk P w K mg base CX0 1 f fd ["value"] (spInt K) := by
  refine F.ok sc_is_integer (fun vs H Q E h => ?_) (fun cdv A outer s H vs Q E hr h => ?_)
  · obtain ⟨x, d, rfl, _⟩ := h; rfl
  · obtain ⟨x, d, rfl, hx, k⟩ := h
    refine ⟨_, (pss_one (ps_ret (pe_and (pe_callB call_isi (by rfl) z.isinstance (by decide +kernel) (pa_cons (pv 0) (pa_cons (pe_bltn (v := .ty "int") (by rfl) z.int (by decide +kernel) rfl) pa_nil))) (pe_one (pe_not (pe_callB call_isi (by rfl) z.isinstance (by decide +kernel) (pa_cons (pv 0) (pa_cons (pe_bltn (v := .ty "bool") (by rfl) z.bool (by decide +kernel) rfl) pa_nil)))))))), ?_⟩
    walk_at "rd"
    refine hx.isi (by simp) ?_
    walk_at "rd"
    rcases e : tyB "int" d with _ | _
    · rw [← tyB_int, e] at k
      walk_at "rd"
      exact k
    · rw [← tyB_int, e] at k
      walk_at "rd"
      refine hx.isi (by simp) ?_
      walk_at "rd"
      exact k
theorem ok_index (F : Fun K "is_index" "is_index" s_is_index f fd) (c_is_integer : Cal P w K mg base "is_integer" ["value"] 1 (spInt K)) : FnOk P w K mg base CX0 2 f fd ["value", "many"] (spIdx K) := by
  refine F.ok sc_is_index (fun vs H Q E h => ?_) (fun cdv A outer s H vs Q E hr h => ?_)
  · obtain ⟨x, d, m, rfl, _⟩ := h; rfl
  · obtain ⟨x, d, m, rfl, hx, k⟩ := h
    refine ⟨_, (pss_one (ps_ret (pe_and (pe_cal c_is_integer hr (pa_cons (pv 0) pa_nil)) (pe_one (pe_chain op_le op_lt pe_int (pv 0) (pv 1)))))), ?_⟩
    walk_at "rd"
    refine ⟨x, d, rfl, hx, ?_⟩
    walk_at "rd"
    rcases e : isI d with _ | _
    · have : isX m d = false := by cases d <;> first | rfl | cases e
      rw [this] at k
      walk_at "rd"
      exact k
    · obtain ⟨i, rfl, rfl⟩ := hx.intB e
      walk_at "rd"
      simp only [isX] at k
      refine iteB (fun q => ?_) (fun q => ?_)
      · rw [decide_eq_true q] at k
        walk_at "rd"
        exact k
      · rw [decide_eq_false q] at k
        exact k
theorem ok_signs (F : Fun K "is_signs" "is_signs" s_is_signs f fd) (c_is_integer : Cal P w K mg base "is_integer" ["value"] 1 (spInt K)) {t5 : Tok} (g_MOST_SIGNS : mg "MOST_SIGNS" = some (.int 5 t5)) : FnOk P w K mg base CX0 2 f fd ["value"] (spSg K) := by
  refine F.ok sc_is_signs (fun vs H Q E h => ?_) (fun cdv A outer s H vs Q E hr h => ?_)
  · obtain ⟨x, d, rfl, _⟩ := h; rfl
  · obtain ⟨x, d, rfl, hx, k⟩ := h
    refine ⟨_, (pss_one (ps_ret (pe_and (pe_cal c_is_integer hr (pa_cons (pv 0) pa_nil)) (pe_one (pe_chain op_le op_le pe_int (pv 0) (pe_glob (v := .int 5) rfl g_MOST_SIGNS ⟨_, rfl⟩)))))), ?_⟩
    walk_at "rd"
    refine ⟨x, d, rfl, hx, ?_⟩
    walk_at "rd"
    rcases e : isI d with _ | _
    · have : isG d = false := by cases d <;> first | rfl | cases e
      rw [this] at k
      walk_at "rd"
      exact k
    · obtain ⟨i, rfl, rfl⟩ := hx.intB e
      walk_at "rd"
      simp only [isG] at k
      refine iteB (fun q => ?_) (fun q => ?_)
      · rw [decide_eq_true q] at k
        walk_at "rd"
        exact k
      · rw [decide_eq_false q] at k
        exact k
theorem ok_sign (F : Fun K "is_sign" "is_sign" s_is_sign f fd) (c_is_index : Cal P w K mg base "is_index" ["value", "many"] 2 (spIdx K)) : FnOk P w K mg base CX0 3 f fd ["value", "signs"] (spIdx K) := by
  refine F.ok sc_is_sign (fun vs H Q E h => ?_) (fun cdv A outer s H vs Q E hr h => ?_)
  · obtain ⟨x, d, m, rfl, _⟩ := h; rfl
  · obtain ⟨x, d, m, rfl, hx, k⟩ := h
    refine ⟨_, (pss_one (ps_ret (pe_cal c_is_index hr (pa_cons (pv 0) (pa_cons (pv 1) pa_nil))))), ?_⟩
    walk_at "rd"
    exact ⟨x, d, m, rfl, hx, k⟩
theorem ok_kind (F : Fun K "is_kind" "is_kind" s_is_kind f fd) (z : Z mg) (c_is_signs : Cal P w K mg base "is_signs" ["value"] 2 (spSg K)) (c_is_sign : Cal P w K mg base "is_sign" ["value", "signs"] 3 (spIdx K)) : FnOk P w K mg base CX0 4 f fd ["value", "signs"] (spKind K) := by
  refine F.ok sc_is_kind (fun vs H Q E h => ?_) (fun cdv A outer s H vs Q E hr h => ?_)
  · obtain ⟨x, y, d, e, _, _, rfl, _⟩ := h; rfl
  · obtain ⟨x, y, d, e, n, w, rfl, hx, sx, hn, ok, hy, k⟩ := h
    refine ⟨_, (pss_cons (ps_if (PW.pt (pw_or (pt_not (pt_val (pe_cal c_is_signs hr (pa_cons (pv 1) pa_nil)))) (pw_or (pt_not (pt_val (pe_callB call_isi (by rfl) z.isinstance (by decide +kernel) (pa_cons (pv 0) (pa_cons (pe_bltn (v := .ty "tuple") (by rfl) z.tuple (by decide +kernel) rfl) pa_nil))))) (pw_or1 (pt_cmpR op_notIn_seq (pe_callB call_lenQ (by rfl) z.len PySem.boot_len (pa_cons (pv 0) pa_nil)) (pe_tup (pa_cons pe_int (pa_cons pe_int pa_nil))) (by rfl))))))
        (pss_one (ps_ret pe_bl))
        pss_nil)
      (pss_cons (ps_if (pt_not (pt_val (pe_callB (cr_all rfl) (by rfl) z.all (by decide +kernel) (pa_cons (pe_lc (own := [("part", 2)]) (g := gName 2) (tt := tYes) rfl sc_is_kind.nd (pi_tup (pe_slice sl_tupA (pv 0) (po_some pe_int) po_none)) (blkOk_by (own := [("part", 2)]) (N := n_is_kind) (sc := defScope s_is_kind) (by decide +kernel)) (fun _ _ _ _ _ => (pg_name (i := 2) sc_is_kind.nd rfl (.inl rfl))) (fun _ _ _ _ _ => pts_nil) (fun _ _ _ _ _ => (pe_cal c_is_sign hr (pa_cons (pv 2) (pa_cons (pv 1) pa_nil))))) pa_nil))))
        (pss_one (ps_ret pe_bl))
        pss_nil)
      (pss_cons (ps_if (pt_cmpR op_eq (pe_callB call_lenQ (by rfl) z.len PySem.boot_len (pa_cons (pv 0) pa_nil)) pe_int (nomark _))
        (pss_one (ps_ret (pe_cmpR (op_inT hr.units) (pe_ix ix_tup (pv 0) pe_int (fun _ _ => rfl)) (pe_tup (pa_cons (pe_strS (l := [108, 111, 115, 116]) (by decide +kernel)) (pa_cons (pe_strS (l := [112, 117, 116]) (by decide +kernel)) pa_nil))) (by rfl))))
        pss_nil)
      (pss_one (ps_ret (pe_and (pe_cmpR (op_eqX hr.units) (pe_ix ix_tup (pv 0) pe_int (fun _ _ => rfl)) (pe_strS (l := [116, 117, 114, 110, 101, 100]) (by decide +kernel)) (nomark _)) (pe_one (pe_cmpR op_ne (pe_ix ix_tup (pv 0) pe_int (fun _ _ => rfl)) (pe_ix ix_tup (pv 0) pe_int (fun _ _ => rfl)) (nomark _))))))))), ?_⟩
    walk_at "rd"
    refine ⟨y, e, rfl, hy, ?_⟩
    walk_at "rd"
    rw [isG_sgn]
    rcases es : sgn e with _ | m
    · have k' : ∀ H', Same H H' → Q (.bl false) H' := fun H' s' => by
        have := k H' s'
        unfold onG at this
        rw [es] at this
        exact this
      walk_at "rd"
      exact k' _ (Same.refl _)
    obtain ⟨rfl, m1, m5⟩ := sgn_some es
    have k' : ∀ H', Same H H' → Q (.bl (kindB m d)) H' := fun H' s' => by
      have := k H' s'
      unfold onG at this
      rw [es] at this
      exact this
    cases hy.intI
    walk_at "rd"
    rw [show (some m).isSome = true from rfl]
    walk_at "rd"
    refine hx.isi (n := "tuple") (.inr (.inr (.inr (.inr rfl)))) ?_
    by_cases ht : ∃ ds, d = .tuple ds
    · obtain ⟨ds, rfl⟩ := ht
      obtain ⟨a, xs, rfl, ha, hxs⟩ := hx.tupI
      rw [show tyB "tuple" (.tuple ds) = true from rfl]
      have lx := hxs.len
      walk_at "rd"
      refine ⟨a, xs, rfl, .inr ha, ?_⟩
      walk_at "rd"
      refine ⟨Nat.le_of_ble_eq_true rfl, fun p np => ?_⟩
      have t1 := same_upd (o := .tup [.int 2, .int 3]) np
      have e1 := upd_same (H := H) (a := p) (o := .tup [.int 2, .int 3])
      generalize upd H p (.tup [.int 2, .int 3]) = H1 at *
      refine ⟨p, _, rfl, .inr (sqT_of e1), rfl, rfl, ?_⟩
      walk_at "rd"
      rw [if_pos rfl, inV_two]
      by_cases len : ds.length = 2 ∨ ds.length = 3
      case neg =>
        have e2 : kindB m (.tuple ds) = false := by
          rcases ds with _ | ⟨x1, _ | ⟨x2, _ | ⟨x3, _ | ⟨x4, ys⟩⟩⟩⟩
          · rfl
          · rfl
          · exact (len (.inl rfl)).elim
          · exact (len (.inr rfl)).elim
          · rfl
        rw [e2] at k'
        rw [decide_eq_false (by omega), decide_eq_false (by omega)]
        walk_at "rd"
        exact k' _ t1
      case pos =>
        have ba : (decide ((xs.length : Int) = 2) || decide ((xs.length : Int) = 3)) = true := by
          rcases len with len | len
          · rw [decide_eq_true (by omega)]; rfl
          · rw [decide_eq_true (show (xs.length : Int) = 3 by omega), Bool.or_true]
        rw [ba]
        walk_at "rd"
        refine i_slTF (k := 1) (Same.sqT t1 ha) fun p2 H2 s2 e2 => ?_
        have t2 := t1.trans s2
        have hx2 := (hxs.drop 1).same t2
        walk_at "rd"
        refine ⟨⟨_, e2⟩, ?_⟩
        refine go_map (walk_tup (xs := xs.drop 1)) (fun i => V.bl (isX m ((ds.drop 1).getD i .none))) (by rw [List.length_drop]; omega) (fun H s => Same.sqT s e2) (fun j v H6 H7 hj s6 y R2 hR2 => ?_) mono_name (fun pj H6 npj s6 ej => ?_)
        · obtain ⟨rfl, hv⟩ := y
          have dv := (hx2.getD hv).same s6
          walk_at "rd"
          refine ⟨rfl, ?_⟩
          walk_at "rd"
          exact ⟨v, _, m, rfl, dv, hR2 _ (Same.refl _)⟩
        · rw [show (xs.drop 1).length = (ds.drop 1).length by rw [List.length_drop, List.length_drop, lx], map_getD (ds.drop 1) (fun d => V.bl (isX m d)), show (ds.drop 1).map (fun d => V.bl (isX m d)) = ((ds.drop 1).map (isX m)).map V.bl by rw [List.map_map]; rfl] at ej
          walk_at "rd"
          refine i_all ej ?_
          have t6 := t2.trans s6
          have ha6 := Same.sqT t6 ha
          have hx6 := hxs.same t6
          rw [List.all_map, show (id ∘ isX m) = isX m from rfl]
          refine ⟨_, rfl, iteNC (fun e => ?_) (fun e => ?_)⟩
          · rw [kindB_no len e] at k'
            walk_at "rd"
            exact k' _ t6
          walk_at "rd"
          refine i_lenSqT ha6 ?_
          walk_at "rd"
          refine iteB (fun l2 => ?_) (fun l2 => ?_)
          · have l2' : ds.length = 2 := by omega
            obtain ⟨d0, d1, rfl⟩ : ∃ d0 d1, ds = [d0, d1] := by
              rcases ds with _ | ⟨x1, _ | ⟨x2, _ | ⟨x3, ys⟩⟩⟩
              · cases l2'
              · cases l2'
              · exact ⟨_, _, rfl⟩
              · simp at l2'
            simp only [List.drop_succ_cons, List.drop_zero, List.all_cons, List.all_nil, Bool.and_true] at e
            simp only [kindB, e, Bool.true_and] at k'
            cases hx6 with
            | cons h0 h1 =>
              rename_i v0 vs
              walk_at "rd"
              refine i_ixTn (k := 0) ha6 rfl ?_
              walk_at "rd"
              refine ⟨Nat.le_of_ble_eq_true rfl, fun p7 n7 => ?_⟩
              have t7 := same_upd (o := .tup [.str (S tLost), .str (S tPut)]) n7
              have st0 := sx.tupI'.get List.mem_cons_self
              refine i_inT [tLost, tPut] (h0.same t7) st0 (ok.two _ _ rfl (by cases d1 <;> first | rfl | cases e)) (by decide) upd_same ?_
              rw [show ([tLost, tPut].any fun l => isS l d0) = (isS tLost d0 || isS tPut d0) by simp only [List.any_cons, List.any_nil, Bool.or_false]]
              exact k' _ (t6.trans t7)
          · have l3' : ds.length = 3 := by omega
            obtain ⟨d0, d1, d2, rfl⟩ : ∃ d0 d1 d2, ds = [d0, d1, d2] := by
              rcases ds with _ | ⟨x1, _ | ⟨x2, _ | ⟨x3, _ | ⟨x4, ys⟩⟩⟩⟩
              · cases l3'
              · cases l3'
              · cases l3'
              · exact ⟨_, _, _, rfl⟩
              · simp at l3'
            simp only [List.drop_succ_cons, List.drop_zero, List.all_cons, List.all_nil, Bool.and_true] at e
            simp only [kindB, e, Bool.true_and] at k'
            cases hx6 with
            | cons h0 h1 =>
              cases h1 with
              | cons h1 h2 =>
                cases h2 with
                | cons h2 h3 =>
                  cases h3
                  rw [Bool.and_eq_true] at e
                  obtain ⟨i1, rfl, rfl⟩ := h1.intB (by cases d1 <;> first | rfl | cases e.1)
                  obtain ⟨i2, rfl, rfl⟩ := h2.intB (by cases d2 <;> first | rfl | cases e.2)
                  walk_at "rd"
                  refine i_ixTn (k := 0) ha6 rfl ?_
                  walk_at "rd"
                  have st0 := sx.tupI'.get List.mem_cons_self
                  refine i_eqS1 h0 st0 (ok.parts _ rfl _ List.mem_cons_self) (by decide) ?_
                  refine ⟨_, rfl, iteC (fun e0 => ?_) (fun e0 => ?_)⟩
                  · rw [e0, eqv_int] at k'
                    walk_at "rd"
                    refine i_ixTn (k := 1) ha6 rfl ?_
                    walk_at "rd"
                    refine i_ixTn (k := 2) ha6 rfl ?_
                    walk_at "rd"
                    exact k' _ t6
                  · rw [e0] at k'
                    exact k' _ t6
    · have e : tyB "tuple" d = false := by cases d <;> first | rfl | exact (ht ⟨_, rfl⟩).elim
      have e2 : kindB m d = false := by cases d <;> first | rfl | exact (ht ⟨_, rfl⟩).elim
      rw [e]
      rw [e2] at k'
      walk_at "rd"
      exact k' _ (Same.refl _)
end
end Sw
namespace Sw
open PySem PySem.Spec PyProof.Rows L2
local macro_rules | `(tactic| walk_at "hp") => `(tactic| first
  | (with_reducible assumption) | (with_reducible exact upd_same)
  | ((with_reducible refine' upd_old ?q1 ?q2); (case q1 => (with_reducible assumption)); (case q2 => walk_at "hp"))
  | ((with_reducible refine' Same.at ?q1 ?q2); (case q1 => (with_reducible assumption)); (case q2 => walk_at "hp"))
  | ((with_reducible refine' upd_skip ?q1 ?q2); (case q1 => walk_at "ne"); (case q2 => walk_at "hp"))
  | fail)
local macro_rules | `(tactic| walk_at "ne") => `(tactic| first
  | (with_reducible assumption) | (with_reducible exact Ne.symm (by assumption))
  | ((with_reducible refine' ne_of_none ?q1 ?q2); (case q2 => (with_reducible assumption)); (case q1 => walk_at "hp"))
  | fail)
local macro_rules | `(tactic| walk_at "ci") => `(tactic| first | assumption | (show (0 : Int) < _; first | decide | (with_reducible omega)) | exact ⟨by decide, by decide⟩ | exact .inl ⟨by decide, by decide⟩ | exact .inr ⟨by decide, by decide⟩)
local macro_rules | `(tactic| walk_at "ln") => `(tactic| first | (with_reducible assumption) | (with_reducible omega) | (simp only [List.length_append, List.length_take, List.length_drop, List.length_reverse, List.length_cons, List.length_nil]; with_reducible omega))
local macro_rules | `(tactic| walk_at "rd1") => `(tactic| first
  | (with_reducible refine i_seq ?_) | (with_reducible refine i_asg ?_) | (with_reducible refine i_ret ?_) | (with_reducible refine i_name ?_) | ((with_reducible refine' i_var ?q1 ?_); (case q1 => exact rfl)) | (with_reducible refine i_c ?_) | (with_reducible refine i_op ?_) | (with_reducible refine i_un ?_)
  | (with_reducible refine i_rI0 ?_) | (with_reducible refine i_cb ?_) | (with_reducible refine i_cons ?_) | (with_reducible refine i_nil ?_) | (with_reducible refine i_call ?_) | (with_reducible refine i_if ?_) | (with_reducible refine i_ifE ?_) | (with_reducible refine i_test ?_) | (with_reducible refine i_bl ?_)
  | (with_reducible refine i_and ?_) | (with_reducible refine i_or ?_) | (with_reducible refine i_not ?_) | (with_reducible refine i_lst ?_) | (with_reducible refine i_tup ?_) | (with_reducible refine i_next ?_) | (with_reducible refine i_drop ?_) | (with_reducible refine i_sub ?_)
  | (with_reducible refine i_bm ?_) | (with_reducible refine i_sl ?_) | (with_reducible refine i_part ?_) | (with_reducible refine i_nopart ?_) | (with_reducible refine i_exI ?_) | (with_reducible refine i_chain ?_) | ((with_reducible refine' i_aug ?q1 ?_); (case q1 => exact rfl)) | (with_reducible refine i_ip ?_)
  | (with_reducible refine i_par ?_) | (with_reducible refine i_pair ?_) | (with_reducible refine i_andV ?_) | (with_reducible refine i_orV ?_) | (with_reducible refine i_notV ?_) | (with_reducible refine i_m1 ?_) | (with_reducible refine i_str ?_)
  | (with_reducible refine iteF ?_) | (with_reducible refine iteT ?_) | (with_reducible refine iteNT ?_) | (with_reducible refine iteNF ?_) | (with_reducible refine i_tyS ?_) | (with_reducible refine i_tB ?_) | (with_reducible refine i_retN ?_) | (with_reducible refine i_par3 ?_) | (with_reducible refine i_trip ?_) | (with_reducible refine i_gCons ?_) | (with_reducible refine i_gNil ?_) | (with_reducible refine i_lstRg ?_) | (with_reducible refine i_rg1 ?_)
  | (with_reducible refine i_lc ?_) | (with_reducible refine i_for ?_) | (with_reducible refine i_iList ?_) | (with_reducible refine i_iTup ?_) | (with_reducible refine i_iStr ?_) | (with_reducible refine i_iRng1 ?_) | (with_reducible refine i_iEnS ?_)
  | ((with_reducible refine' i_ixTH ?q1 ?q2 ?_); (case q1 => walk_at "hp"); (case q2 => exact rfl))
  | ((with_reducible refine' i_ixLH ?q1 ?q2 ?_); (case q1 => walk_at "hp"); (case q2 => exact rfl))
  | ((with_reducible refine i_addS ?q1 ?_); (case q1 => walk_at "ln")) | ((with_reducible refine i_lenSS ?q1 ?_); (case q1 => walk_at "ln")) | ((with_reducible refine i_slFrom ?q1 ?q2 ?_); (case q1 => walk_at "ln"); (case q2 => walk_at "ln")) | ((with_reducible refine i_slTo ?q1 ?q2 ?_); (case q1 => walk_at "ln"); (case q2 => walk_at "ln"))
  | ((with_reducible refine' i_tyL ?q1 ?_); (case q1 => walk_at "hp"))
  | ((with_reducible refine' i_gTupH ?q1 ?q2 ?_); (case q1 => walk_at "hp"); (case q2 => exact rfl))
  | (with_reducible refine i_dnew ?_) | (with_reducible refine i_init ?_) | (with_reducible refine i_fst ?_) | (with_reducible refine i_mk ?_) | (with_reducible refine i_raise ?_) | (with_reducible refine i_callS ?_) | (with_reducible refine i_kwS ?_)
  | (with_reducible refine i_revT ?_) | (with_reducible refine i_kw ?_) | ((with_reducible refine' ⟨_, _, rfl, sqT_of ?q1, ?_⟩); (case q1 => walk_at "hp"))
  | (with_reducible refine i_revS ?_) | ((with_reducible refine i_revSS ?q1 ?_); (case q1 => walk_at "ln"))
  | (with_reducible refine i_startS ?_) | (with_reducible refine i_inSg ?_) | (with_reducible refine i_absN ?_) | (with_reducible refine i_min2 ?_) | (with_reducible refine i_max2 ?_) | (with_reducible refine i_min3 ?_) | (with_reducible refine i_intN ?_) | (with_reducible refine i_intNB ?_)
  | ((with_reducible refine' i_lenL ?q1 ?_); (case q1 => walk_at "hp")) | ((with_reducible refine' i_lenT ?q1 ?_); (case q1 => walk_at "hp"))
  | (with_reducible refine i_eqI ?_) | (with_reducible refine i_neI ?_) | (with_reducible refine i_eqS ?_) | (with_reducible refine i_neS ?_) | (with_reducible refine i_isNoI ?_) | (with_reducible refine i_isNoN ?_) | (with_reducible refine i_isNoR ?_)
  | ((with_reducible refine i_pow ?q1 ?q2 ?q3 ?_); (case q1 => decide); (case q2 => decide); (case q3 => (with_reducible omega)))
  | ((with_reducible refine i_rI ?q1 ?_); (case q1 => walk_at "ci"))
  | (with_reducible refine Or.inl ⟨_, rfl, ?_⟩) | (with_reducible refine Or.inr ⟨_, rfl, ?_⟩) | (with_reducible refine ⟨_, rfl, ?_⟩) | (with_reducible refine ⟨_, _, rfl, ?_⟩) | (with_reducible refine ⟨_, _, rfl, rfl, ?_⟩)
  | ((with_reducible refine' ⟨_, _, rfl, Or.inl (sqL_of ?q1), ?_⟩); (case q1 => walk_at "hp")) | ((with_reducible refine' ⟨_, _, rfl, Or.inr (sqT_of ?q1), ?_⟩); (case q1 => walk_at "hp")) | (with_reducible refine i_dget ?_) | (with_reducible refine i_disp1T ?_) | (with_reducible refine i_dcT ?_) | (with_reducible refine i_dnewT ?_) | fail)
local macro_rules | `(tactic| walk_at "rd") => `(tactic| repeat' walk_at "rd1")

def lineB (m : Int) : PyData → Bool
  | .tuple ds => ds.all (isX m)
  | _ => false
def kindsB (m : Int) : PyData → Bool
  | .list ds => ds.all (kindB m)
  | .tuple ds => ds.all (kindB m)
  | _ => false
def seqB (d : PyData) : Bool := tyB "list" d || tyB "tuple" d
def LenOk (d : PyData) : Prop := ∀ ds, (d = .list ds ∨ d = .tuple ds) → ds.length ≤ 100000
/-- what is_kind may be asked of each item -/
def KsOk (d : PyData) : Prop := ∀ ds, (d = .list ds ∨ d = .tuple ds) → ds.length ≤ 100000 ∧ ∀ y ∈ ds, StOk y ∧ Sd 40 900000 y
/-- is_list(value) -/
def spSeq (K : PySem.W.Frag) : Sp := fun vs H Q _ => ∃ x d, vs = [x] ∧ De K H x d ∧ ∀ H', Same H H' → Q (.bl (seqB d)) H'
/-- is_line(value, signs) -/
def spLine (K : PySem.W.Frag) : Sp := fun vs H Q _ => ∃ x d m, vs = [x, .int m] ∧ De K H x d ∧ LenOk d ∧ ∀ H', Same H H' → Q (.bl (lineB m d)) H'
/-- check_line(line, signs) -/
def spCkL (K : PySem.W.Frag) (C : Addr) : Sp := fun vs H Q E => ∃ x d m, vs = [x, .int m] ∧ De K H x d ∧ LenOk d ∧ (lineB m d = true → ∀ H', Same H H' → Q .non H') ∧
  (lineB m d = false → ∀ dx H', H dx = none → Same H H' → H' dx = some (.xd [("given", x)]) → E (.ref C) (some dx) H')
/-- are_kinds(value, signs) -/
def spKds (K : PySem.W.Frag) : Sp := fun vs H Q _ => ∃ x d m, vs = [x, .int m] ∧ De K H x d ∧ 1 ≤ m ∧ m ≤ 5 ∧ KsOk d ∧ ∀ H', Same H H' → Q (.bl (kindsB m d)) H'
theorem onG_int {m : Int} {b : Int → Bool} (h1 : 1 ≤ m) (h2 : m ≤ 5) : onG (.int m) b = b m := by
  have e : sgn (.int m) = some m := if_pos ⟨h1, h2⟩
  unfold onG
  rw [e]
theorem deSeq {K : PySem.W.Frag} {H : Hp} {x : V} {d : PyData} (h : De K H x d) (e : seqB d = true) : ∃ a xs ds, x = .ref a ∧ (SqL K H a xs ∨ SqT K H a xs) ∧ DeAll K H xs ds ∧ (d = .list ds ∨ d = .tuple ds) := by
  cases h with
  | lst h1 _ h2 => exact ⟨_, _, _, rfl, .inl (sqL_of h1), h2, .inl rfl⟩
  | tup h1 h2 => exact ⟨_, _, _, rfl, .inr h1, h2, .inr rfl⟩
  | _ => cases e
section
variable {P : Program} {w : World} {K : PySem.W.Frag} {mg : Str → Option Value} {base : Heap} {f : Addr} {fd : FuncData}
theorem ok_list (F : Fun K "is_list" "is_list" s_is_list f fd) (z : Z mg) : FnOk P w K mg base CX0 1 f fd ["value"] (spSeq K) := by
  refine F.ok sc_is_list (fun vs H Q E h => ?_) (fun cdv A outer s H vs Q E hr h => ?_)
  · obtain ⟨x, d, rfl, _⟩ := h; rfl
  · obtain ⟨x, d, rfl, hx, k⟩ := h
    refine ⟨_, (pss_one (ps_ret (pe_callB call_isiT (by rfl) z.isinstance (by decide +kernel) (pa_cons (pv 0) (pa_cons (pe_tup (pa_cons (pe_bltn (v := .ty "list") (by rfl) z.list (by decide +kernel) rfl) (pa_cons (pe_bltn (v := .ty "tuple") (by rfl) z.tuple (by decide +kernel) rfl) pa_nil))) pa_nil))))), ?_⟩
    walk_at "rd"
    refine ⟨Nat.le_of_ble_eq_true rfl, fun p np => ?_⟩
    walk_at "rd"
    exact (hx.same (same_upd np)).isiLT upd_same (k _ (same_upd np))
theorem ok_line (F : Fun K "is_line" "is_line" s_is_line f fd) (z : Z mg) (c_is_index : Cal P w K mg base "is_index" ["value", "many"] 2 (spIdx K)) : FnOk P w K mg base CX0 3 f fd ["value", "signs"] (spLine K) := by
  refine F.ok sc_is_line (fun vs H Q E h => ?_) (fun cdv A outer s H vs Q E hr h => ?_)
  · obtain ⟨x, d, m, rfl, _⟩ := h; rfl
  · obtain ⟨x, d, m, rfl, hx, lok, k⟩ := h
    refine ⟨_, (pss_one (ps_ret (pe_and (pe_callB call_isi (by rfl) z.isinstance (by decide +kernel) (pa_cons (pv 0) (pa_cons (pe_bltn (v := .ty "tuple") (by rfl) z.tuple (by decide +kernel) rfl) pa_nil))) (pe_one (pe_callB (cr_all rfl) (by rfl) z.all (by decide +kernel) (pa_cons (pe_lc (own := [("sign", 2)]) (g := gName 2) (tt := tYes) rfl sc_is_line.nd (pi_tup (pv 0)) (blkOk_by (own := [("sign", 2)]) (N := n_is_line) (sc := defScope s_is_line) (by decide +kernel)) (fun _ _ _ _ _ => (pg_name (i := 2) sc_is_line.nd rfl (.inl rfl))) (fun _ _ _ _ _ => pts_nil) (fun _ _ _ _ _ => (pe_cal c_is_index hr (pa_cons (pv 2) (pa_cons (pv 1) pa_nil))))) pa_nil)))))), ?_⟩
    walk_at "rd"
    refine hx.isi (n := "tuple") (.inr (.inr (.inr (.inr rfl)))) ?_
    by_cases ht : ∃ ds, d = .tuple ds
    · obtain ⟨ds, rfl⟩ := ht
      obtain ⟨a, xs, rfl, ha, hxs⟩ := hx.tupI
      rw [show tyB "tuple" (.tuple ds) = true from rfl]
      walk_at "rd"
      refine ⟨⟨_, ha⟩, ?_⟩
      have lx := hxs.len
      refine go_map (walk_tup (xs := xs)) (fun i => V.bl (isX m (ds.getD i .none))) (by have := lok _ (.inr rfl); omega) (fun H s => Same.sqT s ha) (fun j v H6 H7 hj s6 y R2 hR2 => ?_) mono_name (fun pj H6 npj s6 ej => ?_)
      · obtain ⟨rfl, hv⟩ := y
        walk_at "rd"
        refine ⟨rfl, ?_⟩
        walk_at "rd"
        exact ⟨v, _, m, rfl, (hxs.getD hv).same s6, hR2 _ (Same.refl _)⟩
      · rw [lx, map_getD ds (fun d => V.bl (isX m d)), show ds.map (fun d => V.bl (isX m d)) = (ds.map (isX m)).map V.bl by rw [List.map_map]; rfl] at ej
        walk_at "rd"
        refine i_all ej ?_
        rw [List.all_map, show (id ∘ isX m) = isX m from rfl]
        exact k _ s6
    · have e : tyB "tuple" d = false := by cases d <;> first | rfl | exact (ht ⟨_, rfl⟩).elim
      have e2 : lineB m d = false := by cases d <;> first | rfl | exact (ht ⟨_, rfl⟩).elim
      rw [e]
      rw [e2] at k
      walk_at "rd"
      exact k _ (Same.refl _)
theorem ok_ckL {C : Addr} (F : Fun K "check_line" "check_line" s_check_line f fd) (xl : XQ "InvalidLine" P w K mg base C) (c_is_line : Cal P w K mg base "is_line" ["value", "signs"] 3 (spLine K)) : FnOk P w K mg base (L2.CX P w) 4 f fd ["line", "signs"] (spCkL K C) := by
  refine Sw.Fun.okX F sc_check_line (fun vs H Q E h => ?_) (fun cdv A outer s H vs Q E hr h tk => ?_)
  · obtain ⟨x, d, m, rfl, _⟩ := h; rfl
  · obtain ⟨x, d, m, rfl, hx, lok, k1, k2⟩ := h
    refine ⟨_, (pss_one (ps_if (pt_not (pt_val (pe_cal c_is_line hr (pa_cons (pv 0) (pa_cons (pv 1) pa_nil)))))
        (pss_one (ps_rs rfl tk (pmk_Q xl hr (pv 0))))
        pss_nil)), ?_⟩
    walk_at "rd"
    refine ⟨x, d, m, rfl, hx, lok, fun H1 s1 => ?_⟩
    walk_at "rd"
    refine iteNC (fun e => ?_) (fun e => ?_)
    · walk_at "rd"
      refine i_thrown xl.T xl.no (fun dx nx => ?_)
      exact k2 e dx _ (s1.free nx) (s1.trans (same_upd nx)) upd_same
    · walk_at "rd"
      exact k1 e _ s1
theorem ok_kds (F : Fun K "are_kinds" "are_kinds" s_are_kinds f fd) (z : Z mg) (c_is_list : Cal P w K mg base "is_list" ["value"] 1 (spSeq K)) (c_is_kind : Cal P w K mg base "is_kind" ["value", "signs"] 4 (spKind K)) : FnOk P w K mg base CX0 5 f fd ["value", "signs"] (spKds K) := by
  refine F.ok sc_are_kinds (fun vs H Q E h => ?_) (fun cdv A outer s H vs Q E hr h => ?_)
  · obtain ⟨x, d, m, rfl, _⟩ := h; rfl
  · obtain ⟨x, d, m, rfl, hx, m1, m5, ok, k⟩ := h
    refine ⟨_, (pss_one (ps_ret (pe_and (pe_cal c_is_list hr (pa_cons (pv 0) pa_nil)) (pe_one (pe_callB (cr_all rfl) (by rfl) z.all (by decide +kernel) (pa_cons (pe_lc (own := [("kind", 2)]) (g := gName 2) (tt := tYes) rfl sc_are_kinds.nd (pi_seqV (pv 0)) (blkOk_by (own := [("kind", 2)]) (N := n_are_kinds) (sc := defScope s_are_kinds) (by decide +kernel)) (fun _ _ _ _ _ => (pg_name (i := 2) sc_are_kinds.nd rfl (.inl rfl))) (fun _ _ _ _ _ => pts_nil) (fun _ _ _ _ _ => (pe_cal c_is_kind hr (pa_cons (pv 2) (pa_cons (pv 1) pa_nil))))) pa_nil)))))), ?_⟩
    walk_at "rd"
    refine ⟨x, d, rfl, hx, fun H1 s1 => ?_⟩
    have hx1 := hx.same s1
    walk_at "rd"
    rcases e : seqB d with _ | _
    · have e2 : kindsB m d = false := by cases d <;> first | rfl | cases e
      rw [e2] at k
      walk_at "rd"
      exact k _ s1
    · obtain ⟨a, xs, ds, rfl, ha, hxs, hd⟩ := deSeq hx1 e
      have e2 : kindsB m d = ds.all (kindB m) := by rcases hd with rfl | rfl <;> rfl
      rw [e2] at k
      walk_at "rd"
      refine i_seqV rfl ha fun J w => ?_
      have lx := hxs.len
      obtain ⟨lok, ok⟩ := ok _ hd
      refine go_map w (fun i => V.bl (kindB m (ds.getD i .none))) (by omega) (fun H s => s) (fun j v H6 H7 hj s6 y R2 hR2 => ?_) mono_name (fun pj H6 npj s6 ej => ?_)
      · obtain ⟨rfl, hv⟩ := y
        walk_at "rd"
        refine ⟨rfl, ?_⟩
        walk_at "rd"
        have mem : ds.getD j .none ∈ ds := by
          rw [List.getD_eq_getElem?_getD, List.getElem?_eq_getElem (by omega)]
          exact List.getElem_mem _
        refine ⟨v, _, _, .int m, 40, 900000, rfl, (hxs.getD hv).same s6, (ok _ mem).2, by omega, (ok _ mem).1, .int m, fun H8 s8 => ?_⟩
        rw [onG_int m1 m5]
        exact hR2 _ s8
      · rw [lx, map_getD ds (fun d => V.bl (kindB m d)), show ds.map (fun d => V.bl (kindB m d)) = (ds.map (kindB m)).map V.bl by rw [List.map_map]; rfl] at ej
        walk_at "rd"
        refine i_all ej ?_
        rw [List.all_map, show (id ∘ kindB m) = kindB m from rfl]
        exact k _ (s1.trans s6)
end
end Sw
namespace Sw
open PySem PySem.Spec PyProof.Rows L2
local macro_rules | `(tactic| walk_at "hp") => `(tactic| first
  | (with_reducible assumption) | (with_reducible exact upd_same)
  | ((with_reducible refine' upd_old ?q1 ?q2); (case q1 => (with_reducible assumption)); (case q2 => walk_at "hp"))
  | ((with_reducible refine' Same.at ?q1 ?q2); (case q1 => (with_reducible assumption)); (case q2 => walk_at "hp"))
  | ((with_reducible refine' upd_skip ?q1 ?q2); (case q1 => walk_at "ne"); (case q2 => walk_at "hp"))
  | fail)
local macro_rules | `(tactic| walk_at "ne") => `(tactic| first
  | (with_reducible assumption) | (with_reducible exact Ne.symm (by assumption))
  | ((with_reducible refine' ne_of_none ?q1 ?q2); (case q2 => (with_reducible assumption)); (case q1 => walk_at "hp"))
  | fail)
local macro_rules | `(tactic| walk_at "ci") => `(tactic| first | assumption | (show (0 : Int) < _; first | decide | (with_reducible omega)) | exact ⟨by decide, by decide⟩ | exact .inl ⟨by decide, by decide⟩ | exact .inr ⟨by decide, by decide⟩)
local macro_rules | `(tactic| walk_at "ln") => `(tactic| first | (with_reducible assumption) | (with_reducible omega) | (simp only [List.length_append, List.length_take, List.length_drop, List.length_reverse, List.length_cons, List.length_nil]; with_reducible omega))
local macro_rules | `(tactic| walk_at "rd1") => `(tactic| first
  | (with_reducible refine i_seq ?_) | (with_reducible refine i_asg ?_) | (with_reducible refine i_ret ?_) | (with_reducible refine i_name ?_) | ((with_reducible refine' i_var ?q1 ?_); (case q1 => exact rfl)) | (with_reducible refine i_c ?_) | (with_reducible refine i_op ?_) | (with_reducible refine i_un ?_)
  | (with_reducible refine i_rI0 ?_) | (with_reducible refine i_cb ?_) | (with_reducible refine i_cons ?_) | (with_reducible refine i_nil ?_) | (with_reducible refine i_call ?_) | (with_reducible refine i_if ?_) | (with_reducible refine i_ifE ?_) | (with_reducible refine i_test ?_) | (with_reducible refine i_bl ?_)
  | (with_reducible refine i_and ?_) | (with_reducible refine i_or ?_) | (with_reducible refine i_not ?_) | (with_reducible refine i_lstM ?_) | (with_reducible refine i_lstLM ?_) | (with_reducible refine i_tupM ?_) | (with_reducible refine i_next ?_) | (with_reducible refine i_drop ?_) | (with_reducible refine i_sub ?_)
  | (with_reducible refine i_bm ?_) | (with_reducible refine i_sl ?_) | (with_reducible refine i_part ?_) | (with_reducible refine i_nopart ?_) | (with_reducible refine i_exI ?_) | (with_reducible refine i_chain ?_) | ((with_reducible refine' i_aug ?q1 ?_); (case q1 => exact rfl)) | (with_reducible refine i_ip ?_)
  | (with_reducible refine i_par ?_) | (with_reducible refine i_pair ?_) | (with_reducible refine i_andV ?_) | (with_reducible refine i_orV ?_) | (with_reducible refine i_notV ?_) | (with_reducible refine i_m1 ?_) | (with_reducible refine i_str ?_)
  | (with_reducible refine iteF ?_) | (with_reducible refine iteT ?_) | (with_reducible refine iteNT ?_) | (with_reducible refine iteNF ?_) | (with_reducible refine i_tyS ?_) | (with_reducible refine i_tB ?_) | (with_reducible refine i_retN ?_) | (with_reducible refine i_par3 ?_) | (with_reducible refine i_trip ?_) | (with_reducible refine i_gCons ?_) | (with_reducible refine i_gNil ?_) | (with_reducible refine i_lstRg ?_) | (with_reducible refine i_rg1 ?_)
  | (with_reducible refine i_lc ?_) | (with_reducible refine i_for ?_) | (with_reducible refine i_iList ?_) | (with_reducible refine i_iTup ?_) | (with_reducible refine i_iStr ?_) | (with_reducible refine i_iRng1 ?_) | (with_reducible refine i_iEnS ?_)
  | ((with_reducible refine' i_ixTH ?q1 ?q2 ?_); (case q1 => walk_at "hp"); (case q2 => exact rfl))
  | ((with_reducible refine' i_ixLH ?q1 ?q2 ?_); (case q1 => walk_at "hp"); (case q2 => exact rfl))
  | ((with_reducible refine i_addS ?q1 ?_); (case q1 => walk_at "ln")) | ((with_reducible refine i_lenSS ?q1 ?_); (case q1 => walk_at "ln")) | ((with_reducible refine i_slFrom ?q1 ?q2 ?_); (case q1 => walk_at "ln"); (case q2 => walk_at "ln")) | ((with_reducible refine i_slTo ?q1 ?q2 ?_); (case q1 => walk_at "ln"); (case q2 => walk_at "ln"))
  | ((with_reducible refine' i_tyL ?q1 ?_); (case q1 => walk_at "hp"))
  | ((with_reducible refine' i_gTupH ?q1 ?q2 ?_); (case q1 => walk_at "hp"); (case q2 => exact rfl))
  | (with_reducible refine i_dnewM ?_) | (with_reducible refine i_init ?_) | (with_reducible refine i_fst ?_) | (with_reducible refine i_mk ?_) | (with_reducible refine i_raise ?_) | (with_reducible refine i_callS ?_) | (with_reducible refine i_kwS ?_)
  | (with_reducible refine i_revT ?_) | (with_reducible refine i_kw ?_) | ((with_reducible refine' ⟨_, _, rfl, sqT_of ?q1, ?_⟩); (case q1 => walk_at "hp"))
  | (with_reducible refine i_revS ?_) | ((with_reducible refine i_revSS ?q1 ?_); (case q1 => walk_at "ln"))
  | (with_reducible refine i_startS ?_) | (with_reducible refine i_inSg ?_) | (with_reducible refine i_absN ?_) | (with_reducible refine i_min2 ?_) | (with_reducible refine i_max2 ?_) | (with_reducible refine i_min3 ?_) | (with_reducible refine i_intN ?_) | (with_reducible refine i_intNB ?_)
  | ((with_reducible refine' i_lenL ?q1 ?_); (case q1 => walk_at "hp")) | ((with_reducible refine' i_lenT ?q1 ?_); (case q1 => walk_at "hp"))
  | (with_reducible refine i_eqI ?_) | (with_reducible refine i_neI ?_) | (with_reducible refine i_eqS ?_) | (with_reducible refine i_neS ?_) | (with_reducible refine i_isNoI ?_) | (with_reducible refine i_isNoN ?_) | (with_reducible refine i_isNoR ?_)
  | ((with_reducible refine i_pow ?q1 ?q2 ?q3 ?_); (case q1 => decide); (case q2 => decide); (case q3 => (with_reducible omega)))
  | ((with_reducible refine i_rI ?q1 ?_); (case q1 => walk_at "ci"))
  | (with_reducible refine Or.inl ⟨_, rfl, ?_⟩) | (with_reducible refine Or.inr ⟨_, rfl, ?_⟩) | (with_reducible refine ⟨_, rfl, ?_⟩) | (with_reducible refine ⟨_, _, rfl, ?_⟩) | (with_reducible refine ⟨_, _, rfl, rfl, ?_⟩)
  | ((with_reducible refine' ⟨_, _, rfl, Or.inl (sqL_of ?q1), ?_⟩); (case q1 => walk_at "hp")) | ((with_reducible refine' ⟨_, _, rfl, Or.inr (sqT_of ?q1), ?_⟩); (case q1 => walk_at "hp")) | (with_reducible refine i_dget ?_) | (with_reducible refine i_disp1T ?_) | (with_reducible refine i_dcT ?_) | (with_reducible refine i_dnewT ?_) | fail)
local macro_rules | `(tactic| walk_at "rd") => `(tactic| repeat' walk_at "rd1")

abbrev iV (n : Nat) : V := .int (n : Int)
/-- a way to end at v -/
def WayAt (H : Hp) (v : V) (w : Pg × Nat × Nat) : Prop := ∃ t a b, v = .ref t ∧ H t = some (.tup [.ref a, .ref b]) ∧ H a = some (.tup w.1.vals) ∧ H b = some (.tup [iV w.2.1, iV w.2.2])
theorem KeepP.tup {p a : Addr} {H H' : Hp} {xs : List V} (k : KeepP p H H') (e : H a = some (.tup xs)) : H' a = some (.tup xs) := k a _ (.inr fun _ q => by cases q) e
theorem WayAt.keep {p : Addr} {H H' : Hp} (k : KeepP p H H') {v : V} {w : Pg × Nat × Nat} (h : WayAt H v w) : WayAt H' v w := by
  obtain ⟨t, a, b, rfl, h1, h2, h3⟩ := h
  exact ⟨t, a, b, rfl, k.tup h1, k.tup h2, k.tup h3⟩
structure WsAt (H0 : Hp) (p : Addr) (ws : List (Pg × Nat × Nat)) (vs : List V) (H : Hp) : Prop where
  e : H p = some (.lst vs)
  pr : Paired (WayAt H) vs ws
  s : Same H0 H
  n : H0 p = none
theorem WsAt.push {H0 H H3 : Hp} {p t a b : Addr} {ws : List (Pg × Nat × Nat)} {vs : List V} {w : Pg × Nat × Nat} (h : WsAt H0 p ws vs H) (s : Same H H3) (et : H3 t = some (.tup [.ref a, .ref b])) (ea : H3 a = some (.tup w.1.vals)) (eb : H3 b = some (.tup [iV w.2.1, iV w.2.2])) :
    WsAt H0 p (ws ++ [w]) (vs ++ [.ref t]) (upd H3 p (.lst (vs ++ [.ref t]))) := by
  have k := keepP_upd (ys := vs ++ [.ref t]) (s _ _ h.e)
  refine ⟨upd_same, Paired.snoc (Paired.mapP h.pr fun _ _ z => WayAt.keep ((Same.keepP s).trans k) z) ⟨t, a, b, rfl, k.tup et, k.tup ea, k.tup eb⟩, Same.set_new (h.s.trans s) h.n, h.n⟩
/-- what a cell of the table tells -/
def CellAt (H : Hp) (v : V) (c : Cell) : Prop := match c with
  | none => v = .non
  | some (e, none) => ∃ p, v = .ref p ∧ H p = some (.tup [iV e, .non, .non])
  | some (e, some (s, i, j)) => ∃ p a b, v = .ref p ∧ H p = some (.tup [iV e, .ref a, .ref b]) ∧ H a = some (.tup s.vals) ∧ H b = some (.tup [iV i, iV j])
theorem CellAt.keep {p : Addr} {H H' : Hp} (k : KeepP p H H') {v : V} {c : Cell} (h : CellAt H v c) : CellAt H' v c := by
  rcases c with _ | ⟨e, _ | ⟨s, i, j⟩⟩
  · exact h
  · obtain ⟨q, rfl, h1⟩ := h
    exact ⟨q, rfl, k.tup h1⟩
  · obtain ⟨q, a, b, rfl, h1, h2, h3⟩ := h
    exact ⟨q, a, b, rfl, k.tup h1, k.tup h2, k.tup h3⟩
theorem CellAt.same {H H' : Hp} (s : Same H H') {v : V} {c : Cell} (h : CellAt H v c) : CellAt H' v c := h.keep (p := 0) (Same.keepP s)
theorem val_ifH {c : Bool} {t u : TE} {σ : L2.St} {H : Hp} {Q : VK} (P : V → Hp → Prop) (h1 : ∀ Q' : VK, (∀ v H', P v H' → Q' v H') → if c = true then t σ H Q' else u σ H Q') (h2 : ∀ v H', P v H' → Q v H') : if c = true then t σ H Q else u σ H Q := h1 Q h2
/-- a line -/
def LnAt (K : PySem.W.Frag) (H : Hp) (v : V) (l : List Nat) : Prop := ∃ a, v = .ref a ∧ SqT K H a (l.map iV)
theorem ln_get {l : List Nat} {i : Nat} (h : i < l.length) : (l.map iV)[i]? = some (iV (l.getD i 0)) := by
  rw [List.getElem?_map, List.getElem?_eq_getElem h, List.getD_eq_getElem?_getD, List.getElem?_eq_getElem h]; rfl
def diagP (a b : List Nat) : Nat → Nat → List (Pg × Nat × Nat)
  | i + 1, j + 1 => [(dgP (a.getD i 0) (b.getD j 0), i, j)]
  | _, _ => []
def lostP (a : List Nat) (j : Nat) : Nat → List (Pg × Nat × Nat)
  | i + 1 => [(.lost (a.getD i 0), i, j)]
  | 0 => []
def putP (b : List Nat) (i : Nat) : Nat → List (Pg × Nat × Nat)
  | j + 1 => [(.put (b.getD j 0), i, j)]
  | 0 => []
theorem ways_parts (a b : List Nat) (i j : Nat) : diagP a b i j ++ lostP a j i ++ putP b i j = waysP a b i j := by
  rcases i with _ | i <;> rcases j with _ | j <;> rfl
theorem diag_le (a b : List Nat) (i j : Nat) : (diagP a b i j).length ≤ 1 := by
  rcases i with _ | i <;> rcases j with _ | j <;> simp [diagP]
theorem lost_le (a : List Nat) (i j : Nat) : (lostP a j i).length ≤ 1 := by
  rcases i with _ | i <;> simp [lostP]
theorem put_le (b : List Nat) (i j : Nat) : (putP b i j).length ≤ 1 := by
  rcases j with _ | j <;> simp [putP]
theorem WsAt.len {H0 H : Hp} {p : Addr} {ws : List (Pg × Nat × Nat)} {vs : List V} (h : WsAt H0 p ws vs H) : vs.length = ws.length := Paired.length h.pr
theorem i_ixTz {K : PySem.W.Frag} {p : Addr} {xs : List V} {i : Int} {k : Nat} {v : V} {H : Hp} {Q : VK} (h1 : SqT K H p xs) (e : i = (k : Int)) (h2 : xs[k]? = some v) (h : Q v H) : rIxT K (.ref p) (.int i) H Q := by
  subst e; exact i_ixTn h1 h2 h
/-- last_steps(one, other, i, j) -/
def spLast (K : PySem.W.Frag) : Sp := fun vs H Q _ => ∃ (p q : Addr) (a b : List Nat) (i j : Nat), vs = [.ref p, .ref q, iV i, iV j] ∧ SqT K H p (a.map iV) ∧ SqT K H q (b.map iV) ∧ i ≤ a.length ∧ j ≤ b.length ∧
  ∀ r vs H', WsAt H r (waysP a b i j) vs H' → Q (.ref r) H'
section
variable {P : Program} {w : World} {K : PySem.W.Frag} {mg : Str → Option Value} {base : Heap} {f : Addr} {fd : FuncData}
theorem ok_last (F : Fun K "last_steps" "last_steps" s_last_steps f fd) (z : Z mg) : FnOk P w K mg base CX0 1 f fd ["one", "other", "i", "j"] (spLast K) := by
  refine F.ok sc_last_steps (fun vs H Q E h => ?_) (fun cdv A outer s H vs Q E hr h => ?_)
  · obtain ⟨p, q, a, b, i, j, rfl, _⟩ := h; rfl
  · obtain ⟨p, q, a, b, i, j, rfl, hp, hq, hi, hj, k⟩ := h
    refine ⟨_, (pss_cons (ps_set (i := 4) sc_last_steps.nd rfl (.inl rfl) (pe_lst pa_nil))
      (C8.pss_cut (ps_if (PW.pt (pw_and (pt_cmpR op_gt (pv 2) pe_int (nomark _)) (pw_and1 (pt_cmpR op_gt (pv 3) pe_int (nomark _)))))
        (pss_cons (ps_set (i := 5) sc_last_steps.nd rfl (.inl rfl) (pe_cmpR op_eq (pe_ix ix_tup (pv 0) (pe_op op_sub (pv 2) pe_int) (fun _ _ => rfl)) (pe_ix ix_tup (pv 1) (pe_op op_sub (pv 3) pe_int) (fun _ _ => rfl)) (nomark _)))
        (pss_cons (ps_set (i := 6) sc_last_steps.nd rfl (.inl rfl) (pe_ifExp (pt_val (pv 5)) (pe_tup (pa_cons (pe_strS (l := [115, 97, 109, 101]) (by decide +kernel)) (pa_cons (pe_ix ix_tup (pv 0) (pe_op op_sub (pv 2) pe_int) (fun _ _ => rfl)) pa_nil))) (pe_tup (pa_cons (pe_strS (l := [116, 117, 114, 110, 101, 100]) (by decide +kernel)) (pa_cons (pe_ix ix_tup (pv 0) (pe_op op_sub (pv 2) pe_int) (fun _ _ => rfl)) (pa_cons (pe_ix ix_tup (pv 1) (pe_op op_sub (pv 3) pe_int) (fun _ _ => rfl)) pa_nil))))))
        (pss_one (ps_expr (pe_bm PySem.F.plainAttrs_list PySem.F.slot_list_append PySem.F.type_list_append mt_append (pv 4) (pa_cons (pe_tup (pa_cons (pv 6) (pa_cons (pe_tup (pa_cons (pe_op op_sub (pv 2) pe_int) (pa_cons (pe_op op_sub (pv 3) pe_int) pa_nil))) pa_nil))) pa_nil))))))
        pss_nil)
      (C8.pss_cut (ps_if (pt_cmpR op_gt (pv 2) pe_int (nomark _))
        (pss_one (ps_expr (pe_bm PySem.F.plainAttrs_list PySem.F.slot_list_append PySem.F.type_list_append mt_append (pv 4) (pa_cons (pe_tup (pa_cons (pe_tup (pa_cons (pe_strS (l := [108, 111, 115, 116]) (by decide +kernel)) (pa_cons (pe_ix ix_tup (pv 0) (pe_op op_sub (pv 2) pe_int) (fun _ _ => rfl)) pa_nil))) (pa_cons (pe_tup (pa_cons (pe_op op_sub (pv 2) pe_int) (pa_cons (pv 3) pa_nil))) pa_nil))) pa_nil))))
        pss_nil)
      (C8.pss_cut (ps_if (pt_cmpR op_gt (pv 3) pe_int (nomark _))
        (pss_one (ps_expr (pe_bm PySem.F.plainAttrs_list PySem.F.slot_list_append PySem.F.type_list_append mt_append (pv 4) (pa_cons (pe_tup (pa_cons (pe_tup (pa_cons (pe_strS (l := [112, 117, 116]) (by decide +kernel)) (pa_cons (pe_ix ix_tup (pv 1) (pe_op op_sub (pv 3) pe_int) (fun _ _ => rfl)) pa_nil))) (pa_cons (pe_tup (pa_cons (pv 2) (pa_cons (pe_op op_sub (pv 3) pe_int) pa_nil))) pa_nil))) pa_nil))))
        pss_nil)
      (pss_one (ps_ret (pv 4))))))), ?_⟩
    walk_at "rd"
    refine newL0 (Nat.zero_le _) fun r H1 nr s1 er => ?_
    have W0 : WsAt H r [] [] H1 := ⟨er, .nil, s1, nr⟩
    have sm : ∀ n : Nat, n ≤ 4 → n < sizeLine := fun n hn => Nat.lt_of_le_of_lt hn (Nat.lt_of_lt_of_le (by decide : 4 < 100000) (Nat.le_of_ble_eq_true rfl))
    walk_at "rd"
    refine i_cut (fun σ' H' => ∃ u5 u6 vs, σ' = [some (.ref p), some (.ref q), some (iV i), some (iV j), some (.ref r), u5, u6] ∧ WsAt H r (diagP a b i j) vs H') ?_ ?_
    · rcases i with _ | i
      · walk_at "rd"
        refine iteF ?_
        exact ⟨_, _, _, rfl, W0⟩
      · walk_at "rd"
        rw [decide_eq_true (show (0 : Int) < ((i + 1 : Nat) : Int) by omega)]
        walk_at "rd"
        rcases j with _ | j
        · refine iteF ?_
          exact ⟨_, _, _, rfl, W0⟩
        · rw [decide_eq_true (show (0 : Int) < ((j + 1 : Nat) : Int) by omega)]
          walk_at "rd"
          refine i_ixTz (k := i) (Same.sqT s1 hp) (by omega) (ln_get (by omega)) ?_
          walk_at "rd"
          refine i_ixTz (k := j) (Same.sqT s1 hq) (by omega) (ln_get (by omega)) ?_
          walk_at "rd"
          refine val_ifH (fun v H' => Same H1 H' ∧ ∃ t, v = .ref t ∧ H' t = some (.tup (dgP (a.getD i 0) (b.getD j 0)).vals)) (fun Q' hQ => ?_) (fun v H2 hv => ?_)
          · refine iteB (fun e => ?_) (fun e => ?_)
            · have e : a.getD i 0 = b.getD j 0 := by omega
              walk_at "rd"
              refine i_ixTz (k := i) (Same.sqT s1 hp) (by omega) (ln_get (by omega)) ?_
              walk_at "rd"
              refine newT0 (Nat.le_of_ble_eq_true rfl) fun t H2 nt s2 et => hQ _ _ ⟨s2, t, rfl, ?_⟩
              rw [et, dgP, if_pos e]; rfl
            · have e : ¬ a.getD i 0 = b.getD j 0 := by omega
              walk_at "rd"
              refine i_ixTz (k := i) (Same.sqT s1 hp) (by omega) (ln_get (by omega)) ?_
              walk_at "rd"
              refine i_ixTz (k := j) (Same.sqT s1 hq) (by omega) (ln_get (by omega)) ?_
              walk_at "rd"
              refine newT0 (Nat.le_of_ble_eq_true rfl) fun t H2 nt s2 et => hQ _ _ ⟨s2, t, rfl, ?_⟩
              rw [et, dgP, if_neg e]; rfl
          · obtain ⟨s2, t, rfl, et⟩ := hv
            have er2 := s2 _ _ er
            walk_at "rd"
            refine newT0 (Nat.le_of_ble_eq_true rfl) fun u H3 nu s3 eu => ?_
            walk_at "rd"
            refine newT0 (Nat.le_of_ble_eq_true rfl) fun q' H4 nq s4 eq => ?_
            walk_at "rd"
            refine i_append (s4 _ _ (s3 _ _ er2)) (sm _ (by simp)) ?_
            refine ⟨_, _, _, rfl, WsAt.push (w := (dgP (a.getD i 0) (b.getD j 0), i, j)) W0 (s2.trans (s3.trans s4)) eq (s4 _ _ (s3 _ _ et)) ?_⟩
            show H4 u = some (.tup [iV i, iV j])
            rw [s4 _ _ eu]
            congr 4 <;> (congr 1; omega)
    rintro σ' H2 ⟨u5, u6, vs, rfl, W⟩
    have er2 := W.e
    walk_at "rd"
    refine i_cut (fun σ' H' => ∃ u5 u6 vs, σ' = [some (.ref p), some (.ref q), some (iV i), some (iV j), some (.ref r), u5, u6] ∧ WsAt H r (diagP a b i j ++ lostP a j i) vs H') ?_ ?_
    · rcases i with _ | i
      · walk_at "rd"
        refine iteF ?_
        refine ⟨_, _, vs, rfl, ?_⟩
        rw [show lostP a j 0 = [] from rfl, List.append_nil]
        exact W
      · walk_at "rd"
        rw [decide_eq_true (show (0 : Int) < ((i + 1 : Nat) : Int) by omega)]
        walk_at "rd"
        refine i_ixTz (k := i) (Same.sqT W.s hp) (by omega) (ln_get (by omega)) ?_
        walk_at "rd"
        refine newT0 (Nat.le_of_ble_eq_true rfl) fun t H3 nt s3 et => ?_
        walk_at "rd"
        refine newT0 (Nat.le_of_ble_eq_true rfl) fun u H4 nu s4 eu => ?_
        walk_at "rd"
        refine newT0 (Nat.le_of_ble_eq_true rfl) fun q' H5 nq s5 eq => ?_
        walk_at "rd"
        refine i_append (s5 _ _ (s4 _ _ (s3 _ _ W.e))) (sm _ (by rw [W.len]; have := diag_le a b (i + 1) j; omega)) ?_
        refine ⟨_, _, _, rfl, WsAt.push (w := (Pg.lost (a.getD i 0), i, j)) W (s3.trans (s4.trans s5)) eq (s5 _ _ (s4 _ _ et)) ?_⟩
        show H5 u = some (.tup [iV i, iV j])
        rw [s5 _ _ eu]
        congr 4 <;> (congr 1; omega)
    rintro σ' H2 ⟨u5, u6, vs, rfl, W⟩
    have er2 := W.e
    walk_at "rd"
    refine i_cut (fun σ' H' => ∃ u5 u6 vs, σ' = [some (.ref p), some (.ref q), some (iV i), some (iV j), some (.ref r), u5, u6] ∧ WsAt H r (waysP a b i j) vs H') ?_ ?_
    · rw [← ways_parts]
      rcases j with _ | j
      · walk_at "rd"
        refine iteF ?_
        refine ⟨_, _, vs, rfl, ?_⟩
        rw [show putP b i 0 = [] from rfl, List.append_nil]
        exact W
      · walk_at "rd"
        rw [decide_eq_true (show (0 : Int) < ((j + 1 : Nat) : Int) by omega)]
        walk_at "rd"
        refine i_ixTz (k := j) (Same.sqT W.s hq) (by omega) (ln_get (by omega)) ?_
        walk_at "rd"
        refine newT0 (Nat.le_of_ble_eq_true rfl) fun t H3 nt s3 et => ?_
        walk_at "rd"
        refine newT0 (Nat.le_of_ble_eq_true rfl) fun u H4 nu s4 eu => ?_
        walk_at "rd"
        refine newT0 (Nat.le_of_ble_eq_true rfl) fun q' H5 nq s5 eq => ?_
        walk_at "rd"
        refine i_append (s5 _ _ (s4 _ _ (s3 _ _ W.e))) (sm _ (by rw [W.len, List.length_append]; have := diag_le a b i (j + 1); have := lost_le a i (j + 1); omega)) ?_
        refine ⟨_, _, _, rfl, WsAt.push (w := (Pg.put (b.getD j 0), i, j)) W (s3.trans (s4.trans s5)) eq (s5 _ _ (s4 _ _ et)) ?_⟩
        show H5 u = some (.tup [iV i, iV j])
        rw [s5 _ _ eu]
        congr 4 <;> (congr 1; omega)
    rintro σ' H2 ⟨u5, u6, vs, rfl, W⟩
    have er2 := W.e
    walk_at "rd"
    exact k _ _ _ W
end
end Sw
namespace Sw
open PySem PySem.Spec PyProof.Rows L2
local macro_rules | `(tactic| walk_at "hp") => `(tactic| first
  | (with_reducible assumption) | (with_reducible exact upd_same)
  | ((with_reducible refine' upd_old ?q1 ?q2); (case q1 => (with_reducible assumption)); (case q2 => walk_at "hp"))
  | ((with_reducible refine' Same.at ?q1 ?q2); (case q1 => (with_reducible assumption)); (case q2 => walk_at "hp"))
  | ((with_reducible refine' upd_skip ?q1 ?q2); (case q1 => walk_at "ne"); (case q2 => walk_at "hp"))
  | fail)
local macro_rules | `(tactic| walk_at "ne") => `(tactic| first
  | (with_reducible assumption) | (with_reducible exact Ne.symm (by assumption))
  | ((with_reducible refine' ne_of_none ?q1 ?q2); (case q2 => (with_reducible assumption)); (case q1 => walk_at "hp"))
  | fail)
local macro_rules | `(tactic| walk_at "ci") => `(tactic| first | assumption | (show (0 : Int) < _; first | decide | (with_reducible omega)) | exact ⟨by decide, by decide⟩ | exact .inl ⟨by decide, by decide⟩ | exact .inr ⟨by decide, by decide⟩)
local macro_rules | `(tactic| walk_at "ln") => `(tactic| first | (with_reducible assumption) | (with_reducible omega) | (simp only [List.length_append, List.length_take, List.length_drop, List.length_reverse, List.length_cons, List.length_nil]; with_reducible omega))
local macro_rules | `(tactic| walk_at "rd1") => `(tactic| first
  | (with_reducible refine i_seq ?_) | (with_reducible refine i_asg ?_) | (with_reducible refine i_ret ?_) | (with_reducible refine i_name ?_) | ((with_reducible refine' i_var ?q1 ?_); (case q1 => exact rfl)) | (with_reducible refine i_c ?_) | (with_reducible refine i_op ?_) | (with_reducible refine i_un ?_)
  | (with_reducible refine i_rI0 ?_) | (with_reducible refine i_cb ?_) | (with_reducible refine i_cons ?_) | (with_reducible refine i_nil ?_) | (with_reducible refine i_call ?_) | (with_reducible refine i_if ?_) | (with_reducible refine i_ifE ?_) | (with_reducible refine i_test ?_) | (with_reducible refine i_bl ?_)
  | (with_reducible refine i_and ?_) | (with_reducible refine i_or ?_) | (with_reducible refine i_not ?_) | (with_reducible refine i_lstM ?_) | (with_reducible refine i_lstLM ?_) | (with_reducible refine i_tupM ?_) | (with_reducible refine i_next ?_) | (with_reducible refine i_drop ?_) | (with_reducible refine i_sub ?_)
  | (with_reducible refine i_bm ?_) | (with_reducible refine i_sl ?_) | (with_reducible refine i_part ?_) | (with_reducible refine i_nopart ?_) | (with_reducible refine i_exI ?_) | (with_reducible refine i_chain ?_) | ((with_reducible refine' i_aug ?q1 ?_); (case q1 => exact rfl)) | (with_reducible refine i_ip ?_)
  | (with_reducible refine i_par ?_) | (with_reducible refine i_pair ?_) | (with_reducible refine i_andV ?_) | (with_reducible refine i_orV ?_) | (with_reducible refine i_notV ?_) | (with_reducible refine i_m1 ?_) | (with_reducible refine i_str ?_)
  | (with_reducible refine iteF ?_) | (with_reducible refine iteT ?_) | (with_reducible refine iteNT ?_) | (with_reducible refine iteNF ?_) | (with_reducible refine i_tyS ?_) | (with_reducible refine i_tB ?_) | (with_reducible refine i_retN ?_) | (with_reducible refine i_par3 ?_) | (with_reducible refine i_trip ?_) | (with_reducible refine i_gCons ?_) | (with_reducible refine i_gNil ?_) | (with_reducible refine i_lstRg ?_) | (with_reducible refine i_rg1 ?_)
  | (with_reducible refine i_lc ?_) | (with_reducible refine i_for ?_) | (with_reducible refine i_iList ?_) | (with_reducible refine i_iTup ?_) | (with_reducible refine i_iStr ?_) | (with_reducible refine i_iRng1 ?_) | (with_reducible refine i_iEnS ?_)
  | ((with_reducible refine' i_ixTH ?q1 ?q2 ?_); (case q1 => walk_at "hp"); (case q2 => exact rfl))
  | ((with_reducible refine' i_ixLH ?q1 ?q2 ?_); (case q1 => walk_at "hp"); (case q2 => exact rfl))
  | ((with_reducible refine i_addS ?q1 ?_); (case q1 => walk_at "ln")) | ((with_reducible refine i_lenSS ?q1 ?_); (case q1 => walk_at "ln")) | ((with_reducible refine i_slFrom ?q1 ?q2 ?_); (case q1 => walk_at "ln"); (case q2 => walk_at "ln")) | ((with_reducible refine i_slTo ?q1 ?q2 ?_); (case q1 => walk_at "ln"); (case q2 => walk_at "ln"))
  | ((with_reducible refine' i_tyL ?q1 ?_); (case q1 => walk_at "hp"))
  | ((with_reducible refine' i_gTupH ?q1 ?q2 ?_); (case q1 => walk_at "hp"); (case q2 => exact rfl))
  | (with_reducible refine i_dnewM ?_) | (with_reducible refine i_init ?_) | (with_reducible refine i_fst ?_) | (with_reducible refine i_mk ?_) | (with_reducible refine i_raise ?_) | (with_reducible refine i_callS ?_) | (with_reducible refine i_kwS ?_)
  | (with_reducible refine i_revT ?_) | (with_reducible refine i_kw ?_) | ((with_reducible refine' ⟨_, _, rfl, sqT_of ?q1, ?_⟩); (case q1 => walk_at "hp"))
  | (with_reducible refine i_revS ?_) | ((with_reducible refine i_revSS ?q1 ?_); (case q1 => walk_at "ln"))
  | (with_reducible refine i_startS ?_) | (with_reducible refine i_inSg ?_) | (with_reducible refine i_absN ?_) | (with_reducible refine i_min2 ?_) | (with_reducible refine i_max2 ?_) | (with_reducible refine i_min3 ?_) | (with_reducible refine i_intN ?_) | (with_reducible refine i_intNB ?_)
  | ((with_reducible refine' i_lenL ?q1 ?_); (case q1 => walk_at "hp")) | ((with_reducible refine' i_lenT ?q1 ?_); (case q1 => walk_at "hp"))
  | (with_reducible refine i_eqI ?_) | (with_reducible refine i_neI ?_) | (with_reducible refine i_eqS ?_) | (with_reducible refine i_neS ?_) | (with_reducible refine i_isNoI ?_) | (with_reducible refine i_isNoN ?_) | (with_reducible refine i_isNoR ?_)
  | ((with_reducible refine i_pow ?q1 ?q2 ?q3 ?_); (case q1 => decide); (case q2 => decide); (case q3 => (with_reducible omega)))
  | ((with_reducible refine i_rI ?q1 ?_); (case q1 => walk_at "ci"))
  | (with_reducible refine Or.inl ⟨_, rfl, ?_⟩) | (with_reducible refine Or.inr ⟨_, rfl, ?_⟩) | (with_reducible refine ⟨_, rfl, ?_⟩) | (with_reducible refine ⟨_, _, rfl, ?_⟩) | (with_reducible refine ⟨_, _, rfl, rfl, ?_⟩)
  | ((with_reducible refine' ⟨_, _, rfl, Or.inl (sqL_of ?q1), ?_⟩); (case q1 => walk_at "hp")) | ((with_reducible refine' ⟨_, _, rfl, Or.inr (sqT_of ?q1), ?_⟩); (case q1 => walk_at "hp")) | (with_reducible refine i_dget ?_) | (with_reducible refine i_disp1T ?_) | (with_reducible refine i_dcT ?_) | (with_reducible refine i_dnewT ?_) | fail)
local macro_rules | `(tactic| walk_at "rd") => `(tactic| repeat' walk_at "rd1")

abbrev cellK (i j : Nat) : List Key := [.inl (i : Int), .inl (j : Int)]
/-- least_end(best, ways, allowed) -/
def spEnd : Sp := fun vs H Q _ => ∃ (p q r : Addr) (kvs al : List (List Key × V)) (xs : List V) (ws : List (Pg × Nat × Nat)) (A : Pg → Bool) (T : Nat → Nat → Cell) (B : Nat), vs = [.ref p, .ref q, .ref r] ∧ H p = some (.dT kvs) ∧ H q = some (.lst xs) ∧ H r = some (.dT al) ∧ Paired (WayAt H) xs ws ∧
  (∀ s : Pg, (valV al s.key).isSome = A s) ∧ (∀ w ∈ ws, ∃ v, valV kvs (cellK w.2.1 w.2.2) = some v ∧ CellAt H v (T w.2.1 w.2.2)) ∧ xs.length ≤ 1000000 ∧
  ∀ v H', Same H H' → CellAt H' v (foldP A T ws none) → Q v H'
theorem cond_andH {c0 : Bool} {t : L2.St → Hp → (Bool → Hp → Prop) → Prop} {σ : L2.St} {H : Hp} {R : Bool → Hp → Prop} (P : Bool → Hp → Prop) (h1 : ∀ R' : Bool → Hp → Prop, (∀ c H', P c H' → R' c H') → if c0 = true then t σ H R' else R' false H) (h2 : ∀ c H', P c H' → R c H') : if c0 = true then t σ H R else R false H := h1 R h2
theorem pairedAt {α β : Type} {F : α → β → Prop} : ∀ {l1 : List α} {l2 : List β}, Paired F l1 l2 → ∀ {i : Nat} {x : α}, l1[i]? = some x → ∃ y, l2[i]? = some y ∧ F x y := by
  intro l1 l2 h
  induction h with
  | nil => intro i x e; simp at e
  | @cons a b as bs r t ih =>
    intro i x e
    rcases i with _ | i
    · cases e; exact ⟨b, rfl, r⟩
    · exact ih e
theorem foldP_take {A : Pg → Bool} {T : Nat → Nat → Cell} {ws : List (Pg × Nat × Nat)} {i : Nat} {w : Pg × Nat × Nat} (h : ws[i]? = some w) (f : Cell) : foldP A T (ws.take (i + 1)) f = turnC A (T w.2.1 w.2.2) w.1 w.2.1 w.2.2 (foldP A T (ws.take i) f) := by
  unfold foldP
  rw [List.take_add_one, h, List.foldl_append]; rfl
/-- the parts of a step: its word and the rest -/
def Pg.word : Pg → List Nat
  | .same _ => tSame
  | .lost _ => tLost
  | .put _ => tPut
  | .turned _ _ => tTurned
theorem Pg.vals0 (s : Pg) : s.vals[0]? = some (.str (S s.word)) := by cases s <;> rfl
theorem Pg.word_same (s : Pg) : (s.word = tSame) ↔ s.cost = 0 := by cases s <;> simp [Pg.word, Pg.cost]
theorem Pg.wcost (s : Pg) : (if (!decide (s.word = [115, 97, 109, 101])) = true then (1 : Int) else 0) = (s.cost : Int) := by cases s <;> rfl
section
variable {P : Program} {w : World} {K : PySem.W.Frag} {mg : Str → Option Value} {base : Heap} {f : Addr} {fd : FuncData}
theorem ok_end (F : Fun K "least_end" "least_end" s_least_end f fd) (z : Z mg) : FnOk P w K mg base CX0 1 f fd ["best", "ways", "allowed"] spEnd := by
  refine F.ok sc_least_end (fun vs H Q E h => ?_) (fun cdv A outer s H vs Q E hr h => ?_)
  · obtain ⟨p, q, r, _, _, _, _, _, _, _, rfl, _⟩ := h; rfl
  · obtain ⟨p, q, r, kvs, al, xs, ws, AL, T, B, rfl, hp, hq, hl, hws, hal, hc, len, k⟩ := h
    refine ⟨_, (pss_cons (ps_set (i := 3) sc_least_end.nd rfl (.inl rfl) pe_non)
      (pss_cons (ps_for PassesOwn.never rfl (pi_list (pv 1)) (pg_tup rfl (pgs_cons (pg_name (i := 4) sc_least_end.nd rfl (.inl rfl)) (pgs_cons (pg_name (i := 5) sc_least_end.nd rfl (.inl rfl)) pgs_nil)))
        (pss_one (ps_if (PW.pt (pw_and (pt_cmpR op_notN (pe_dget (room1 hr.units) (pv 0) (pv 5) (fun _ _ => rfl)) pe_non (nomark _)) (pw_and1 (PW.pt (pw_or (pt_cmpR op_eq (pe_ix ix_tup (pv 4) pe_int (fun _ _ => rfl)) (pe_strS (l := [115, 97, 109, 101]) (by decide +kernel)) (nomark _)) (pw_or1 (pt_cmpR (op_inDt hr.units) (pv 4) (pv 2) (by rfl))))))))
          (pss_cons (ps_set (i := 6) sc_least_end.nd rfl (.inl rfl) (pe_op op_add (pe_ix ix_tup (pe_dget (room1 hr.units) (pv 0) (pv 5) (fun _ _ => rfl)) pe_int (fun _ _ => rfl)) (pe_callTy call_intN (by rfl) z.int (by decide +kernel) (pa_cons (pe_cmpR op_ne (pe_ix ix_tup (pv 4) pe_int (fun _ _ => rfl)) (pe_strS (l := [115, 97, 109, 101]) (by decide +kernel)) (nomark _)) pa_nil))))
          (pss_one (ps_if (PW.pt (pw_or (pt_cmpR op_isNo (pv 3) pe_non (nomark _)) (pw_or1 (pt_cmpR op_lt (pv 6) (pe_ix ix_tup (pv 3) pe_int (fun _ _ => rfl)) (nomark _)))))
            (pss_one (ps_set (i := 3) sc_least_end.nd rfl (.inl rfl) (pe_tup (pa_cons (pv 6) (pa_cons (pv 4) (pa_cons (pv 5) pa_nil))))))
            pss_nil)))
          pss_nil)))
      (pss_one (ps_ret (pv 3))))), ?_⟩
    walk_at "rd"
    refine ⟨⟨_, sqL_of hq⟩, ?_⟩
    have lx : xs.length = ws.length := Paired.length hws
    refine go_for (walk_list (xs := xs)) (fun i σ Hx => ∃ (v : V) (u4 u5 u6 : Option V), σ = [some (.ref p), some (.ref q), some (.ref r), some v, u4, u5, u6] ∧ Same H Hx ∧ CellAt Hx v (foldP AL T (ws.take i) none))
      ⟨.non, none, none, none, rfl, Same.refl _, rfl⟩ (fun i σ Hx hi h => Same.sqL h.choose_spec.choose_spec.choose_spec.choose_spec.2.1 (sqL_of hq)) (fun i v0 σ Hx H3 hi h y => ?_) (fun σ Hx h => ?_)
    · obtain ⟨v, u4, u5, u6, rfl, sx, cv⟩ := h
      obtain ⟨rfl, hv⟩ := y
      obtain ⟨wy, gw, t, a, b, rfl, et, ea, eb⟩ := pairedAt hws hv
      obtain ⟨c, ec, cc⟩ := hc wy (List.mem_of_getElem? gw)
      have et := sx _ _ et
      have ea := sx _ _ ea
      have eb := sx _ _ eb
      have hp := sx _ _ hp
      have hl := sx _ _ hl
      have cc := cc.same sx
      rw [foldP_take gw]
      generalize foldP AL T (ws.take i) none = fc at *
      obtain ⟨st, ai, aj⟩ := wy
      dsimp only at *
      walk_at "rd"
      refine i_dgetT (ks := cellK ai aj) hp eb ec ?_
      walk_at "rd"
      refine ⟨rfl, ?_⟩
      unfold turnC
      rcases eT : T ai aj with _ | ⟨e, rst⟩
      · rw [eT] at cc
        cases (show c = V.non from cc)
        walk_at "rd"
        exact ⟨v, _, _, u6, rfl, sx, cv⟩
      · rw [eT] at cc
        obtain ⟨pc, y1, y2, rfl, epc⟩ : ∃ pc y1 y2, c = .ref pc ∧ H3 pc = some (.tup [iV e, y1, y2]) := by
          rcases rst with _ | ⟨s', i', j'⟩
          · obtain ⟨pc, e1, e2⟩ := cc; exact ⟨pc, _, _, e1, e2⟩
          · obtain ⟨pc, _, _, e1, e2, _⟩ := cc; exact ⟨pc, _, _, e1, e2⟩
        dsimp only
        rw [show decide (V.ref pc = V.non) = false from decide_eq_false (fun q => by cases q)]
        refine ⟨true, rfl, ?_⟩
        refine cond_andH (fun c H' => c = (decide (st.cost = 0) || AL st) ∧ H' = H3) (fun R hR => ?_) (fun c H' hc => ?_)
        · walk_at "rd"
          refine i_ixTn (k := 0) (sqT_of ea) st.vals0 ?_
          walk_at "rd"
          by_cases w0 : st.cost = 0
          · rw [decide_eq_true (show st.word = [115, 97, 109, 101] from st.word_same.mpr w0)]
            refine iteT ?_
            exact hR _ _ ⟨by rw [decide_eq_true w0]; rfl, rfl⟩
          · rw [decide_eq_false (show ¬ st.word = [115, 97, 109, 101] from fun q => w0 (st.word_same.mp q))]
            refine iteF ?_
            walk_at "rd"
            refine i_inDt (ks := st.key) hl (by rw [st.kvals]; exact ea) ?_
            exact ⟨_, rfl, hR _ _ ⟨by rw [hal, decide_eq_false w0]; rfl, rfl⟩⟩
        · obtain ⟨rfl, rfl⟩ := hc
          refine iteC (fun good => ?_) (fun bad => ?_)
          · rw [good]
            walk_at "rd"
            refine i_dgetT (ks := cellK ai aj) hp eb ec ?_
            walk_at "rd"
            refine i_ixTn (k := 0) (sqT_of ea) st.vals0 ?_
            walk_at "rd"
            rw [st.wcost, show (e : Int) + (st.cost : Int) = ((e + st.cost : Nat) : Int) by omega]
            rcases fc with _ | ⟨m, rr⟩
            · cases (show v = V.non from cv)
              walk_at "rd"
              refine newT0 (Nat.le_of_ble_eq_true rfl) fun t2 H2 nt2 s2 et2 => ?_
              walk_at "rd"
              exact ⟨_, _, _, _, rfl, sx.trans s2, t2, a, b, rfl, et2, s2 _ _ ea, s2 _ _ eb⟩
            · obtain ⟨pf, y3, y4, rfl, epf⟩ : ∃ pf y3 y4, v = .ref pf ∧ H' pf = some (.tup [iV m, y3, y4]) := by
                rcases rr with _ | ⟨s', i', j'⟩
                · obtain ⟨pc, e1, e2⟩ := cv; exact ⟨pc, _, _, e1, e2⟩
                · obtain ⟨pc, _, _, e1, e2, _⟩ := cv; exact ⟨pc, _, _, e1, e2⟩
              dsimp only
              walk_at "rd"
              refine iteB (fun lt => ?_) (fun ge => ?_)
              · rw [if_pos rfl, if_pos (by omega)]
                walk_at "rd"
                refine newT0 (Nat.le_of_ble_eq_true rfl) fun t2 H2 nt2 s2 et2 => ?_
                walk_at "rd"
                exact ⟨_, _, _, _, rfl, sx.trans s2, t2, a, b, rfl, et2, s2 _ _ ea, s2 _ _ eb⟩
              · rw [if_pos rfl, if_neg (by omega)]
                walk_at "rd"
                exact ⟨_, _, _, _, rfl, sx, cv⟩
          · rw [bad]
            exact ⟨v, _, _, u6, rfl, sx, cv⟩
    · obtain ⟨v, u4, u5, u6, rfl, sx, cv⟩ := h
      rw [lx, List.take_length] at cv
      walk_at "rd"
      exact k _ _ sx cv
end
end Sw
namespace Sw
open PySem PySem.Spec PyProof.Rows L2
local macro_rules | `(tactic| walk_at "hp") => `(tactic| first
  | (with_reducible assumption) | (with_reducible exact upd_same)
  | ((with_reducible refine' upd_old ?q1 ?q2); (case q1 => (with_reducible assumption)); (case q2 => walk_at "hp"))
  | ((with_reducible refine' Same.at ?q1 ?q2); (case q1 => (with_reducible assumption)); (case q2 => walk_at "hp"))
  | ((with_reducible refine' upd_skip ?q1 ?q2); (case q1 => walk_at "ne"); (case q2 => walk_at "hp"))
  | fail)
local macro_rules | `(tactic| walk_at "ne") => `(tactic| first
  | (with_reducible assumption) | (with_reducible exact Ne.symm (by assumption))
  | ((with_reducible refine' ne_of_none ?q1 ?q2); (case q2 => (with_reducible assumption)); (case q1 => walk_at "hp"))
  | fail)
local macro_rules | `(tactic| walk_at "ci") => `(tactic| first | assumption | (show (0 : Int) < _; first | decide | (with_reducible omega)) | exact ⟨by decide, by decide⟩ | exact .inl ⟨by decide, by decide⟩ | exact .inr ⟨by decide, by decide⟩)
local macro_rules | `(tactic| walk_at "ln") => `(tactic| first | (with_reducible assumption) | (with_reducible omega) | (simp only [List.length_append, List.length_take, List.length_drop, List.length_reverse, List.length_cons, List.length_nil]; with_reducible omega))
local macro_rules | `(tactic| walk_at "rd1") => `(tactic| first
  | (with_reducible refine i_seq ?_) | (with_reducible refine i_asg ?_) | (with_reducible refine i_ret ?_) | (with_reducible refine i_name ?_) | ((with_reducible refine' i_var ?q1 ?_); (case q1 => exact rfl)) | (with_reducible refine i_c ?_) | (with_reducible refine i_op ?_) | (with_reducible refine i_un ?_)
  | (with_reducible refine i_rI0 ?_) | (with_reducible refine i_cb ?_) | (with_reducible refine i_cons ?_) | (with_reducible refine i_nil ?_) | (with_reducible refine i_call ?_) | (with_reducible refine i_if ?_) | (with_reducible refine i_ifE ?_) | (with_reducible refine i_test ?_) | (with_reducible refine i_bl ?_)
  | (with_reducible refine i_and ?_) | (with_reducible refine i_or ?_) | (with_reducible refine i_not ?_) | (with_reducible refine i_lstM ?_) | (with_reducible refine i_lstLM ?_) | (with_reducible refine i_tupM ?_) | (with_reducible refine i_next ?_) | (with_reducible refine i_drop ?_) | (with_reducible refine i_sub ?_)
  | (with_reducible refine i_bm ?_) | (with_reducible refine i_sl ?_) | (with_reducible refine i_part ?_) | (with_reducible refine i_nopart ?_) | (with_reducible refine i_exI ?_) | (with_reducible refine i_chain ?_) | ((with_reducible refine' i_aug ?q1 ?_); (case q1 => exact rfl)) | (with_reducible refine i_ip ?_)
  | (with_reducible refine i_par ?_) | (with_reducible refine i_pair ?_) | (with_reducible refine i_andV ?_) | (with_reducible refine i_orV ?_) | (with_reducible refine i_notV ?_) | (with_reducible refine i_m1 ?_) | (with_reducible refine i_str ?_)
  | (with_reducible refine iteF ?_) | (with_reducible refine iteT ?_) | (with_reducible refine iteNT ?_) | (with_reducible refine iteNF ?_) | (with_reducible refine i_tyS ?_) | (with_reducible refine i_tB ?_) | (with_reducible refine i_retN ?_) | (with_reducible refine i_par3 ?_) | (with_reducible refine i_trip ?_) | (with_reducible refine i_gCons ?_) | (with_reducible refine i_gNil ?_) | (with_reducible refine i_lstRg ?_) | (with_reducible refine i_rg1 ?_)
  | (with_reducible refine i_lc ?_) | (with_reducible refine i_for ?_) | (with_reducible refine i_iList ?_) | (with_reducible refine i_iTup ?_) | (with_reducible refine i_iStr ?_) | (with_reducible refine i_iRng1 ?_) | (with_reducible refine i_iEnS ?_)
  | ((with_reducible refine' i_ixTH ?q1 ?q2 ?_); (case q1 => walk_at "hp"); (case q2 => exact rfl))
  | ((with_reducible refine' i_ixLH ?q1 ?q2 ?_); (case q1 => walk_at "hp"); (case q2 => exact rfl))
  | ((with_reducible refine i_addS ?q1 ?_); (case q1 => walk_at "ln")) | ((with_reducible refine i_lenSS ?q1 ?_); (case q1 => walk_at "ln")) | ((with_reducible refine i_slFrom ?q1 ?q2 ?_); (case q1 => walk_at "ln"); (case q2 => walk_at "ln")) | ((with_reducible refine i_slTo ?q1 ?q2 ?_); (case q1 => walk_at "ln"); (case q2 => walk_at "ln"))
  | ((with_reducible refine' i_tyL ?q1 ?_); (case q1 => walk_at "hp"))
  | ((with_reducible refine' i_gTupH ?q1 ?q2 ?_); (case q1 => walk_at "hp"); (case q2 => exact rfl))
  | (with_reducible refine i_dnewM ?_) | (with_reducible refine i_init ?_) | (with_reducible refine i_fst ?_) | (with_reducible refine i_mk ?_) | (with_reducible refine i_raise ?_) | (with_reducible refine i_callS ?_) | (with_reducible refine i_kwS ?_)
  | (with_reducible refine i_revT ?_) | (with_reducible refine i_kw ?_) | ((with_reducible refine' ⟨_, _, rfl, sqT_of ?q1, ?_⟩); (case q1 => walk_at "hp"))
  | (with_reducible refine i_revS ?_) | ((with_reducible refine i_revSS ?q1 ?_); (case q1 => walk_at "ln"))
  | (with_reducible refine i_startS ?_) | (with_reducible refine i_inSg ?_) | (with_reducible refine i_absN ?_) | (with_reducible refine i_min2 ?_) | (with_reducible refine i_max2 ?_) | (with_reducible refine i_min3 ?_) | (with_reducible refine i_intN ?_) | (with_reducible refine i_intNB ?_)
  | ((with_reducible refine' i_lenL ?q1 ?_); (case q1 => walk_at "hp")) | ((with_reducible refine' i_lenT ?q1 ?_); (case q1 => walk_at "hp"))
  | (with_reducible refine i_eqI ?_) | (with_reducible refine i_neI ?_) | (with_reducible refine i_eqS ?_) | (with_reducible refine i_neS ?_) | (with_reducible refine i_isNoI ?_) | (with_reducible refine i_isNoN ?_) | (with_reducible refine i_isNoR ?_)
  | ((with_reducible refine i_pow ?q1 ?q2 ?q3 ?_); (case q1 => decide); (case q2 => decide); (case q3 => (with_reducible omega)))
  | ((with_reducible refine i_rI ?q1 ?_); (case q1 => walk_at "ci"))
  | (with_reducible refine Or.inl ⟨_, rfl, ?_⟩) | (with_reducible refine Or.inr ⟨_, rfl, ?_⟩) | (with_reducible refine ⟨_, rfl, ?_⟩) | (with_reducible refine ⟨_, _, rfl, ?_⟩) | (with_reducible refine ⟨_, _, rfl, rfl, ?_⟩)
  | ((with_reducible refine' ⟨_, _, rfl, Or.inl (sqL_of ?q1), ?_⟩); (case q1 => walk_at "hp")) | ((with_reducible refine' ⟨_, _, rfl, Or.inr (sqT_of ?q1), ?_⟩); (case q1 => walk_at "hp")) | (with_reducible refine i_dget ?_) | (with_reducible refine i_disp1T ?_) | (with_reducible refine i_dcT ?_) | (with_reducible refine i_dnewT ?_) | fail)
local macro_rules | `(tactic| walk_at "rd") => `(tactic| repeat' walk_at "rd1")

/-- a kind, as a new tuple -/
def KdAt (H : Hp) (v : V) (k : Pg) : Prop := ∃ p, v = .ref p ∧ H p = some (.tup k.vals)
def KdsAt (K : PySem.W.Frag) (H : Hp) (z : V) (ks : List Pg) : Prop := ∃ pz vs, z = .ref pz ∧ (SqL K H pz vs ∨ SqT K H pz vs) ∧ Paired (KdAt H) vs ks
theorem KdAt.same {H H' : Hp} (s : Same H H') {v : V} {k : Pg} (h : KdAt H v k) : KdAt H' v k := by obtain ⟨p, rfl, e⟩ := h; exact ⟨p, rfl, s _ _ e⟩
def inP (ks : List Pg) (s : Pg) : Bool := decide (s ∈ ks)
/-- what least_passing tells -/
def ToldAt (K : PySem.W.Frag) (H : Hp) (v : V) (A : Pg → Bool) (a b : List Nat) : Prop :=
  (fwP A a b a.length b.length = none ∧ v = .non) ∨ ∃ due ss p, fwP A a b a.length b.length = some due ∧ RunP A a b a.length b.length [] ss ∧ PassP A a b 5 due ss ∧ v = .ref p ∧ De K H (.ref p) (.tuple (ss.map Pg.dat))
def TK (H H' : Hp) : Prop := ∀ a xs, H a = some (.tup xs) → H' a = some (.tup xs)
theorem TK.of {H H' : Hp} (s : Same H H') : TK H H' := fun a xs e => s _ _ e
theorem TK.dict {H : Hp} {p : Addr} {kvs kvs' : List (List Key × V)} (e : H p = some (.dT kvs)) : TK H (upd H p (.dT kvs')) := fun a xs ea => by
  rw [upd_ne (fun q => by rw [q, e] at ea; cases ea)]; exact ea
theorem TK.trans {H1 H2 H3 : Hp} (s : TK H1 H2) (t : TK H2 H3) : TK H1 H3 := fun a xs e => t _ _ (s _ _ e)
theorem CellAt.tk {H H' : Hp} (k : TK H H') {v : V} {c : Cell} (h : CellAt H v c) : CellAt H' v c := by
  rcases c with _ | ⟨e, _ | ⟨s, i, j⟩⟩
  · exact h
  · obtain ⟨q, rfl, h1⟩ := h
    exact ⟨q, rfl, k _ _ h1⟩
  · obtain ⟨q, a, b, rfl, h1, h2, h3⟩ := h
    exact ⟨q, a, b, rfl, k _ _ h1, k _ _ h2, k _ _ h3⟩
/-- the table, as far as it is filled -/
def FillAt (T : Nat → Nat → Cell) (bp : Addr) (F : Nat → Nat → Prop) (N : Nat) (H : Hp) : Prop := ∃ kvs, H bp = some (.dT kvs) ∧ kvs.length ≤ N ∧ ∀ i j, F i j → ∃ v, valV kvs (cellK i j) = some v ∧ CellAt H v (T i j)
theorem cellK_inj {i j p q : Nat} : cellK i j = cellK p q ↔ i = p ∧ j = q := by
  constructor
  · intro h
    have h1 := Sum.inl.inj (List.cons.inj h).1
    have h2 := Sum.inl.inj (List.cons.inj (List.cons.inj h).2).1
    omega
  · rintro ⟨rfl, rfl⟩; rfl
theorem FillAt.mono {T : Nat → Nat → Cell} {bp : Addr} {F F' : Nat → Nat → Prop} {N N' : Nat} {H : Hp} (h : FillAt T bp F N H) (hf : ∀ i j, F' i j → F i j) (hn : N ≤ N') : FillAt T bp F' N' H := by
  obtain ⟨kvs, h1, h2, h3⟩ := h
  exact ⟨kvs, h1, by omega, fun i j q => h3 i j (hf i j q)⟩
theorem FillAt.same {T : Nat → Nat → Cell} {bp : Addr} {F : Nat → Nat → Prop} {N : Nat} {H H' : Hp} (h : FillAt T bp F N H) (s : Same H H') : FillAt T bp F N H' := by
  obtain ⟨kvs, h1, h2, h3⟩ := h
  exact ⟨kvs, s _ _ h1, h2, fun i j q => let ⟨v, e, c⟩ := h3 i j q; ⟨v, e, c.same s⟩⟩
theorem FillAt.put {T : Nat → Nat → Cell} {bp : Addr} {F : Nat → Nat → Prop} {N i j : Nat} {H : Hp} {kvs : List (List Key × V)} {v : V} (e : H bp = some (.dT kvs)) (len : kvs.length ≤ N) (h : ∀ i j, F i j → ∃ v, valV kvs (cellK i j) = some v ∧ CellAt H v (T i j)) (c : CellAt H v (T i j)) :
    FillAt T bp (fun p q => F p q ∨ (p = i ∧ q = j)) (N + 1) (upd H bp (.dT (putK kvs (cellK i j) v))) := by
  refine ⟨_, upd_same, by have := length_putK kvs (cellK i j) v; omega, fun p q hpq => ?_⟩
  rw [valV_put]
  by_cases eq : p = i ∧ q = j
  · obtain ⟨rfl, rfl⟩ := eq
    rw [if_pos rfl]
    exact ⟨v, rfl, c.tk (TK.dict e)⟩
  · rw [if_neg (fun z => eq (cellK_inj.mp z))]
    rcases hpq with hpq | hpq
    · obtain ⟨v', e', c'⟩ := h p q hpq
      exact ⟨v', e', c'.tk (TK.dict e)⟩
    · exact (eq hpq).elim
theorem ways_near {a b : List Nat} {i j : Nat} {w : Pg × Nat × Nat} (h : w ∈ waysP a b i j) : (w.2.1 < i ∧ w.2.2 ≤ j) ∨ (w.2.1 = i ∧ w.2.2 < j) := by
  rcases i with _ | i <;> rcases j with _ | j <;> simp [waysP] at h
  · subst h; exact .inr ⟨rfl, Nat.lt_succ_self _⟩
  · subst h; exact .inl ⟨Nat.lt_succ_self _, Nat.le_refl _⟩
  · rcases h with rfl | rfl | rfl
    · exact .inl ⟨Nat.lt_succ_self _, Nat.le_succ _⟩
    · exact .inl ⟨Nat.lt_succ_self _, Nat.le_refl _⟩
    · exact .inr ⟨rfl, Nat.lt_succ_self _⟩
theorem ways_len (a b : List Nat) (i j : Nat) : (waysP a b i j).length ≤ 3 := by
  rcases i with _ | i <;> rcases j with _ | j <;> simp [waysP]
theorem eqv_pair (i j : Nat) : PyData.eqv (.tuple [.int (i : Nat), .int (j : Nat)]) (.tuple [.int 0, .int 0]) = decide (i = 0 ∧ j = 0) := by
  simp only [PyData.eqv, PyData.eqvAll]
  rcases i with _ | i <;> rcases j with _ | j <;> simp <;> omega
theorem sd_pair {i j : Nat} (h : i ≤ 7000) (h2 : j ≤ 7000) : Sd 1 500 (.tuple [.int (i : Nat), .int (j : Nat)]) :=
  (sd_tup' (.cons (sd_int (by omega)) (.cons (sd_int (by omega)) .nil))).mono (by omega) (by omega)
theorem i_revL {K : PySem.W.Frag} {te : TE} {σ : L2.St} {H : Hp} {Q : VK} (h : te σ H fun x H1 => ∃ a xs, x = .ref a ∧ SqL K H1 a xs ∧ ∀ p, H1 p = none → Q (.ref p) (upd H1 p (.lst xs.reverse))) : tRevL K te σ H Q := h
theorem DeAll.rev {K : PySem.W.Frag} {H : Hp} : ∀ {vs : List V} {ds : List PyData}, DeAll K H vs ds → DeAll K H vs.reverse ds.reverse
  | _, _, .nil => .nil
  | _, _, .cons h1 h2 => by
    rw [List.reverse_cons, List.reverse_cons]
    exact (DeAll.rev h2).app (.cons h1 .nil)
theorem Pg.noL (s : Pg) : noL s.dat = true := by cases s <;> simp [Pg.dat, Sw.noL, Sw.noLAll]
theorem Pg.noLs (ss : List Pg) : noLAll (ss.map Pg.dat) = true := noLAll_iff.mpr fun d hd => by
  obtain ⟨s, _, rfl⟩ := List.mem_map.mp hd
  exact s.noL
theorem Pg.de {K : PySem.W.Frag} {H : Hp} {p : Addr} {s : Pg} (e : H p = some (.tup s.vals)) : De K H (.ref p) s.dat := by
  cases s with
  | same a => exact .tup (sqT_of e) (.cons (.str _) (.cons (.int _) .nil))
  | lost a => exact .tup (sqT_of e) (.cons (.str _) (.cons (.int _) .nil))
  | put a => exact .tup (sqT_of e) (.cons (.str _) (.cons (.int _) .nil))
  | turned a b => exact .tup (sqT_of e) (.cons (.str _) (.cons (.int _) (.cons (.int _) .nil)))
theorem fwP_some {A : Pg → Bool} {a b : List Nat} {i j e : Nat} {r : Option (Pg × Nat × Nat)} (h : tb A a b i j = some (e, r)) : fwP A a b i j = some e := by unfold fwP; rw [h]; rfl
/-- least_passing(one, other, kinds) -/
def spLp (K : PySem.W.Frag) (C D : Addr) : Sp := fun vs H Q E => ∃ x y z d1 d2 d3, vs = [x, y, z] ∧ De K H x d1 ∧ De K H y d2 ∧ De K H z d3 ∧ LenOk d1 ∧ LenOk d2 ∧ KsOk d3 ∧
  ((lineB 5 d1 = false ∧ ∀ dx H', H dx = none → Same H H' → H' dx = some (.xd [("given", x)]) → E (.ref C) (some dx) H') ∨
   (lineB 5 d1 = true ∧ lineB 5 d2 = false ∧ ∀ dx H', H dx = none → Same H H' → H' dx = some (.xd [("given", y)]) → E (.ref C) (some dx) H') ∨
   (lineB 5 d1 = true ∧ lineB 5 d2 = true ∧ kindsB 5 d3 = false ∧ ∀ dx H', H dx = none → Same H H' → H' dx = some (.xd [("given", z)]) → E (.ref D) (some dx) H') ∨
   (lineB 5 d1 = true ∧ lineB 5 d2 = true ∧ kindsB 5 d3 = true ∧ ∃ (a b : List Nat) (ks : List Pg), LnAt K H x a ∧ LnAt K H y b ∧ KdsAt K H z ks ∧ (∀ n ∈ a, n < 5) ∧ (∀ n ∈ b, n < 5) ∧ (a.length + 1) * (b.length + 1) ≤ 7000 ∧ ks.length ≤ 1000 ∧
     ∀ v H', Same H H' → ToldAt K H' v (inP ks) a b → Q v H'))
section
variable {P : Program} {w : World} {K : PySem.W.Frag} {mg : Str → Option Value} {base : Heap} {f : Addr} {fd : FuncData}
theorem ok_lpX {C D : Addr} (F : Fun K "least_passing" "least_passing" s_least_passing f fd) (z : Z mg) (xk : XQ "InvalidKinds" P w K mg base D) {t5 : Tok} (g_MOST_SIGNS : mg "MOST_SIGNS" = some (.int 5 t5)) (x_check_line : CalX P w K mg base "check_line" ["line", "signs"] 4 (spCkL K C)) (c_are_kinds : Cal P w K mg base "are_kinds" ["value", "signs"] 5 (spKds K)) (c_last_steps : Cal P w K mg base "last_steps" ["one", "other", "i", "j"] 1 (spLast K)) (c_least_end : Cal P w K mg base "least_end" ["best", "ways", "allowed"] 1 spEnd) : FnOk P w K mg base (L2.CX P w) 6 f fd ["one", "other", "kinds"] (spLp K C D) := by
  refine Sw.Fun.okX F sc_least_passing (fun vs H Q E h => ?_) (fun cdv A outer s H vs Q E hr h tk => ?_)
  · obtain ⟨x, y, z, d1, d2, d3, rfl, _⟩ := h; rfl
  · obtain ⟨x, y, zz, d1, d2, d3, rfl, hx, hy, hz, l1, l2, l3, hk⟩ := h
    refine ⟨_, (pss_cons (ps_expr (pe_calX x_check_line hr tk (pa_cons (pv 0) (pa_cons (pe_glob (v := .int 5) rfl g_MOST_SIGNS ⟨_, rfl⟩) pa_nil))))
      (pss_cons (ps_expr (pe_calX x_check_line hr tk (pa_cons (pv 1) (pa_cons (pe_glob (v := .int 5) rfl g_MOST_SIGNS ⟨_, rfl⟩) pa_nil))))
      (pss_cons (ps_if (pt_not (pt_val (pe_cal c_are_kinds hr (pa_cons (pv 2) (pa_cons (pe_glob (v := .int 5) rfl g_MOST_SIGNS ⟨_, rfl⟩) pa_nil)))))
        (pss_one (ps_rs rfl tk (pmk_Q xk hr (pv 2))))
        pss_nil)
      (pss_cons (ps_par3 (i := 3) (j := 4) (l := 5) rfl sc_least_passing.nd rfl rfl rfl (by decide) (by decide) (by decide) rfl rfl rfl (pa_cons (pe_dcT (own := [("kind", 6)]) (g := gName 6) (room1 hr.units) rfl sc_least_passing.nd (pi_seqV (pv 2)) (blkOk_by (own := [("kind", 6)]) (N := n_least_passing) (sc := defScope s_least_passing) (by decide +kernel)) (fun _ _ _ _ _ => (pg_name (i := 6) sc_least_passing.nd rfl (.inl rfl))) (fun _ _ _ _ _ => (pv 6)) (fun _ _ _ _ _ => pe_bl)) (pa_cons (pe_disp1T (room1 hr.units) (pe_tup (pa_cons pe_int (pa_cons pe_int pa_nil))) (pe_tup (pa_cons pe_int (pa_cons pe_non (pa_cons pe_non pa_nil))))) (pa_cons (pe_lst pa_nil) pa_nil))) (by rfl))
      (pss_cons (ps_for PassesOwn.leaving rfl (pi_range1 (by rfl) z.range (pa_cons (pe_op op_add (pe_callB call_lenQ (by rfl) z.len PySem.boot_len (pa_cons (pv 0) pa_nil)) pe_int) pa_nil)) (pg_name (i := 7) sc_least_passing.nd rfl (.inl rfl))
        (pss_one (ps_for PassesOwn.leaving rfl (pi_range1 (by rfl) z.range (pa_cons (pe_op op_add (pe_callB call_lenQ (by rfl) z.len PySem.boot_len (pa_cons (pv 1) pa_nil)) pe_int) pa_nil)) (pg_name (i := 8) sc_least_passing.nd rfl (.inl rfl))
          (pss_one (ps_if (pt_cmpR op_gt (pe_op op_add (pv 7) (pv 8)) pe_int (nomark _))
            (pss_one (ps_asg (pe_cal c_least_end hr (pa_cons (pv 4) (pa_cons (pe_cal c_last_steps hr (pa_cons (pv 0) (pa_cons (pv 1) (pa_cons (pv 7) (pa_cons (pv 8) pa_nil))))) (pa_cons (pv 3) pa_nil)))) (pg_sub (pv 4) (pe_tup (pa_cons (pv 7) (pa_cons (pv 8) pa_nil))) (set_dict (room1 hr.units)))))
            pss_nil)))))
      (pss_cons (ps_set (i := 9) sc_least_passing.nd rfl (.inl rfl) (pe_tup (pa_cons (pe_callB call_lenQ (by rfl) z.len PySem.boot_len (pa_cons (pv 0) pa_nil)) (pa_cons (pe_callB call_lenQ (by rfl) z.len PySem.boot_len (pa_cons (pv 1) pa_nil)) pa_nil))))
      (pss_cons (ps_while PassesOwn.leaving (PW.pt (pw_and (pt_cmpR op_notN (pe_dget (room1 hr.units) (pv 4) (pv 9) (fun _ _ => rfl)) pe_non (nomark _)) (pw_and1 (pt_cmpR (op_neD hr.units) (pv 9) (pe_tup (pa_cons pe_int (pa_cons pe_int pa_nil))) (nomark _)))))
        (pss_cons (ps_asg (pe_slice sl_tupA (pe_dget (room1 hr.units) (pv 4) (pv 9) (fun _ _ => rfl)) (po_some pe_int) po_none) (pg_tup rfl (pgs_cons (pg_name (i := 10) sc_least_passing.nd rfl (.inl rfl)) (pgs_cons (pg_name (i := 9) sc_least_passing.nd rfl (.inl rfl)) pgs_nil))))
        (pss_one (ps_expr (pe_bm PySem.F.plainAttrs_list PySem.F.slot_list_append PySem.F.type_list_append mt_append (pv 5) (pa_cons (pv 10) pa_nil))))))
      (pss_one (ps_ret (pe_ifExp (pt_cmpR op_isNo (pe_dget (room1 hr.units) (pv 4) (pv 9) (fun _ _ => rfl)) pe_non (nomark _)) pe_non (pe_callTy call_tuple_of (by rfl) z.tuple (by decide +kernel) (pa_cons (pe_revL (pv 5)) pa_nil)))))))))))), ?_⟩
    walk_at "rd"
    refine ⟨x, d1, 5, rfl, hx, l1, fun e1 H1 s1 => ?_, fun e1 => ?_⟩
    case refine_2 =>
      rcases hk with ⟨_, k⟩ | ⟨q, _⟩ | ⟨q, _⟩ | ⟨q, _⟩
      · exact k
      · rw [e1] at q; cases q
      · rw [e1] at q; cases q
      · rw [e1] at q; cases q
    walk_at "rd"
    refine ⟨y, d2, 5, rfl, hy.same s1, l2, fun e2 H2 s2 => ?_, fun e2 => ?_⟩
    case refine_2 =>
      rcases hk with ⟨q, _⟩ | ⟨_, _, k⟩ | ⟨_, q, _⟩ | ⟨_, q, _⟩
      · rw [e1] at q; cases q
      · exact fun dx H' n s2 e => k dx H' (s1.free n) (s1.trans s2) e
      · rw [e2] at q; cases q
      · rw [e2] at q; cases q
    have s12 := s1.trans s2
    walk_at "rd"
    refine ⟨zz, d3, 5, rfl, hz.same s12, by omega, by omega, l3, fun H3 s3 => ?_⟩
    have s13 := s12.trans s3
    walk_at "rd"
    refine iteNC (fun e3 => ?_) (fun e3 => ?_)
    · walk_at "rd"
      refine i_thrown xk.T xk.no (fun dx nx => ?_)
      rcases hk with ⟨q, _⟩ | ⟨_, q, _⟩ | ⟨_, _, _, k⟩ | ⟨_, _, q, _⟩
      · rw [e1] at q; cases q
      · rw [e2] at q; cases q
      · exact k dx _ (s13.free nx) (s13.trans (same_upd nx)) upd_same
      · rw [e3] at q; cases q
    obtain ⟨a, b, ks, ⟨pa, rfl, ha⟩, ⟨pb, rfl, hb⟩, ⟨pz, vs, rfl, hvs, hks⟩, a5, b5, size, lks, k⟩ : ∃ (a b : List Nat) (ks : List Pg), LnAt K H x a ∧ LnAt K H y b ∧ KdsAt K H zz ks ∧ (∀ n ∈ a, n < 5) ∧ (∀ n ∈ b, n < 5) ∧ (a.length + 1) * (b.length + 1) ≤ 7000 ∧ ks.length ≤ 1000 ∧
       ∀ v H', Same H H' → ToldAt K H' v (inP ks) a b → Q v H' := by
      rcases hk with ⟨q, _⟩ | ⟨_, q, _⟩ | ⟨_, _, q, _⟩ | ⟨_, _, _, k⟩
      · rw [e1] at q; cases q
      · rw [e2] at q; cases q
      · rw [e3] at q; cases q
      · exact k
    walk_at "rd"
    have hvs3 : SqL K H3 pz vs ∨ SqT K H3 pz vs := hvs.imp (fun q => Same.sqL s13 q) (fun q => Same.sqT s13 q)
    have lvs : vs.length = ks.length := Paired.length hks
    refine i_seqV rfl hvs3 fun J w => ?_
    refine go_dcT w (fun p i Hx => ∃ kvs, Hx p = some (.dT kvs) ∧ kvs.length ≤ i ∧ (∀ s : Pg, (valV kvs s.key).isSome = inP (ks.take i) s) ∧ Same H3 Hx)
      (fun p np => ⟨[], upd_same, Nat.le_refl _, fun s => by rw [List.take_zero]; rfl, same_upd np⟩) (fun p i Hx np hi q => q.choose_spec.2.2.2) (fun p np i v Hx Hy hi q y => ?_) (fun al H4 nal q => ?_)
    · obtain ⟨kvs, ep, el, eq, sx⟩ := q
      obtain ⟨rfl, hv⟩ := y
      obtain ⟨kd, gk, t, rfl, et⟩ := pairedAt hks hv
      have et := sx _ _ (s13 _ _ et)
      walk_at "rd"
      refine ⟨rfl, ?_⟩
      walk_at "rd"
      refine ⟨kvs, kd.key, t, rfl, by rw [kd.kvals]; exact et, ep, Nat.lt_of_le_of_lt (show kvs.length ≤ 1000 by omega) (Nat.lt_of_lt_of_le (by decide : 1000 < 100000) (Nat.le_of_ble_eq_true rfl)), _, upd_same, ?_, ?_, Same.set_new sx np⟩
      · have := length_putK kvs kd.key (.bl true); omega
      · intro s
        rw [valV_put, List.take_add_one, gk]
        by_cases c : s = kd
        · subst c
          rw [if_pos rfl]; simp [inP]
        · rw [if_neg (fun q => c (Pg.key_inj.mp q)), eq]; simp [inP, c]
    obtain ⟨alv, eal, _, hal, s34⟩ := q
    rw [lvs, List.take_length] at hal
    walk_at "rd"
    intro bp nb
    walk_at "rd"
    refine newT0 (Nat.le_of_ble_eq_true rfl) fun t1 H5 nt1 s5 et1 => ?_
    walk_at "rd"
    refine newT0 (Nat.le_of_ble_eq_true rfl) fun t2 H6 nt2 s6 et2 => ?_
    have sb : Same (upd H4 bp (.dT [])) H6 := s5.trans s6
    have eb6 : H6 bp = some (.dT []) := sb _ _ upd_same
    refine ⟨t1, cellK 0 0, rfl, eb6, s6 _ _ et1, ?_⟩
    have ne2 : t2 ≠ bp := fun q => by rw [q, eb6] at et2; cases et2
    have F0 : FillAt (tb (inP ks) a b) bp (fun i j => i = 0 ∧ j = 0) 1 (upd H6 bp (.dT [(cellK 0 0, .ref t2)])) := by
      refine ⟨_, upd_same, Nat.le_refl _, ?_⟩
      rintro i j ⟨rfl, rfl⟩
      refine ⟨.ref t2, valV_pos rfl, ?_⟩
      rw [tb_00]
      exact ⟨t2, rfl, by rw [upd_ne ne2]; exact et2⟩
    have sH : Same H4 (upd H6 bp (.dT [(cellK 0 0, .ref t2)])) := Same.set_new ((same_upd nb).trans sb) nb
    have nb3 := s34.free nb
    generalize upd H6 bp (.dT [(cellK 0 0, .ref t2)]) = H7 at *
    walk_at "rd"
    refine newL0 (Nat.le_of_ble_eq_true rfl) fun fp H8 nfp s8 ef => ?_
    walk_at "rd"
    have ha' : ∀ {Hx}, Same H3 Hx → SqT K Hx pa (a.map iV) := fun s => Same.sqT (s13.trans s) ha
    have hb' : ∀ {Hx}, Same H3 Hx → SqT K Hx pb (b.map iV) := fun s => Same.sqT (s13.trans s) hb
    have s38 : Same H3 H8 := s34.trans (sH.trans s8)
    have nf3 : H3 fp = none := (s34.trans sH).free nfp
    have eal8 := s8 _ _ (sH _ _ eal)
    have la : a.length < 7000 := by
      have := Nat.le_mul_of_pos_right (a.length + 1) (show 0 < b.length + 1 by omega); omega
    have lb : b.length < 7000 := by
      have := Nat.le_mul_of_pos_left (b.length + 1) (show 0 < a.length + 1 by omega); omega
    refine i_lenSqT (ha' s38) ?_
    walk_at "rd"
    rw [List.length_map]
    refine i_rng (by omega) (by omega) ?_
    rw [show ((a.length : Int) + 1).toNat = a.length + 1 by omega]
    have neab : al ≠ bp := fun q => by rw [← q, sH.free nfp |> fun _ => eal] at nb; cases nb
    refine go_for walk_rangeZ (fun i σ Hx => ∃ (u6 u7 u8 u9 u10 : Option V), σ = [some (.ref pa), some (.ref pb), some (.ref pz), some (.ref al), some (.ref bp), some (.ref fp), u6, u7, u8, u9, u10] ∧ Same H4 Hx ∧ Hx fp = some (.lst []) ∧ FillAt (tb (inP ks) a b) bp (fun p q => (p < i ∧ q ≤ b.length) ∨ (p = 0 ∧ q = 0)) (1 + i * (b.length + 1)) Hx)
      ⟨_, _, _, _, _, rfl, sH.trans s8, ef, (F0.same s8).mono (fun p q h => by omega) (by omega)⟩ (fun _ _ _ _ _ => trivial) (fun i v σ Hx Hy hi h y => ?_) (fun σ Hx h => ?_)
    · obtain ⟨u6, u7, u8, u9, u10, rfl, sx, ef', fl⟩ := h
      obtain ⟨rfl, rfl⟩ := y
      walk_at "rd"
      refine i_lenSqT (hb' (s34.trans sx)) ?_
      walk_at "rd"
      rw [List.length_map]
      refine i_rng (by omega) (by omega) ?_
      rw [show ((b.length : Int) + 1).toNat = b.length + 1 by omega]
      refine go_for walk_rangeZ (fun j σ Hx => ∃ (u6 u8 u9 u10 : Option V), σ = [some (.ref pa), some (.ref pb), some (.ref pz), some (.ref al), some (.ref bp), some (.ref fp), u6, some (iV i), u8, u9, u10] ∧ Same H4 Hx ∧ Hx fp = some (.lst []) ∧ FillAt (tb (inP ks) a b) bp (fun p q => (p < i ∧ q ≤ b.length) ∨ (p = i ∧ q < j) ∨ (p = 0 ∧ q = 0)) (1 + i * (b.length + 1) + j) Hx)
        ⟨_, _, _, _, rfl, sx, ef', fl.mono (fun p q h => by omega) (by omega)⟩ (fun _ _ _ _ _ => trivial) (fun j v σ Hx Hy hj h y => ?_) (fun σ Hx h => ?_)
      · obtain ⟨u6, u8, u9, u10, rfl, sx, ef', fl⟩ := h
        obtain ⟨rfl, rfl⟩ := y
        walk_at "rd"
        refine iteB (fun pos => ?_) (fun npos => ?_)
        · walk_at "rd"
          refine ⟨pa, pb, a, b, i, j, rfl, ha' (s34.trans sx), hb' (s34.trans sx), by omega, by omega, fun r xs H9 W => ?_⟩
          have s9 := W.s
          obtain ⟨kvs, ek, lk, hk'⟩ := fl.same s9
          walk_at "rd"
          refine ⟨bp, r, al, kvs, alv, xs, waysP a b i j, inP ks, tb (inP ks) a b, 0, rfl, ek, W.e, s9 _ _ (sx _ _ eal), W.pr, hal, fun w hw => hk' _ _ ?_, ?_, fun v H10 s10 cv => ?_⟩
          · have := ways_near hw; omega
          · have := ways_len a b i j; rw [W.len]; omega
          walk_at "rd"
          refine newT0 (Nat.le_of_ble_eq_true rfl) fun t3 H11 nt3 s11 et3 => ?_
          rw [fold_tb (by omega)] at cv
          obtain ⟨kvs', ek', lk', hk''⟩ := ((fl.same s9).same s10).same s11
          have lt : kvs'.length < sizeLine := by
            have h1 : 1 + i * (b.length + 1) + j ≤ (a.length + 1) * (b.length + 1) := by
              have h2 : i * (b.length + 1) + (b.length + 1) ≤ (a.length + 1) * (b.length + 1) := by
                rw [← Nat.succ_mul]; exact Nat.mul_le_mul_right _ (by omega)
              omega
            exact Nat.lt_of_le_of_lt (show kvs'.length ≤ 7000 by omega) (Nat.lt_of_lt_of_le (by decide : 7000 < 100000) (Nat.le_of_ble_eq_true rfl))
          refine i_setD (ks := cellK i j) ek' et3 lt ?_
          have sc := sx.trans (s9.trans (s10.trans s11))
          have nef : fp ≠ bp := fun q => by have z := (s9.trans (s10.trans s11)) _ _ ef'; rw [q, ek'] at z; cases z
          refine ⟨_, _, _, _, rfl, Same.set_new sc nb, ?_, (FillAt.put ek' lk' hk'' (cv.same s11)).mono (fun p q h => by omega) (by omega)⟩
          rw [upd_ne nef]
          exact (s9.trans (s10.trans s11)) _ _ ef'
        · obtain rfl : i = 0 := by omega
          obtain rfl : j = 0 := by omega
          walk_at "rd"
          exact ⟨_, _, _, _, rfl, sx, ef', fl.mono (fun p q h => by omega) (by omega)⟩
      · obtain ⟨u6, u8, u9, u10, rfl, sx, ef', fl⟩ := h
        exact ⟨_, _, _, _, _, rfl, sx, ef', fl.mono (fun p q h => by omega) (by rw [Nat.succ_mul]; omega)⟩
    obtain ⟨u6, u7, u8, u9, u10, rfl, sx, ef', fl⟩ := h
    walk_at "rd"
    refine i_lenSqT (ha' (s34.trans sx)) ?_
    walk_at "rd"
    refine i_lenSqT (hb' (s34.trans sx)) ?_
    walk_at "rd"
    rw [List.length_map, List.length_map]
    refine newT0 (Nat.le_of_ble_eq_true rfl) fun ep H9 nep s9 ee => ?_
    obtain ⟨kvs, ek, _, hk'⟩ := fl.same s9
    have hk' : ∀ p q, p ≤ a.length → q ≤ b.length → ∃ v, valV kvs (cellK p q) = some v ∧ CellAt H9 v (tb (inP ks) a b p q) := fun p q hp hq => hk' p q (.inl ⟨by omega, hq⟩)
    have ef9 := s9 _ _ ef'
    have s39 := s34.trans (sx.trans s9)
    obtain ⟨vE, evE, cvE⟩ := hk' a.length b.length (Nat.le_refl _) (Nat.le_refl _)
    walk_at "rd"
    rcases eT : tb (inP ks) a b a.length b.length with _ | ⟨e0, r0⟩
    · rw [eT] at cvE
      cases (show vE = V.non from cvE)
      refine go_while (fun m σ Hx => σ = [some (.ref pa), some (.ref pb), some (.ref pz), some (.ref al), some (.ref bp), some (.ref fp), u6, u7, u8, some (.ref ep), u10] ∧ Hx = H9) 0 ⟨rfl, rfl⟩ (fun m σ Hx h => ?_)
      obtain ⟨rfl, rfl⟩ := h
      walk_at "rd"
      refine i_dgetT (ks := cellK a.length b.length) ek ee evE ?_
      walk_at "rd"
      refine ⟨rfl, ?_⟩
      rw [show decide (V.non = V.non) = true from rfl]
      walk_at "rd"
      refine i_dgetT (ks := cellK a.length b.length) ek ee evE ?_
      walk_at "rd"
      exact k _ _ (s13.trans s39) (.inl ⟨by unfold fwP; rw [eT]; rfl, rfl⟩)
    · refine go_while (fun m σ Hx => ∃ (i j : Nat) (ss : List Pg) (ts : List V) (e : Addr) (u10 : Option V), σ = [some (.ref pa), some (.ref pb), some (.ref pz), some (.ref al), some (.ref bp), some (.ref fp), u6, u7, u8, some (.ref e), u10] ∧ m = i + j ∧ Hx e = some (.tup [iV i, iV j]) ∧ Hx fp = some (.lst ts) ∧ DeAll K Hx ts (ss.reverse.map Pg.dat) ∧ (FndP (inP ks) a b 5 i j ss ∧ ∀ res, RunP (inP ks) a b i j ss res → RunP (inP ks) a b a.length b.length [] res) ∧ KeepP fp H9 Hx ∧ Same H3 Hx)
        (a.length + b.length) ⟨a.length, b.length, [], [], ep, _, rfl, rfl, ee, ef9, .nil, ⟨FndP.start eT, fun _ h => h⟩, (fun _ _ _ h => h), s39⟩ (fun m σ Hx h => ?_)
      obtain ⟨i, j, ss, ts, e, u10, rfl, rfl, ee, ef, hd, ⟨fd', run⟩, kp, sx'⟩ := h
      have hi := fd'.i
      have hj := fd'.j
      obtain ⟨vC, evC, cvC⟩ := hk' i j hi hj
      obtain ⟨e1, e2, r1, r2, t1, t2', c12⟩ := fd'.c
      have ekx : Hx bp = some (.dT kvs) := kp _ _ (.inr fun _ q => by cases q) ek
      have cvC := cvC.keep kp
      rw [t1] at cvC
      obtain ⟨pc, y1, y2, rfl, epc⟩ : ∃ pc y1 y2, vC = .ref pc ∧ Hx pc = some (.tup [iV e1, y1, y2]) := by
        rcases r1 with _ | ⟨s', i', j'⟩
        · obtain ⟨pc, e1, e2⟩ := cvC; exact ⟨pc, _, _, e1, e2⟩
        · obtain ⟨pc, _, _, e1, e2, _⟩ := cvC; exact ⟨pc, _, _, e1, e2⟩
      walk_at "rd"
      refine i_dgetT (ks := cellK i j) ekx ee evC ?_
      walk_at "rd"
      refine ⟨rfl, ?_⟩
      rw [show decide (V.ref pc = V.non) = false from decide_eq_false (fun q => by cases q)]
      refine ⟨true, rfl, ?_⟩
      rw [if_pos rfl]
      walk_at "rd"
      refine newT0 (Nat.le_of_ble_eq_true rfl) fun zp H10 n10 s10 e10 => ?_
      refine i_neE (d := .tuple [.int (i : Nat), .int (j : Nat)]) (e := .tuple [.int 0, .int 0]) (.tup (sqT_of (s10 _ _ ee)) (.cons (.int _) (.cons (.int _) .nil))) (.tup (sqT_of e10) (.cons (.int _) (.cons (.int _) .nil))) (sd_pair (by omega) (by omega)) (sd_pair (i := 0) (j := 0) (by omega) (by omega)) (by simp [PyData.hasDict, PyData.hasDictAll]) (by simp [PyData.hasDict, PyData.hasDictAll]) ?_
      rw [eqv_pair]
      by_cases c : i = 0 ∧ j = 0
      · rw [decide_eq_true c]
        obtain ⟨rfl, rfl⟩ := c
        walk_at "rd"
        refine i_dgetT (ks := cellK 0 0) (s10 _ _ ekx) (s10 _ _ ee) evC ?_
        walk_at "rd"
        have ef10 := s10 _ _ ef
        have hd10 := hd.same s10
        refine i_revL (i_var rfl ?_)
        refine ⟨_, _, rfl, sqL_of ef10, fun q nq => ?_⟩
        walk_at "rd"
        refine ⟨_, _, rfl, .inl ⟨sqL_of upd_same, fun l nl => ?_⟩⟩
        have hd11 := (hd10.same (same_upd (o := .lst ts.reverse) nq)).rev
        rw [← List.map_reverse, List.reverse_reverse] at hd11
        have due := fwP_some eT
        exact k _ _ (s13.trans (sx'.trans (s10.trans ((same_upd nq).trans (same_upd nl))))) (.inr ⟨e0, ss, l, due, run _ .done, fd'.whole due, rfl, .tup (sqT_of upd_same) (hd11.same (same_upd nl))⟩)
      · rw [decide_eq_false c]
        walk_at "rd"
        refine next_turn ?_
        rcases r1 with _ | ⟨st, i', j'⟩
        · obtain ⟨z1, z2, _⟩ := tb_zero t1
          exact (c ⟨z1, z2⟩).elim
        obtain ⟨pc', sa, sb', epp, epc', esa, esb⟩ := cvC
        cases epp
        rw [epc] at epc'
        cases epc'
        obtain ⟨fd2, lt⟩ := fd'.next t1 a5 b5
        walk_at "rd"
        refine i_dgetT (ks := cellK i j) (s10 _ _ ekx) (s10 _ _ ee) evC ?_
        walk_at "rd"
        refine i_slTF (k := 1) (sqT_of (s10 _ _ epc)) fun pw HW sW haW => ?_
        refine ⟨pw, _, rfl, haW, rfl, ?_⟩
        rw [show List.drop 1 [iV e1, V.ref sa, V.ref sb'] = [V.ref sa, V.ref sb'] from rfl]
        walk_at "rd"
        have sxW := s10.trans sW
        have efW := sxW _ _ ef
        have dle : ts.length < sizeLine := by
          have e1 := hd.len
          have e2 := fd'.n
          rw [List.length_map, List.length_reverse] at e1
          exact Nat.lt_of_le_of_lt (m := 14000) (by omega) (Nat.lt_of_lt_of_le (by decide : 14000 < 100000) (Nat.le_of_ble_eq_true rfl))
        refine i_append efW dle ?_
        have nu : sb' ≠ fp := fun q => by rw [q, ef] at esb; cases esb
        have := push_val efW (hd.same sxW) (Pg.noLs _) (Pg.de (sxW _ _ esa)) st.noL
        refine ⟨i' + j', lt, i', j', st :: ss, _, sb', _, rfl, rfl, upd_skip nu (sxW _ _ esb), upd_same, ?_, ⟨fd2, fun res r => run res (.step t1 r)⟩, kp.trans ((Same.keepP sxW).trans (keepP_upd efW)), Same.set_new (sx'.trans sxW) nf3⟩
        rw [List.reverse_cons, List.map_append]; exact this
end
end Sw
namespace Sw
open PySem PySem.Spec PyProof.Rows L2
local macro_rules | `(tactic| walk_at "hp") => `(tactic| first
  | (with_reducible assumption) | (with_reducible exact upd_same)
  | ((with_reducible refine' upd_old ?q1 ?q2); (case q1 => (with_reducible assumption)); (case q2 => walk_at "hp"))
  | ((with_reducible refine' Same.at ?q1 ?q2); (case q1 => (with_reducible assumption)); (case q2 => walk_at "hp"))
  | ((with_reducible refine' upd_skip ?q1 ?q2); (case q1 => walk_at "ne"); (case q2 => walk_at "hp"))
  | fail)
local macro_rules | `(tactic| walk_at "ne") => `(tactic| first
  | (with_reducible assumption) | (with_reducible exact Ne.symm (by assumption))
  | ((with_reducible refine' ne_of_none ?q1 ?q2); (case q2 => (with_reducible assumption)); (case q1 => walk_at "hp"))
  | fail)
local macro_rules | `(tactic| walk_at "ci") => `(tactic| first | assumption | (show (0 : Int) < _; first | decide | (with_reducible omega)) | exact ⟨by decide, by decide⟩ | exact .inl ⟨by decide, by decide⟩ | exact .inr ⟨by decide, by decide⟩)
local macro_rules | `(tactic| walk_at "ln") => `(tactic| first | (with_reducible assumption) | (with_reducible omega) | (simp only [List.length_append, List.length_take, List.length_drop, List.length_reverse, List.length_cons, List.length_nil]; with_reducible omega))
local macro_rules | `(tactic| walk_at "rd1") => `(tactic| first
  | (with_reducible refine i_seq ?_) | (with_reducible refine i_asg ?_) | (with_reducible refine i_ret ?_) | (with_reducible refine i_name ?_) | ((with_reducible refine' i_var ?q1 ?_); (case q1 => exact rfl)) | (with_reducible refine i_c ?_) | (with_reducible refine i_op ?_) | (with_reducible refine i_un ?_)
  | (with_reducible refine i_rI0 ?_) | (with_reducible refine i_cb ?_) | (with_reducible refine i_cons ?_) | (with_reducible refine i_nil ?_) | (with_reducible refine i_call ?_) | (with_reducible refine i_if ?_) | (with_reducible refine i_ifE ?_) | (with_reducible refine i_test ?_) | (with_reducible refine i_bl ?_)
  | (with_reducible refine i_and ?_) | (with_reducible refine i_or ?_) | (with_reducible refine i_not ?_) | (with_reducible refine i_lstM ?_) | (with_reducible refine i_lstLM ?_) | (with_reducible refine i_tupM ?_) | (with_reducible refine i_next ?_) | (with_reducible refine i_drop ?_) | (with_reducible refine i_sub ?_)
  | (with_reducible refine i_bm ?_) | (with_reducible refine i_sl ?_) | (with_reducible refine i_part ?_) | (with_reducible refine i_nopart ?_) | (with_reducible refine i_exI ?_) | (with_reducible refine i_chain ?_) | ((with_reducible refine' i_aug ?q1 ?_); (case q1 => exact rfl)) | (with_reducible refine i_ip ?_)
  | (with_reducible refine i_par ?_) | (with_reducible refine i_pair ?_) | (with_reducible refine i_andV ?_) | (with_reducible refine i_orV ?_) | (with_reducible refine i_notV ?_) | (with_reducible refine i_m1 ?_) | (with_reducible refine i_str ?_)
  | (with_reducible refine iteF ?_) | (with_reducible refine iteT ?_) | (with_reducible refine iteNT ?_) | (with_reducible refine iteNF ?_) | (with_reducible refine i_tyS ?_) | (with_reducible refine i_tB ?_) | (with_reducible refine i_retN ?_) | (with_reducible refine i_par3 ?_) | (with_reducible refine i_trip ?_) | (with_reducible refine i_gCons ?_) | (with_reducible refine i_gNil ?_) | (with_reducible refine i_lstRg ?_) | (with_reducible refine i_rg1 ?_)
  | (with_reducible refine i_lc ?_) | (with_reducible refine i_for ?_) | (with_reducible refine i_iList ?_) | (with_reducible refine i_iTup ?_) | (with_reducible refine i_iStr ?_) | (with_reducible refine i_iRng1 ?_) | (with_reducible refine i_iEnS ?_)
  | ((with_reducible refine' i_ixTH ?q1 ?q2 ?_); (case q1 => walk_at "hp"); (case q2 => exact rfl))
  | ((with_reducible refine' i_ixLH ?q1 ?q2 ?_); (case q1 => walk_at "hp"); (case q2 => exact rfl))
  | ((with_reducible refine i_addS ?q1 ?_); (case q1 => walk_at "ln")) | ((with_reducible refine i_lenSS ?q1 ?_); (case q1 => walk_at "ln")) | ((with_reducible refine i_slFrom ?q1 ?q2 ?_); (case q1 => walk_at "ln"); (case q2 => walk_at "ln")) | ((with_reducible refine i_slTo ?q1 ?q2 ?_); (case q1 => walk_at "ln"); (case q2 => walk_at "ln"))
  | ((with_reducible refine' i_tyL ?q1 ?_); (case q1 => walk_at "hp"))
  | ((with_reducible refine' i_gTupH ?q1 ?q2 ?_); (case q1 => walk_at "hp"); (case q2 => exact rfl))
  | (with_reducible refine i_dnewM ?_) | (with_reducible refine i_init ?_) | (with_reducible refine i_fst ?_) | (with_reducible refine i_mk ?_) | (with_reducible refine i_raise ?_) | (with_reducible refine i_callS ?_) | (with_reducible refine i_kwS ?_)
  | (with_reducible refine i_revT ?_) | (with_reducible refine i_kw ?_) | ((with_reducible refine' ⟨_, _, rfl, sqT_of ?q1, ?_⟩); (case q1 => walk_at "hp"))
  | (with_reducible refine i_revS ?_) | ((with_reducible refine i_revSS ?q1 ?_); (case q1 => walk_at "ln"))
  | (with_reducible refine i_startS ?_) | (with_reducible refine i_inSg ?_) | (with_reducible refine i_absN ?_) | (with_reducible refine i_min2 ?_) | (with_reducible refine i_max2 ?_) | (with_reducible refine i_min3 ?_) | (with_reducible refine i_intN ?_) | (with_reducible refine i_intNB ?_)
  | ((with_reducible refine' i_lenL ?q1 ?_); (case q1 => walk_at "hp")) | ((with_reducible refine' i_lenT ?q1 ?_); (case q1 => walk_at "hp"))
  | (with_reducible refine i_eqI ?_) | (with_reducible refine i_neI ?_) | (with_reducible refine i_eqS ?_) | (with_reducible refine i_neS ?_) | (with_reducible refine i_isNoI ?_) | (with_reducible refine i_isNoN ?_) | (with_reducible refine i_isNoR ?_)
  | ((with_reducible refine i_pow ?q1 ?q2 ?q3 ?_); (case q1 => decide); (case q2 => decide); (case q3 => (with_reducible omega)))
  | ((with_reducible refine i_rI ?q1 ?_); (case q1 => walk_at "ci"))
  | (with_reducible refine Or.inl ⟨_, rfl, ?_⟩) | (with_reducible refine Or.inr ⟨_, rfl, ?_⟩) | (with_reducible refine ⟨_, rfl, ?_⟩) | (with_reducible refine ⟨_, _, rfl, ?_⟩) | (with_reducible refine ⟨_, _, rfl, rfl, ?_⟩)
  | ((with_reducible refine' ⟨_, _, rfl, Or.inl (sqL_of ?q1), ?_⟩); (case q1 => walk_at "hp")) | ((with_reducible refine' ⟨_, _, rfl, Or.inr (sqT_of ?q1), ?_⟩); (case q1 => walk_at "hp")) | (with_reducible refine i_dget ?_) | (with_reducible refine i_disp1T ?_) | (with_reducible refine i_dcT ?_) | (with_reducible refine i_dnewT ?_) | fail)
local macro_rules | `(tactic| walk_at "rd") => `(tactic| repeat' walk_at "rd1")

/-! ### lists of kinds -/
theorem eqvAll_nil (ds : List PyData) : PyData.eqvAll ds [] = ds.isEmpty := by cases ds <;> simp [PyData.eqvAll]
theorem dp_of {K : PySem.W.Frag} {H : Hp} : ∀ {vs : List V} {ds : List PyData}, DeAll K H vs ds → (∀ y ∈ ds, y.hasDict = false) → DpAll K H vs ds
  | _, _, .nil, _ => .nil
  | _, _, .cons h1 h2, z => .cons (h1.dp (z _ List.mem_cons_self)) (dp_of h2 fun y hy => z y (List.mem_cons_of_mem _ hy))
theorem i_neL {K : PySem.W.Frag} {H : Hp} {a b : Addr} {vs : List V} {ds : List PyData} {n w : Nat} {Q : VK} (h1 : H a = some (.lst vs)) (h2 : DeAll K H vs ds) (h3 : H b = some (.lst [])) (s : SdAll n w ds) (z : ∀ y ∈ ds, y.hasDict = false) (k : Q (.bl (!ds.isEmpty)) H) (hn : n ≤ 50 := by omega) : rNeD K (.ref a) (.ref b) H Q := by
  refine ⟨.list ds, .list [], .lst (sqL_of h1) (dp_of h2 z), .lst (sqL_of h3) .nil, (sd_lst' s).shaped (by omega) ?_, (sd_lst' (n := 0) SdAll.nil).shaped (by omega) (by simp [PyData.hasDict, PyData.hasDictAll]), ?_⟩
  · have := hasDict_tup.mpr z
    simpa only [PyData.hasDict] using this
  · rw [show PyData.eqv (.list ds) (.list []) = ds.isEmpty by simp only [PyData.eqv]; exact eqvAll_nil ds]; exact k
theorem Pg.flat (s : Pg) : s.dat.hasDict = false := by cases s <;> simp [Pg.dat, PyData.hasDict, PyData.hasDictAll]
theorem Pg.sd {s : Pg} (h : s.top < 500) : Sd 1 40 s.dat := by
  have w : ∀ {l : List Nat}, (∀ c ∈ l, c ≤ 1000) → l.length ≤ 6 → Sd 0 6 (.str (S l)) := fun h1 h2 => (sd_str h1).mono (by omega) h2
  have i : ∀ {n : Nat}, n < 500 → Sd 0 9 (.int (n : Int)) := fun h => sd_int9 (by omega)
  cases s with
  | same a => exact (sd_tup' (.cons (w (by decide) (by decide)) (.cons (i h) .nil))).mono (by omega) (by omega)
  | lost a => exact (sd_tup' (.cons (w (by decide) (by decide)) (.cons (i h) .nil))).mono (by omega) (by omega)
  | put a => exact (sd_tup' (.cons (w (by decide) (by decide)) (.cons (i h) .nil))).mono (by omega) (by omega)
  | turned a b =>
    have : a < 500 ∧ b < 500 := Nat.max_lt.mp h
    exact (sd_tup' (.cons (w (by decide) (by decide)) (.cons (i this.1) (.cons (i this.2) .nil)))).mono (by omega) (by omega)
theorem Pg.kind_top {s : Pg} (h : s.kind = true) : s.top < 5 := by
  cases s with
  | same a => cases h
  | lost a => exact of_decide_eq_true h
  | put a => exact of_decide_eq_true h
  | turned a b =>
    simp only [Pg.kind, Bool.and_eq_true, decide_eq_true_eq] at h
    exact Nat.max_lt.mpr h.1
theorem pg_sds {ks : List Pg} (h : ∀ s ∈ ks, s.top < 500) : SdAll 1 (ks.length * 41) (ks.map Pg.dat) := by
  have := sd_all (n := 1) (w := 40) (ds := ks.map Pg.dat) fun d hd => by
    obtain ⟨s, hs, rfl⟩ := List.mem_map.mp hd
    exact Pg.sd (h s hs)
  rwa [List.length_map] at this
theorem pg_flat {ks : List Pg} : ∀ y ∈ ks.map Pg.dat, y.hasDict = false := fun y hy => by
  obtain ⟨s, _, rfl⟩ := List.mem_map.mp hy
  exact s.flat
theorem kd_de {K : PySem.W.Frag} {H : Hp} {vs : List V} {ks : List Pg} (h : Paired (KdAt H) vs ks) : DeAll K H vs (ks.map Pg.dat) := by
  induction h with
  | nil => exact .nil
  | cons h _ ih => obtain ⟨p, rfl, e⟩ := h; exact .cons (Pg.de e) ih
abbrev Kinds (ks : List Pg) : Prop := ∀ s ∈ ks, s.kind = true
/-- a list of kinds at p -/
def KL (G : Hp) (p : Addr) (ks : List Pg) : Prop := ∃ vs, G p = some (.lst vs) ∧ Paired (KdAt G) vs ks
theorem KL.same {G G' : Hp} {p : Addr} {ks : List Pg} (h : KL G p ks) (s : Same G G') : KL G' p ks := by
  obtain ⟨vs, h1, h2⟩ := h
  exact ⟨vs, s _ _ h1, Paired.mapP h2 fun _ _ z => z.same s⟩
theorem KdAt.tk {H H' : Hp} (s : TK H H') {v : V} {k : Pg} (h : KdAt H v k) : KdAt H' v k := by obtain ⟨p, rfl, e⟩ := h; exact ⟨p, rfl, s _ _ e⟩
theorem TK.lst {H : Hp} {p : Addr} {xs ys : List V} (e : H p = some (.lst xs)) : TK H (upd H p (.lst ys)) := fun a zs ea => by
  rw [upd_ne (fun q => by rw [q, e] at ea; cases ea)]; exact ea
theorem KL.push {H H3 : Hp} {p t : Addr} {ks : List Pg} {vs : List V} {k : Pg} (e : H p = some (.lst vs)) (h : Paired (KdAt H) vs ks) (s : Same H H3) (et : H3 t = some (.tup k.vals)) : Paired (KdAt (upd H3 p (.lst (vs ++ [.ref t])))) (vs ++ [.ref t]) (ks ++ [k]) := by
  have k2 := TK.lst (ys := vs ++ [.ref t]) (s _ _ e)
  exact Paired.snoc (Paired.mapP h fun _ _ z => (z.same s).tk k2) ⟨t, rfl, k2 _ _ et⟩
theorem paired_app {α β : Type} {F : α → β → Prop} {xs : List α} {ys : List β} (h : Paired F xs ys) : ∀ {us : List α} {vs : List β}, Paired F us vs → Paired F (xs ++ us) (ys ++ vs) := by
  induction h with
  | nil => exact fun k => k
  | cons r _ ih => exact fun k => .cons r (ih k)
theorem paired_erase {α β : Type} {F : α → β → Prop} {xs : List α} {ys : List β} (h : Paired F xs ys) : ∀ {i : Nat}, Paired F (xs.eraseIdx i) (ys.eraseIdx i) := by
  induction h with
  | nil => intro i; exact .nil
  | cons r t ih =>
    intro i
    rcases i with _ | i
    · exact t
    · exact .cons r ih
theorem paired_take {α β : Type} {F : α → β → Prop} {xs : List α} {ys : List β} (h : Paired F xs ys) : ∀ {i : Nat}, Paired F (xs.take i) (ys.take i) := by
  induction h with
  | nil => intro i; simp; exact .nil
  | cons r t ih =>
    intro i
    rcases i with _ | i
    · exact .nil
    · exact .cons r ih
theorem mem_erase {α : Type} {l : List α} {x s : α} : ∀ {i : Nat}, l[i]? = some x → (s ∈ l ↔ s = x ∨ s ∈ l.eraseIdx i) := by
  induction l with
  | nil => intro i h; simp at h
  | cons a l ih =>
    intro i h
    rcases i with _ | i
    · cases h; simp
    · simp only [List.getElem?_cons_succ] at h
      simp only [List.eraseIdx_cons_succ, List.mem_cons, ih h]
      constructor
      · rintro (q | q | q)
        · exact .inr (.inl q)
        · exact .inl q
        · exact .inr (.inr q)
      · rintro (q | q | q)
        · exact .inr (.inl q)
        · exact .inl q
        · exact .inr (.inr q)
theorem SB.set_new {b p : Addr} {H H1 : Hp} {o : HO} (s : SB b H H1) (n : H p = none) : SB b H (L2.upd H1 p o) := fun a u na ha => by
  by_cases e : a = p
  · rw [e, n] at ha; cases ha
  · rw [L2.upd_ne e]; exact s a u na ha
/-- _law_mixed(box, items) -/
def spMixed : Sp := fun vs H Q _ => ∃ (b p : Addr) (d : Int) (ks : List Pg), vs = [.ref b, .ref p] ∧ BoxAt H b d ∧ d + 200 ≤ 1000000 ∧ KL (L2.del H b) p ks ∧ Kinds ks ∧ ks.length ≤ 100 ∧
  ∀ q ks' H', sysModules < q → H q = none → KL (L2.del H' b) q ks' → ks'.length = ks.length → (∀ s, s ∈ ks' ↔ s ∈ ks) → BoxAt H' b (d + 200) → SB b H H' → Q (.ref q) H'
section
variable {P : Program} {w : World} {K : PySem.W.Frag} {mg : Str → Option Value} {base : Heap} {f : Addr} {fd : FuncData}
theorem ok_mixed (F : Fun K "_law_mixed" "_law_mixed" s__law_mixed f fd) (z : Z mg) (c__law_take : Cal P w K mg base "_law_take" ["box", "many"] 1 spTake) : FnOk P w K mg base CX0 2 f fd ["box", "items"] spMixed := by
  refine F.ok sc__law_mixed (fun vs H Q E h => ?_) (fun cdv A outer s H vs Q E hr h => ?_)
  · obtain ⟨b, p, d, ks, rfl, _⟩ := h; rfl
  · obtain ⟨b, p, d, ks, rfl, B, hd, ⟨vs, ep, hvs⟩, kks, lks, k⟩ := h
    refine ⟨_, (pss_cons (ps_par (i := 2) (j := 3) rfl sc__law_mixed.nd rfl rfl (by decide) rfl rfl (pa_cons (pe_callTy call_listL (by rfl) z.list (by decide +kernel) (pa_cons (pv 1) pa_nil)) (pa_cons (pe_lstL pa_nil) pa_nil)) (by rfl))
      (pss_cons (ps_while PassesOwn.never (pt_cmpR (op_neD hr.units) (pv 2) (pe_lstL pa_nil) (nomark _))
        (pss_one (ps_expr (pe_bm PySem.F.plainAttrs_list PySem.F.slot_list_append PySem.F.type_list_append mt_append (pv 3) (pa_cons (pe_bm PySem.F.plainAttrs_list PySem.F.slot_list_pop PySem.F.type_list_pop mt_popAt (pv 2) (pa_cons (pe_cal c__law_take hr (pa_cons (pv 0) (pa_cons (pe_callB call_lenQ (by rfl) z.len PySem.boot_len (pa_cons (pv 2) pa_nil)) pa_nil))) pa_nil)) pa_nil)))))
      (pss_one (ps_ret (pv 3))))), ?_⟩
    walk_at "rd"
    have pb : p ≠ b := fun q => by rw [q, L2.del_same] at ep; cases ep
    have lvs : vs.length = ks.length := Paired.length hvs
    refine i_listL (.inl (sqL_of (del_sub _ _ ep))) fun lp nl ll => ?_
    have bl := box_ne B nl
    have s1 := same_upd (o := .lst vs) nl
    have e1 := upd_same (H := H) (a := lp) (o := .lst vs)
    generalize upd H lp (.lst vs) = H1 at *
    walk_at "rd"
    refine newLL0 (Nat.le_of_ble_eq_true rfl) fun fp H2 nf lf s2 e2 => ?_
    have nf0 := s1.free nf
    have bf := box_ne B nf0
    have e12 := s2 _ _ e1
    have nlf : lp ≠ fp := fun q => by rw [q, nf] at e1; cases e1
    walk_at "rd"
    refine go_while (fun m σ Hx => ∃ (vL vF : List V) (kL kF : List Pg), σ = [some (.ref b), some (.ref p), some (.ref lp), some (.ref fp)] ∧ m = kL.length ∧ Hx lp = some (.lst vL) ∧ Hx fp = some (.lst vF) ∧ Paired (KdAt (L2.del H b)) vL kL ∧ Paired (KdAt (L2.del H b)) vF kF ∧ kL.length + kF.length = ks.length ∧ (∀ s, (s ∈ kF ∨ s ∈ kL) ↔ s ∈ ks) ∧ BoxAt Hx b (d + kF.length) ∧ SB b H Hx)
      ks.length ⟨vs, [], ks, [], rfl, rfl, e12, e2, hvs, .nil, by simp, (fun s => by simp), ((B.same s1).same s2).mono (by simp), SB.of (s1.trans s2)⟩ (fun m σ Hx h => ?_)
    obtain ⟨vL, vF, kL, kF, rfl, rfl, eL, eF, hL, hF, len, mem, Bx, sx⟩ := h
    have lL : vL.length = kL.length := Paired.length hL
    have lF : vF.length = kF.length := Paired.length hF
    walk_at "rd"
    refine newLL0 (Nat.le_of_ble_eq_true rfl) fun zp H3 nz lz s3 e3 => ?_
    have hL3 : Paired (KdAt H3) vL kL := Paired.mapP hL fun _ _ zz => (zz.same (del_sb sx)).same (del_sub.trans s3)
    refine i_neL (s3 _ _ eL) (kd_de hL3) e3 (pg_sds fun s hs => Nat.lt_trans (Pg.kind_top (kks s ((mem s).mp (.inr hs)))) (by decide)) pg_flat ?_
    refine ⟨_, rfl, ?_⟩
    rcases kL with _ | ⟨k0, kL⟩
    · refine iteF ?_
      walk_at "rd"
      refine k fp kF H3 lf nf0 ⟨vF, by rw [L2.del_ne bf]; exact s3 _ _ eF, Paired.mapP hF fun _ _ zz => (zz.same (del_sb sx)).same (del_sb (SB.of s3))⟩ (by simpa using len) (fun s => by rw [← mem]; simp) ((Bx.same s3).mono (by omega)) (sx.trans (SB.of s3))
    · refine iteT ?_
      walk_at "rd"
      refine next_turn ?_
      have eL3 := s3 _ _ eL
      have eF3 := s3 _ _ eF
      walk_at "rd"
      rw [lL]
      refine ⟨b, _, _, rfl, Bx.same s3, by omega, by rw [List.length_cons]; omega, by rw [List.length_cons] at *; omega, fun r H4 r0 r1 B4 s4 => ?_⟩
      have eL4 := s4 _ _ bl eL3
      have eF4 := s4 _ _ bf eF3
      obtain ⟨i, rfl⟩ : ∃ i : Nat, r = i := ⟨r.toNat, by omega⟩
      have hi : i < vL.length := by rw [lL]; omega
      obtain ⟨kx, gk, t, et, et2⟩ := pairedAt hL (List.getElem?_eq_getElem hi)
      have hi2 : i < (k0 :: kL).length := by omega
      walk_at "rd"
      refine ⟨lp, vL, i, i, vL[i], rfl, rfl, eL4, by omega, by rw [List.length_cons] at *; omega, by rw [PySem.seqIndex_of (by omega) (by omega)]; rfl, List.getElem?_eq_getElem hi, ?_⟩
      walk_at "rd"
      refine i_append (by rw [upd_ne (Ne.symm nlf)]; exact eF4) (Nat.lt_of_le_of_lt (show vF.length ≤ 100 by omega) (Nat.lt_of_lt_of_le (by decide : 100 < 100000) (Nat.le_of_ble_eq_true rfl))) ?_
      have len2 : ((k0 :: kL).eraseIdx i).length + 1 = (k0 :: kL).length := by
        rw [List.length_eraseIdx, if_pos hi2]; simp
      refine ⟨((k0 :: kL).eraseIdx i).length, by omega, vL.eraseIdx i, vF ++ [vL[i]], (k0 :: kL).eraseIdx i, kF ++ [kx], rfl, rfl, ?_, upd_same, paired_erase hL, Paired.snoc hF ⟨t, et, et2⟩, ?_, fun s => ?_, ?_, ?_⟩
      · rw [upd_ne nlf, upd_same]
      · rw [List.length_append, List.length_singleton]; omega
      · rw [← mem, mem_erase gk, List.mem_append, List.mem_singleton]
        constructor
        · rintro ((q | q) | q)
          · exact .inl q
          · exact .inr (.inl q)
          · exact .inr (.inr q)
        · rintro (q | q | q)
          · exact .inl (.inl q)
          · exact .inl (.inr q)
          · exact .inr q
      · exact (((B4.upd_ne' bl).upd_ne' bf)).mono (by rw [List.length_append, List.length_singleton]; omega)
      · exact SB.set_new (SB.set_new (sx.trans ((SB.of s3).trans s4)) nl) nf0
end
/-- _law_all(signs) -/
def spAllP : Sp := fun vs H Q _ => ∃ n : Nat, vs = [.int n] ∧ 1 ≤ n ∧ n ≤ 5 ∧ ∀ p ks H', H p = none → KL H' p ks → Kinds ks → ks.length ≤ 30 → Same H H' → Q (.ref p) H'
/-- a comprehension of kinds under way -/
def KsUp (H0 : Hp) (p : Addr) (n : Nat) (H : Hp) : Prop := ∃ vs ks, H p = some (.lst vs) ∧ Paired (KdAt H) vs ks ∧ Kinds ks ∧ ks.length ≤ n ∧ Same H0 H
theorem KsUp.push {H0 H H3 : Hp} {p t : Addr} {n : Nat} {k : Pg} (h : KsUp H0 p n H) (np : H0 p = none) (s : Same H H3) (et : H3 t = some (.tup k.vals)) (hk : k.kind = true) (hn : n ≤ 1000) : ∃ acc, H3 p = some (.lst acc) ∧ acc.length < sizeLine ∧ KsUp H0 p (n + 1) (upd H3 p (.lst (acc ++ [.ref t]))) := by
  obtain ⟨vs, ks, e, pr, kk, len, s0⟩ := h
  have lv : vs.length = ks.length := Paired.length pr
  refine ⟨vs, s _ _ e, Nat.lt_of_le_of_lt (show vs.length ≤ 1000 by omega) (Nat.lt_of_lt_of_le (by decide : 1000 < 100000) (Nat.le_of_ble_eq_true rfl)), _, ks ++ [k], upd_same, KL.push e pr s et, fun x hx => ?_, by rw [List.length_append, List.length_singleton]; omega, Same.set_new (s0.trans s) np⟩
  rcases List.mem_append.mp hx with hx | hx
  · exact kk x hx
  · rw [List.mem_singleton.mp hx]; exact hk
theorem KsUp.stay {H0 H : Hp} {p : Addr} {n : Nat} (h : KsUp H0 p n H) : KsUp H0 p (n + 1) H := by
  obtain ⟨vs, ks, e, pr, kk, len, s0⟩ := h
  exact ⟨vs, ks, e, pr, kk, by omega, s0⟩
theorem KsUp.kl {H0 H : Hp} {p : Addr} {n : Nat} (h : KsUp H0 p n H) : ∃ ks, KL H p ks ∧ Kinds ks ∧ ks.length ≤ n ∧ Same H0 H := by
  obtain ⟨vs, ks, e, pr, kk, len, s0⟩ := h
  exact ⟨ks, ⟨vs, e, pr⟩, kk, len, s0⟩
theorem i_catK {a c : Addr} {k1 k2 : List Pg} {H : Hp} {Q : VK} (h1 : KL H a k1) (h2 : KL H c k2) (l : k1.length + k2.length ≤ 1000) (q : ∀ p H', H p = none → Same H H' → KL H' p (k1 ++ k2) → Q (.ref p) H') : rCat (.ref a) (.ref c) H Q := by
  obtain ⟨v1, e1, p1⟩ := h1
  obtain ⟨v2, e2, p2⟩ := h2
  have l1 : v1.length = k1.length := Paired.length p1
  have l2 : v2.length = k2.length := Paired.length p2
  refine ⟨a, c, v1, v2, rfl, rfl, e1, e2, Nat.le_trans (show v1.length + v2.length ≤ 1000 by omega) (Nat.le_trans (by decide : 1000 ≤ 100000) (Nat.le_of_ble_eq_true rfl)), fun p np => ?_⟩
  have s := same_upd (o := .lst (v1 ++ v2)) np
  exact q p _ np s ⟨_, upd_same, paired_app (Paired.mapP p1 fun _ _ z => z.same s) (Paired.mapP p2 fun _ _ z => z.same s)⟩
theorem Kinds.app {a c : List Pg} (h : Kinds a) (k : Kinds c) : Kinds (a ++ c) := fun s hs => (List.mem_append.mp hs).elim (h s) (k s)
section
variable {P : Program} {w : World} {K : PySem.W.Frag} {mg : Str → Option Value} {base : Heap} {f : Addr} {fd : FuncData}
theorem ok_all (F : Fun K "_law_all" "_law_all" s__law_all f fd) (z : Z mg) : FnOk P w K mg base CX0 1 f fd ["signs"] spAllP := by
  refine F.ok sc__law_all (fun vs H Q E h => ?_) (fun cdv A outer s H vs Q E hr h => ?_)
  · obtain ⟨n, rfl, _⟩ := h; rfl
  · obtain ⟨n, rfl, n1, n5, k⟩ := h
    refine ⟨_, (pss_cons (ps_set (i := 1) sc__law_all.nd rfl (.inl rfl) (pe_op op_cat (pe_lc (own := [("a", 2)]) (g := gName 2) (tt := tYes) rfl sc__law_all.nd (pi_range1 (by rfl) z.range (pa_cons (pv 0) pa_nil)) (blkOk_by (own := [("a", 2)]) (N := n__law_all) (sc := defScope s__law_all) (by decide +kernel)) (fun _ _ _ _ _ => (pg_name (i := 2) sc__law_all.nd rfl (.inl rfl))) (fun _ _ _ _ _ => pts_nil) (fun _ _ _ _ _ => (pe_tup (pa_cons (pe_strS (l := [108, 111, 115, 116]) (by decide +kernel)) (pa_cons (pv 2) pa_nil))))) (pe_lc (own := [("a", 2)]) (g := gName 2) (tt := tYes) rfl sc__law_all.nd (pi_range1 (by rfl) z.range (pa_cons (pv 0) pa_nil)) (blkOk_by (own := [("a", 2)]) (N := n__law_all) (sc := defScope s__law_all) (by decide +kernel)) (fun _ _ _ _ _ => (pg_name (i := 2) sc__law_all.nd rfl (.inl rfl))) (fun _ _ _ _ _ => pts_nil) (fun _ _ _ _ _ => (pe_tup (pa_cons (pe_strS (l := [112, 117, 116]) (by decide +kernel)) (pa_cons (pv 2) pa_nil)))))))
      (pss_cons (ps_for PassesOwn.never rfl (pi_range1 (by rfl) z.range (pa_cons (pv 0) pa_nil)) (pg_name (i := 2) sc__law_all.nd rfl (.inr rfl))
        (pss_one (ps_set (i := 1) sc__law_all.nd rfl (.inl rfl) (pe_op op_cat (pv 1) (pe_lc (own := [("b", 3)]) (g := gName 3) (tt := _) rfl sc__law_all.nd (pi_range1 (by rfl) z.range (pa_cons (pv 0) pa_nil)) (blkOk_by (own := [("b", 3)]) (N := n__law_all) (sc := defScope s__law_all) (by decide +kernel)) (fun _ _ _ _ _ => (pg_name (i := 3) sc__law_all.nd rfl (.inl rfl))) (fun _ _ _ _ _ => (pts_one (pt_cmpR op_ne (pv 3) (pv 2) (nomark _)))) (fun _ _ _ _ _ => (pe_tup (pa_cons (pe_strS (l := [116, 117, 114, 110, 101, 100]) (by decide +kernel)) (pa_cons (pv 2) (pa_cons (pv 3) pa_nil))))))))))
      (pss_one (ps_ret (pv 1))))), ?_⟩
    walk_at "rd"
    refine i_rng (by omega) (by omega) ?_
    rw [Int.toNat_natCast]
    refine go_lc walk_rangeZ (fun p i Hx => KsUp H p i Hx) (fun p np => ⟨[], [], upd_same, .nil, (fun s hs => by cases hs), Nat.le_refl _, same_upd np⟩) (fun _ _ _ _ _ => trivial) (fun p np i v Hx Hy hi q y => ?_) (fun p1 H1 n1' q => ?_)
    · obtain ⟨rfl, rfl⟩ := y
      walk_at "rd"
      refine ⟨rfl, i_yes (iteT ?_)⟩
      walk_at "rd"
      refine newT0 (Nat.le_of_ble_eq_true rfl) fun t H3 nt s3 et => ?_
      exact q.push np s3 (k := .lost i) et (decide_eq_true (by omega)) (by omega)
    obtain ⟨k1, K1, kk1, l1, s1⟩ := q.kl
    walk_at "rd"
    refine i_rng (by omega) (by omega) ?_
    rw [Int.toNat_natCast]
    refine go_lc walk_rangeZ (fun p i Hx => KsUp H1 p i Hx) (fun p np => ⟨[], [], upd_same, .nil, (fun s hs => by cases hs), Nat.le_refl _, same_upd np⟩) (fun _ _ _ _ _ => trivial) (fun p np i v Hx Hy hi q y => ?_) (fun p2 H2 n2' q => ?_)
    · obtain ⟨rfl, rfl⟩ := y
      walk_at "rd"
      refine ⟨rfl, i_yes (iteT ?_)⟩
      walk_at "rd"
      refine newT0 (Nat.le_of_ble_eq_true rfl) fun t H3 nt s3 et => ?_
      exact q.push np s3 (k := .put i) et (decide_eq_true (by omega)) (by omega)
    obtain ⟨k2, K2, kk2, l2, s2⟩ := q.kl
    walk_at "rd"
    refine i_catK (K1.same s2) K2 (by omega) fun p3 H3 n3 s3 K3 => ?_
    have np3 : H p3 = none := s1.free (s2.free n3)
    walk_at "rd"
    refine i_rng (by omega) (by omega) ?_
    rw [Int.toNat_natCast]
    refine go_for walk_rangeZ (fun i σ Hx => ∃ (p : Addr) (ks : List Pg) (u2 u3 : Option V), σ = [some (.int n), some (.ref p), u2, u3] ∧ H p = none ∧ KL Hx p ks ∧ Kinds ks ∧ ks.length ≤ 10 + 4 * i ∧ Same H Hx) ⟨p3, _, _, _, rfl, np3, K3, kk1.app kk2, by rw [List.length_append]; omega, s1.trans (s2.trans s3)⟩ (fun _ _ _ _ _ => trivial) (fun i v σ Hx Hy hi h y => ?_) (fun σ Hx h => ?_)
    · obtain ⟨p, ks, u2, u3, rfl, np, Kp, kk, lk, sx⟩ := h
      obtain ⟨rfl, rfl⟩ := y
      walk_at "rd"
      refine i_rng (by omega) (by omega) ?_
      rw [Int.toNat_natCast]
      refine go_lc walk_rangeZ (fun p j Hz => KsUp Hy p (if i < j then j - 1 else j) Hz) (fun p np => ⟨[], [], upd_same, .nil, (fun s hs => by cases hs), Nat.zero_le _, same_upd np⟩) (fun _ _ _ _ _ => trivial) (fun p np j v Hz H5 hj q y => ?_) (fun p4 H4 n4' q => ?_)
      · obtain ⟨rfl, rfl⟩ := y
        walk_at "rd"
        refine ⟨rfl, ?_⟩
        walk_at "rd"
        refine iteNC (fun ne => ?_) (fun e => ?_)
        · have ne : j ≠ i := fun e => by rw [e] at ne; simp at ne
          walk_at "rd"
          refine newT0 (Nat.le_of_ble_eq_true rfl) fun t H3 nt s3 et => ?_
          have q' := q.push np s3 (k := .turned i j) et (by simp only [Pg.kind, decide_eq_true (show i < 5 by omega), decide_eq_true (show j < 5 by omega), decide_eq_false (show ¬ i = j by omega)]; rfl) (by split <;> omega)
          rw [show (if i < j + 1 then j + 1 - 1 else j + 1) = (if i < j then j - 1 else j) + 1 by split <;> split <;> omega]
          exact q'
        · have e : j = i := by have e := of_decide_eq_true e; omega
          subst e
          rw [if_neg (Nat.lt_irrefl _)] at q
          rw [if_pos (Nat.lt_succ_self _)]
          exact q
      obtain ⟨k4, K4, kk4, l4, s4⟩ := q.kl
      rw [if_pos (by omega)] at l4
      walk_at "rd"
      refine i_catK (Kp.same s4) K4 (by omega) fun p5 H5 n5 s5 K5 => ?_
      refine ⟨p5, _, _, _, rfl, (sx.trans s4).free n5, K5, kk.app kk4, by rw [List.length_append]; omega, sx.trans (s4.trans s5)⟩
    · obtain ⟨p, ks, u2, u3, rfl, np, Kp, kk, lk, sx⟩ := h
      walk_at "rd"
      exact k p ks Hx np Kp kk (by omega) sx
end
end Sw
namespace Sw
open PySem PySem.Spec PyProof.Rows L2
local macro_rules | `(tactic| walk_at "hp") => `(tactic| first
  | (with_reducible assumption) | (with_reducible exact upd_same)
  | ((with_reducible refine' upd_old ?q1 ?q2); (case q1 => (with_reducible assumption)); (case q2 => walk_at "hp"))
  | ((with_reducible refine' Same.at ?q1 ?q2); (case q1 => (with_reducible assumption)); (case q2 => walk_at "hp"))
  | ((with_reducible refine' upd_skip ?q1 ?q2); (case q1 => walk_at "ne"); (case q2 => walk_at "hp"))
  | fail)
local macro_rules | `(tactic| walk_at "ne") => `(tactic| first
  | (with_reducible assumption) | (with_reducible exact Ne.symm (by assumption))
  | ((with_reducible refine' ne_of_none ?q1 ?q2); (case q2 => (with_reducible assumption)); (case q1 => walk_at "hp"))
  | fail)
local macro_rules | `(tactic| walk_at "ci") => `(tactic| first | assumption | (show (0 : Int) < _; first | decide | (with_reducible omega)) | exact ⟨by decide, by decide⟩ | exact .inl ⟨by decide, by decide⟩ | exact .inr ⟨by decide, by decide⟩)
local macro_rules | `(tactic| walk_at "ln") => `(tactic| first | (with_reducible assumption) | (with_reducible omega) | (simp only [List.length_append, List.length_take, List.length_drop, List.length_reverse, List.length_cons, List.length_nil]; with_reducible omega))
local macro_rules | `(tactic| walk_at "rd1") => `(tactic| first
  | (with_reducible refine i_seq ?_) | (with_reducible refine i_asg ?_) | (with_reducible refine i_ret ?_) | (with_reducible refine i_name ?_) | ((with_reducible refine' i_var ?q1 ?_); (case q1 => exact rfl)) | (with_reducible refine i_c ?_) | (with_reducible refine i_op ?_) | (with_reducible refine i_un ?_)
  | (with_reducible refine i_rI0 ?_) | (with_reducible refine i_cb ?_) | (with_reducible refine i_cons ?_) | (with_reducible refine i_nil ?_) | (with_reducible refine i_call ?_) | (with_reducible refine i_if ?_) | (with_reducible refine i_ifE ?_) | (with_reducible refine i_test ?_) | (with_reducible refine i_bl ?_)
  | (with_reducible refine i_and ?_) | (with_reducible refine i_or ?_) | (with_reducible refine i_not ?_) | (with_reducible refine i_lstM ?_) | (with_reducible refine i_lstLM ?_) | (with_reducible refine i_tupM ?_) | (with_reducible refine i_next ?_) | (with_reducible refine i_drop ?_) | (with_reducible refine i_sub ?_)
  | (with_reducible refine i_bm ?_) | (with_reducible refine i_sl ?_) | (with_reducible refine i_part ?_) | (with_reducible refine i_nopart ?_) | (with_reducible refine i_exI ?_) | (with_reducible refine i_chain ?_) | ((with_reducible refine' i_aug ?q1 ?_); (case q1 => exact rfl)) | (with_reducible refine i_ip ?_)
  | (with_reducible refine i_par ?_) | (with_reducible refine i_pair ?_) | (with_reducible refine i_andV ?_) | (with_reducible refine i_orV ?_) | (with_reducible refine i_notV ?_) | (with_reducible refine i_m1 ?_) | (with_reducible refine i_str ?_)
  | (with_reducible refine iteF ?_) | (with_reducible refine iteT ?_) | (with_reducible refine iteNT ?_) | (with_reducible refine iteNF ?_) | (with_reducible refine i_tyS ?_) | (with_reducible refine i_tB ?_) | (with_reducible refine i_retN ?_) | (with_reducible refine i_par3 ?_) | (with_reducible refine i_trip ?_) | (with_reducible refine i_gCons ?_) | (with_reducible refine i_gNil ?_) | (with_reducible refine i_lstRg ?_) | (with_reducible refine i_rg1 ?_)
  | (with_reducible refine i_lc ?_) | (with_reducible refine i_for ?_) | (with_reducible refine i_iList ?_) | (with_reducible refine i_iTup ?_) | (with_reducible refine i_iStr ?_) | (with_reducible refine i_iRng1 ?_) | (with_reducible refine i_iEnS ?_)
  | ((with_reducible refine' i_ixTH ?q1 ?q2 ?_); (case q1 => walk_at "hp"); (case q2 => exact rfl))
  | ((with_reducible refine' i_ixLH ?q1 ?q2 ?_); (case q1 => walk_at "hp"); (case q2 => exact rfl))
  | ((with_reducible refine i_addS ?q1 ?_); (case q1 => walk_at "ln")) | ((with_reducible refine i_lenSS ?q1 ?_); (case q1 => walk_at "ln")) | ((with_reducible refine i_slFrom ?q1 ?q2 ?_); (case q1 => walk_at "ln"); (case q2 => walk_at "ln")) | ((with_reducible refine i_slTo ?q1 ?q2 ?_); (case q1 => walk_at "ln"); (case q2 => walk_at "ln"))
  | ((with_reducible refine' i_tyL ?q1 ?_); (case q1 => walk_at "hp"))
  | ((with_reducible refine' i_gTupH ?q1 ?q2 ?_); (case q1 => walk_at "hp"); (case q2 => exact rfl))
  | (with_reducible refine i_dnewM ?_) | (with_reducible refine i_init ?_) | (with_reducible refine i_fst ?_) | (with_reducible refine i_mk ?_) | (with_reducible refine i_raise ?_) | (with_reducible refine i_callS ?_) | (with_reducible refine i_kwS ?_)
  | (with_reducible refine i_revT ?_) | (with_reducible refine i_kw ?_) | ((with_reducible refine' ⟨_, _, rfl, sqT_of ?q1, ?_⟩); (case q1 => walk_at "hp"))
  | (with_reducible refine i_revS ?_) | ((with_reducible refine i_revSS ?q1 ?_); (case q1 => walk_at "ln"))
  | (with_reducible refine i_startS ?_) | (with_reducible refine i_inSg ?_) | (with_reducible refine i_absN ?_) | (with_reducible refine i_min2 ?_) | (with_reducible refine i_max2 ?_) | (with_reducible refine i_min3 ?_) | (with_reducible refine i_intN ?_) | (with_reducible refine i_intNB ?_)
  | ((with_reducible refine' i_lenL ?q1 ?_); (case q1 => walk_at "hp")) | ((with_reducible refine' i_lenT ?q1 ?_); (case q1 => walk_at "hp"))
  | (with_reducible refine i_eqI ?_) | (with_reducible refine i_neI ?_) | (with_reducible refine i_eqS ?_) | (with_reducible refine i_neS ?_) | (with_reducible refine i_isNoI ?_) | (with_reducible refine i_isNoN ?_) | (with_reducible refine i_isNoR ?_)
  | ((with_reducible refine i_pow ?q1 ?q2 ?q3 ?_); (case q1 => decide); (case q2 => decide); (case q3 => (with_reducible omega)))
  | ((with_reducible refine i_rI ?q1 ?_); (case q1 => walk_at "ci"))
  | (with_reducible refine Or.inl ⟨_, rfl, ?_⟩) | (with_reducible refine Or.inr ⟨_, rfl, ?_⟩) | (with_reducible refine ⟨_, rfl, ?_⟩) | (with_reducible refine ⟨_, _, rfl, ?_⟩) | (with_reducible refine ⟨_, _, rfl, rfl, ?_⟩)
  | ((with_reducible refine' ⟨_, _, rfl, Or.inl (sqL_of ?q1), ?_⟩); (case q1 => walk_at "hp")) | ((with_reducible refine' ⟨_, _, rfl, Or.inr (sqT_of ?q1), ?_⟩); (case q1 => walk_at "hp")) | (with_reducible refine i_dget ?_) | (with_reducible refine i_disp1T ?_) | (with_reducible refine i_dcT ?_) | (with_reducible refine i_dnewT ?_) | fail)
local macro_rules | `(tactic| walk_at "rd") => `(tactic| repeat' walk_at "rd1")

theorem KL.ne {H : Hp} {b p : Addr} {ks : List Pg} (h : KL (L2.del H b) p ks) : p ≠ b := fun q => by
  obtain ⟨vs, e, _⟩ := h
  rw [q, L2.del_same] at e; cases e
theorem KL.sub {H : Hp} {b p : Addr} {ks : List Pg} (h : KL (L2.del H b) p ks) : KL H p ks := h.same del_sub
theorem KdAt.del {H : Hp} {b : Addr} {d : Int} (B : BoxAt H b d) {v : V} {k : Pg} (h : KdAt H v k) : KdAt (L2.del H b) v k := by
  obtain ⟨p, rfl, e⟩ := h
  refine ⟨p, rfl, ?_⟩
  rw [L2.del_ne fun q => ?_]
  · exact e
  · obtain ⟨_, _, _, _, e2, _⟩ := B.ex
    rw [q, e2] at e; cases e
theorem KL.del {H : Hp} {b p : Addr} {d : Int} {ks : List Pg} (B : BoxAt H b d) (h : KL H p ks) (hp : p ≠ b) : KL (L2.del H b) p ks := by
  obtain ⟨vs, e, pr⟩ := h
  exact ⟨vs, by rw [L2.del_ne hp]; exact e, Paired.mapP pr fun _ _ z => z.del B⟩
theorem Kinds.take {a : List Pg} (h : Kinds a) (n : Nat) : Kinds (a.take n) := fun s hs => h s (List.mem_of_mem_take hs)
theorem cutV_to {vs : List V} {n : Nat} : cutV vs none (some (n : Int)) = vs.take n := by
  unfold cutV
  rw [HT.sIx_nat, HT.sIx_none, List.drop_zero, Nat.sub_zero]
  rcases Nat.le_total n vs.length with q | q
  · rw [Nat.min_eq_left q]
  · rw [Nat.min_eq_right q, List.take_length, List.take_of_length_le q]
/-- the beginning of a list of kinds -/
theorem i_slK {K : PySem.W.Frag} {a : Addr} {n : Nat} {ks : List Pg} {H : Hp} {Q : VK} (h : KL H a ks) (q : ∀ p H', H p = none → Same H H' → KL H' p (ks.take n) → Q (.ref p) H') : rSlL K (.ref a) none (some (n : Int)) H Q := by
  obtain ⟨vs, e, pr⟩ := h
  refine ⟨a, vs, rfl, sqL_of e, fun p np => ?_⟩
  rw [cutV_to]
  have s := same_upd (o := .lst (vs.take n)) np
  exact q p _ np s ⟨_, upd_same, paired_take (Paired.mapP pr fun _ _ z => z.same s)⟩
/-- _law_kinds(box, signs) -/
def spKindsP : Sp := fun vs H Q _ => ∃ (b : Addr) (n : Nat) (d : Int), vs = [.ref b, .int n] ∧ 1 ≤ n ∧ n ≤ 5 ∧ BoxAt H b d ∧ d + 300 ≤ 1000000 ∧
  ∀ p ks H', H p = none → KL (L2.del H' b) p ks → Kinds ks → ks.length ≤ 60 → BoxAt H' b (d + 300) → SB b H H' → Q (.ref p) H'
section
variable {P : Program} {w : World} {K : PySem.W.Frag} {mg : Str → Option Value} {base : Heap} {f : Addr} {fd : FuncData}
theorem ok_kinds (F : Fun K "_law_kinds" "_law_kinds" s__law_kinds f fd) (z : Z mg) (c__law_take : Cal P w K mg base "_law_take" ["box", "many"] 1 spTake) (c__law_mixed : Cal P w K mg base "_law_mixed" ["box", "items"] 2 spMixed) (c__law_all : Cal P w K mg base "_law_all" ["signs"] 1 spAllP) : FnOk P w K mg base CX0 3 f fd ["box", "signs"] spKindsP := by
  refine F.ok sc__law_kinds (fun vs H Q E h => ?_) (fun cdv A outer s H vs Q E hr h => ?_)
  · obtain ⟨b, n, d, rfl, _⟩ := h; rfl
  · obtain ⟨b, n, d, rfl, n1, n5, B, hd, k⟩ := h
    refine ⟨_, (pss_cons (ps_par (i := 2) (j := 3) rfl sc__law_kinds.nd rfl rfl (by decide) rfl rfl (pa_cons (pe_cal c__law_take hr (pa_cons (pv 0) (pa_cons pe_int pa_nil))) (pa_cons (pe_cal c__law_all hr (pa_cons (pv 1) pa_nil)) pa_nil)) (by rfl))
      (pss_cons (ps_if (pt_cmpR op_eq (pv 2) pe_int (nomark _))
        (pss_one (ps_ret (pe_cal c__law_mixed hr (pa_cons (pv 0) (pa_cons (pv 3) pa_nil)))))
        pss_nil)
      (pss_cons (ps_if (pt_cmpR op_eq (pv 2) pe_int (nomark _))
        (pss_one (ps_ret (pe_lc (own := [("a", 4)]) (g := gName 4) (tt := tYes) rfl sc__law_kinds.nd (pi_range1 (by rfl) z.range (pa_cons (pv 1) pa_nil)) (blkOk_by (own := [("a", 4)]) (N := n__law_kinds) (sc := defScope s__law_kinds) (by decide +kernel)) (fun _ _ _ _ _ => (pg_name (i := 4) sc__law_kinds.nd rfl (.inl rfl))) (fun _ _ _ _ _ => pts_nil) (fun _ _ _ _ _ => (pe_tup (pa_cons (pe_strS (l := [108, 111, 115, 116]) (by decide +kernel)) (pa_cons (pv 4) pa_nil)))))))
        pss_nil)
      (pss_cons (ps_if (pt_cmpR op_eq (pv 2) pe_int (nomark _))
        (pss_one (ps_ret (pe_slice sl_list (pe_cal c__law_mixed hr (pa_cons (pv 0) (pa_cons (pe_lc (own := [("kind", 5)]) (g := gName 5) (tt := _) rfl sc__law_kinds.nd (pi_list (pv 3)) (blkOk_by (own := [("kind", 5)]) (N := n__law_kinds) (sc := defScope s__law_kinds) (by decide +kernel)) (fun _ _ _ _ _ => (pg_name (i := 5) sc__law_kinds.nd rfl (.inl rfl))) (fun _ _ _ _ _ => (pts_one (pt_cmpR op_ne (pe_ix (r := rIxT K) ix_tup (pv 5) pe_int (fun _ _ => rfl)) (pe_strS (l := [108, 111, 115, 116]) (by decide +kernel)) (nomark _)))) (fun _ _ _ _ _ => (pv 5))) pa_nil))) po_none (po_some pe_int))))
        pss_nil)
      (pss_cons (ps_set (i := 6) sc__law_kinds.nd rfl (.inl rfl) (pe_slice sl_list (pe_cal c__law_mixed hr (pa_cons (pv 0) (pa_cons (pv 3) pa_nil))) po_none (po_some (pe_ix ix_list (pe_lstL (pa_cons pe_int (pa_cons pe_int (pa_cons pe_int (pa_cons pe_int (pa_cons pe_int (pa_cons pe_int (pa_cons pe_int pa_nil)))))))) (pe_cal c__law_take hr (pa_cons (pv 0) (pa_cons pe_int pa_nil))) (fun _ _ => rfl)))))
      (pss_one (ps_ret (pe_op op_cat (pv 6) (pe_slice sl_list (pv 6) po_none (po_some (pe_cal c__law_take hr (pa_cons (pv 0) (pa_cons pe_int pa_nil))))))))))))), ?_⟩
    walk_at "rd"
    refine ⟨b, 7, d, rfl, B, by omega, by omega, by omega, fun way H1 w0 w1 B1 s1 => ?_⟩
    walk_at "rd"
    refine ⟨n, rfl, n1, n5, fun ep ks H2 n2 Kp kk lk s2 => ?_⟩
    have B2 := B1.same s2
    have np0 : H ep = none := by
      rcases q : H ep with _ | o
      · rfl
      · have := s1 ep o (fun e => by rw [e] at n2; obtain ⟨o', eo⟩ := box_some B1; rw [eo] at n2; cases n2) q
        rw [n2] at this; cases this
    have KpD : KL (L2.del H2 b) ep ks := Kp.del B2 (box_ne B1 n2)
    have s12 : SB b H H2 := s1.trans (SB.of s2)
    walk_at "rd"
    refine iteB (fun way0 => ?_) (fun way0 => ?_)
    · walk_at "rd"
      refine ⟨b, ep, d + 1, ks, rfl, B2, by omega, KpD, kk, by omega, fun q ks' H3 lt nq Kq lq mq B3 s3 => ?_⟩
      exact k q ks' H3 (fresh0 s12 B2 nq) Kq (fun s hs => kk s ((mq s).mp hs)) (by omega) (B3.mono (by omega)) (s12.trans s3)
    walk_at "rd"
    refine iteB (fun way1 => ?_) (fun way1 => ?_)
    · walk_at "rd"
      refine i_rng (by omega) (by omega) ?_
      rw [Int.toNat_natCast]
      refine go_lc walk_rangeZ (fun p i Hx => KsUp H2 p i Hx) (fun p np => ⟨[], [], upd_same, .nil, (fun s hs => by cases hs), Nat.le_refl _, same_upd np⟩) (fun _ _ _ _ _ => trivial) (fun p np i v Hx Hy hi q y => ?_) (fun p2 H3 n3 q => ?_)
      · obtain ⟨rfl, rfl⟩ := y
        walk_at "rd"
        refine ⟨rfl, i_yes (iteT ?_)⟩
        walk_at "rd"
        refine newT0 (Nat.le_of_ble_eq_true rfl) fun t H3 nt s3 et => ?_
        exact q.push np s3 (k := .lost i) et (decide_eq_true (by omega)) (by omega)
      obtain ⟨k2, K2, kk2, l2, s3⟩ := q.kl
      exact k p2 k2 H3 (fresh0 s12 B2 n3) (K2.del (B2.same s3) (box_ne B2 n3)) kk2 (by omega) ((B2.same s3).mono (by omega)) (s12.trans (SB.of s3))
    walk_at "rd"
    refine iteB (fun way2 => ?_) (fun way2 => ?_)
    · walk_at "rd"
      obtain ⟨vs, ev, pr⟩ := Kp
      have lv : vs.length = ks.length := Paired.length pr
      refine i_sqL (sqL_of ev) ?_
      refine go_lc (walk_list (xs := vs)) (fun p i Hx => KsUp H2 p i Hx) (fun p np => ⟨[], [], upd_same, .nil, (fun s hs => by cases hs), Nat.le_refl _, same_upd np⟩) (fun p i Hx hi q => sqL_of (q.kl.choose_spec.2.2.2 _ _ ev)) (fun p np i v Hx Hy hi q y => ?_) (fun p2 H3 n3 q => ?_)
      · obtain ⟨rfl, hv⟩ := y
        obtain ⟨kx, gk, t, rfl, et⟩ := pairedAt pr hv
        have sx := q.kl.choose_spec.2.2.2
        have et := sx _ _ et
        walk_at "rd"
        refine ⟨rfl, ?_⟩
        walk_at "rd"
        refine i_ixTn (k := 0) (sqT_of et) kx.vals0 ?_
        walk_at "rd"
        refine iteNC (fun ne => ?_) (fun e => ?_)
        · walk_at "rd"
          exact q.push np (Same.refl _) et (kk kx (List.mem_of_getElem? gk)) (by omega)
        · walk_at "rd"
          exact q.stay
      obtain ⟨k2, K2, kk2, l2, s3⟩ := q.kl
      walk_at "rd"
      have B3 := B2.same s3
      refine ⟨b, p2, d + 1, k2, rfl, B3, by omega, K2.del B3 (box_ne B2 n3), kk2, by omega, fun q ks' H4 lt nq Kq lq mq B4 s4 => ?_⟩
      walk_at "rd"
      refine i_slK (n := 6) Kq.sub fun p5 H5 n5 s5 K5 => ?_
      have sA := s12.trans ((SB.of s3).trans s4)
      exact k p5 _ H5 (fresh0 sA B4 n5) (K5.del (B4.same s5) (box_ne B4 n5)) (Kinds.take (fun s hs => kk2 s ((mq s).mp hs)) 6) (by rw [List.length_take]; omega) ((B4.same s5).mono (by omega)) (sA.trans (SB.of s5))
    walk_at "rd"
    refine ⟨b, ep, d + 1, ks, rfl, B2, by omega, KpD, kk, by omega, fun q ks' H3 lt nq Kq lq mq B3 s3 => ?_⟩
    walk_at "rd"
    refine newLL B3 (Nat.le_of_ble_eq_true rfl) fun p4 H4 _ n4 B4 _ e4 t4 => ?_
    have e4 := del_sub _ _ e4
    have p4b := box_ne B3 n4
    walk_at "rd"
    refine ⟨b, 7, _, rfl, B4, by omega, by omega, by omega, fun r H5 r0 r1 B5 s5 => ?_⟩
    have e45 := s5 _ _ p4b e4
    obtain ⟨m, em, hm⟩ : ∃ m : Nat, ([.int 1, .int 2, .int 3, .int 4, .int 6, .int 9, .int 0] : List V)[r.toNat]? = some (.int m) ∧ m ≤ 9 := by
      have hr : r = 0 ∨ r = 1 ∨ r = 2 ∨ r = 3 ∨ r = 4 ∨ r = 5 ∨ r = 6 := by omega
      rcases hr with rfl | rfl | rfl | rfl | rfl | rfl | rfl
      · exact ⟨1, rfl, by omega⟩
      · exact ⟨2, rfl, by omega⟩
      · exact ⟨3, rfl, by omega⟩
      · exact ⟨4, rfl, by omega⟩
      · exact ⟨6, rfl, by omega⟩
      · exact ⟨9, rfl, by omega⟩
      · exact ⟨0, rfl, by omega⟩
    refine i_ixLv e45 r0 em ?_
    have Kq5 : KL (L2.del H5 b) q ks' := (Kq.same (del_sb (SB.of t4))).same (del_sb s5)
    have sA := s12.trans (s3.trans ((SB.of t4).trans s5))
    walk_at "rd"
    refine i_slK (n := m) Kq5.sub fun p6 H6 n6 s6 K6 => ?_
    have B6 := B5.same s6
    have kk6 : Kinds (ks'.take m) := Kinds.take (fun s hs => kk s ((mq s).mp hs)) m
    have l6 : (ks'.take m).length ≤ 9 := by rw [List.length_take]; omega
    have K6D := K6.del B6 (box_ne B5 n6)
    walk_at "rd"
    refine ⟨b, 2, _, rfl, B6, by omega, by omega, by omega, fun r2 H7 r20 r21 B7 s7 => ?_⟩
    obtain ⟨m2, rfl⟩ : ∃ n : Nat, r2 = n := ⟨r2.toNat, by omega⟩
    have l7 : ((ks'.take m).take m2).length ≤ 9 := by rw [List.length_take]; omega
    have K7 := (K6D.same (del_sb s7)).sub
    walk_at "rd"
    refine i_slK (n := m2) K7 fun p8 H8 n8 s8 K8 => ?_
    walk_at "rd"
    refine i_catK (K7.same s8) K8 (by omega) fun p9 H9 n9 s9 K9 => ?_
    have B9 := (B7.same s8).same s9
    have sB' := sA.trans ((SB.of s6).trans (s7.trans (SB.of s8)))
    exact k p9 _ H9 (fresh0 sB' (B7.same s8) n9) (K9.del B9 (box_ne (B7.same s8) n9)) (kk6.app (kk6.take m2)) (by rw [List.length_append]; omega) (B9.mono (by omega)) (sB'.trans (SB.of s9))
end
end Sw
namespace Sw
open PySem PySem.Spec PyProof.Rows L2
local macro_rules | `(tactic| walk_at "hp") => `(tactic| first
  | (with_reducible assumption) | (with_reducible exact upd_same)
  | ((with_reducible refine' upd_old ?q1 ?q2); (case q1 => (with_reducible assumption)); (case q2 => walk_at "hp"))
  | ((with_reducible refine' Same.at ?q1 ?q2); (case q1 => (with_reducible assumption)); (case q2 => walk_at "hp"))
  | ((with_reducible refine' upd_skip ?q1 ?q2); (case q1 => walk_at "ne"); (case q2 => walk_at "hp"))
  | fail)
local macro_rules | `(tactic| walk_at "ne") => `(tactic| first
  | (with_reducible assumption) | (with_reducible exact Ne.symm (by assumption))
  | ((with_reducible refine' ne_of_none ?q1 ?q2); (case q2 => (with_reducible assumption)); (case q1 => walk_at "hp"))
  | fail)
local macro_rules | `(tactic| walk_at "ci") => `(tactic| first | assumption | (show (0 : Int) < _; first | decide | (with_reducible omega)) | exact ⟨by decide, by decide⟩ | exact .inl ⟨by decide, by decide⟩ | exact .inr ⟨by decide, by decide⟩)
local macro_rules | `(tactic| walk_at "ln") => `(tactic| first | (with_reducible assumption) | (with_reducible omega) | (simp only [List.length_append, List.length_take, List.length_drop, List.length_reverse, List.length_cons, List.length_nil]; with_reducible omega))
local macro_rules | `(tactic| walk_at "rd1") => `(tactic| first
  | (with_reducible refine i_seq ?_) | (with_reducible refine i_asg ?_) | (with_reducible refine i_ret ?_) | (with_reducible refine i_name ?_) | ((with_reducible refine' i_var ?q1 ?_); (case q1 => exact rfl)) | (with_reducible refine i_c ?_) | (with_reducible refine i_op ?_) | (with_reducible refine i_un ?_)
  | (with_reducible refine i_rI0 ?_) | (with_reducible refine i_cb ?_) | (with_reducible refine i_cons ?_) | (with_reducible refine i_nil ?_) | (with_reducible refine i_call ?_) | (with_reducible refine i_if ?_) | (with_reducible refine i_ifE ?_) | (with_reducible refine i_test ?_) | (with_reducible refine i_bl ?_)
  | (with_reducible refine i_and ?_) | (with_reducible refine i_or ?_) | (with_reducible refine i_not ?_) | (with_reducible refine i_lstM ?_) | (with_reducible refine i_lstLM ?_) | (with_reducible refine i_tupM ?_) | (with_reducible refine i_next ?_) | (with_reducible refine i_drop ?_) | (with_reducible refine i_sub ?_)
  | (with_reducible refine i_bm ?_) | (with_reducible refine i_sl ?_) | (with_reducible refine i_part ?_) | (with_reducible refine i_nopart ?_) | (with_reducible refine i_exI ?_) | (with_reducible refine i_chain ?_) | ((with_reducible refine' i_aug ?q1 ?_); (case q1 => exact rfl)) | (with_reducible refine i_ip ?_)
  | (with_reducible refine i_par ?_) | (with_reducible refine i_pair ?_) | (with_reducible refine i_andV ?_) | (with_reducible refine i_orV ?_) | (with_reducible refine i_notV ?_) | (with_reducible refine i_m1 ?_) | (with_reducible refine i_str ?_)
  | (with_reducible refine iteF ?_) | (with_reducible refine iteT ?_) | (with_reducible refine iteNT ?_) | (with_reducible refine iteNF ?_) | (with_reducible refine i_tyS ?_) | (with_reducible refine i_tB ?_) | (with_reducible refine i_retN ?_) | (with_reducible refine i_par3 ?_) | (with_reducible refine i_trip ?_) | (with_reducible refine i_gCons ?_) | (with_reducible refine i_gNil ?_) | (with_reducible refine i_lstRg ?_) | (with_reducible refine i_rg1 ?_)
  | (with_reducible refine i_lc ?_) | (with_reducible refine i_for ?_) | (with_reducible refine i_iList ?_) | (with_reducible refine i_iTup ?_) | (with_reducible refine i_iStr ?_) | (with_reducible refine i_iRng1 ?_) | (with_reducible refine i_iEnS ?_)
  | ((with_reducible refine' i_ixTH ?q1 ?q2 ?_); (case q1 => walk_at "hp"); (case q2 => exact rfl))
  | ((with_reducible refine' i_ixLH ?q1 ?q2 ?_); (case q1 => walk_at "hp"); (case q2 => exact rfl))
  | ((with_reducible refine i_addS ?q1 ?_); (case q1 => walk_at "ln")) | ((with_reducible refine i_lenSS ?q1 ?_); (case q1 => walk_at "ln")) | ((with_reducible refine i_slFrom ?q1 ?q2 ?_); (case q1 => walk_at "ln"); (case q2 => walk_at "ln")) | ((with_reducible refine i_slTo ?q1 ?q2 ?_); (case q1 => walk_at "ln"); (case q2 => walk_at "ln"))
  | ((with_reducible refine' i_tyL ?q1 ?_); (case q1 => walk_at "hp"))
  | ((with_reducible refine' i_gTupH ?q1 ?q2 ?_); (case q1 => walk_at "hp"); (case q2 => exact rfl))
  | (with_reducible refine i_dnewM ?_) | (with_reducible refine i_init ?_) | (with_reducible refine i_fst ?_) | (with_reducible refine i_mk ?_) | (with_reducible refine i_raise ?_) | (with_reducible refine i_callS ?_) | (with_reducible refine i_kwS ?_)
  | (with_reducible refine i_revT ?_) | (with_reducible refine i_kw ?_) | ((with_reducible refine' ⟨_, _, rfl, sqT_of ?q1, ?_⟩); (case q1 => walk_at "hp"))
  | (with_reducible refine i_revS ?_) | ((with_reducible refine i_revSS ?q1 ?_); (case q1 => walk_at "ln"))
  | (with_reducible refine i_startS ?_) | (with_reducible refine i_inSg ?_) | (with_reducible refine i_absN ?_) | (with_reducible refine i_min2 ?_) | (with_reducible refine i_max2 ?_) | (with_reducible refine i_min3 ?_) | (with_reducible refine i_intN ?_) | (with_reducible refine i_intNB ?_)
  | ((with_reducible refine' i_lenL ?q1 ?_); (case q1 => walk_at "hp")) | ((with_reducible refine' i_lenT ?q1 ?_); (case q1 => walk_at "hp"))
  | (with_reducible refine i_eqI ?_) | (with_reducible refine i_neI ?_) | (with_reducible refine i_eqS ?_) | (with_reducible refine i_neS ?_) | (with_reducible refine i_isNoI ?_) | (with_reducible refine i_isNoN ?_) | (with_reducible refine i_isNoR ?_)
  | ((with_reducible refine i_pow ?q1 ?q2 ?q3 ?_); (case q1 => decide); (case q2 => decide); (case q3 => (with_reducible omega)))
  | ((with_reducible refine i_rI ?q1 ?_); (case q1 => walk_at "ci"))
  | (with_reducible refine Or.inl ⟨_, rfl, ?_⟩) | (with_reducible refine Or.inr ⟨_, rfl, ?_⟩) | (with_reducible refine ⟨_, rfl, ?_⟩) | (with_reducible refine ⟨_, _, rfl, ?_⟩) | (with_reducible refine ⟨_, _, rfl, rfl, ?_⟩)
  | ((with_reducible refine' ⟨_, _, rfl, Or.inl (sqL_of ?q1), ?_⟩); (case q1 => walk_at "hp")) | ((with_reducible refine' ⟨_, _, rfl, Or.inr (sqT_of ?q1), ?_⟩); (case q1 => walk_at "hp")) | (with_reducible refine i_dget ?_) | (with_reducible refine i_disp1T ?_) | (with_reducible refine i_dcT ?_) | (with_reducible refine i_dnewT ?_) | fail)
local macro_rules | `(tactic| walk_at "rd") => `(tactic| repeat' walk_at "rd1")

def Pg.fst : Pg → Nat
  | .same a => a
  | .lost a => a
  | .put a => a
  | .turned a _ => a
def Pg.lst : Pg → Nat
  | .same a => a
  | .lost a => a
  | .put a => a
  | .turned _ b => b
theorem Pg.vals1 (s : Pg) : s.vals[1]? = some (iV s.fst) := by cases s <;> rfl
theorem Pg.valsE (s : Pg) : atI s.vals (-1) = some (iV s.lst) := by
  cases s with
  | same a => exact atI_neg1 (n := 1) rfl rfl
  | lost a => exact atI_neg1 (n := 1) rfl rfl
  | put a => exact atI_neg1 (n := 1) rfl rfl
  | turned a b => exact atI_neg1 (n := 2) rfl rfl
theorem Pg.fst_le (s : Pg) : s.fst ≤ s.top := by cases s <;> simp [Pg.fst, Pg.top]; omega
theorem Pg.lst_le (s : Pg) : s.lst ≤ s.top := by cases s <;> simp [Pg.lst, Pg.top]; omega
theorem sm100 {n : Nat} (h : n ≤ 1000) : n < sizeLine := Nat.lt_of_le_of_lt h (Nat.lt_of_lt_of_le (by decide : 1000 < 100000) (Nat.le_of_ble_eq_true rfl))
theorem ints_de {K : PySem.W.Frag} {H : Hp} : ∀ l : List Nat, DeAll K H (l.map iV) (l.map fun (n : Nat) => PyData.int (n : Int))
  | [] => .nil
  | n :: l => .cons (.int _) (ints_de l)
theorem ints_sd {l : List Nat} (h : ∀ n ∈ l, n < 500) : SdAll 0 (l.length * 10) (l.map fun (n : Nat) => PyData.int (n : Int)) := by
  have := sd_all (n := 0) (w := 9) (ds := l.map fun (n : Nat) => PyData.int (n : Int)) fun d hd => by
    obtain ⟨s, hs, rfl⟩ := List.mem_map.mp hd
    exact sd_int9 (by have := h s hs; omega)
  rwa [List.length_map] at this
theorem ints_flat {l : List Nat} : ∀ y ∈ l.map (fun (n : Nat) => PyData.int (n : Int)), y.hasDict = false := fun y hy => by
  obtain ⟨s, _, rfl⟩ := List.mem_map.mp hy
  rfl
theorem cond_and {c0 : Bool} {t : L2.St → Hp → (Bool → Hp → Prop) → Prop} {σ : L2.St} {H : Hp} {R : Bool → Hp → Prop} (P : Bool → Prop) (h1 : ∀ R' : Bool → Hp → Prop, (∀ c, P c → R' c H) → if c0 = true then t σ H R' else R' false H) (h2 : ∀ c, P c → R c H) : if c0 = true then t σ H R else R false H := h1 R h2
/-- put != [] for ints -/
theorem i_neLi {K : PySem.W.Frag} {H : Hp} {a b : Addr} {l : List Nat} {Q : VK} (h1 : H a = some (.lst (l.map iV))) (h3 : H b = some (.lst [])) (h : ∀ n ∈ l, n < 500) (k : Q (.bl (!l.isEmpty)) H) : rNeD K (.ref a) (.ref b) H Q :=
  i_neL h1 (ints_de l) h3 (ints_sd h) ints_flat (by rw [show (l.map fun (n : Nat) => PyData.int (n : Int)).isEmpty = l.isEmpty by cases l <;> rfl]; exact k)
/-- _law_line(box, signs) -/
def spLineP (K : PySem.W.Frag) : Sp := fun vs H Q _ => ∃ (b : Addr) (n : Nat) (d : Int), vs = [.ref b, .int n] ∧ 1 ≤ n ∧ n ≤ 5 ∧ BoxAt H b d ∧ d + 100 ≤ 1000000 ∧
  ∀ q (l : List Nat) H', LnAt K (L2.del H' b) (.ref q) l → l.length ≤ 28 → (∀ x ∈ l, x < 5) → BoxAt H' b (d + 100) → SB b H H' → Q (.ref q) H'
theorem KL.upd {H : Hp} {p q : Addr} {ks : List Pg} {xs ys : List V} (h : KL H p ks) (e : H q = some (.lst xs)) (ne : p ≠ q) : KL (L2.upd H q (.lst ys)) p ks := by
  obtain ⟨vs, e1, pr⟩ := h
  exact ⟨vs, by rw [L2.upd_ne ne]; exact e1, Paired.mapP pr fun _ _ z => z.tk (TK.lst e)⟩
theorem val_te {t : TE} {σ : L2.St} {H : Hp} {Q : VK} (P : V → Hp → Prop) (h1 : ∀ Q' : VK, (∀ v H', P v H' → Q' v H') → t σ H Q') (h2 : ∀ v H', P v H' → Q v H') : t σ H Q := h1 Q h2
/-- what was found, the signs put in, the box -/
structure SpAt (H : Hp) (b fp pp : Addr) (pl lf : List Nat) (D : Int) (Hx : Hp) : Prop where
  f : Hx fp = some (.lst (lf.map iV))
  p : Hx pp = some (.lst (pl.map iV))
  B : BoxAt Hx b D
  s : SB b H Hx
theorem SpAt.same {H Hx Hy : Hp} {b fp pp : Addr} {pl lf : List Nat} {D : Int} (h : SpAt H b fp pp pl lf D Hx) (s : Same Hx Hy) : SpAt H b fp pp pl lf D Hy := ⟨s _ _ h.f, s _ _ h.p, h.B.same s, h.s.trans (SB.of s)⟩
theorem SpAt.take {H Hx Hy : Hp} {b fp pp : Addr} {pl lf : List Nat} {D D' : Int} (h : SpAt H b fp pp pl lf D Hx) (hf : fp ≠ b) (hp : pp ≠ b) (s : SB b Hx Hy) (B : BoxAt Hy b D') : SpAt H b fp pp pl lf D' Hy := ⟨s _ _ hf h.f, s _ _ hp h.p, B, h.s.trans s⟩
theorem SpAt.push {H Hx : Hp} {b fp pp : Addr} {pl lf : List Nat} {D : Int} (h : SpAt H b fp pp pl lf D Hx) (hf : fp ≠ b) (nfp : fp ≠ pp) (n : H fp = none) (x : Nat) : SpAt H b fp pp pl (lf ++ [x]) D (upd Hx fp (.lst (lf.map iV ++ [iV x]))) :=
  ⟨by rw [upd_same, List.map_append]; rfl, by rw [upd_ne (Ne.symm nfp)]; exact h.p, h.B.upd_ne' hf, SB.set_new h.s n⟩
theorem SpAt.mono {H Hx : Hp} {b fp pp : Addr} {pl lf : List Nat} {D D' : Int} (h : SpAt H b fp pp pl lf D Hx) (l : D ≤ D') : SpAt H b fp pp pl lf D' Hx := ⟨h.f, h.p, h.B.mono l, h.s⟩
theorem fives {l : List Nat} {x : Nat} (h : ∀ y ∈ l, y < 5) (hx : x < 5) : ∀ y ∈ l ++ [x], y < 5 := fun y hy => (List.mem_append.mp hy).elim (h y) fun q => by rw [List.mem_singleton.mp q]; exact hx
/-- _law_spoilt(box, line, kinds, often) -/
def spSpoilt (K : PySem.W.Frag) : Sp := fun vs H Q _ => ∃ (b kp : Addr) (v : V) (o : Nat) (l : List Nat) (ks : List Pg) (d : Int), vs = [.ref b, v, .ref kp, .int o] ∧ 1 ≤ o ∧ o ≤ 10 ∧ LnAt K (L2.del H b) v l ∧ l.length ≤ 28 ∧ (∀ x ∈ l, x < 5) ∧ KL (L2.del H b) kp ks ∧ Kinds ks ∧ ks.length ≤ 60 ∧ BoxAt H b d ∧ d + 400 ≤ 1000000 ∧
  ∀ q (l : List Nat) H', LnAt K (L2.del H' b) (.ref q) l → l.length ≤ 57 → (∀ x ∈ l, x < 5) → BoxAt H' b (d + 400) → SB b H H' → Q (.ref q) H'
section
variable {P : Program} {w : World} {K : PySem.W.Frag} {mg : Str → Option Value} {base : Heap} {f : Addr} {fd : FuncData}
theorem ok_lineP (F : Fun K "_law_line" "_law_line" s__law_line f fd) (z : Z mg) (c__law_take : Cal P w K mg base "_law_take" ["box", "many"] 1 spTake) : FnOk P w K mg base CX0 2 f fd ["box", "signs"] (spLineP K) := by
  refine F.ok sc__law_line (fun vs H Q E h => ?_) (fun cdv A outer s H vs Q E hr h => ?_)
  · obtain ⟨b, n, d, rfl, _⟩ := h; rfl
  · obtain ⟨b, n, d, rfl, n1, n5, B, hd, k⟩ := h
    refine ⟨_, (pss_cons (ps_set (i := 2) sc__law_line.nd rfl (.inl rfl) (pe_ix ix_list (pe_lst (pa_cons pe_int (pa_cons pe_int (pa_cons pe_int (pa_cons pe_int (pa_cons pe_int (pa_cons pe_int (pa_cons pe_int (pa_cons pe_int (pa_cons pe_int (pa_cons pe_int pa_nil))))))))))) (pe_cal c__law_take hr (pa_cons (pv 0) (pa_cons pe_int pa_nil))) (fun _ _ => rfl)))
      (pss_one (ps_ret (pe_callTy call_tuple_of (by rfl) z.tuple (by decide +kernel) (pa_cons (pe_lc (own := [("k", 3)]) (g := gName 3) (tt := tYes) rfl sc__law_line.nd (pi_range1 (by rfl) z.range (pa_cons (pv 2) pa_nil)) (blkOk_by (own := [("k", 3)]) (N := n__law_line) (sc := defScope s__law_line) (by decide +kernel)) (fun _ _ _ _ _ => (pg_name (i := 3) sc__law_line.nd rfl (.inl rfl))) (fun _ _ _ _ _ => pts_nil) (fun _ _ _ _ _ => (pe_cal c__law_take hr (pa_cons (pv 0) (pa_cons (pv 1) pa_nil))))) pa_nil))))), ?_⟩
    walk_at "rd"
    refine newL0 (Nat.le_of_ble_eq_true rfl) fun p1 H1 np1 s1 e1 => ?_
    have p1b := box_ne B np1
    walk_at "rd"
    refine ⟨b, 10, d, rfl, B.same s1, by omega, by omega, by omega, fun r H2 r0 r1 B2 s2 => ?_⟩
    have e2 := s2 _ _ p1b e1
    obtain ⟨m, em, hm⟩ : ∃ m : Nat, ([.int 0, .int 1, .int 2, .int 3, .int 4, .int 6, .int 9, .int 14, .int 28, .int 5] : List V)[r.toNat]? = some (.int m) ∧ m ≤ 28 := by
      have hr : r = 0 ∨ r = 1 ∨ r = 2 ∨ r = 3 ∨ r = 4 ∨ r = 5 ∨ r = 6 ∨ r = 7 ∨ r = 8 ∨ r = 9 := by omega
      rcases hr with rfl | rfl | rfl | rfl | rfl | rfl | rfl | rfl | rfl | rfl
      · exact ⟨0, rfl, by omega⟩
      · exact ⟨1, rfl, by omega⟩
      · exact ⟨2, rfl, by omega⟩
      · exact ⟨3, rfl, by omega⟩
      · exact ⟨4, rfl, by omega⟩
      · exact ⟨6, rfl, by omega⟩
      · exact ⟨9, rfl, by omega⟩
      · exact ⟨14, rfl, by omega⟩
      · exact ⟨28, rfl, by omega⟩
      · exact ⟨5, rfl, by omega⟩
    refine i_ixLv e2 r0 em ?_
    have s02 := (SB.of (b := b) s1).trans s2
    walk_at "rd"
    refine i_rng (by omega) (by omega) ?_
    rw [Int.toNat_natCast]
    refine go_lc walk_rangeZ (fun p i Hx => ∃ l : List Nat, Hx p = some (.lst (l.map iV)) ∧ l.length = i ∧ (∀ x ∈ l, x < 5) ∧ BoxAt Hx b (d + 1 + i) ∧ SB b H2 Hx) (fun p np => ⟨[], upd_same, rfl, (fun s hs => by cases hs), (B2.same (same_upd np)).mono (by omega), SB.of (same_upd np)⟩) (fun _ _ _ _ _ => trivial) (fun p np i v Hx Hy hi q y => ?_) (fun p2 H3 n3 q => ?_)
    · obtain ⟨l, ep, el, l5, Bx, sx⟩ := q
      obtain ⟨rfl, rfl⟩ := y
      walk_at "rd"
      refine ⟨rfl, i_yes (iteT ?_)⟩
      walk_at "rd"
      refine ⟨b, n, _, rfl, Bx, by omega, by omega, by omega, fun x H4 x0 x1 B4 s4 => ?_⟩
      obtain ⟨x, rfl⟩ : ∃ n : Nat, x = n := ⟨x.toNat, by omega⟩
      have pb := box_ne B2 np
      refine ⟨l.map iV, s4 _ _ pb ep, sm100 (by rw [List.length_map]; omega), l ++ [x], ?_, by rw [List.length_append, el]; rfl, fun y hy => ?_, (B4.upd_ne' pb).mono (by omega), SB.set_new (sx.trans s4) np⟩
      · rw [upd_same, List.map_append]; rfl
      · rcases List.mem_append.mp hy with hy | hy
        · exact l5 y hy
        · rw [List.mem_singleton.mp hy]; omega
    obtain ⟨l, ep, el, l5, B3, s3⟩ := q
    walk_at "rd"
    refine ⟨_, _, rfl, .inl ⟨sqL_of ep, fun q nq => ?_⟩⟩
    refine k q l _ ⟨q, rfl, sqT_of (del_new B3 nq)⟩ (by omega) l5 ((B3.same (same_upd nq)).mono (by omega)) (s02.trans (s3.trans (SB.of (same_upd nq))))
theorem ok_spoilt (F : Fun K "_law_spoilt" "_law_spoilt" s__law_spoilt f fd) (z : Z mg) (c__law_take : Cal P w K mg base "_law_take" ["box", "many"] 1 spTake) : FnOk P w K mg base CX0 2 f fd ["box", "line", "kinds", "often"] (spSpoilt K) := by
  refine F.ok sc__law_spoilt (fun vs H Q E h => ?_) (fun cdv A outer s H vs Q E hr h => ?_)
  · obtain ⟨b, kp, v, o, l, ks, d, rfl, _⟩ := h; rfl
  · obtain ⟨b, kp, v, o, l, ks, d, rfl, o1, o9, ⟨lp, rfl, hl⟩, ll, l5, Kp, kk, lk, B, hd, k⟩ := h
    refine ⟨_, (pss_cons (ps_par (i := 4) (j := 5) rfl sc__law_spoilt.nd rfl rfl (by decide) rfl rfl (pa_cons (pe_lstL pa_nil) (pa_cons (pe_lc (own := [("kind", 6)]) (g := gName 6) (tt := _) rfl sc__law_spoilt.nd (pi_list (pv 2)) (blkOk_by (own := [("kind", 6)]) (N := n__law_spoilt) (sc := defScope s__law_spoilt) (by decide +kernel)) (fun _ _ _ _ _ => (pg_name (i := 6) sc__law_spoilt.nd rfl (.inl rfl))) (fun _ _ _ _ _ => (pts_one (pt_cmpR op_eq (pe_ix (r := rIxT K) ix_tup (pv 6) pe_int (fun _ _ => rfl)) (pe_strS (l := [112, 117, 116]) (by decide +kernel)) (nomark _)))) (fun _ _ _ _ _ => (pe_ix (r := rIxT K) ix_tup (pv 6) pe_int (fun _ _ => rfl)))) pa_nil)) (by rfl))
      (pss_cons (ps_for PassesOwn.never rfl (pi_tup (pv 1)) (pg_name (i := 7) sc__law_spoilt.nd rfl (.inr rfl))
        (pss_cons (ps_setLc (i := 8) (own := [("kind", 6)]) (g := gName 6) (tt := _) rfl sc__law_spoilt.nd rfl rfl (sw_true rfl rfl rfl (by decide +kernel)) (pi_list (pv 2)) (blkOk_by (own := [("kind", 6)]) (N := n__law_spoilt) (sc := defScope s__law_spoilt) (by decide +kernel)) (fun _ _ _ _ _ => (pg_name (i := 6) sc__law_spoilt.nd rfl (.inl rfl))) (fun _ _ _ _ _ => (pts_one (PW.pt (pw_and (pt_cmpR op_ne (pe_ix (r := rIxT K) ix_tup (pv 6) pe_int (fun _ _ => rfl)) (pe_strS (l := [112, 117, 116]) (by decide +kernel)) (nomark _)) (pw_and1 (pt_cmpR op_eq (pe_ix (r := rIxT K) ix_tup (pv 6) pe_int (fun _ _ => rfl)) (pv 7) (nomark _))))))) (fun _ _ _ _ _ => (pv 6)))
        (C8.pss_cut (ps_if (PW.pt (pw_and (pt_cmpR (op_neD hr.units) (pv 5) (pe_lstL pa_nil) (nomark _)) (pw_and1 (pt_cmpR op_eq (pe_cal c__law_take hr (pa_cons (pv 0) (pa_cons (pv 3) pa_nil))) pe_int (nomark _)))))
          (pss_one (ps_expr (pe_bm PySem.F.plainAttrs_list PySem.F.slot_list_append PySem.F.type_list_append mt_append (pv 4) (pa_cons (pe_ix ix_list (pv 5) (pe_cal c__law_take hr (pa_cons (pv 0) (pa_cons (pe_callB call_lenQ (by rfl) z.len PySem.boot_len (pa_cons (pv 5) pa_nil)) pa_nil))) (fun _ _ => rfl)) pa_nil))))
          pss_nil)
        (pss_cons (ps_set (i := 6) sc__law_spoilt.nd rfl (.inl rfl) (pe_ifExp (PW.pt (pw_and (pt_cmpR (op_neD hr.units) (pv 8) (pe_lstL pa_nil) (nomark _)) (pw_and1 (pt_cmpR op_eq (pe_cal c__law_take hr (pa_cons (pv 0) (pa_cons (pv 3) pa_nil))) pe_int (nomark _))))) (pe_ix ix_list (pv 8) (pe_cal c__law_take hr (pa_cons (pv 0) (pa_cons (pe_callB call_lenQ (by rfl) z.len PySem.boot_len (pa_cons (pv 8) pa_nil)) pa_nil))) (fun _ _ => rfl)) (pe_tup (pa_cons (pe_strS (l := [115, 97, 109, 101]) (by decide +kernel)) (pa_cons (pv 7) pa_nil)))))
        (pss_one (ps_if (pt_cmpR op_ne (pe_ix ix_tup (pv 6) pe_int (fun _ _ => rfl)) (pe_strS (l := [108, 111, 115, 116]) (by decide +kernel)) (nomark _))
          (pss_one (ps_expr (pe_bm PySem.F.plainAttrs_list PySem.F.slot_list_append PySem.F.type_list_append mt_append (pv 4) (pa_cons (pe_ix ix_tup (pv 6) (pe_un un_neg pe_int) (fun _ _ => rfl)) pa_nil))))
          pss_nil))))))
      (C8.pss_cut (ps_if (PW.pt (pw_and (pt_cmpR (op_neD hr.units) (pv 5) (pe_lstL pa_nil) (nomark _)) (pw_and1 (pt_cmpR op_eq (pe_cal c__law_take hr (pa_cons (pv 0) (pa_cons pe_int pa_nil))) pe_int (nomark _)))))
        (pss_one (ps_expr (pe_bm PySem.F.plainAttrs_list PySem.F.slot_list_append PySem.F.type_list_append mt_append (pv 4) (pa_cons (pe_ix ix_list (pv 5) (pe_cal c__law_take hr (pa_cons (pv 0) (pa_cons (pe_callB call_lenQ (by rfl) z.len PySem.boot_len (pa_cons (pv 5) pa_nil)) pa_nil))) (fun _ _ => rfl)) pa_nil))))
        pss_nil)
      (pss_one (ps_ret (pe_callTy call_tuple_of (by rfl) z.tuple (by decide +kernel) (pa_cons (pv 4) pa_nil))))))), ?_⟩
    walk_at "rd"
    refine newLL0 (Nat.le_of_ble_eq_true rfl) fun fp H1 nf lf s1 e1 => ?_
    have fb := box_ne B nf
    obtain ⟨vs, ev, pr⟩ := Kp
    have lv : vs.length = ks.length := Paired.length pr
    have ev1 := s1 _ _ (del_sub _ _ ev)
    walk_at "rd"
    refine i_sqL (sqL_of ev1) ?_
    refine go_lc (walk_list (xs := vs)) (fun p i Hx => ∃ l : List Nat, Hx p = some (.lst (l.map iV)) ∧ l.length ≤ i ∧ (∀ x ∈ l, x < 5) ∧ Same H1 Hx) (fun p np => ⟨[], upd_same, Nat.le_refl _, (fun s hs => by cases hs), same_upd np⟩) (fun p i Hx hi q => sqL_of (q.choose_spec.2.2.2 _ _ ev1)) (fun p np i v Hx Hy hi q y => ?_) (fun pp H3 n3 q => ?_)
    · obtain ⟨l, ep, el, l5, sx⟩ := q
      obtain ⟨rfl, hv⟩ := y
      obtain ⟨kx, gk, t, rfl, et⟩ := pairedAt pr hv
      have et := sx _ _ (s1 _ _ (del_sub _ _ et))
      walk_at "rd"
      refine ⟨rfl, ?_⟩
      walk_at "rd"
      refine i_ixTn (k := 0) (sqT_of et) kx.vals0 ?_
      walk_at "rd"
      refine iteC (fun yes => ?_) (fun no => ?_)
      · walk_at "rd"
        refine i_ixTn (k := 1) (sqT_of et) kx.vals1 ?_
        refine ⟨l.map iV, ep, sm100 (by rw [List.length_map]; omega), l ++ [kx.fst], ?_, by rw [List.length_append, List.length_singleton]; omega, fun y hy => ?_, Same.set_new sx np⟩
        · rw [upd_same, List.map_append]; rfl
        · rcases List.mem_append.mp hy with hy | hy
          · exact l5 y hy
          · rw [List.mem_singleton.mp hy]
            exact Nat.lt_of_le_of_lt kx.fst_le (Pg.kind_top (kk kx (List.mem_of_getElem? gk)))
      · walk_at "rd"
        exact ⟨l, ep, by omega, l5, sx⟩
    obtain ⟨pl, epp, lpl, pl5, s3⟩ := q
    have s03 := s1.trans s3
    have e3 := s3 _ _ e1
    have nfp : fp ≠ pp := fun q => by rw [← q, e1] at n3; cases n3
    have np0 := s1.free n3
    have pb := box_ne B np0
    have hl3 : ∀ {Hx}, SB b H Hx → SqT K Hx lp (l.map iV) := fun s => Same.sqT ((del_sb s).trans del_sub) hl
    walk_at "rd"
    refine ⟨⟨_, hl3 (SB.of s03)⟩, ?_⟩
    have S3 : SpAt H b fp pp pl [] d H3 := ⟨e3, epp, B.same s03, SB.of s03⟩
    have draw : ∀ {lf : List Nat} {D : Int} {Hx : Hp}, SpAt H b fp pp pl lf D Hx → D + 5 ≤ 1000000 → pl ≠ [] → ∀ (Q' : VK), (∀ x Hy, x < 5 → SpAt H b fp pp pl lf (D + 1) Hy → SB b Hx Hy → Q' (iV x) Hy) → spTake ([.ref b, .int ((pl.map iV).length : Nat)] ++ []) Hx (fun y H2 => rIxL K (.ref pp) y H2 Q') E0 := by
      intro lf D Hx S hD ne Q' hQ
      have pos : 0 < pl.length := List.length_pos_iff.mpr ne
      rw [List.length_map]
      refine ⟨b, _, _, rfl, S.B, by omega, by omega, by omega, fun r Hy r0 r1 By sy => ?_⟩
      have Sy := S.take fb pb sy By
      have lt : r.toNat < pl.length := by omega
      refine i_ixLv Sy.p r0 (ln_get lt) ?_
      exact hQ _ _ (pl5 _ (getD_mem lt)) Sy sy
    refine go_for (walk_tup (xs := l.map iV)) (fun i σ Hx => ∃ (lf : List Nat) (u6 u7 u8 : Option V), σ = [some (.ref b), some (.ref lp), some (.ref kp), some (.int o), some (.ref fp), some (.ref pp), u6, u7, u8] ∧ lf.length ≤ 2 * i ∧ (∀ y ∈ lf, y < 5) ∧ SpAt H b fp pp pl lf (d + 4 * i) Hx)
      ⟨[], none, none, none, rfl, by simp, (fun y hy => by cases hy), S3.mono (by omega)⟩ (fun i σ Hx hi h => hl3 h.choose_spec.choose_spec.choose_spec.choose_spec.2.2.2.s) (fun i v σ Hx Hy hi h y => ?_) (fun σ Hx h => ?_)
    · obtain ⟨lf, u6, u7, u8, rfl, llf, lf5, S⟩ := h
      obtain ⟨rfl, hv⟩ := y
      rw [List.length_map] at hi
      rw [ln_get hi] at hv
      cases hv
      have sg5 : l.getD i 0 < 5 := l5 _ (getD_mem hi)
      generalize l.getD i 0 = sg at *
      have ev3 : Hy kp = some (.lst vs) := by
        have := del_sb S.s _ _ ev
        exact del_sub _ _ this
      have tu : ∀ {t : Addr} {xs : List V}, L2.del H b t = some (.tup xs) → Hy t = some (.tup xs) := fun e => del_sub _ _ (del_sb S.s _ _ e)
      walk_at "rd"
      refine i_sqL (sqL_of ev3) ?_
      refine go_lc (walk_list (xs := vs)) (fun p i Hx => KsUp Hy p i Hx) (fun p np => ⟨[], [], upd_same, .nil, (fun s hs => by cases hs), Nat.le_refl _, same_upd np⟩) (fun p i Hx hi q => sqL_of (q.kl.choose_spec.2.2.2 _ _ ev3)) (fun p np i v Hx Hz hi q y => ?_) (fun sp H4 n4 q => ?_)
      · obtain ⟨rfl, hv⟩ := y
        obtain ⟨kx, gk, t, rfl, et⟩ := pairedAt pr hv
        have sx := q.kl.choose_spec.2.2.2
        have et := sx _ _ (tu et)
        have kkx := kk kx (List.mem_of_getElem? gk)
        walk_at "rd"
        refine ⟨rfl, ?_⟩
        walk_at "rd"
        refine i_ixTn (k := 0) (sqT_of et) kx.vals0 ?_
        walk_at "rd"
        refine cond_and (fun _ => True) (fun R hR => ?_) (fun c _ => ?_)
        · refine iteNC (fun ne => ?_) (fun e => hR _ trivial)
          walk_at "rd"
          refine i_ixTn (k := 1) (sqT_of et) kx.vals1 ?_
          walk_at "rd"
          exact hR _ trivial
        · cases c
          · walk_at "rd"
            exact q.stay
          · walk_at "rd"
            exact q.push np (Same.refl _) et kkx (by omega)
      obtain ⟨k4, ⟨v4, e4, p4⟩, kk4, l4, s4⟩ := q.kl
      have S4 := S.same s4
      have nsf : sp ≠ fp := fun q => by rw [q, S.f] at n4; cases n4
      walk_at "rd"
      refine i_cut (fun σ' H' => ∃ lf2 u6 u7, σ' = [some (.ref b), some (.ref lp), some (.ref kp), some (.int o), some (.ref fp), some (.ref pp), u6, some (iV sg), some (.ref sp)] ∧ lf2.length ≤ lf.length + 1 ∧ (∀ y ∈ lf2, y < 5) ∧ SpAt H b fp pp pl lf2 (d + 4 * i + 2) H' ∧ KL H' sp k4 ∧ u7 = ()) ?_ ?_
      · walk_at "rd"
        refine newLL0 (Nat.le_of_ble_eq_true rfl) fun zp H5 nz lz s5 e5 => ?_
        have S5 := S4.same s5
        have K5 : KL H5 sp k4 := KL.same ⟨v4, e4, p4⟩ s5
        refine i_neLi S5.p e5 (fun n hn => Nat.lt_trans (pl5 n hn) (by decide)) ?_
        refine ⟨_, rfl, ?_⟩
        refine cond_andH (fun c H' => (c = true → pl ≠ []) ∧ SpAt H b fp pp pl lf (d + 4 * i + 1) H' ∧ KL H' sp k4) (fun R hR => ?_) (fun c H' hc => ?_)
        · refine iteC (fun e => ?_) (fun e => ?_)
          · walk_at "rd"
            refine ⟨b, o, _, rfl, S5.B, by omega, by omega, by omega, fun r H6 r0 r1 B6 s6 => ?_⟩
            walk_at "rd"
            refine hR _ _ ⟨(fun _ q => by rw [q] at e; simp at e), S5.take fb pb s6 B6, ?_⟩
            exact (K5.del S5.B (box_ne S.B n4) |>.same (del_sb s6)).sub
          · exact hR _ _ ⟨(fun q => by cases q), S5.mono (by omega), K5⟩
        · obtain ⟨hne, S6, K6⟩ := hc
          have e6 := S6.f
          rcases c with _ | _
          · walk_at "rd"
            exact ⟨lf, _, (), rfl, by omega, lf5, S6.mono (by omega), K6, rfl⟩
          · have S6p := S6.p
            walk_at "rd"
            refine draw S6 (by omega) (hne rfl) _ (fun x H7 x5 S7 s7 => ?_)
            walk_at "rd"
            refine i_append S7.f (sm100 (by rw [List.length_map]; omega)) ?_
            refine ⟨lf ++ [x], _, (), rfl, by rw [List.length_append, List.length_singleton]; omega, fives lf5 x5, (S7.push fb nfp nf x).mono (by omega), ?_, rfl⟩
            have K7 : KL H7 sp k4 := ((K6.del S6.B (box_ne S.B n4)).same (del_sb s7)).sub
            exact K7.upd S7.f nsf
      · rintro σ' H5 ⟨lf2, u6, u7, rfl, l2, lf25, S5, K5, rfl⟩
        refine i_seq (i_asg (val_te (fun v H' => ∃ k, KdAt H' v k ∧ k.top < 5 ∧ SpAt H b fp pp pl lf2 (d + 4 * i + 4) H') (fun Q' hQ => ?_) (fun v H6 hv => ?_)))
        · walk_at "rd"
          refine newLL0 (Nat.le_of_ble_eq_true rfl) fun zp H6 nz lz s6 e6 => ?_
          have S6 := S5.same s6
          obtain ⟨v6, e46, p46⟩ := K5.same s6
          have lv6 : v6.length = k4.length := Paired.length p46
          refine i_neL e46 (kd_de p46) e6 (pg_sds fun s hs => Nat.lt_trans (Pg.kind_top (kk4 s hs)) (by decide)) pg_flat ?_
          refine ⟨_, rfl, ?_⟩
          refine cond_andH (fun c H' => (c = true → k4 ≠ []) ∧ SpAt H b fp pp pl lf2 (d + 4 * i + 3) H' ∧ SB b H6 H') (fun R hR => ?_) (fun c H' hc => ?_)
          · refine iteC (fun e => ?_) (fun e => ?_)
            · walk_at "rd"
              refine ⟨b, o, _, rfl, S6.B, by omega, by omega, by omega, fun r H7 r0 r1 B7 s7 => ?_⟩
              walk_at "rd"
              exact hR _ _ ⟨(fun _ q => by rw [q] at e; simp at e), S6.take fb pb s7 (B7.mono (by omega)), s7⟩
            · exact hR _ _ ⟨(fun q => by cases q), S6.mono (by omega), SB.refl _⟩
          · obtain ⟨hne, S7, s7⟩ := hc
            rcases c with _ | _
            · walk_at "rd"
              refine newT0 (Nat.le_of_ble_eq_true rfl) fun t H8 nt s8 et => ?_
              exact hQ _ _ ⟨.same sg, ⟨t, rfl, et⟩, sg5, (S7.same s8).mono (by omega)⟩
            · have pos : 0 < k4.length := List.length_pos_iff.mpr (hne rfl)
              have sb' := box_ne S.B n4
              have e47 := s7 _ _ sb' e46
              walk_at "rd"
              refine ⟨b, _, _, rfl, S7.B, by omega, by omega, by omega, fun r H8 r0 r1 B8 s8 => ?_⟩
              have lt : r.toNat < v6.length := by omega
              obtain ⟨kx, gk, t, et, et2⟩ := pairedAt p46 (List.getElem?_eq_getElem lt)
              have hget : v6[r.toNat]? = some (.ref t) := by rw [List.getElem?_eq_getElem lt, et]
              refine i_ixLv (s8 _ _ sb' e47) r0 hget ?_
              refine hQ _ _ ⟨kx, ?_, Pg.kind_top (kk4 kx (List.mem_of_getElem? gk)), (S7.take fb pb s8 B8).mono (by omega)⟩
              have tb : t ≠ b := fun q => by
                obtain ⟨o', eo⟩ := box_some S6.B
                obtain ⟨_, _, _, _, e2, _⟩ := S6.B.ex
                rw [q, e2] at et2; cases et2
              exact ⟨t, rfl, s8 _ _ tb (s7 _ _ tb et2)⟩
        · obtain ⟨k, ⟨t, rfl, et⟩, k5, S6⟩ := hv
          have e6 := S6.f
          walk_at "rd"
          refine i_ixTn (k := 0) (sqT_of et) k.vals0 ?_
          walk_at "rd"
          refine iteNC (fun ne => ?_) (fun e => ?_)
          · walk_at "rd"
            refine i_rU ?_
            refine i_ixTH et k.valsE ?_
            walk_at "rd"
            refine i_append S6.f (sm100 (by rw [List.length_map]; omega)) ?_
            exact ⟨lf2 ++ [k.lst], _, _, _, rfl, by rw [List.length_append, List.length_singleton]; omega, fives lf25 (Nat.lt_of_le_of_lt k.lst_le k5), (S6.push fb nfp nf k.lst).mono (by omega)⟩
          · walk_at "rd"
            exact ⟨lf2, _, _, _, rfl, by omega, lf25, S6.mono (by omega)⟩
    · obtain ⟨lf, u6, u7, u8, rfl, llf, lf5, S⟩ := h
      rw [List.length_map] at llf S
      refine i_cut (fun σ' H' => ∃ lf2 u6 u7 u8, σ' = [some (.ref b), some (.ref lp), some (.ref kp), some (.int o), some (.ref fp), some (.ref pp), u6, u7, u8] ∧ lf2.length ≤ lf.length + 1 ∧ (∀ y ∈ lf2, y < 5) ∧ SpAt H b fp pp pl lf2 (d + 4 * l.length + 2) H') ?_ ?_
      · walk_at "rd"
        refine newLL0 (Nat.le_of_ble_eq_true rfl) fun zp H5 nz lz s5 e5 => ?_
        have S5 := S.same s5
        refine i_neLi S5.p e5 (fun n hn => Nat.lt_trans (pl5 n hn) (by decide)) ?_
        refine ⟨_, rfl, ?_⟩
        refine cond_andH (fun c H' => (c = true → pl ≠ []) ∧ SpAt H b fp pp pl lf (d + 4 * l.length + 1) H') (fun R hR => ?_) (fun c H' hc => ?_)
        · refine iteC (fun e => ?_) (fun e => ?_)
          · walk_at "rd"
            refine ⟨b, 3, _, rfl, S5.B, by omega, by omega, by omega, fun r H6 r0 r1 B6 s6 => ?_⟩
            walk_at "rd"
            exact hR _ _ ⟨(fun _ q => by rw [q] at e; simp at e), S5.take fb pb s6 B6⟩
          · exact hR _ _ ⟨(fun q => by cases q), S5.mono (by omega)⟩
        · obtain ⟨hne, S6⟩ := hc
          have e6 := S6.f
          rcases c with _ | _
          · walk_at "rd"
            exact ⟨lf, _, _, _, rfl, by omega, lf5, S6.mono (by omega)⟩
          · have S6p := S6.p
            walk_at "rd"
            refine draw S6 (by omega) (hne rfl) _ (fun x H7 x5 S7 s7 => ?_)
            walk_at "rd"
            refine i_append S7.f (sm100 (by rw [List.length_map]; omega)) ?_
            exact ⟨lf ++ [x], _, _, _, rfl, by rw [List.length_append, List.length_singleton]; omega, fives lf5 x5, (S7.push fb nfp nf x).mono (by omega)⟩
      · rintro σ' H5 ⟨lf2, u6, u7, u8, rfl, l2, lf25, S5⟩
        walk_at "rd"
        refine ⟨_, _, rfl, .inl ⟨sqL_of S5.f, fun q nq => ?_⟩⟩
        refine k q lf2 _ ⟨q, rfl, sqT_of (del_new S5.B nq)⟩ (by omega) lf25 ((S5.B.same (same_upd nq)).mono (by omega)) (S5.s.trans (SB.of (same_upd nq)))
end
end Sw
namespace Sw
open PySem PySem.Spec PyProof.Rows L2
local macro_rules | `(tactic| walk_at "hp") => `(tactic| first
  | (with_reducible assumption) | (with_reducible exact upd_same)
  | ((with_reducible refine' upd_old ?q1 ?q2); (case q1 => (with_reducible assumption)); (case q2 => walk_at "hp"))
  | ((with_reducible refine' Same.at ?q1 ?q2); (case q1 => (with_reducible assumption)); (case q2 => walk_at "hp"))
  | ((with_reducible refine' upd_skip ?q1 ?q2); (case q1 => walk_at "ne"); (case q2 => walk_at "hp"))
  | fail)
local macro_rules | `(tactic| walk_at "ne") => `(tactic| first
  | (with_reducible assumption) | (with_reducible exact Ne.symm (by assumption))
  | ((with_reducible refine' ne_of_none ?q1 ?q2); (case q2 => (with_reducible assumption)); (case q1 => walk_at "hp"))
  | fail)
local macro_rules | `(tactic| walk_at "ci") => `(tactic| first | assumption | (show (0 : Int) < _; first | decide | (with_reducible omega)) | exact ⟨by decide, by decide⟩ | exact .inl ⟨by decide, by decide⟩ | exact .inr ⟨by decide, by decide⟩)
local macro_rules | `(tactic| walk_at "ln") => `(tactic| first | (with_reducible assumption) | (with_reducible omega) | (simp only [List.length_append, List.length_take, List.length_drop, List.length_reverse, List.length_cons, List.length_nil]; with_reducible omega))
local macro_rules | `(tactic| walk_at "rd1") => `(tactic| first
  | (with_reducible refine i_seq ?_) | (with_reducible refine i_asg ?_) | (with_reducible refine i_ret ?_) | (with_reducible refine i_name ?_) | ((with_reducible refine' i_var ?q1 ?_); (case q1 => exact rfl)) | (with_reducible refine i_c ?_) | (with_reducible refine i_op ?_) | (with_reducible refine i_un ?_)
  | (with_reducible refine i_rI0 ?_) | (with_reducible refine i_cb ?_) | (with_reducible refine i_cons ?_) | (with_reducible refine i_nil ?_) | (with_reducible refine i_call ?_) | (with_reducible refine i_if ?_) | (with_reducible refine i_ifE ?_) | (with_reducible refine i_test ?_) | (with_reducible refine i_bl ?_)
  | (with_reducible refine i_and ?_) | (with_reducible refine i_or ?_) | (with_reducible refine i_not ?_) | (with_reducible refine i_lstM ?_) | (with_reducible refine i_lstLM ?_) | (with_reducible refine i_tupM ?_) | (with_reducible refine i_next ?_) | (with_reducible refine i_drop ?_) | (with_reducible refine i_sub ?_)
  | (with_reducible refine i_bm ?_) | (with_reducible refine i_sl ?_) | (with_reducible refine i_part ?_) | (with_reducible refine i_nopart ?_) | (with_reducible refine i_exI ?_) | (with_reducible refine i_chain ?_) | ((with_reducible refine' i_aug ?q1 ?_); (case q1 => exact rfl)) | (with_reducible refine i_ip ?_)
  | (with_reducible refine i_par ?_) | (with_reducible refine i_pair ?_) | (with_reducible refine i_andV ?_) | (with_reducible refine i_orV ?_) | (with_reducible refine i_notV ?_) | (with_reducible refine i_m1 ?_) | (with_reducible refine i_str ?_)
  | (with_reducible refine iteF ?_) | (with_reducible refine iteT ?_) | (with_reducible refine iteNT ?_) | (with_reducible refine iteNF ?_) | (with_reducible refine i_tyS ?_) | (with_reducible refine i_tB ?_) | (with_reducible refine i_retN ?_) | (with_reducible refine i_par3 ?_) | (with_reducible refine i_trip ?_) | (with_reducible refine i_gCons ?_) | (with_reducible refine i_gNil ?_) | (with_reducible refine i_lstRg ?_) | (with_reducible refine i_rg1 ?_)
  | (with_reducible refine i_lc ?_) | (with_reducible refine i_for ?_) | (with_reducible refine i_iList ?_) | (with_reducible refine i_iTup ?_) | (with_reducible refine i_iStr ?_) | (with_reducible refine i_iRng1 ?_) | (with_reducible refine i_iEnS ?_)
  | ((with_reducible refine' i_ixTH ?q1 ?q2 ?_); (case q1 => walk_at "hp"); (case q2 => exact rfl))
  | ((with_reducible refine' i_ixLH ?q1 ?q2 ?_); (case q1 => walk_at "hp"); (case q2 => exact rfl))
  | ((with_reducible refine i_addS ?q1 ?_); (case q1 => walk_at "ln")) | ((with_reducible refine i_lenSS ?q1 ?_); (case q1 => walk_at "ln")) | ((with_reducible refine i_slFrom ?q1 ?q2 ?_); (case q1 => walk_at "ln"); (case q2 => walk_at "ln")) | ((with_reducible refine i_slTo ?q1 ?q2 ?_); (case q1 => walk_at "ln"); (case q2 => walk_at "ln"))
  | ((with_reducible refine' i_tyL ?q1 ?_); (case q1 => walk_at "hp"))
  | ((with_reducible refine' i_gTupH ?q1 ?q2 ?_); (case q1 => walk_at "hp"); (case q2 => exact rfl))
  | (with_reducible refine i_dnewM ?_) | (with_reducible refine i_init ?_) | (with_reducible refine i_fst ?_) | (with_reducible refine i_mk ?_) | (with_reducible refine i_raise ?_) | (with_reducible refine i_callS ?_) | (with_reducible refine i_kwS ?_)
  | (with_reducible refine i_revT ?_) | (with_reducible refine i_kw ?_) | ((with_reducible refine' ⟨_, _, rfl, sqT_of ?q1, ?_⟩); (case q1 => walk_at "hp"))
  | (with_reducible refine i_revS ?_) | ((with_reducible refine i_revSS ?q1 ?_); (case q1 => walk_at "ln"))
  | (with_reducible refine i_startS ?_) | (with_reducible refine i_inSg ?_) | (with_reducible refine i_absN ?_) | (with_reducible refine i_min2 ?_) | (with_reducible refine i_max2 ?_) | (with_reducible refine i_min3 ?_) | (with_reducible refine i_intN ?_) | (with_reducible refine i_intNB ?_)
  | ((with_reducible refine' i_lenL ?q1 ?_); (case q1 => walk_at "hp")) | ((with_reducible refine' i_lenT ?q1 ?_); (case q1 => walk_at "hp"))
  | (with_reducible refine i_eqI ?_) | (with_reducible refine i_neI ?_) | (with_reducible refine i_eqS ?_) | (with_reducible refine i_neS ?_) | (with_reducible refine i_isNoI ?_) | (with_reducible refine i_isNoN ?_) | (with_reducible refine i_isNoR ?_)
  | ((with_reducible refine i_pow ?q1 ?q2 ?q3 ?_); (case q1 => decide); (case q2 => decide); (case q3 => (with_reducible omega)))
  | ((with_reducible refine i_rI ?q1 ?_); (case q1 => walk_at "ci"))
  | (with_reducible refine Or.inl ⟨_, rfl, ?_⟩) | (with_reducible refine Or.inr ⟨_, rfl, ?_⟩) | (with_reducible refine ⟨_, rfl, ?_⟩) | (with_reducible refine ⟨_, _, rfl, ?_⟩) | (with_reducible refine ⟨_, _, rfl, rfl, ?_⟩)
  | ((with_reducible refine' ⟨_, _, rfl, Or.inl (sqL_of ?q1), ?_⟩); (case q1 => walk_at "hp")) | ((with_reducible refine' ⟨_, _, rfl, Or.inr (sqT_of ?q1), ?_⟩); (case q1 => walk_at "hp")) | (with_reducible refine i_dget ?_) | (with_reducible refine i_disp1T ?_) | (with_reducible refine i_dcT ?_) | (with_reducible refine i_dnewT ?_) | fail)
local macro_rules | `(tactic| walk_at "rd") => `(tactic| repeat' walk_at "rd1")

theorem room65 {k : Nat} {A : Around} (r : Room k A) : A.units + 65 < cLine := by have := r.un; omega
theorem sqT_del {K : PySem.W.Frag} {H : Hp} {b a : Addr} {d : Int} {xs : List V} (B : BoxAt H b d) (h : SqT K H a xs) : SqT K (L2.del H b) a xs := by
  rcases h with (h | ⟨o, h⟩) | h
  · refine .inl (.inl ?_)
    rw [L2.del_ne fun q => ?_]
    · exact h
    · obtain ⟨_, _, _, _, e2, _⟩ := B.ex
      rw [q, e2] at h; cases h
  · refine .inl (.inr ⟨o, ?_⟩)
    rw [L2.del_ne fun q => ?_]
    · exact h
    · obtain ⟨_, _, _, _, e2, _⟩ := B.ex
      rw [q, e2] at h; cases h
  · exact .inr h
theorem LnAt.same {K : PySem.W.Frag} {G G' : Hp} {v : V} {l : List Nat} (h : LnAt K G v l) (s : Same G G') : LnAt K G' v l := by
  obtain ⟨a, rfl, e⟩ := h; exact ⟨a, rfl, Same.sqT s e⟩
theorem LnAt.sub {K : PySem.W.Frag} {H : Hp} {b : Addr} {v : V} {l : List Nat} (h : LnAt K (L2.del H b) v l) : LnAt K H v l := h.same del_sub
theorem LnAt.del {K : PySem.W.Frag} {H : Hp} {b : Addr} {d : Int} {v : V} {l : List Nat} (B : BoxAt H b d) (h : LnAt K H v l) : LnAt K (L2.del H b) v l := by
  obtain ⟨a, rfl, e⟩ := h; exact ⟨a, rfl, sqT_del B e⟩
/-- two lines and kinds -/
structure ScAt (K : PySem.W.Frag) (G : Hp) (v1 v2 : V) (kp : Addr) (a c : List Nat) (ks : List Pg) : Prop where
  h1 : LnAt K G v1 a
  h2 : LnAt K G v2 c
  hk : KL G kp ks
  a5 : ∀ x ∈ a, x < 5
  c5 : ∀ x ∈ c, x < 5
  kk : Kinds ks
  la : a.length ≤ 57
  lc : c.length ≤ 57
  lk : ks.length ≤ 60
theorem ScAt.same {K : PySem.W.Frag} {G G' : Hp} {v1 v2 : V} {kp : Addr} {a c : List Nat} {ks : List Pg} (h : ScAt K G v1 v2 kp a c ks) (s : Same G G') : ScAt K G' v1 v2 kp a c ks :=
  ⟨h.h1.same s, h.h2.same s, h.hk.same s, h.a5, h.c5, h.kk, h.la, h.lc, h.lk⟩
/-- _law_scene(box) -/
def spScene (K : PySem.W.Frag) : Sp := fun vs H Q _ => ∃ (b : Addr) (d : Int), vs = [.ref b] ∧ BoxAt H b d ∧ d + 1000 ≤ 1000000 ∧
  ∀ q v1 v2 kp a c ks H', L2.del H' b q = some (.lst [v1, v2, .ref kp]) → ScAt K (L2.del H' b) v1 v2 kp a c ks → BoxAt H' b (d + 1000) → SB b H H' → Q (.ref q) H'
section
variable {P : Program} {w : World} {K : PySem.W.Frag} {mg : Str → Option Value} {base : Heap} {f : Addr} {fd : FuncData}
theorem ok_scene (F : Fun K "_law_scene" "_law_scene" s__law_scene f fd) (z : Z mg) (c__law_take : Cal P w K mg base "_law_take" ["box", "many"] 1 spTake) (c__law_kinds : Cal P w K mg base "_law_kinds" ["box", "signs"] 3 spKindsP) (c__law_line : Cal P w K mg base "_law_line" ["box", "signs"] 2 (spLineP K)) (c__law_spoilt : Cal P w K mg base "_law_spoilt" ["box", "line", "kinds", "often"] 2 (spSpoilt K)) : FnOk P w K mg base CX0 4 f fd ["box"] (spScene K) := by
  refine F.ok sc__law_scene (fun vs H Q E h => ?_) (fun cdv A outer s H vs Q E hr h => ?_)
  · obtain ⟨b, d, rfl, _⟩ := h; rfl
  · obtain ⟨b, d, rfl, B, hd, k⟩ := h
    refine ⟨_, (pss_cons (ps_set (i := 1) sc__law_scene.nd rfl (.inl rfl) (pe_op op_add pe_int (pe_cal c__law_take hr (pa_cons (pv 0) (pa_cons pe_int pa_nil)))))
      (pss_cons (ps_par3 (i := 2) (j := 3) (l := 4) rfl sc__law_scene.nd rfl rfl rfl (by decide) (by decide) (by decide) rfl rfl rfl (pa_cons (pe_cal c__law_kinds hr (pa_cons (pv 0) (pa_cons (pv 1) pa_nil))) (pa_cons (pe_cal c__law_line hr (pa_cons (pv 0) (pa_cons (pv 1) pa_nil))) (pa_cons (pe_cal c__law_take hr (pa_cons (pv 0) (pa_cons pe_int pa_nil))) pa_nil))) (by rfl))
      (pss_cons (ps_if (pt_cmpR op_lt (pv 4) pe_int (nomark _))
        (pss_one (ps_ret (pe_lstL (pa_cons (pv 3) (pa_cons (pe_cal c__law_spoilt hr (pa_cons (pv 0) (pa_cons (pv 3) (pa_cons (pv 2) (pa_cons (pe_ix ix_list (pe_lstL (pa_cons pe_int (pa_cons pe_int (pa_cons pe_int (pa_cons pe_int pa_nil))))) (pv 4) (fun _ _ => rfl)) pa_nil))))) (pa_cons (pv 2) pa_nil))))))
        pss_nil)
      (pss_cons (ps_if (pt_cmpR op_eq (pv 4) pe_int (nomark _))
        (pss_one (ps_ret (pe_lstL (pa_cons (pv 3) (pa_cons (pe_op op_catA (pe_slice sl_tupA (pv 3) (po_some pe_int) po_none) (pe_slice sl_tupA (pv 3) po_none (po_some pe_int))) (pa_cons (pv 2) pa_nil))))))
        pss_nil)
      (pss_cons (ps_if (pt_cmpR op_eq (pv 4) pe_int (nomark _))
        (pss_one (ps_ret (pe_lstL (pa_cons (pv 3) (pa_cons (pv 3) (pa_cons (pv 2) pa_nil))))))
        pss_nil)
      (pss_one (ps_ret (pe_lstL (pa_cons (pv 3) (pa_cons (pe_cal c__law_line hr (pa_cons (pv 0) (pa_cons (pv 1) pa_nil))) (pa_cons (pv 2) pa_nil))))))))))), ?_⟩
    walk_at "rd"
    refine ⟨b, 5, d, rfl, B, by omega, by omega, by omega, fun sg H1 sg0 sg1 B1 s1 => ?_⟩
    walk_at "rd"
    obtain ⟨n, en⟩ : ∃ n : Nat, 1 + sg = n := ⟨(1 + sg).toNat, by omega⟩
    rw [en]
    refine ⟨b, n, _, rfl, by omega, by omega, B1, by omega, fun kp ks H2 _ K2 kk lk B2 s2 => ?_⟩
    walk_at "rd"
    refine ⟨b, n, _, rfl, by omega, by omega, B2, by omega, fun lp l H3 L3 ll l5 B3 s3 => ?_⟩
    walk_at "rd"
    refine ⟨b, 8, _, rfl, B3, by omega, by omega, by omega, fun way H4 w0 w1 B4 s4 => ?_⟩
    have K4 := (K2.same (del_sb s3)).same (del_sb s4)
    have L4 := L3.same (del_sb s4)
    have s04 := s1.trans (s2.trans (s3.trans s4))
    have fin : ∀ {v2 : V} {c : List Nat} {H5 : Hp} {d' : Int}, SB b H4 H5 → BoxAt H5 b d' → d' ≤ d + 1000 → LnAt K (L2.del H5 b) v2 c → (∀ x ∈ c, x < 5) → c.length ≤ 57 → NewLL [.ref lp, v2, .ref kp] H5 Q := fun {v2 c H5 d'} s5 B5 hd5 L5 c5 lc => by
      refine newLL B5 (Nat.le_of_ble_eq_true rfl) fun q H6 _ n6 B6 s6 e6 t6 => ?_
      exact k q _ _ _ _ _ _ H6 e6 ⟨(L4.same (del_sb s5)).same s6, L5.same s6, (K4.same (del_sb s5)).same s6, l5, c5, kk, by omega, lc, by omega⟩ (B6.mono (by omega)) (s04.trans (s5.trans (SB.of t6)))
    walk_at "rd"
    refine iteB (fun way4 => ?_) (fun way4 => ?_)
    · walk_at "rd"
      refine newLL B4 (Nat.le_of_ble_eq_true rfl) fun p5 H5 _ n5 B5 s5 e5 t5 => ?_
      have e5 := del_sub _ _ e5
      obtain ⟨o, eo, o1, o5⟩ : ∃ o : Nat, ([.int 2, .int 3, .int 5, .int 4] : List V)[way.toNat]? = some (.int o) ∧ 1 ≤ o ∧ o ≤ 10 := by
        have hr : way = 0 ∨ way = 1 ∨ way = 2 ∨ way = 3 := by omega
        rcases hr with rfl | rfl | rfl | rfl
        · exact ⟨2, rfl, by omega, by omega⟩
        · exact ⟨3, rfl, by omega, by omega⟩
        · exact ⟨5, rfl, by omega, by omega⟩
        · exact ⟨4, rfl, by omega, by omega⟩
      walk_at "rd"
      refine i_ixLv e5 w0 eo ?_
      refine ⟨b, kp, .ref lp, o, l, ks, _, rfl, o1, o5, L4.same s5, ll, l5, K4.same s5, kk, lk, B5, by omega, fun q c H6 L6 lc c5 B6 s6 => ?_⟩
      walk_at "rd"
      exact fin ((SB.of t5).trans s6) B6 (by omega) L6 c5 lc
    walk_at "rd"
    refine iteB (fun way5 => ?_) (fun way5 => ?_)
    · obtain ⟨lp', e', L4s⟩ := L4.sub
      cases e'
      walk_at "rd"
      refine i_slTF (k := 1) L4s fun p5 H5 s5 e5 => ?_
      walk_at "rd"
      refine i_slTT (k := 1) (Same.sqT s5 L4s) fun p6 H6 s6 e6 => ?_
      walk_at "rd"
      refine i_catT (Same.sqT s6 e5) e6 (Nat.le_of_lt (sm100 (by rw [List.length_drop, List.length_take, List.length_map]; omega))) fun p7 H7 s7 e7 => ?_
      walk_at "rd"
      have sx := s5.trans (s6.trans s7)
      have B7 := B4.same sx
      rw [← List.map_drop, ← List.map_take, ← List.map_append] at e7
      refine fin (SB.of sx) B7 (by omega) (LnAt.del B7 ⟨p7, rfl, e7⟩) (fun x hx => ?_) (by rw [List.length_append, List.length_drop, List.length_take]; omega)
      rcases List.mem_append.mp hx with hx | hx
      · exact l5 x (List.mem_of_mem_drop hx)
      · exact l5 x (List.mem_of_mem_take hx)
    walk_at "rd"
    refine iteB (fun way6 => ?_) (fun way6 => ?_)
    · walk_at "rd"
      exact fin (SB.refl _) B4 (by omega) L4 l5 (by omega)
    walk_at "rd"
    refine ⟨b, n, _, rfl, by omega, by omega, B4, by omega, fun q c H5 L5 lc c5 B5 s5 => ?_⟩
    walk_at "rd"
    exact fin s5 B5 (by omega) L5 c5 (by omega)
end
end Sw
namespace Sw
open PySem PySem.Spec PyProof.Rows L2
local macro_rules | `(tactic| walk_at "hp") => `(tactic| first
  | (with_reducible assumption) | (with_reducible exact upd_same)
  | ((with_reducible refine' upd_old ?q1 ?q2); (case q1 => (with_reducible assumption)); (case q2 => walk_at "hp"))
  | ((with_reducible refine' Same.at ?q1 ?q2); (case q1 => (with_reducible assumption)); (case q2 => walk_at "hp"))
  | ((with_reducible refine' upd_skip ?q1 ?q2); (case q1 => walk_at "ne"); (case q2 => walk_at "hp"))
  | fail)
local macro_rules | `(tactic| walk_at "ne") => `(tactic| first
  | (with_reducible assumption) | (with_reducible exact Ne.symm (by assumption))
  | ((with_reducible refine' ne_of_none ?q1 ?q2); (case q2 => (with_reducible assumption)); (case q1 => walk_at "hp"))
  | fail)
local macro_rules | `(tactic| walk_at "ci") => `(tactic| first | assumption | (show (0 : Int) < _; first | decide | (with_reducible omega)) | exact ⟨by decide, by decide⟩ | exact .inl ⟨by decide, by decide⟩ | exact .inr ⟨by decide, by decide⟩)
local macro_rules | `(tactic| walk_at "ln") => `(tactic| first | (with_reducible assumption) | (with_reducible omega) | (simp only [List.length_append, List.length_take, List.length_drop, List.length_reverse, List.length_cons, List.length_nil]; with_reducible omega))
local macro_rules | `(tactic| walk_at "rd1") => `(tactic| first
  | (with_reducible refine i_seq ?_) | (with_reducible refine i_asg ?_) | (with_reducible refine i_ret ?_) | (with_reducible refine i_name ?_) | ((with_reducible refine' i_var ?q1 ?_); (case q1 => exact rfl)) | (with_reducible refine i_c ?_) | (with_reducible refine i_op ?_) | (with_reducible refine i_un ?_)
  | (with_reducible refine i_rI0 ?_) | (with_reducible refine i_cb ?_) | (with_reducible refine i_cons ?_) | (with_reducible refine i_nil ?_) | (with_reducible refine i_call ?_) | (with_reducible refine i_if ?_) | (with_reducible refine i_ifE ?_) | (with_reducible refine i_test ?_) | (with_reducible refine i_bl ?_)
  | (with_reducible refine i_and ?_) | (with_reducible refine i_or ?_) | (with_reducible refine i_not ?_) | (with_reducible refine i_lstM ?_) | (with_reducible refine i_lstLM ?_) | (with_reducible refine i_tupM ?_) | (with_reducible refine i_next ?_) | (with_reducible refine i_drop ?_) | (with_reducible refine i_sub ?_)
  | (with_reducible refine i_bm ?_) | (with_reducible refine i_sl ?_) | (with_reducible refine i_part ?_) | (with_reducible refine i_nopart ?_) | (with_reducible refine i_exI ?_) | (with_reducible refine i_chain ?_) | ((with_reducible refine' i_aug ?q1 ?_); (case q1 => exact rfl)) | (with_reducible refine i_ip ?_)
  | (with_reducible refine i_par ?_) | (with_reducible refine i_pair ?_) | (with_reducible refine i_andV ?_) | (with_reducible refine i_orV ?_) | (with_reducible refine i_notV ?_) | (with_reducible refine i_m1 ?_) | (with_reducible refine i_str ?_)
  | (with_reducible refine iteF ?_) | (with_reducible refine iteT ?_) | (with_reducible refine iteNT ?_) | (with_reducible refine iteNF ?_) | (with_reducible refine i_tyS ?_) | (with_reducible refine i_tB ?_) | (with_reducible refine i_retN ?_) | (with_reducible refine i_par3 ?_) | (with_reducible refine i_trip ?_) | (with_reducible refine i_gCons ?_) | (with_reducible refine i_gNil ?_) | (with_reducible refine i_lstRg ?_) | (with_reducible refine i_rg1 ?_)
  | (with_reducible refine i_lc ?_) | (with_reducible refine i_for ?_) | (with_reducible refine i_iList ?_) | (with_reducible refine i_iTup ?_) | (with_reducible refine i_iStr ?_) | (with_reducible refine i_iRng1 ?_) | (with_reducible refine i_iEnS ?_)
  | ((with_reducible refine' i_ixTH ?q1 ?q2 ?_); (case q1 => walk_at "hp"); (case q2 => exact rfl))
  | ((with_reducible refine' i_ixLH ?q1 ?q2 ?_); (case q1 => walk_at "hp"); (case q2 => exact rfl))
  | ((with_reducible refine i_addS ?q1 ?_); (case q1 => walk_at "ln")) | ((with_reducible refine i_lenSS ?q1 ?_); (case q1 => walk_at "ln")) | ((with_reducible refine i_slFrom ?q1 ?q2 ?_); (case q1 => walk_at "ln"); (case q2 => walk_at "ln")) | ((with_reducible refine i_slTo ?q1 ?q2 ?_); (case q1 => walk_at "ln"); (case q2 => walk_at "ln"))
  | ((with_reducible refine' i_tyL ?q1 ?_); (case q1 => walk_at "hp"))
  | ((with_reducible refine' i_gTupH ?q1 ?q2 ?_); (case q1 => walk_at "hp"); (case q2 => exact rfl))
  | (with_reducible refine i_dnewM ?_) | (with_reducible refine i_init ?_) | (with_reducible refine i_fst ?_) | (with_reducible refine i_mk ?_) | (with_reducible refine i_raise ?_) | (with_reducible refine i_callS ?_) | (with_reducible refine i_kwS ?_)
  | (with_reducible refine i_revT ?_) | (with_reducible refine i_kw ?_) | ((with_reducible refine' ⟨_, _, rfl, sqT_of ?q1, ?_⟩); (case q1 => walk_at "hp"))
  | (with_reducible refine i_revS ?_) | ((with_reducible refine i_revSS ?q1 ?_); (case q1 => walk_at "ln"))
  | (with_reducible refine i_startS ?_) | (with_reducible refine i_inSg ?_) | (with_reducible refine i_absN ?_) | (with_reducible refine i_min2 ?_) | (with_reducible refine i_max2 ?_) | (with_reducible refine i_min3 ?_) | (with_reducible refine i_intN ?_) | (with_reducible refine i_intNB ?_)
  | ((with_reducible refine' i_lenL ?q1 ?_); (case q1 => walk_at "hp")) | ((with_reducible refine' i_lenT ?q1 ?_); (case q1 => walk_at "hp"))
  | (with_reducible refine i_eqI ?_) | (with_reducible refine i_neI ?_) | (with_reducible refine i_eqS ?_) | (with_reducible refine i_neS ?_) | (with_reducible refine i_isNoI ?_) | (with_reducible refine i_isNoN ?_) | (with_reducible refine i_isNoR ?_)
  | ((with_reducible refine i_pow ?q1 ?q2 ?q3 ?_); (case q1 => decide); (case q2 => decide); (case q3 => (with_reducible omega)))
  | ((with_reducible refine i_rI ?q1 ?_); (case q1 => walk_at "ci"))
  | (with_reducible refine Or.inl ⟨_, rfl, ?_⟩) | (with_reducible refine Or.inr ⟨_, rfl, ?_⟩) | (with_reducible refine ⟨_, rfl, ?_⟩) | (with_reducible refine ⟨_, _, rfl, ?_⟩) | (with_reducible refine ⟨_, _, rfl, rfl, ?_⟩)
  | ((with_reducible refine' ⟨_, _, rfl, Or.inl (sqL_of ?q1), ?_⟩); (case q1 => walk_at "hp")) | ((with_reducible refine' ⟨_, _, rfl, Or.inr (sqT_of ?q1), ?_⟩); (case q1 => walk_at "hp")) | (with_reducible refine i_dget ?_) | (with_reducible refine i_disp1T ?_) | (with_reducible refine i_dcT ?_) | (with_reducible refine i_dnewT ?_) | fail)
local macro_rules | `(tactic| walk_at "rd") => `(tactic| repeat' walk_at "rd1")

/-! ### the law's own table -/
theorem eqv_nat (x y : Nat) : PyData.eqv (.int (x : Int)) (.int (y : Int)) = decide (x = y) := by
  rw [eqv_int]
  by_cases h : x = y
  · rw [h, decide_eq_true rfl, decide_eq_true rfl]
  · rw [decide_eq_false h, decide_eq_false (by omega)]
theorem eqv_S (a b : List Nat) : PyData.eqv (.str (S a)) (.str (S b)) = decide (a = b) := by
  simp only [PyData.eqv]
  by_cases c : a = b
  · rw [c, decide_eq_true rfl, beq_self_eq_true]
  · rw [decide_eq_false c, beq_eq_false_iff_ne]
    exact fun q => c (S_inj.mp q)
theorem eqv_t2 (x y x' y' : PyData) : PyData.eqv (.tuple [x, y]) (.tuple [x', y']) = (PyData.eqv x x' && PyData.eqv y y') := by simp only [PyData.eqv, PyData.eqvAll, Bool.and_true]
theorem eqv_t3 (x y z x' y' z' : PyData) : PyData.eqv (.tuple [x, y, z]) (.tuple [x', y', z']) = (PyData.eqv x x' && (PyData.eqv y y' && PyData.eqv z z')) := by simp only [PyData.eqv, PyData.eqvAll, Bool.and_true]
theorem eqv_t23 (x y x' y' z' : PyData) : PyData.eqv (.tuple [x, y]) (.tuple [x', y', z']) = false := by simp only [PyData.eqv, PyData.eqvAll, Bool.and_false]
theorem eqv_t32 (x y z x' y' : PyData) : PyData.eqv (.tuple [x, y, z]) (.tuple [x', y']) = false := by simp only [PyData.eqv, PyData.eqvAll, Bool.and_false]
theorem Pg.eqv (s t : Pg) : PyData.eqv s.dat t.dat = decide (s = t) := by
  cases s <;> cases t <;> simp only [Pg.dat, eqv_t2, eqv_t3, eqv_t23, eqv_t32, eqv_S, eqv_nat] <;> simp (decide := true)
theorem any_in (ks : List Pg) (s : Pg) : ((ks.map Pg.dat).any fun z => PyData.eqv z s.dat) = inP ks s := by
  rw [List.any_map]
  unfold inP
  rw [Bool.eq_iff_iff, List.any_eq_true, decide_eq_true_iff]
  constructor
  · rintro ⟨x, hx, e⟩
    rw [Function.comp, Pg.eqv] at e
    exact of_decide_eq_true e ▸ hx
  · exact fun h => ⟨s, h, by rw [Function.comp, Pg.eqv]; exact decide_eq_true rfl⟩
theorem i_inK {K : PySem.W.Frag} {H : Hp} {t kp : Addr} {ks : List Pg} {s : Pg} {Q : VK} (et : H t = some (.tup s.vals)) (hk : KL H kp ks) (kk : Kinds ks) (hs : s.top < 500) (q : Q (.bl (inP ks s)) H) : rInD K (.ref t) (.ref kp) H Q := by
  obtain ⟨vs, e, pr⟩ := hk
  have fl : (PyData.list (ks.map Pg.dat)).hasDict = false := by
    have := hasDict_tup.mpr (pg_flat (ks := ks))
    simpa only [PyData.hasDict] using this
  refine ⟨s.dat, ks.map Pg.dat, (Pg.de et).dp s.flat, .lst (sqL_of e) (dp_of (kd_de pr) pg_flat), (Pg.sd hs).shaped (by omega) s.flat, (sd_lst' (pg_sds fun x hx => Nat.lt_trans (Pg.kind_top (kk x hx)) (by decide))).shaped (by omega) fl, ?_⟩
  rw [any_in]; exact q
def ofN : Option Nat → V
  | none => .non
  | some e => iV e
def c0 (i j : Nat) : List Nat := if i + j = 0 then [0] else []
def cL (A : Pg → Bool) (a b : List Nat) (j : Nat) : Nat → List Nat
  | i + 1 => (cndP A (fwP A a b i j) (.lost (a.getD i 0))).toList
  | 0 => []
def cP (A : Pg → Bool) (a b : List Nat) (i : Nat) : Nat → List Nat
  | j + 1 => (cndP A (fwP A a b i j) (.put (b.getD j 0))).toList
  | 0 => []
def cD (A : Pg → Bool) (a b : List Nat) : Nat → Nat → List Nat
  | i + 1, j + 1 => (cndP A (fwP A a b i j) (dgP (a.getD i 0) (b.getD j 0))).toList
  | _, _ => []
def cs (A : Pg → Bool) (a b : List Nat) (i j : Nat) : List Nat := c0 i j ++ cL A a b j i ++ cP A a b i j ++ cD A a b i j
theorem cnd_off {A : Pg → Bool} {x : Option Nat} {s : Pg} (h : A s = false) (c : s.cost = 1) : cndP A x s = none := by
  unfold cndP; rw [h, c]; rfl
theorem cnd_on {A : Pg → Bool} {x : Option Nat} {s : Pg} (h : A s = true) (c : s.cost = 1) : cndP A x s = x.map (· + 1) := by
  unfold cndP; rw [h, c]; rfl
theorem cnd_same {A : Pg → Bool} {x : Option Nat} {n : Nat} : cndP A x (.same n) = x := by
  unfold cndP
  rw [if_pos (by rfl)]
  cases x <;> rfl
theorem cs_none {A : Pg → Bool} {a b : List Nat} {i j : Nat} (h : cs A a b i j = []) : fwP A a b i j = none := by
  rcases i with _ | i <;> rcases j with _ | j
  · simp [cs, c0] at h
  · rw [fw_0j]
    simp only [cs, c0, cL, cP, cD] at h
    cases q : cndP A (fwP A a b 0 j) (.put (b.getD j 0)) with
    | none => rfl
    | some x => rw [q] at h; simp at h
  · rw [fw_i0]
    simp only [cs, c0, cL, cP, cD] at h
    cases q : cndP A (fwP A a b i 0) (.lost (a.getD i 0)) with
    | none => rfl
    | some x => rw [q] at h; simp at h
  · rw [fw_ij]
    simp only [cs, c0, cL, cP, cD] at h
    cases q1 : cndP A (fwP A a b (i + 1) j) (.put (b.getD j 0)) <;> cases q2 : cndP A (fwP A a b i (j + 1)) (.lost (a.getD i 0)) <;> cases q3 : cndP A (fwP A a b i j) (dgP (a.getD i 0) (b.getD j 0)) <;> rw [q1, q2, q3] at h <;> simp at h
    rfl
theorem cs_min {A : Pg → Bool} {a b : List Nat} {i j m : Nat} (h : m ∈ cs A a b i j) (l : ∀ y ∈ cs A a b i j, m ≤ y) : fwP A a b i j = some m := by
  rcases i with _ | i <;> rcases j with _ | j
  · simp [cs, c0, cL, cP, cD] at h
    rw [h, fw_00]
  · rw [fw_0j]
    simp only [cs, c0, cL, cP, cD] at h
    cases q : cndP A (fwP A a b 0 j) (.put (b.getD j 0)) with
    | none => rw [q] at h; simp at h
    | some x => rw [q] at h; simp at h; rw [h]
  · rw [fw_i0]
    simp only [cs, c0, cL, cP, cD] at h
    cases q : cndP A (fwP A a b i 0) (.lost (a.getD i 0)) with
    | none => rw [q] at h; simp at h
    | some x => rw [q] at h; simp at h; rw [h]
  · rw [fw_ij]
    simp only [cs, c0, cL, cP, cD] at h l
    cases q1 : cndP A (fwP A a b (i + 1) j) (.put (b.getD j 0)) <;> cases q2 : cndP A (fwP A a b i (j + 1)) (.lost (a.getD i 0)) <;> cases q3 : cndP A (fwP A a b i j) (dgP (a.getD i 0) (b.getD j 0)) <;> rw [q1, q2, q3] at h l <;> simp at h l <;> simp only [ominP, Option.some.injEq] <;> omega
theorem tb_le {A : Pg → Bool} {a b : List Nat} : ∀ (n i j : Nat) {e : Nat} {r : Option (Pg × Nat × Nat)}, i + j ≤ n → tb A a b i j = some (e, r) → e ≤ i + j
  | 0, i, j, e, r, hn, h => by
    rcases r with _ | ⟨s, p, q⟩
    · have := (tb_zero h).2.2; omega
    · have := (tb_end h).less; omega
  | n + 1, i, j, e, r, hn, h => by
    rcases r with _ | ⟨s, p, q⟩
    · have := (tb_zero h).2.2; omega
    · have E := tb_end h
      obtain ⟨e', r', h', he⟩ := E.ahead
      have := tb_le n p q (by have := E.less; omega) h'
      have c1 : s.cost ≤ 1 := by cases s <;> simp [Pg.cost]
      have := E.less
      omega
theorem fw_le {A : Pg → Bool} {a b : List Nat} {i j e : Nat} (h : fwP A a b i j = some e) : e ≤ i + j := by
  unfold fwP at h
  cases q : tb A a b i j with
  | none => rw [q] at h; cases h
  | some x =>
    obtain ⟨e', r⟩ := x
    rw [q] at h
    cases h
    exact tb_le _ i j (Nat.le_refl _) q
theorem cnd_le {A : Pg → Bool} {x : Option Nat} {s : Pg} {n y : Nat} (h : ∀ e, x = some e → e ≤ n) (hy : y ∈ (cndP A x s).toList) : y ≤ n + 1 := by
  have c1 : s.cost ≤ 1 := by cases s <;> simp [Pg.cost]
  unfold cndP at hy
  split at hy
  · rcases x with _ | e
    · simp at hy
    · simp at hy
      have := h e rfl; omega
  · simp at hy
theorem cs_le {A : Pg → Bool} {a b : List Nat} {i j y : Nat} (h : y ∈ cs A a b i j) : y ≤ i + j + 1 := by
  have f : ∀ p q, ∀ e, fwP A a b p q = some e → e ≤ p + q := fun p q e he => fw_le he
  unfold cs at h
  rcases List.mem_append.mp h with h | h
  · rcases List.mem_append.mp h with h | h
    · rcases List.mem_append.mp h with h | h
      · unfold c0 at h; split at h <;> simp at h; omega
      · rcases i with _ | i
        · simp [cL] at h
        · have := cnd_le (f i j) h; omega
    · rcases j with _ | j
      · simp [cP] at h
      · have := cnd_le (f i j) h; omega
  · rcases i with _ | i <;> rcases j with _ | j
    · simp [cD] at h
    · simp [cD] at h
    · simp [cD] at h
    · have := cnd_le (f i j) h; omega
theorem i_neLj {K : PySem.W.Frag} {H : Hp} {a b : Addr} {l : List Nat} {Q : VK} (h1 : H a = some (.lst (l.map iV))) (h3 : H b = some (.lst [])) (h : ∀ n ∈ l, n < 100000) (k : Q (.bl (!l.isEmpty)) H) : rNeD K (.ref a) (.ref b) H Q := by
  have sd := sd_all (n := 0) (w := 140) (ds := l.map fun (n : Nat) => PyData.int (n : Int)) fun d hd => by
    obtain ⟨s, hs, rfl⟩ := List.mem_map.mp hd
    exact sd_int (by have := h s hs; omega)
  exact i_neL h1 (ints_de l) h3 sd ints_flat (by rw [show (l.map fun (n : Nat) => PyData.int (n : Int)).isEmpty = l.isEmpty by cases l <;> rfl]; exact k)
/-- the table, as far as it is filled -/
def TabAt (T : Nat → Nat → Option Nat) (tp : Addr) (F : Nat → Nat → Prop) (N : Nat) (H : Hp) : Prop := ∃ kvs, H tp = some (.dT kvs) ∧ kvs.length ≤ N ∧ ∀ i j, F i j → valV kvs (cellK i j) = some (ofN (T i j))
theorem TabAt.mono {T : Nat → Nat → Option Nat} {tp : Addr} {F F' : Nat → Nat → Prop} {N N' : Nat} {H : Hp} (h : TabAt T tp F N H) (hf : ∀ i j, F' i j → F i j) (hn : N ≤ N') : TabAt T tp F' N' H := by
  obtain ⟨kvs, h1, h2, h3⟩ := h
  exact ⟨kvs, h1, by omega, fun i j q => h3 i j (hf i j q)⟩
theorem TabAt.put {T : Nat → Nat → Option Nat} {tp : Addr} {F : Nat → Nat → Prop} {N i j : Nat} {H : Hp} {kvs : List (List Key × V)} (len : kvs.length ≤ N) (h : ∀ i j, F i j → valV kvs (cellK i j) = some (ofN (T i j))) :
    TabAt T tp (fun p q => F p q ∨ (p = i ∧ q = j)) (N + 1) (upd H tp (.dT (putK kvs (cellK i j) (ofN (T i j))))) := by
  refine ⟨_, upd_same, by have := length_putK kvs (cellK i j) (ofN (T i j)); omega, fun p q hpq => ?_⟩
  rw [valV_put]
  by_cases eq : p = i ∧ q = j
  · obtain ⟨rfl, rfl⟩ := eq
    rw [if_pos rfl]
  · rw [if_neg (fun z => eq (cellK_inj.mp z))]
    exact hpq.elim (h p q) fun z => (eq z).elim
theorem tup2 {H : Hp} {t : Addr} {x y : Int} {i j : Nat} (e : H t = some (.tup [.int x, .int y])) (hx : x = i) (hy : y = j) : H t = some (.tup ((cellK i j).map kV)) := by rw [e, hx, hy]; rfl
/-- _law_fewest(one, other, kinds) -/
def spFew (K : PySem.W.Frag) : Sp := fun vs H Q _ => ∃ (v1 v2 : V) (kp : Addr) (a b : List Nat) (ks : List Pg), vs = [v1, v2, .ref kp] ∧ LnAt K H v1 a ∧ LnAt K H v2 b ∧ KL H kp ks ∧ Kinds ks ∧ ks.length ≤ 100 ∧ (a.length + 1) * (b.length + 1) ≤ 7000 ∧ (∀ x ∈ a, x < 5) ∧ (∀ x ∈ b, x < 5) ∧
  ∀ H', Same H H' → Q (ofN (fwP (inP ks) a b a.length b.length)) H'
section
variable {P : Program} {w : World} {K : PySem.W.Frag} {mg : Str → Option Value} {base : Heap} {f : Addr} {fd : FuncData}
theorem ok_few (F : Fun K "_law_fewest" "_law_fewest" s__law_fewest f fd) (z : Z mg) : FnOk P w K mg base CX0 1 f fd ["one", "other", "kinds"] (spFew K) := by
  refine F.ok sc__law_fewest (fun vs H Q E h => ?_) (fun cdv A outer s H vs Q E hr h => ?_)
  · obtain ⟨v1, v2, kp, a, b, ks, rfl, _⟩ := h; rfl
  · obtain ⟨v1, v2, kp, a, b, ks, rfl, ⟨pa, rfl, ha⟩, ⟨pb, rfl, hb⟩, hk, kk, lk, size, a5, b5, k⟩ := h
    refine ⟨_, (pss_cons (ps_set (i := 3) sc__law_fewest.nd rfl (.inl rfl) pe_dnewT)
      (pss_cons (ps_for PassesOwn.never rfl (pi_range1 (by rfl) z.range (pa_cons (pe_op op_add (pe_callB call_lenQ (by rfl) z.len PySem.boot_len (pa_cons (pv 0) pa_nil)) pe_int) pa_nil)) (pg_name (i := 4) sc__law_fewest.nd rfl (.inl rfl))
        (pss_one (ps_for PassesOwn.never rfl (pi_range1 (by rfl) z.range (pa_cons (pe_op op_add (pe_callB call_lenQ (by rfl) z.len PySem.boot_len (pa_cons (pv 1) pa_nil)) pe_int) pa_nil)) (pg_name (i := 5) sc__law_fewest.nd rfl (.inl rfl))
          (pss_cons (ps_set (i := 6) sc__law_fewest.nd rfl (.inl rfl) (pe_ifExp (pt_cmpR op_eq (pe_op op_add (pv 4) (pv 5)) pe_int (nomark _)) (pe_lst (pa_cons pe_int pa_nil)) (pe_lst pa_nil)))
          (C8.pss_cut (ps_if (PW.pt (pw_and (pt_cmpR op_gt (pv 4) pe_int (nomark _)) (pw_and (pt_cmpR (op_inD (room65 hr)) (pe_tup (pa_cons (pe_strS (l := [108, 111, 115, 116]) (by decide +kernel)) (pa_cons (pe_ix ix_tup (pv 0) (pe_op op_sub (pv 4) pe_int) (fun _ _ => rfl)) pa_nil))) (pv 2) (by rfl)) (pw_and1 (pt_cmpR op_notN (pe_dget (room1 hr.units) (pv 3) (pe_tup (pa_cons (pe_op op_sub (pv 4) pe_int) (pa_cons (pv 5) pa_nil))) (fun _ _ => rfl)) pe_non (nomark _))))))
            (pss_one (ps_expr (pe_bm PySem.F.plainAttrs_list PySem.F.slot_list_append PySem.F.type_list_append mt_append (pv 6) (pa_cons (pe_op op_add (pe_dget (room1 hr.units) (pv 3) (pe_tup (pa_cons (pe_op op_sub (pv 4) pe_int) (pa_cons (pv 5) pa_nil))) (fun _ _ => rfl)) pe_int) pa_nil))))
            pss_nil)
          (C8.pss_cut (ps_if (PW.pt (pw_and (pt_cmpR op_gt (pv 5) pe_int (nomark _)) (pw_and (pt_cmpR (op_inD (room65 hr)) (pe_tup (pa_cons (pe_strS (l := [112, 117, 116]) (by decide +kernel)) (pa_cons (pe_ix ix_tup (pv 1) (pe_op op_sub (pv 5) pe_int) (fun _ _ => rfl)) pa_nil))) (pv 2) (by rfl)) (pw_and1 (pt_cmpR op_notN (pe_dget (room1 hr.units) (pv 3) (pe_tup (pa_cons (pv 4) (pa_cons (pe_op op_sub (pv 5) pe_int) pa_nil))) (fun _ _ => rfl)) pe_non (nomark _))))))
            (pss_one (ps_expr (pe_bm PySem.F.plainAttrs_list PySem.F.slot_list_append PySem.F.type_list_append mt_append (pv 6) (pa_cons (pe_op op_add (pe_dget (room1 hr.units) (pv 3) (pe_tup (pa_cons (pv 4) (pa_cons (pe_op op_sub (pv 5) pe_int) pa_nil))) (fun _ _ => rfl)) pe_int) pa_nil))))
            pss_nil)
          (C8.pss_cut (ps_if (PW.pt (pw_and (pt_cmpR op_gt (pv 4) pe_int (nomark _)) (pw_and (pt_cmpR op_gt (pv 5) pe_int (nomark _)) (pw_and1 (pt_cmpR op_notN (pe_dget (room1 hr.units) (pv 3) (pe_tup (pa_cons (pe_op op_sub (pv 4) pe_int) (pa_cons (pe_op op_sub (pv 5) pe_int) pa_nil))) (fun _ _ => rfl)) pe_non (nomark _))))))
            (pss_one (ps_if (pt_cmpR op_eq (pe_ix ix_tup (pv 0) (pe_op op_sub (pv 4) pe_int) (fun _ _ => rfl)) (pe_ix ix_tup (pv 1) (pe_op op_sub (pv 5) pe_int) (fun _ _ => rfl)) (nomark _))
              (pss_one (ps_expr (pe_bm PySem.F.plainAttrs_list PySem.F.slot_list_append PySem.F.type_list_append mt_append (pv 6) (pa_cons (pe_dget (room1 hr.units) (pv 3) (pe_tup (pa_cons (pe_op op_sub (pv 4) pe_int) (pa_cons (pe_op op_sub (pv 5) pe_int) pa_nil))) (fun _ _ => rfl)) pa_nil))))
              (pss_one (ps_if (pt_cmpR (op_inD (room65 hr)) (pe_tup (pa_cons (pe_strS (l := [116, 117, 114, 110, 101, 100]) (by decide +kernel)) (pa_cons (pe_ix ix_tup (pv 0) (pe_op op_sub (pv 4) pe_int) (fun _ _ => rfl)) (pa_cons (pe_ix ix_tup (pv 1) (pe_op op_sub (pv 5) pe_int) (fun _ _ => rfl)) pa_nil)))) (pv 2) (by rfl))
                (pss_one (ps_expr (pe_bm PySem.F.plainAttrs_list PySem.F.slot_list_append PySem.F.type_list_append mt_append (pv 6) (pa_cons (pe_op op_add (pe_dget (room1 hr.units) (pv 3) (pe_tup (pa_cons (pe_op op_sub (pv 4) pe_int) (pa_cons (pe_op op_sub (pv 5) pe_int) pa_nil))) (fun _ _ => rfl)) pe_int) pa_nil))))
                pss_nil))))
            pss_nil)
          (pss_one (ps_asg (pe_ifExp (pt_cmpR (op_neD hr.units) (pv 6) (pe_lst pa_nil) (nomark _)) (pe_callB (cr_min rfl) (by rfl) z.min_ (by decide +kernel) (pa_cons (pv 6) pa_nil)) pe_non) (pg_sub (pv 3) (pe_tup (pa_cons (pv 4) (pa_cons (pv 5) pa_nil))) (set_dict (room1 hr.units))))))))))))
      (pss_one (ps_ret (pe_dget (room1 hr.units) (pv 3) (pe_tup (pa_cons (pe_callB call_lenQ (by rfl) z.len PySem.boot_len (pa_cons (pv 0) pa_nil)) (pa_cons (pe_callB call_lenQ (by rfl) z.len PySem.boot_len (pa_cons (pv 1) pa_nil)) pa_nil))) (fun _ _ => rfl)))))), ?_⟩
    walk_at "rd"
    intro tp ntp
    walk_at "rd"
    have la : a.length < 7000 := by
      have := Nat.le_mul_of_pos_right (a.length + 1) (show 0 < b.length + 1 by omega); omega
    have lb : b.length < 7000 := by
      have := Nat.le_mul_of_pos_left (b.length + 1) (show 0 < a.length + 1 by omega); omega
    have ha' : ∀ {Hx}, Same H Hx → SqT K Hx pa (a.map iV) := fun s => Same.sqT s ha
    have hb' : ∀ {Hx}, Same H Hx → SqT K Hx pb (b.map iV) := fun s => Same.sqT s hb
    refine i_lenSqT (ha' (same_upd ntp)) ?_
    walk_at "rd"
    rw [List.length_map]
    refine i_rng (by omega) (by omega) ?_
    rw [show ((a.length : Int) + 1).toNat = a.length + 1 by omega]
    refine go_for walk_rangeZ (fun i σ Hx => ∃ (u4 u5 u6 : Option V), σ = [some (.ref pa), some (.ref pb), some (.ref kp), some (.ref tp), u4, u5, u6] ∧ Same H Hx ∧ TabAt (fwP (inP ks) a b) tp (fun p q => p < i ∧ q ≤ b.length) (i * (b.length + 1)) Hx)
      ⟨_, _, _, rfl, same_upd ntp, [], upd_same, by simp, fun p q h => by omega⟩ (fun _ _ _ _ _ => trivial) (fun i v σ Hx Hy hi h y => ?_) (fun σ Hx h => ?_)
    · obtain ⟨u4, u5, u6, rfl, sx, tab⟩ := h
      obtain ⟨rfl, rfl⟩ := y
      walk_at "rd"
      refine i_lenSqT (hb' sx) ?_
      walk_at "rd"
      rw [List.length_map]
      refine i_rng (by omega) (by omega) ?_
      rw [show ((b.length : Int) + 1).toNat = b.length + 1 by omega]
      refine go_for walk_rangeZ (fun j σ Hx => ∃ (u5 u6 : Option V), σ = [some (.ref pa), some (.ref pb), some (.ref kp), some (.ref tp), some (iV i), u5, u6] ∧ Same H Hx ∧ TabAt (fwP (inP ks) a b) tp (fun p q => (p < i ∧ q ≤ b.length) ∨ (p = i ∧ q < j)) (i * (b.length + 1) + j) Hx)
        ⟨_, _, rfl, sx, tab.mono (fun p q h => by omega) (by omega)⟩ (fun _ _ _ _ _ => trivial) (fun j v σ Hx Hy hj h y => ?_) (fun σ Hx h => ?_)
      · obtain ⟨u5, u6, rfl, sx, ⟨kvs, ek, lkv, hkv⟩⟩ := h
        obtain ⟨rfl, rfl⟩ := y
        have fin : True := trivial
        refine i_seq (i_asg (val_te (fun v H' => ∃ wp, v = .ref wp ∧ Hy wp = none ∧ H' wp = some (.lst ((c0 i j).map iV)) ∧ Same Hy H') (fun Q' hQ => ?_) (fun v H1 hv => ?_)))
        · walk_at "rd"
          refine iteB (fun e => ?_) (fun e => ?_)
          · walk_at "rd"
            refine newL0 (Nat.le_of_ble_eq_true rfl) fun wp H1 nw s1 e1 => hQ _ _ ⟨wp, rfl, nw, ?_, s1⟩
            rw [e1, c0, if_pos (by omega)]; rfl
          · walk_at "rd"
            refine newL0 (Nat.le_of_ble_eq_true rfl) fun wp H1 nw s1 e1 => hQ _ _ ⟨wp, rfl, nw, ?_, s1⟩
            rw [e1, c0, if_neg (by omega)]; rfl
        obtain ⟨wp, rfl, nw, ew, s1⟩ := hv
        walk_at "rd"
        refine i_cut (fun σ' H' => σ' = [some (.ref pa), some (.ref pb), some (.ref kp), some (.ref tp), some (iV i), some (iV j), some (.ref wp)] ∧ H' wp = some (.lst ((c0 i j ++ cL (inP ks) a b j i).map iV)) ∧ Same Hy H') ?_ ?_
        · rcases i with _ | i
          · walk_at "rd"
            refine iteF ?_
            exact ⟨rfl, by rw [ew]; simp [cL], s1⟩
          · walk_at "rd"
            rw [decide_eq_true (show (0 : Int) < ((i + 1 : Nat) : Int) by omega)]
            walk_at "rd"
            refine i_ixTz (k := i) (ha' (sx.trans s1)) (by omega) (ln_get (by omega)) ?_
            walk_at "rd"
            refine newT0 (Nat.le_of_ble_eq_true rfl) fun t H2 nt s2 et => ?_
            have top := a5 _ (getD_mem (l := a) (i := i) (by omega))
            have s12 := s1.trans s2
            walk_at "rd"
            refine i_inK (s := .lost (a.getD i 0)) et (hk.same (sx.trans s12)) kk (Nat.lt_trans top (by decide)) ?_
            have e0 : cL (inP ks) a b j (i + 1) = (cndP (inP ks) (fwP (inP ks) a b i j) (.lost (a.getD i 0))).toList := rfl
            rw [e0]
            refine ⟨_, rfl, iteC (fun eA => ?_) (fun eA => ?_)⟩
            · rw [cnd_on eA rfl]
              walk_at "rd"
              refine newT0 (Nat.le_of_ble_eq_true rfl) fun t2 H3 nt2 s3 et2 => ?_
              refine i_dgetT (ks := cellK i j) (s3 _ _ (s12 _ _ ek)) (tup2 et2 (by omega) (by omega)) (hkv _ _ (by omega)) ?_
              have s13 := s12.trans s3
              walk_at "rd"
              refine ⟨rfl, ?_⟩
              have ew3 := s3 _ _ (s2 _ _ ew)
              rcases eF : fwP (inP ks) a b i j with _ | e
              · rw [show decide (ofN none = V.non) = true from rfl]
                refine ⟨false, rfl, ?_⟩
                exact ⟨rfl, by rw [ew3]; simp, s13⟩
              · rw [show decide (ofN (some e) = V.non) = false from rfl]
                walk_at "rd"
                refine newT0 (Nat.le_of_ble_eq_true rfl) fun t3 H4 nt3 s4 et3 => ?_
                refine i_dgetT (ks := cellK i j) (s4 _ _ (s3 _ _ (s12 _ _ ek))) (tup2 et3 (by omega) (by omega)) (hkv _ _ (by omega)) ?_
                rw [eF, show ofN (some e) = V.int (e : Int) from rfl]
                walk_at "rd"
                refine i_append (s4 _ _ ew3) (sm100 (by rw [List.length_map]; unfold c0; split <;> simp)) ?_
                refine ⟨rfl, ?_, Same.set_new (s13.trans s4) nw⟩
                rw [upd_same, List.map_append]; rfl
            · rw [cnd_off eA rfl]
              exact ⟨rfl, by rw [s2 _ _ ew]; simp, s12⟩
        · rintro σ' H2 ⟨rfl, ew2, s2⟩
          have lL : (cL (inP ks) a b j i).length ≤ 1 := by
            rcases i with _ | i
            · exact Nat.zero_le _
            · unfold cL; cases cndP (inP ks) (fwP (inP ks) a b i j) (.lost (a.getD i 0)) <;> simp
          have l0 : (c0 i j).length ≤ 1 := by unfold c0; split <;> simp
          walk_at "rd"
          refine i_cut (fun σ' H' => σ' = [some (.ref pa), some (.ref pb), some (.ref kp), some (.ref tp), some (iV i), some (iV j), some (.ref wp)] ∧ H' wp = some (.lst ((c0 i j ++ cL (inP ks) a b j i ++ cP (inP ks) a b i j).map iV)) ∧ Same Hy H') ?_ ?_
          · rcases j with _ | j
            · walk_at "rd"
              refine iteF ?_
              exact ⟨rfl, by rw [ew2]; simp [cP], s2⟩
            · walk_at "rd"
              rw [decide_eq_true (show (0 : Int) < ((j + 1 : Nat) : Int) by omega)]
              walk_at "rd"
              refine i_ixTz (k := j) (hb' (sx.trans s2)) (by omega) (ln_get (by omega)) ?_
              walk_at "rd"
              refine newT0 (Nat.le_of_ble_eq_true rfl) fun t H3 nt s3 et => ?_
              have top := b5 _ (getD_mem (l := b) (i := j) (by omega))
              have s13 := s2.trans s3
              walk_at "rd"
              refine i_inK (s := .put (b.getD j 0)) et (hk.same (sx.trans s13)) kk (Nat.lt_trans top (by decide)) ?_
              have e0 : cP (inP ks) a b i (j + 1) = (cndP (inP ks) (fwP (inP ks) a b i j) (.put (b.getD j 0))).toList := rfl
              rw [e0]
              refine ⟨_, rfl, iteC (fun eA => ?_) (fun eA => ?_)⟩
              · rw [cnd_on eA rfl]
                walk_at "rd"
                refine newT0 (Nat.le_of_ble_eq_true rfl) fun t2 H4 nt2 s4 et2 => ?_
                refine i_dgetT (ks := cellK i j) (s4 _ _ (s13 _ _ ek)) (tup2 et2 (by omega) (by omega)) (hkv _ _ (by omega)) ?_
                have s14 := s13.trans s4
                walk_at "rd"
                refine ⟨rfl, ?_⟩
                have ew4 := s4 _ _ (s3 _ _ ew2)
                rcases eF : fwP (inP ks) a b i j with _ | e
                · rw [show decide (ofN none = V.non) = true from rfl]
                  refine ⟨false, rfl, ?_⟩
                  exact ⟨rfl, by rw [ew4]; simp, s14⟩
                · rw [show decide (ofN (some e) = V.non) = false from rfl]
                  walk_at "rd"
                  refine newT0 (Nat.le_of_ble_eq_true rfl) fun t3 H5 nt3 s5 et3 => ?_
                  refine i_dgetT (ks := cellK i j) (s5 _ _ (s4 _ _ (s13 _ _ ek))) (tup2 et3 (by omega) (by omega)) (hkv _ _ (by omega)) ?_
                  rw [eF, show ofN (some e) = V.int (e : Int) from rfl]
                  walk_at "rd"
                  refine i_append (s5 _ _ ew4) (sm100 (by rw [List.length_map, List.length_append]; omega)) ?_
                  refine ⟨rfl, ?_, Same.set_new (s14.trans s5) nw⟩
                  rw [upd_same, List.map_append, List.map_append, List.map_append]; rfl
              · rw [cnd_off eA rfl]
                exact ⟨rfl, by rw [s3 _ _ ew2]; simp, s13⟩
          · rintro σ' H3 ⟨rfl, ew3, s3⟩
            have lP : (cP (inP ks) a b i j).length ≤ 1 := by
              rcases j with _ | j
              · exact Nat.zero_le _
              · unfold cP; cases cndP (inP ks) (fwP (inP ks) a b i j) (.put (b.getD j 0)) <;> simp
            walk_at "rd"
            refine i_cut (fun σ' H' => σ' = [some (.ref pa), some (.ref pb), some (.ref kp), some (.ref tp), some (iV i), some (iV j), some (.ref wp)] ∧ H' wp = some (.lst ((cs (inP ks) a b i j).map iV)) ∧ Same Hy H') ?_ ?_
            · have lw3 : (c0 i j ++ cL (inP ks) a b j i ++ cP (inP ks) a b i j).length ≤ 1000 := by rw [List.length_append, List.length_append]; omega
              have e0 : cs (inP ks) a b i j = c0 i j ++ cL (inP ks) a b j i ++ cP (inP ks) a b i j ++ cD (inP ks) a b i j := rfl
              rw [e0]
              generalize c0 i j ++ cL (inP ks) a b j i ++ cP (inP ks) a b i j = wl at *
              rcases i with _ | i
              · walk_at "rd"
                refine iteF ?_
                exact ⟨rfl, by rw [ew3]; simp [cD], s3⟩
              · walk_at "rd"
                rw [decide_eq_true (show (0 : Int) < ((i + 1 : Nat) : Int) by omega)]
                walk_at "rd"
                rcases j with _ | j
                · refine iteF ?_
                  exact ⟨rfl, by rw [ew3]; simp [cD], s3⟩
                · rw [decide_eq_true (show (0 : Int) < ((j + 1 : Nat) : Int) by omega)]
                  walk_at "rd"
                  refine newT0 (Nat.le_of_ble_eq_true rfl) fun t H4 nt s4 et => ?_
                  refine i_dgetT (ks := cellK i j) (s4 _ _ (s3 _ _ ek)) (tup2 et (by omega) (by omega)) (hkv _ _ (by omega)) ?_
                  have s14 := s3.trans s4
                  have ew4 := s4 _ _ ew3
                  have eD : cD (inP ks) a b (i + 1) (j + 1) = (cndP (inP ks) (fwP (inP ks) a b i j) (dgP (a.getD i 0) (b.getD j 0))).toList := rfl
                  rw [eD]
                  walk_at "rd"
                  refine ⟨rfl, ?_⟩
                  rcases eF : fwP (inP ks) a b i j with _ | e
                  · rw [show decide (ofN none = V.non) = true from rfl]
                    refine ⟨false, rfl, ?_⟩
                    refine ⟨rfl, ?_, s14⟩
                    rw [ew4, show cndP (inP ks) none (dgP (a.getD i 0) (b.getD j 0)) = none by unfold cndP; split <;> rfl]; simp
                  · rw [show decide (ofN (some e) = V.non) = false from rfl]
                    walk_at "rd"
                    refine i_ixTz (k := i) (ha' (sx.trans s14)) (by omega) (ln_get (by omega)) ?_
                    walk_at "rd"
                    refine i_ixTz (k := j) (hb' (sx.trans s14)) (by omega) (ln_get (by omega)) ?_
                    walk_at "rd"
                    refine iteB (fun exy => ?_) (fun nxy => ?_)
                    · have exy : a.getD i 0 = b.getD j 0 := by omega
                      rw [show dgP (a.getD i 0) (b.getD j 0) = .same (a.getD i 0) from if_pos exy, cnd_same]
                      walk_at "rd"
                      refine newT0 (Nat.le_of_ble_eq_true rfl) fun t3 H5 nt3 s5 et3 => ?_
                      refine i_dgetT (ks := cellK i j) (s5 _ _ (s14 _ _ ek)) (tup2 et3 (by omega) (by omega)) (hkv _ _ (by omega)) ?_
                      rw [eF, show ofN (some e) = V.int (e : Int) from rfl]
                      walk_at "rd"
                      refine i_append (s5 _ _ ew4) (sm100 (by rw [List.length_map]; omega)) ?_
                      refine ⟨rfl, ?_, Same.set_new (s14.trans s5) nw⟩
                      rw [upd_same, List.map_append]; rfl
                    · have nxy : ¬ a.getD i 0 = b.getD j 0 := by omega
                      rw [show dgP (a.getD i 0) (b.getD j 0) = .turned (a.getD i 0) (b.getD j 0) from if_neg nxy]
                      have topA := a5 _ (getD_mem (l := a) (i := i) (by omega))
                      have topB := b5 _ (getD_mem (l := b) (i := j) (by omega))
                      walk_at "rd"
                      refine i_ixTz (k := i) (ha' (sx.trans s14)) (by omega) (ln_get (by omega)) ?_
                      walk_at "rd"
                      refine i_ixTz (k := j) (hb' (sx.trans s14)) (by omega) (ln_get (by omega)) ?_
                      walk_at "rd"
                      refine newT0 (Nat.le_of_ble_eq_true rfl) fun t2 H5 nt2 s5 et2 => ?_
                      have s15 := s14.trans s5
                      walk_at "rd"
                      refine i_inK (s := .turned (a.getD i 0) (b.getD j 0)) et2 (hk.same (sx.trans s15)) kk (Nat.max_lt.mpr ⟨Nat.lt_trans topA (by decide), Nat.lt_trans topB (by decide)⟩) ?_
                      refine ⟨_, rfl, iteC (fun eA => ?_) (fun eA => ?_)⟩
                      · rw [cnd_on eA rfl]
                        have ew5 := s5 _ _ ew4
                        walk_at "rd"
                        refine newT0 (Nat.le_of_ble_eq_true rfl) fun t3 H6 nt3 s6 et3 => ?_
                        refine i_dgetT (ks := cellK i j) (s6 _ _ (s15 _ _ ek)) (tup2 et3 (by omega) (by omega)) (hkv _ _ (by omega)) ?_
                        rw [eF, show ofN (some e) = V.int (e : Int) from rfl]
                        walk_at "rd"
                        refine i_append (s6 _ _ ew5) (sm100 (by rw [List.length_map]; omega)) ?_
                        refine ⟨rfl, ?_, Same.set_new (s15.trans s6) nw⟩
                        rw [upd_same, List.map_append]; rfl
                      · rw [cnd_off eA rfl]
                        exact ⟨rfl, by rw [s5 _ _ ew4]; simp, s15⟩
            · rintro σ' H4 ⟨rfl, ew4, s4⟩
              refine i_asg (val_te (fun v H' => v = ofN (fwP (inP ks) a b i j) ∧ Same H4 H') (fun Q' hQ => ?_) (fun v H5 hv => ?_))
              · walk_at "rd"
                refine newL0 (Nat.le_of_ble_eq_true rfl) fun zp H5 nz s5 e5 => ?_
                have ew5 := s5 _ _ ew4
                refine i_neLj ew5 e5 (fun n hn => by have := cs_le hn; omega) ?_
                refine ⟨_, rfl, ?_⟩
                rcases ec : cs (inP ks) a b i j with _ | ⟨x0, xs0⟩
                · refine iteF ?_
                  walk_at "rd"
                  exact hQ _ _ ⟨by rw [cs_none ec]; rfl, s5⟩
                · refine iteT ?_
                  rw [ec] at ew5
                  walk_at "rd"
                  refine ⟨wp, (x0 :: xs0).map fun (n : Nat) => (n : Int), rfl, sqL_of ?_, by simp, fun m hm hl => ?_⟩
                  · rw [ew5, List.map_map]; rfl
                  · obtain ⟨m', hm', rfl⟩ := List.mem_map.mp hm
                    refine hQ _ _ ⟨?_, s5⟩
                    rw [cs_min (m := m') (by rw [ec]; exact hm') (fun y hy => by rw [ec] at hy; have := hl y (List.mem_map.mpr ⟨y, hy, rfl⟩); omega)]; rfl
              · obtain ⟨rfl, s5⟩ := hv
                walk_at "rd"
                refine newT0 (Nat.le_of_ble_eq_true rfl) fun t3 H6 nt3 s6 et3 => ?_
                have sy := s4.trans (s5.trans s6)
                have ek6 := sy _ _ ek
                have lt : kvs.length < sizeLine := by
                  have h1 : i * (b.length + 1) + j ≤ (a.length + 1) * (b.length + 1) := by
                    have h2 : i * (b.length + 1) + (b.length + 1) ≤ (a.length + 1) * (b.length + 1) := by
                      rw [← Nat.succ_mul]; exact Nat.mul_le_mul_right _ (by omega)
                    omega
                  exact Nat.lt_of_le_of_lt (show kvs.length ≤ 7000 by omega) (Nat.lt_of_lt_of_le (by decide : 7000 < 100000) (Nat.le_of_ble_eq_true rfl))
                refine i_setD (ks := cellK i j) ek6 et3 lt ?_
                exact ⟨_, _, rfl, Same.set_new (sx.trans sy) ntp, (TabAt.put lkv hkv).mono (fun p q h => by omega) (by omega)⟩
      · obtain ⟨u5, u6, rfl, sx, tab⟩ := h
        exact ⟨_, _, _, rfl, sx, tab.mono (fun p q h => by omega) (by rw [Nat.succ_mul]; omega)⟩
    · obtain ⟨u4, u5, u6, rfl, sx, tab⟩ := h
      obtain ⟨kvs, ek, lkv, hkv⟩ := tab
      walk_at "rd"
      refine i_lenSqT (ha' sx) ?_
      walk_at "rd"
      refine i_lenSqT (hb' sx) ?_
      walk_at "rd"
      rw [List.length_map, List.length_map]
      refine newT0 (Nat.le_of_ble_eq_true rfl) fun t H1 nt s1 et => ?_
      refine i_dgetT (ks := cellK a.length b.length) (s1 _ _ ek) et (hkv _ _ ⟨by omega, Nat.le_refl _⟩) ?_
      exact k _ (sx.trans s1)
end
end Sw
namespace Sw
open PySem PySem.Spec PyProof.Rows L2
local macro_rules | `(tactic| walk_at "hp") => `(tactic| first
  | (with_reducible assumption) | (with_reducible exact upd_same)
  | ((with_reducible refine' upd_old ?q1 ?q2); (case q1 => (with_reducible assumption)); (case q2 => walk_at "hp"))
  | ((with_reducible refine' Same.at ?q1 ?q2); (case q1 => (with_reducible assumption)); (case q2 => walk_at "hp"))
  | ((with_reducible refine' upd_skip ?q1 ?q2); (case q1 => walk_at "ne"); (case q2 => walk_at "hp"))
  | fail)
local macro_rules | `(tactic| walk_at "ne") => `(tactic| first
  | (with_reducible assumption) | (with_reducible exact Ne.symm (by assumption))
  | ((with_reducible refine' ne_of_none ?q1 ?q2); (case q2 => (with_reducible assumption)); (case q1 => walk_at "hp"))
  | fail)
local macro_rules | `(tactic| walk_at "ci") => `(tactic| first | assumption | (show (0 : Int) < _; first | decide | (with_reducible omega)) | exact ⟨by decide, by decide⟩ | exact .inl ⟨by decide, by decide⟩ | exact .inr ⟨by decide, by decide⟩)
local macro_rules | `(tactic| walk_at "ln") => `(tactic| first | (with_reducible assumption) | (with_reducible omega) | (simp only [List.length_append, List.length_take, List.length_drop, List.length_reverse, List.length_cons, List.length_nil]; with_reducible omega))
local macro_rules | `(tactic| walk_at "rd1") => `(tactic| first
  | (with_reducible refine i_seq ?_) | (with_reducible refine i_asg ?_) | (with_reducible refine i_ret ?_) | (with_reducible refine i_name ?_) | ((with_reducible refine' i_var ?q1 ?_); (case q1 => exact rfl)) | (with_reducible refine i_c ?_) | (with_reducible refine i_op ?_) | (with_reducible refine i_un ?_)
  | (with_reducible refine i_rI0 ?_) | (with_reducible refine i_cb ?_) | (with_reducible refine i_cons ?_) | (with_reducible refine i_nil ?_) | (with_reducible refine i_call ?_) | (with_reducible refine i_if ?_) | (with_reducible refine i_ifE ?_) | (with_reducible refine i_test ?_) | (with_reducible refine i_bl ?_)
  | (with_reducible refine i_and ?_) | (with_reducible refine i_or ?_) | (with_reducible refine i_not ?_) | (with_reducible refine i_lstM ?_) | (with_reducible refine i_lstLM ?_) | (with_reducible refine i_tupM ?_) | (with_reducible refine i_next ?_) | (with_reducible refine i_drop ?_) | (with_reducible refine i_sub ?_)
  | (with_reducible refine i_bm ?_) | (with_reducible refine i_sl ?_) | (with_reducible refine i_part ?_) | (with_reducible refine i_nopart ?_) | (with_reducible refine i_exI ?_) | (with_reducible refine i_chain ?_) | ((with_reducible refine' i_aug ?q1 ?_); (case q1 => exact rfl)) | (with_reducible refine i_ip ?_)
  | (with_reducible refine i_par ?_) | (with_reducible refine i_pair ?_) | (with_reducible refine i_andV ?_) | (with_reducible refine i_orV ?_) | (with_reducible refine i_notV ?_) | (with_reducible refine i_m1 ?_) | (with_reducible refine i_str ?_)
  | (with_reducible refine iteF ?_) | (with_reducible refine iteT ?_) | (with_reducible refine iteNT ?_) | (with_reducible refine iteNF ?_) | (with_reducible refine i_tyS ?_) | (with_reducible refine i_tB ?_) | (with_reducible refine i_retN ?_) | (with_reducible refine i_par3 ?_) | (with_reducible refine i_trip ?_) | (with_reducible refine i_gCons ?_) | (with_reducible refine i_gNil ?_) | (with_reducible refine i_lstRg ?_) | (with_reducible refine i_rg1 ?_)
  | (with_reducible refine i_lc ?_) | (with_reducible refine i_for ?_) | (with_reducible refine i_iList ?_) | (with_reducible refine i_iTup ?_) | (with_reducible refine i_iStr ?_) | (with_reducible refine i_iRng1 ?_) | (with_reducible refine i_iEnS ?_)
  | ((with_reducible refine' i_ixTH ?q1 ?q2 ?_); (case q1 => walk_at "hp"); (case q2 => exact rfl))
  | ((with_reducible refine' i_ixLH ?q1 ?q2 ?_); (case q1 => walk_at "hp"); (case q2 => exact rfl))
  | ((with_reducible refine i_addS ?q1 ?_); (case q1 => walk_at "ln")) | ((with_reducible refine i_lenSS ?q1 ?_); (case q1 => walk_at "ln")) | ((with_reducible refine i_slFrom ?q1 ?q2 ?_); (case q1 => walk_at "ln"); (case q2 => walk_at "ln")) | ((with_reducible refine i_slTo ?q1 ?q2 ?_); (case q1 => walk_at "ln"); (case q2 => walk_at "ln"))
  | ((with_reducible refine' i_tyL ?q1 ?_); (case q1 => walk_at "hp"))
  | ((with_reducible refine' i_gTupH ?q1 ?q2 ?_); (case q1 => walk_at "hp"); (case q2 => exact rfl))
  | (with_reducible refine i_dnewM ?_) | (with_reducible refine i_init ?_) | (with_reducible refine i_fst ?_) | (with_reducible refine i_mk ?_) | (with_reducible refine i_raise ?_) | (with_reducible refine i_callS ?_) | (with_reducible refine i_kwS ?_)
  | (with_reducible refine i_revT ?_) | (with_reducible refine i_kw ?_) | ((with_reducible refine' ⟨_, _, rfl, sqT_of ?q1, ?_⟩); (case q1 => walk_at "hp"))
  | (with_reducible refine i_revS ?_) | ((with_reducible refine i_revSS ?q1 ?_); (case q1 => walk_at "ln"))
  | (with_reducible refine i_startS ?_) | (with_reducible refine i_inSg ?_) | (with_reducible refine i_absN ?_) | (with_reducible refine i_min2 ?_) | (with_reducible refine i_max2 ?_) | (with_reducible refine i_min3 ?_) | (with_reducible refine i_intN ?_) | (with_reducible refine i_intNB ?_)
  | ((with_reducible refine' i_lenL ?q1 ?_); (case q1 => walk_at "hp")) | ((with_reducible refine' i_lenT ?q1 ?_); (case q1 => walk_at "hp"))
  | (with_reducible refine i_eqI ?_) | (with_reducible refine i_neI ?_) | (with_reducible refine i_eqS ?_) | (with_reducible refine i_neS ?_) | (with_reducible refine i_isNoI ?_) | (with_reducible refine i_isNoN ?_) | (with_reducible refine i_isNoR ?_)
  | ((with_reducible refine i_pow ?q1 ?q2 ?q3 ?_); (case q1 => decide); (case q2 => decide); (case q3 => (with_reducible omega)))
  | ((with_reducible refine i_rI ?q1 ?_); (case q1 => walk_at "ci"))
  | (with_reducible refine Or.inl ⟨_, rfl, ?_⟩) | (with_reducible refine Or.inr ⟨_, rfl, ?_⟩) | (with_reducible refine ⟨_, rfl, ?_⟩) | (with_reducible refine ⟨_, _, rfl, ?_⟩) | (with_reducible refine ⟨_, _, rfl, rfl, ?_⟩)
  | ((with_reducible refine' ⟨_, _, rfl, Or.inl (sqL_of ?q1), ?_⟩); (case q1 => walk_at "hp")) | ((with_reducible refine' ⟨_, _, rfl, Or.inr (sqT_of ?q1), ?_⟩); (case q1 => walk_at "hp")) | (with_reducible refine i_dget ?_) | (with_reducible refine i_disp1T ?_) | (with_reducible refine i_dcT ?_) | (with_reducible refine i_dnewT ?_) | fail)
local macro_rules | `(tactic| walk_at "rd") => `(tactic| repeat' walk_at "rd1")

/-! calls within a comprehension: K told -/
theorem call_isiB {X : Cx} {K : PySem.W.Frag} (e : X.K = K) : CallR X (.builtin "isinstance") (rIsi K) := by
  subst e
  exact call_isi
def rListOf (K : PySem.W.Frag) : List V → Hp → VK → Prop := fun xs H Q => ∃ p ys, xs = [.ref p] ∧ (SqL K H p ys ∨ SqT K H p ys) ∧ ∀ l, H l = none → Q (.ref l) (upd H l (.lst ys))
theorem call_list_ofB {X : Cx} {K : PySem.W.Frag} (e : X.K = K) : CallR X (.type "list") (rListOf K) := by
  subst e
  exact call_list_of
theorem Pg.de_inv {K : PySem.W.Frag} {H : Hp} {v : V} {s : Pg} (h : De K H v s.dat) : ∃ t, v = .ref t ∧ SqT K H t s.vals := by
  cases s with
  | same a =>
    obtain ⟨t, xs, rfl, e, d⟩ := h.tupI
    cases d with | cons h1 d => cases d with | cons h2 d => cases d; cases h1; cases h2; exact ⟨t, rfl, e⟩
  | lost a =>
    obtain ⟨t, xs, rfl, e, d⟩ := h.tupI
    cases d with | cons h1 d => cases d with | cons h2 d => cases d; cases h1; cases h2; exact ⟨t, rfl, e⟩
  | put a =>
    obtain ⟨t, xs, rfl, e, d⟩ := h.tupI
    cases d with | cons h1 d => cases d with | cons h2 d => cases d; cases h1; cases h2; exact ⟨t, rfl, e⟩
  | turned a b =>
    obtain ⟨t, xs, rfl, e, d⟩ := h.tupI
    cases d with | cons h1 d => cases d with | cons h2 d => cases d with | cons h3 d => cases d; cases h1; cases h2; cases h3; exact ⟨t, rfl, e⟩
theorem i_notK {K : PySem.W.Frag} {H : Hp} {v : V} {kp : Addr} {ks : List Pg} {s : Pg} {Q : VK} (et : De K H v s.dat) (hk : KL H kp ks) (kk : Kinds ks) (hs : s.top < 500) (q : Q (.bl (!inP ks s)) H) : rNotInD K v (.ref kp) H Q := by
  obtain ⟨vs, e, pr⟩ := hk
  have fl : (PyData.list (ks.map Pg.dat)).hasDict = false := by
    have := hasDict_tup.mpr (pg_flat (ks := ks))
    simpa only [PyData.hasDict] using this
  refine ⟨s.dat, ks.map Pg.dat, et.dp s.flat, .lst (sqL_of e) (dp_of (kd_de pr) pg_flat), (Pg.sd hs).shaped (by omega) s.flat, (sd_lst' (pg_sds fun x hx => Nat.lt_trans (Pg.kind_top (kk x hx)) (by decide))).shaped (by omega) fl, ?_⟩
  rw [any_in]; exact q
theorem eqv_ints (l : List Nat) : PyData.eqv (.tuple (l.map fun (n : Nat) => PyData.int (n : Int))) (.tuple (l.map fun (n : Nat) => PyData.int (n : Int))) = true := by
  simp only [PyData.eqv]
  induction l with
  | nil => simp only [List.map_nil, PyData.eqvAll]
  | cons n l ih => simp only [List.map_cons, PyData.eqvAll, eqv_nat, decide_true, Bool.true_and]; exact ih
theorem Pg.left_not {s : Pg} (h : s.word ≠ [112, 117, 116]) : s.left = [s.fst] := by cases s <;> first | rfl | exact absurd rfl h
theorem Pg.left_put {s : Pg} (h : s.word = [112, 117, 116]) : s.left = [] := by cases s <;> first | rfl | exact absurd h (by simp [Pg.word])
theorem Pg.right_not {s : Pg} (h : s.word ≠ [108, 111, 115, 116]) : s.right = [s.lst] := by cases s <;> first | rfl | exact absurd rfl h
theorem Pg.right_lost {s : Pg} (h : s.word = [108, 111, 115, 116]) : s.right = [] := by cases s <;> first | rfl | exact absurd h (by simp [Pg.word])
theorem plefts_take {ss : List Pg} {i : Nat} {s : Pg} (h : ss[i]? = some s) : plefts (ss.take (i + 1)) = plefts (ss.take i) ++ s.left := by
  unfold plefts; rw [List.take_add_one, h]; simp
theorem prights_take {ss : List Pg} {i : Nat} {s : Pg} (h : ss[i]? = some s) : prights (ss.take (i + 1)) = prights (ss.take i) ++ s.right := by
  unfold prights; rw [List.take_add_one, h]; simp
theorem pcosts_take {ss : List Pg} {i : Nat} {s : Pg} (h : ss[i]? = some s) : pcosts (ss.take (i + 1)) = pcosts (ss.take i) + s.cost := by
  unfold pcosts; rw [List.take_add_one, h]; simp
theorem plefts_le (ss : List Pg) : (plefts ss).length ≤ ss.length := by
  induction ss with
  | nil => simp [plefts]
  | cons s ss ih =>
    have : (plefts (s :: ss)) = s.left ++ plefts ss := by simp [plefts]
    rw [this, List.length_append, List.length_cons]
    have : s.left.length ≤ 1 := by cases s <;> simp [Pg.left]
    omega
theorem prights_le (ss : List Pg) : (prights ss).length ≤ ss.length := by
  induction ss with
  | nil => simp [prights]
  | cons s ss ih =>
    have : (prights (s :: ss)) = s.right ++ prights ss := by simp [prights]
    rw [this, List.length_append, List.length_cons]
    have : s.right.length ≤ 1 := by cases s <;> simp [Pg.right]
    omega
/-- _law_told_right(told, one, other, kinds, due) -/
def spToldR (K : PySem.W.Frag) : Sp := fun vs H Q _ => ∃ (v v1 v2 : V) (kp : Addr) (a b : List Nat) (ks : List Pg), vs = [v, v1, v2, .ref kp, ofN (fwP (inP ks) a b a.length b.length)] ∧ LnAt K H v1 a ∧ LnAt K H v2 b ∧ KL H kp ks ∧ Kinds ks ∧ a.length ≤ 400 ∧ b.length ≤ 400 ∧ (∀ x ∈ a, x < 5) ∧ (∀ x ∈ b, x < 5) ∧ ToldAt K H v (inP ks) a b ∧
  ∀ H', Same H H' → Q (.bl true) H'
section
variable {P : Program} {w : World} {K : PySem.W.Frag} {mg : Str → Option Value} {base : Heap} {f : Addr} {fd : FuncData}
theorem ok_toldR (F : Fun K "_law_told_right" "_law_told_right" s__law_told_right f fd) (z : Z mg) : FnOk P w K mg base CX0 1 f fd ["told", "one", "other", "kinds", "due"] (spToldR K) := by
  refine F.ok sc__law_told_right (fun vs H Q E h => ?_) (fun cdv A outer s H vs Q E hr h => ?_)
  · obtain ⟨v, v1, v2, kp, a, b, ks, rfl, _⟩ := h; rfl
  · obtain ⟨v, v1, v2, kp, a, b, ks, rfl, ⟨pa, rfl, ha⟩, ⟨pb, rfl, hb⟩, hk, kk, la, lb, a5, b5, told, k⟩ := h
    refine ⟨_, (pss_cons (ps_if (PW.pt (pw_or (pt_cmpR op_isNo (pv 4) pe_non (nomark _)) (pw_or1 (pt_not (pt_val (pe_callB call_isi (by rfl) z.isinstance (by decide +kernel) (pa_cons (pv 0) (pa_cons (pe_bltn (v := .ty "tuple") (by rfl) z.tuple (by decide +kernel) rfl) pa_nil))))))))
        (pss_one (ps_ret (pe_and (pe_cmpR op_isNo (pv 0) pe_non (nomark _)) (pe_one (pe_cmpR op_isNo (pv 4) pe_non (nomark _))))))
        pss_nil)
      (pss_cons (ps_for PassesOwn.never rfl (pi_tup (pv 0)) (pg_name (i := 5) sc__law_told_right.nd rfl (.inl rfl))
        (pss_cons (ps_if (PW.pt (pw_or (pt_not (pt_val (pe_callB call_isi (by rfl) z.isinstance (by decide +kernel) (pa_cons (pv 5) (pa_cons (pe_bltn (v := .ty "tuple") (by rfl) z.tuple (by decide +kernel) rfl) pa_nil))))) (pw_or1 (pt_cmpR (op_neD hr.units) (pe_lc (own := [("part", 6)]) (g := gName 6) (tt := _) rfl sc__law_told_right.nd (pi_tup (pe_slice sl_tupA (pv 5) (po_some pe_int) po_none)) (blkOk_by (own := [("part", 6)]) (N := n__law_told_right) (sc := defScope s__law_told_right) (by decide +kernel)) (fun _ _ _ _ _ => (pg_name (i := 6) sc__law_told_right.nd rfl (.inl rfl))) (fun _ _ _ _ _ => (pts_one (pt_val (pe_callB (call_isiB (K := K) rfl) (by rfl) z.isinstance (by decide +kernel) (pa_cons (pv 6) (pa_cons (pe_bltn (v := .ty "bool") (by rfl) z.bool (by decide +kernel) rfl) pa_nil)))))) (fun _ _ _ _ _ => (pv 6))) (pe_lstL pa_nil) (nomark _)))))
          (pss_one (ps_ret pe_bl))
          pss_nil)
        (pss_one (ps_if (PW.pt (pw_and (pt_cmpR (op_notInD (room65 hr)) (pv 5) (pv 3) (by rfl)) (pw_and1 (PW.pt (pw_or (pt_cmpR op_ne (pe_callB call_lenQ (by rfl) z.len PySem.boot_len (pa_cons (pv 5) pa_nil)) pe_int (nomark _)) (pw_or1 (pt_cmpR op_ne (pe_ix ix_tup (pv 5) pe_int (fun _ _ => rfl)) (pe_strS (l := [115, 97, 109, 101]) (by decide +kernel)) (nomark _))))))))
          (pss_one (ps_ret pe_bl))
          pss_nil))))
      (pss_cons (ps_if (pt_cmpR (op_neD hr.units) (pe_callTy call_tuple_of (by rfl) z.tuple (by decide +kernel) (pa_cons (pe_lc (own := [("step", 5)]) (g := gName 5) (tt := _) rfl sc__law_told_right.nd (pi_tup (pv 0)) (blkOk_by (own := [("step", 5)]) (N := n__law_told_right) (sc := defScope s__law_told_right) (by decide +kernel)) (fun _ _ _ _ _ => (pg_name (i := 5) sc__law_told_right.nd rfl (.inl rfl))) (fun _ _ _ _ _ => (pts_one (pt_cmpR op_ne (pe_ix (r := rIxT K) ix_tup (pv 5) pe_int (fun _ _ => rfl)) (pe_strS (l := [112, 117, 116]) (by decide +kernel)) (nomark _)))) (fun _ _ _ _ _ => (pe_ix (r := rIxT K) ix_tup (pv 5) pe_int (fun _ _ => rfl)))) pa_nil)) (pv 1) (nomark _))
        (pss_one (ps_ret pe_bl))
        pss_nil)
      (pss_cons (ps_if (pt_cmpR (op_neD hr.units) (pe_callTy call_tuple_of (by rfl) z.tuple (by decide +kernel) (pa_cons (pe_lc (own := [("step", 5)]) (g := gName 5) (tt := _) rfl sc__law_told_right.nd (pi_tup (pv 0)) (blkOk_by (own := [("step", 5)]) (N := n__law_told_right) (sc := defScope s__law_told_right) (by decide +kernel)) (fun _ _ _ _ _ => (pg_name (i := 5) sc__law_told_right.nd rfl (.inl rfl))) (fun _ _ _ _ _ => (pts_one (pt_cmpR op_ne (pe_ix (r := rIxT K) ix_tup (pv 5) pe_int (fun _ _ => rfl)) (pe_strS (l := [108, 111, 115, 116]) (by decide +kernel)) (nomark _)))) (fun _ _ _ _ _ => (pe_ix (r := rIxT K) ix_tup (pv 5) (pe_un un_neg pe_int) (fun _ _ => rfl)))) pa_nil)) (pv 2) (nomark _))
        (pss_one (ps_ret pe_bl))
        pss_nil)
      (pss_one (ps_ret (pe_cmpR op_eq (pe_callB call_lenQ (by rfl) z.len PySem.boot_len (pa_cons (pe_lc (own := [("step", 5)]) (g := gName 5) (tt := _) rfl sc__law_told_right.nd (pi_tup (pv 0)) (blkOk_by (own := [("step", 5)]) (N := n__law_told_right) (sc := defScope s__law_told_right) (by decide +kernel)) (fun _ _ _ _ _ => (pg_name (i := 5) sc__law_told_right.nd rfl (.inl rfl))) (fun _ _ _ _ _ => (pts_one (pt_cmpR op_ne (pe_ix (r := rIxT K) ix_tup (pv 5) pe_int (fun _ _ => rfl)) (pe_strS (l := [115, 97, 109, 101]) (by decide +kernel)) (nomark _)))) (fun _ _ _ _ _ => (pv 5))) pa_nil)) (pv 4) (nomark _)))))))), ?_⟩
    walk_at "rd"
    rcases told with ⟨ef, rfl⟩ | ⟨due, ss, p, ef, _, pas, rfl, de⟩
    · rw [ef, show ofN none = V.non from rfl]
      walk_at "rd"
      exact k _ (Same.refl _)
    rw [ef, show ofN (some due) = V.int (due : Int) from rfl]
    walk_at "rd"
    refine de.isi (n := "tuple") (.inr (.inr (.inr (.inr rfl)))) ?_
    rw [show ∀ ds, tyB "tuple" (.tuple ds) = true from fun _ => rfl]
    obtain ⟨p', xs, ep, hp, hxs⟩ := de.tupI
    cases ep
    have lx : xs.length = ss.length := by rw [hxs.len, List.length_map]
    have lss : ss.length ≤ 800 := by have := pas.n; omega
    have item : ∀ {i : Nat} {v : V}, xs[i]? = some v → ∃ s, ss[i]? = some s ∧ De K H v s.dat := fun {i v} hv => by
      obtain ⟨d, gd, dv⟩ := hxs.get hv
      rw [List.getElem?_map] at gd
      cases q : ss[i]? with
      | none => rw [q] at gd; cases gd
      | some s => rw [q] at gd; cases gd; exact ⟨s, rfl, dv⟩
    walk_at "rd"
    refine ⟨⟨_, hp⟩, ?_⟩
    refine go_for (walk_tup (xs := xs)) (fun i σ Hx => ∃ (u5 u6 : Option V), σ = [some (.ref p), some (.ref pa), some (.ref pb), some (.ref kp), some (.int due), u5, u6] ∧ Same H Hx)
      ⟨none, none, rfl, Same.refl _⟩ (fun i σ Hx hi h => Same.sqT h.choose_spec.choose_spec.2 hp) (fun i v σ Hx Hy hi h y => ?_) (fun σ Hx h => ?_)
    · obtain ⟨u5, u6, rfl, sx⟩ := h
      obtain ⟨rfl, hv⟩ := y
      obtain ⟨st, gs, dv⟩ := item hv
      have dv := dv.same sx
      obtain ⟨ok, top⟩ := pas.ok st (List.mem_of_getElem? gs)
      obtain ⟨t, rfl, et⟩ := Pg.de_inv dv
      walk_at "rd"
      refine dv.isi (n := "tuple") (.inr (.inr (.inr (.inr rfl)))) ?_
      rw [show tyB "tuple" st.dat = true by cases st <;> rfl]
      walk_at "rd"
      refine i_slTF (k := 1) et fun q H1 s1 eq => ?_
      walk_at "rd"
      refine ⟨⟨_, eq⟩, ?_⟩
      have parts : ∀ {j : Nat} {v : V}, (st.vals.drop 1)[j]? = some v → ∃ n : Nat, v = iV n := fun {j v} h => by
        have := List.mem_of_getElem? h
        cases st <;> simp [Pg.vals] at this <;> first | exact ⟨_, this⟩ | (rcases this with q | q <;> exact ⟨_, q⟩)
      refine go_lc (walk_tup (xs := st.vals.drop 1)) (fun p j Hx => Hx p = some (.lst []) ∧ Same H1 Hx) (fun p np => ⟨upd_same, same_upd np⟩) (fun p j Hx hj q => Same.sqT q.2 eq) (fun p np j v Hx Hz hj q y => ?_) (fun pp H2 n2 q => ?_)
      · obtain ⟨ep, s2⟩ := q
        obtain ⟨rfl, hv⟩ := y
        obtain ⟨n, rfl⟩ := parts hv
        walk_at "rd"
        refine ⟨rfl, ?_⟩
        walk_at "rd"
        refine (De.int (n : Int)).isi (n := "bool") (.inr (.inl rfl)) ?_
        rw [show tyB "bool" (.int (n : Int)) = false from rfl]
        walk_at "rd"
        exact ⟨ep, s2⟩
      · obtain ⟨ep, s2⟩ := q
        walk_at "rd"
        refine newLL0 (Nat.le_of_ble_eq_true rfl) fun zp H3 nz lz s3 e3 => ?_
        refine i_neL (s3 _ _ ep) .nil e3 (SdAll.nil (n := 0)) (fun y hy => by cases hy) ?_
        have s13 := s1.trans (s2.trans s3)
        refine ⟨_, rfl, ?_⟩
        refine iteF ?_
        walk_at "rd"
        refine i_notK (dv.same s13) (hk.same (sx.trans s13)) kk (Nat.lt_trans top (by decide)) ?_
        refine ⟨_, rfl, ?_⟩
        refine cond_and (fun c => c = false) (fun R hR => ?_) (fun c hc => ?_)
        · refine iteNC (fun e => ?_) (fun e => hR _ rfl)
          have c0 : st.cost = 0 := by
            rcases ok with q | q
            · exact q
            · rw [q] at e; cases e
          obtain ⟨n, rfl⟩ : ∃ n, st = .same n := by
            cases st with
            | same n => exact ⟨n, rfl⟩
            | _ => cases c0
          walk_at "rd"
          refine i_lenSqT (Same.sqT s13 et) ?_
          rw [show ((Pg.same n).vals.length : Int) = 2 from rfl]
          walk_at "rd"
          rw [show decide ((2 : Int) = 2) = true from rfl]
          walk_at "rd"
          refine i_ixTn (k := 0) (Same.sqT s13 et) (Pg.vals0 _) ?_
          walk_at "rd"
          exact hR _ rfl
        · rw [hc]
          walk_at "rd"
          exact sx.trans s13
    · obtain ⟨u5, u6, rfl, sx⟩ := h
      have hpx := Same.sqT sx hp
      walk_at "rd"
      refine ⟨⟨_, hpx⟩, ?_⟩
      refine go_lc (walk_tup (xs := xs)) (fun p i Hz => Hz p = some (.lst ((plefts (ss.take i)).map iV)) ∧ Same Hx Hz) (fun p np => ⟨upd_same, same_upd np⟩) (fun p i Hz hi q => Same.sqT q.2 hpx) (fun p np i v Hy Hz hi q y => ?_) (fun p1 H1 n1 q => ?_)
      · obtain ⟨ep, s2⟩ := q
        obtain ⟨rfl, hv⟩ := y
        obtain ⟨st, gs, dv⟩ := item hv
        obtain ⟨t, rfl, et⟩ := Pg.de_inv (dv.same (sx.trans s2))
        rw [plefts_take gs]
        walk_at "rd"
        refine ⟨rfl, ?_⟩
        walk_at "rd"
        refine i_ixTn (k := 0) et st.vals0 ?_
        walk_at "rd"
        refine iteNC (fun ne => ?_) (fun e => ?_)
        · have ne : st.word ≠ [112, 117, 116] := of_decide_eq_false ne
          rw [Pg.left_not ne]
          walk_at "rd"
          refine i_ixTn (k := 1) et st.vals1 ?_
          refine ⟨_, ep, sm100 (by rw [List.length_map]; have := plefts_le (ss.take i); have := List.length_take_le i ss; omega), ?_, Same.set_new s2 np⟩
          rw [upd_same, List.map_append]; rfl
        · have e : st.word = [112, 117, 116] := of_decide_eq_true e
          rw [Pg.left_put e, List.append_nil]
          exact ⟨ep, s2⟩
      obtain ⟨ep1, s1⟩ := q
      rw [lx, List.take_length, pas.l] at ep1
      walk_at "rd"
      refine ⟨_, _, rfl, .inl ⟨sqL_of ep1, fun q1 nq1 => ?_⟩⟩
      have t1 := sx.trans (s1.trans (same_upd (o := .tup (a.map iV)) nq1))
      walk_at "rd"
      refine i_neE (.tup (sqT_of upd_same) (ints_de a)) (.tup (Same.sqT t1 ha) (ints_de a)) (sd_tup' (ints_sd fun n hn => Nat.lt_trans (a5 n hn) (by decide))) (sd_tup' (ints_sd fun n hn => Nat.lt_trans (a5 n hn) (by decide))) (hasDict_tup.mpr ints_flat) (hasDict_tup.mpr ints_flat) ?_
      rw [eqv_ints]
      have hpx := Same.sqT t1 hp
      generalize upd H1 q1 (.tup (a.map iV)) = H2 at *
      walk_at "rd"
      refine ⟨⟨_, hpx⟩, ?_⟩
      refine go_lc (walk_tup (xs := xs)) (fun p i Hz => Hz p = some (.lst ((prights (ss.take i)).map iV)) ∧ Same H2 Hz) (fun p np => ⟨upd_same, same_upd np⟩) (fun p i Hz hi q => Same.sqT q.2 hpx) (fun p np i v Hy Hz hi q y => ?_) (fun p3 H3 n3 q => ?_)
      · obtain ⟨ep, s2⟩ := q
        obtain ⟨rfl, hv⟩ := y
        obtain ⟨st, gs, dv⟩ := item hv
        obtain ⟨t, rfl, et⟩ := Pg.de_inv (dv.same (t1.trans s2))
        rw [prights_take gs]
        walk_at "rd"
        refine ⟨rfl, ?_⟩
        walk_at "rd"
        refine i_ixTn (k := 0) et st.vals0 ?_
        walk_at "rd"
        refine iteNC (fun ne => ?_) (fun e => ?_)
        · have ne : st.word ≠ [108, 111, 115, 116] := of_decide_eq_false ne
          rw [Pg.right_not ne]
          walk_at "rd"
          refine i_rU ?_
          refine i_ixT et st.valsE ?_
          refine ⟨_, ep, sm100 (by rw [List.length_map]; have := prights_le (ss.take i); have := List.length_take_le i ss; omega), ?_, Same.set_new s2 np⟩
          rw [upd_same, List.map_append]; rfl
        · have e : st.word = [108, 111, 115, 116] := of_decide_eq_true e
          rw [Pg.right_lost e, List.append_nil]
          exact ⟨ep, s2⟩
      obtain ⟨ep3, s3⟩ := q
      rw [lx, List.take_length, pas.r] at ep3
      walk_at "rd"
      refine ⟨_, _, rfl, .inl ⟨sqL_of ep3, fun q3 nq3 => ?_⟩⟩
      have t3 := t1.trans (s3.trans (same_upd (o := .tup (b.map iV)) nq3))
      walk_at "rd"
      refine i_neE (.tup (sqT_of upd_same) (ints_de b)) (.tup (Same.sqT t3 hb) (ints_de b)) (sd_tup' (ints_sd fun n hn => Nat.lt_trans (b5 n hn) (by decide))) (sd_tup' (ints_sd fun n hn => Nat.lt_trans (b5 n hn) (by decide))) (hasDict_tup.mpr ints_flat) (hasDict_tup.mpr ints_flat) ?_
      rw [eqv_ints]
      have hpx := Same.sqT t3 hp
      generalize upd H3 q3 (.tup (b.map iV)) = H4 at *
      walk_at "rd"
      refine ⟨⟨_, hpx⟩, ?_⟩
      refine go_lc (walk_tup (xs := xs)) (fun p i Hz => ∃ vs, Hz p = some (.lst vs) ∧ vs.length = pcosts (ss.take i) ∧ vs.length ≤ i ∧ Same H4 Hz) (fun p np => ⟨[], upd_same, rfl, Nat.le_refl _, same_upd np⟩) (fun p i Hz hi q => Same.sqT q.choose_spec.2.2.2 hpx) (fun p np i v Hy Hz hi q y => ?_) (fun p5 H5 n5 q => ?_)
      · obtain ⟨vs, ep, el, li, s2⟩ := q
        obtain ⟨rfl, hv⟩ := y
        obtain ⟨st, gs, dv⟩ := item hv
        obtain ⟨t, rfl, et⟩ := Pg.de_inv (dv.same (t3.trans s2))
        rw [pcosts_take gs]
        walk_at "rd"
        refine ⟨rfl, ?_⟩
        walk_at "rd"
        refine i_ixTn (k := 0) et st.vals0 ?_
        walk_at "rd"
        refine iteNC (fun ne => ?_) (fun e => ?_)
        · have ne : st.word ≠ tSame := of_decide_eq_false ne
          have c1 : st.cost = 1 := by cases st <;> first | rfl | exact absurd rfl ne
          walk_at "rd"
          refine ⟨vs, ep, sm100 (by omega), vs ++ [.ref t], upd_same, by rw [List.length_append, c1, el]; rfl, by rw [List.length_append, List.length_singleton]; omega, Same.set_new s2 np⟩
        · have e : st.word = tSame := of_decide_eq_true e
          have c0 : st.cost = 0 := st.word_same.mp e
          exact ⟨vs, ep, by rw [c0, el]; rfl, by omega, s2⟩
      obtain ⟨vs5, ep5, el5, _, s5⟩ := q
      rw [lx, List.take_length, pas.c] at el5
      walk_at "rd"
      rw [el5, decide_eq_true rfl]
      exact k _ (t3.trans s5)
end
end Sw
namespace Sw
open PySem PySem.Spec PyProof.Rows L2
/-! ### a call by three names, turned -/
def rev3 {α : Type} : List α → List α → List α
  | [], [c, b, a] => [a, b, c]
  | _, _ => []
theorem rev3_inv {α : Type} {us ws : List α} (h : (rev3 us ws).length = 3) : us = [] ∧ ∃ c b a, ws = [c, b, a] := by
  unfold rev3 at h
  split at h
  · exact ⟨rfl, _, _, _, rfl⟩
  · cases h
theorem rev3_rel {vs : List V} {us : List Value} {zs : List V} {ws : List Value} (r : Vals vs us) (r2 : Vals zs ws) : Vals (rev3 vs zs) (rev3 us ws) := by
  unfold rev3
  cases r with
  | cons _ _ => exact .nil
  | nil =>
    cases r2 with
    | nil => exact .nil
    | cons a r2 =>
      cases r2 with
      | nil => exact .nil
      | cons b r2 =>
        cases r2 with
        | nil => exact .nil
        | cons c r2 =>
          cases r2 with
          | nil => exact .cons c (.cons b (.cons a .nil))
          | cons _ _ => exact .nil
end Sw
namespace Sw
open PySem PySem.Spec PyProof.Rows L2
local macro_rules | `(tactic| walk_at "hp") => `(tactic| first
  | (with_reducible assumption) | (with_reducible exact upd_same)
  | ((with_reducible refine' upd_old ?q1 ?q2); (case q1 => (with_reducible assumption)); (case q2 => walk_at "hp"))
  | ((with_reducible refine' Same.at ?q1 ?q2); (case q1 => (with_reducible assumption)); (case q2 => walk_at "hp"))
  | ((with_reducible refine' upd_skip ?q1 ?q2); (case q1 => walk_at "ne"); (case q2 => walk_at "hp"))
  | fail)
local macro_rules | `(tactic| walk_at "ne") => `(tactic| first
  | (with_reducible assumption) | (with_reducible exact Ne.symm (by assumption))
  | ((with_reducible refine' ne_of_none ?q1 ?q2); (case q2 => (with_reducible assumption)); (case q1 => walk_at "hp"))
  | fail)
local macro_rules | `(tactic| walk_at "ci") => `(tactic| first | assumption | (show (0 : Int) < _; first | decide | (with_reducible omega)) | exact ⟨by decide, by decide⟩ | exact .inl ⟨by decide, by decide⟩ | exact .inr ⟨by decide, by decide⟩)
local macro_rules | `(tactic| walk_at "ln") => `(tactic| first | (with_reducible assumption) | (with_reducible omega) | (simp only [List.length_append, List.length_take, List.length_drop, List.length_reverse, List.length_cons, List.length_nil]; with_reducible omega))
local macro_rules | `(tactic| walk_at "rd1") => `(tactic| first
  | (with_reducible refine i_seq ?_) | (with_reducible refine i_asg ?_) | (with_reducible refine i_ret ?_) | (with_reducible refine i_name ?_) | ((with_reducible refine' i_var ?q1 ?_); (case q1 => exact rfl)) | (with_reducible refine i_c ?_) | (with_reducible refine i_op ?_) | (with_reducible refine i_un ?_)
  | (with_reducible refine i_rI0 ?_) | (with_reducible refine i_cb ?_) | (with_reducible refine i_cons ?_) | (with_reducible refine i_nil ?_) | (with_reducible refine i_call ?_) | (with_reducible refine i_if ?_) | (with_reducible refine i_ifE ?_) | (with_reducible refine i_test ?_) | (with_reducible refine i_bl ?_)
  | (with_reducible refine i_and ?_) | (with_reducible refine i_or ?_) | (with_reducible refine i_not ?_) | (with_reducible refine i_lstM ?_) | (with_reducible refine i_lstLM ?_) | (with_reducible refine i_tupM ?_) | (with_reducible refine i_next ?_) | (with_reducible refine i_drop ?_) | (with_reducible refine i_sub ?_)
  | (with_reducible refine i_bm ?_) | (with_reducible refine i_sl ?_) | (with_reducible refine i_part ?_) | (with_reducible refine i_nopart ?_) | (with_reducible refine i_exI ?_) | (with_reducible refine i_chain ?_) | ((with_reducible refine' i_aug ?q1 ?_); (case q1 => exact rfl)) | (with_reducible refine i_ip ?_)
  | (with_reducible refine i_par ?_) | (with_reducible refine i_pair ?_) | (with_reducible refine i_andV ?_) | (with_reducible refine i_orV ?_) | (with_reducible refine i_notV ?_) | (with_reducible refine i_m1 ?_) | (with_reducible refine i_str ?_)
  | (with_reducible refine iteF ?_) | (with_reducible refine iteT ?_) | (with_reducible refine iteNT ?_) | (with_reducible refine iteNF ?_) | (with_reducible refine i_tyS ?_) | (with_reducible refine i_tB ?_) | (with_reducible refine i_retN ?_) | (with_reducible refine i_par3 ?_) | (with_reducible refine i_trip ?_) | (with_reducible refine i_gCons ?_) | (with_reducible refine i_gNil ?_) | (with_reducible refine i_lstRg ?_) | (with_reducible refine i_rg1 ?_)
  | (with_reducible refine i_lc ?_) | (with_reducible refine i_for ?_) | (with_reducible refine i_iList ?_) | (with_reducible refine i_iTup ?_) | (with_reducible refine i_iStr ?_) | (with_reducible refine i_iRng1 ?_) | (with_reducible refine i_iEnS ?_)
  | ((with_reducible refine' i_ixTH ?q1 ?q2 ?_); (case q1 => walk_at "hp"); (case q2 => exact rfl))
  | ((with_reducible refine' i_ixLH ?q1 ?q2 ?_); (case q1 => walk_at "hp"); (case q2 => exact rfl))
  | ((with_reducible refine i_addS ?q1 ?_); (case q1 => walk_at "ln")) | ((with_reducible refine i_lenSS ?q1 ?_); (case q1 => walk_at "ln")) | ((with_reducible refine i_slFrom ?q1 ?q2 ?_); (case q1 => walk_at "ln"); (case q2 => walk_at "ln")) | ((with_reducible refine i_slTo ?q1 ?q2 ?_); (case q1 => walk_at "ln"); (case q2 => walk_at "ln"))
  | ((with_reducible refine' i_tyL ?q1 ?_); (case q1 => walk_at "hp"))
  | ((with_reducible refine' i_gTupH ?q1 ?q2 ?_); (case q1 => walk_at "hp"); (case q2 => exact rfl))
  | (with_reducible refine i_dnewM ?_) | (with_reducible refine i_init ?_) | (with_reducible refine i_fst ?_) | (with_reducible refine i_mk ?_) | (with_reducible refine i_raise ?_) | (with_reducible refine i_callS ?_) | (with_reducible refine i_kwS ?_)
  | (with_reducible refine i_revT ?_) | (with_reducible refine i_kw ?_) | ((with_reducible refine' ⟨_, _, rfl, sqT_of ?q1, ?_⟩); (case q1 => walk_at "hp"))
  | (with_reducible refine i_revS ?_) | ((with_reducible refine i_revSS ?q1 ?_); (case q1 => walk_at "ln"))
  | (with_reducible refine i_startS ?_) | (with_reducible refine i_inSg ?_) | (with_reducible refine i_absN ?_) | (with_reducible refine i_min2 ?_) | (with_reducible refine i_max2 ?_) | (with_reducible refine i_min3 ?_) | (with_reducible refine i_intN ?_) | (with_reducible refine i_intNB ?_)
  | ((with_reducible refine' i_lenL ?q1 ?_); (case q1 => walk_at "hp")) | ((with_reducible refine' i_lenT ?q1 ?_); (case q1 => walk_at "hp"))
  | (with_reducible refine i_eqI ?_) | (with_reducible refine i_neI ?_) | (with_reducible refine i_eqS ?_) | (with_reducible refine i_neS ?_) | (with_reducible refine i_isNoI ?_) | (with_reducible refine i_isNoN ?_) | (with_reducible refine i_isNoR ?_)
  | ((with_reducible refine i_pow ?q1 ?q2 ?q3 ?_); (case q1 => decide); (case q2 => decide); (case q3 => (with_reducible omega)))
  | ((with_reducible refine i_rI ?q1 ?_); (case q1 => walk_at "ci"))
  | (with_reducible refine Or.inl ⟨_, rfl, ?_⟩) | (with_reducible refine Or.inr ⟨_, rfl, ?_⟩) | (with_reducible refine ⟨_, rfl, ?_⟩) | (with_reducible refine ⟨_, _, rfl, ?_⟩) | (with_reducible refine ⟨_, _, rfl, rfl, ?_⟩)
  | ((with_reducible refine' ⟨_, _, rfl, Or.inl (sqL_of ?q1), ?_⟩); (case q1 => walk_at "hp")) | ((with_reducible refine' ⟨_, _, rfl, Or.inr (sqT_of ?q1), ?_⟩); (case q1 => walk_at "hp")) | (with_reducible refine i_dget ?_) | (with_reducible refine i_disp1T ?_) | (with_reducible refine i_dcT ?_) | (with_reducible refine i_dnewT ?_) | fail)
local macro_rules | `(tactic| walk_at "rd") => `(tactic| repeat' walk_at "rd1")

def lpKs : List Str := ["kinds", "other", "one"]
theorem Pg.kindB {s : Pg} (h : s.kind = true) : kindB 5 s.dat = true := by
  cases s with
  | same a => cases h
  | lost a =>
    have h := of_decide_eq_true h
    have hi : isX 5 (.int (a : Int)) = true := by simp only [isX, Bool.and_eq_true, decide_eq_true_eq]; omega
    simp only [Pg.dat, Sw.kindB, hi, Bool.true_and]
    rfl
  | put a =>
    have h := of_decide_eq_true h
    have hi : isX 5 (.int (a : Int)) = true := by simp only [isX, Bool.and_eq_true, decide_eq_true_eq]; omega
    simp only [Pg.dat, Sw.kindB, hi, Bool.true_and]
    rfl
  | turned a b =>
    simp only [Pg.kind, Bool.and_eq_true, decide_eq_true_eq, Bool.not_eq_true', decide_eq_false_iff_not] at h
    have hi : ∀ {a : Nat}, a < 5 → isX 5 (.int (a : Int)) = true := fun h => by simp only [isX, Bool.and_eq_true, decide_eq_true_eq]; omega
    simp only [Pg.dat, Sw.kindB, hi h.1.1, hi h.1.2, Bool.true_and, eqv_nat, decide_eq_false h.2]
    rfl
theorem line_ok {l : List Nat} (h : ∀ x ∈ l, x < 5) : lineB 5 (.tuple (l.map fun (n : Nat) => PyData.int (n : Int))) = true := by
  simp only [lineB, List.all_map, List.all_eq_true]
  intro x hx
  have := h x hx
  simp only [Function.comp, isX, Bool.and_eq_true, decide_eq_true_eq]; omega
theorem line_len {l : List Nat} (h : l.length ≤ 1000) : LenOk (.tuple (l.map fun (n : Nat) => PyData.int (n : Int))) := by
  rintro ds (e | e)
  · cases e
  · cases e; rw [List.length_map]; omega
theorem LnAt.de {K : PySem.W.Frag} {H : Hp} {v : V} {l : List Nat} (h : LnAt K H v l) : De K H v (.tuple (l.map fun (n : Nat) => PyData.int (n : Int))) := by
  obtain ⟨a, rfl, e⟩ := h; exact .tup e (ints_de l)
theorem ks_all {ks : List Pg} (h : Kinds ks) : (ks.map Pg.dat).all (kindB 5) = true := by
  simp only [List.all_map, List.all_eq_true]
  intro x hx
  exact Pg.kindB (h x hx)
theorem ks_ok {ks : List Pg} (h : Kinds ks) (l : ks.length ≤ 1000) {d : PyData} (e : d = .list (ks.map Pg.dat) ∨ d = .tuple (ks.map Pg.dat)) : KsOk d := by
  intro ds hd
  have : ds = ks.map Pg.dat := by
    rcases e with rfl | rfl <;> rcases hd with hd | hd <;> cases hd <;> rfl
  subst this
  refine ⟨by rw [List.length_map]; omega, fun y hy => ?_⟩
  obtain ⟨s, hs, rfl⟩ := List.mem_map.mp hy
  exact ⟨.flat s.flat, (Pg.sd (Nat.lt_trans (Pg.kind_top (h s hs)) (by decide))).mono (by omega) (by omega)⟩
/-- a good call -/
theorem lp_good {K : PySem.W.Frag} {C D : Addr} {v1 v2 z : V} {a b : List Nat} {ks : List Pg} {H : Hp} {Q : VK} {E : XK} (h1 : LnAt K H v1 a) (h2 : LnAt K H v2 b) (hz : (∃ pz, z = .ref pz ∧ sysModules < pz ∧ KL H pz ks) ∨ ∃ pz vs, z = .ref pz ∧ H pz = some (.tup vs) ∧ Paired (KdAt H) vs ks) (a5 : ∀ x ∈ a, x < 5) (b5 : ∀ x ∈ b, x < 5) (kk : Kinds ks) (la : a.length ≤ 1000) (lb : b.length ≤ 1000) (lk : ks.length ≤ 1000) (size : (a.length + 1) * (b.length + 1) ≤ 7000)
    (q : ∀ v H', Same H H' → ToldAt K H' v (inP ks) a b → Q v H') : spLp K C D [v1, v2, z] H Q E := by
  rcases hz with ⟨pz, rfl, lt, vs, e, pr⟩ | ⟨pz, vs, rfl, e, pr⟩
  · refine ⟨v1, v2, .ref pz, _, _, .list (ks.map Pg.dat), rfl, h1.de, h2.de, .lst e lt (kd_de pr), line_len la, line_len lb, ks_ok kk lk (.inl rfl), .inr (.inr (.inr ⟨line_ok a5, line_ok b5, ks_all kk, a, b, ks, h1, h2, ⟨pz, vs, rfl, .inl (sqL_of e), pr⟩, a5, b5, size, lk, q⟩))⟩
  · refine ⟨v1, v2, .ref pz, _, _, .tuple (ks.map Pg.dat), rfl, h1.de, h2.de, .tup (sqT_of e) (kd_de pr), line_len la, line_len lb, ks_ok kk lk (.inr rfl), .inr (.inr (.inr ⟨line_ok a5, line_ok b5, ks_all kk, a, b, ks, h1, h2, ⟨pz, vs, rfl, .inr (sqT_of e), pr⟩, a5, b5, size, lk, q⟩))⟩
theorem eqv_ks (ks : List Pg) : PyData.eqv (.list (ks.map Pg.dat)) (.list (ks.map Pg.dat)) = true := by
  simp only [PyData.eqv]
  induction ks with
  | nil => simp only [List.map_nil, PyData.eqvAll]
  | cons n l ih => simp only [List.map_cons, PyData.eqvAll, Pg.eqv, decide_true, Bool.true_and]; exact ih
theorem i_neKK {K : PySem.W.Frag} {H : Hp} {p q : Addr} {ks : List Pg} {Q : VK} (h1 : KL H p ks) (h2 : KL H q ks) (kk : Kinds ks) (r : Q (.bl false) H) : rNeD K (.ref p) (.ref q) H Q := by
  obtain ⟨v1, e1, p1⟩ := h1
  obtain ⟨v2, e2, p2⟩ := h2
  have fl : (PyData.list (ks.map Pg.dat)).hasDict = false := by
    have := hasDict_tup.mpr (pg_flat (ks := ks))
    simpa only [PyData.hasDict] using this
  have sh := (sd_lst' (pg_sds (ks := ks) fun x hx => Nat.lt_trans (Pg.kind_top (kk x hx)) (by decide))).shaped (by omega) fl
  refine ⟨.list (ks.map Pg.dat), .list (ks.map Pg.dat), .lst (sqL_of e1) (dp_of (kd_de p1) pg_flat), .lst (sqL_of e2) (dp_of (kd_de p2) pg_flat), sh, sh, ?_⟩
  rw [eqv_ks]; exact r
theorem ToldAt.same {K : PySem.W.Frag} {H H' : Hp} {v : V} {A : Pg → Bool} {a b : List Nat} (h : ToldAt K H v A a b) (s : Same H H') : ToldAt K H' v A a b := by
  rcases h with h | ⟨due, ss, p, h1, h2, h3, h4, h5⟩
  · exact .inl h
  · exact .inr ⟨due, ss, p, h1, h2, h3, h4, h5.same s⟩
/-- the same data is told -/
theorem ToldAt.two {K : PySem.W.Frag} {H : Hp} {v v' : V} {A : Pg → Bool} {a b : List Nat} (h : ToldAt K H v A a b) (h' : ToldAt K H v' A a b) (la : a.length ≤ 400) (lb : b.length ≤ 400) : ∃ d, De K H v d ∧ De K H v' d ∧ Sd 2 40000 d := by
  rcases h with ⟨e, rfl⟩ | ⟨due, ss, p, h1, h2, h3, rfl, h5⟩
  · rcases h' with ⟨_, rfl⟩ | ⟨_, _, _, k1, _⟩
    · exact ⟨_, .non, .non, sd_non.mono (by omega) (by omega)⟩
    · rw [e] at k1; cases k1
  · rcases h' with ⟨e, _⟩ | ⟨_, ss', p', k1, k2, k3, rfl, k5⟩
    · rw [e] at h1; cases h1
    · rw [h2.det k2] at h5 h3
      refine ⟨_, h5, k5, (sd_tup' (pg_sds fun s hs => Nat.lt_trans (h3.ok s hs).2 (by decide))).mono (by omega) ?_⟩
      have := h3.n; omega
/-- _law_scene_right(box, scene) -/
def spSceneR (K : PySem.W.Frag) : Sp := fun vs H Q _ => ∃ (b q : Addr) (d : Int) (v1 v2 : V) (kp : Addr) (a c : List Nat) (ks : List Pg), vs = [.ref b, .ref q] ∧ L2.del H b q = some (.lst [v1, v2, .ref kp]) ∧ ScAt K (L2.del H b) v1 v2 kp a c ks ∧ BoxAt H b d ∧ d + 300 ≤ 1000000 ∧
  ∀ H', BoxAt H' b (d + 300) → SB b H H' → Q (.bl true) H'
section
variable {P : Program} {w : World} {K : PySem.W.Frag} {mg : Str → Option Value} {base : Heap} {f : Addr} {fd : FuncData}
theorem ok_sceneR {C D : Addr} (F : Fun K "_law_scene_right" "_law_scene_right" s__law_scene_right f fd) (z : Z mg) (c__law_fewest : Cal P w K mg base "_law_fewest" ["one", "other", "kinds"] 1 (spFew K)) (c__law_told_right : Cal P w K mg base "_law_told_right" ["told", "one", "other", "kinds", "due"] 1 (spToldR K)) (c__law_mixed : Cal P w K mg base "_law_mixed" ["box", "items"] 2 spMixed)
    (x_least_passing : CalX P w K mg base "least_passing" ["one", "other", "kinds"] 6 (spLp K C D)) (kx_least_passing : CalKX P w K mg base "least_passing" ["one", "other", "kinds"] 6 (spLp K C D) lpKs rev3 rev3) : FnG P w K mg base CX0 7 f fd ["box", "scene"] (spSceneR K) := by
  refine Sw.Fun.okG0 F sc__law_scene_right (fun vs H Q E h => ?_) (fun cdv A outer s H vs Q E hr quiet h => ?_)
  · obtain ⟨b, q, d, v1, v2, kp, a, c, ks, rfl, _⟩ := h; rfl
  · obtain ⟨b, q, d, v1, v2, kp, a, c, ks, rfl, eq, S, B, hd, k⟩ := h
    refine ⟨_, (pss_cons (ps_asg (pv 1) (pg_lst rfl (pgs_cons (pg_name (i := 2) sc__law_scene_right.nd rfl (.inl rfl)) (pgs_cons (pg_name (i := 3) sc__law_scene_right.nd rfl (.inl rfl)) (pgs_cons (pg_name (i := 4) sc__law_scene_right.nd rfl (.inl rfl)) pgs_nil)))))
      (pss_cons (ps_par (i := 5) (j := 6) rfl sc__law_scene_right.nd rfl rfl (by decide) rfl rfl (pa_cons (pe_callTy call_listL (by rfl) z.list (by decide +kernel) (pa_cons (pv 4) pa_nil)) (pa_cons (pe_cal c__law_fewest hr (pa_cons (pv 2) (pa_cons (pv 3) (pa_cons (pv 4) pa_nil)))) pa_nil)) (by rfl))
      (pss_cons (ps_set (i := 7) sc__law_scene_right.nd rfl (.inl rfl) (pe_calX x_least_passing hr takes_none (pa_cons (pv 2) (pa_cons (pv 3) (pa_cons (pv 5) pa_nil)))))
      (pss_cons (ps_if (PW.pt (pw_or (pt_not (pt_val (pe_cal c__law_told_right hr (pa_cons (pv 7) (pa_cons (pv 2) (pa_cons (pv 3) (pa_cons (pv 4) (pa_cons (pv 6) pa_nil)))))))) (pw_or1 (pt_cmpR (op_neD hr.units) (pv 5) (pv 4) (nomark _)))))
        (pss_one (ps_ret pe_bl))
        pss_nil)
      (pss_cons (ps_if (pt_cmpR op_ne (pe_callB (call_repE quiet hr.units) (by rfl) z.repr (by decide +kernel) (pa_cons (pe_calKX kx_least_passing hr takes_none (pk_cons (pe_callTy call_tuple_of (by rfl) z.tuple (by decide +kernel) (pa_cons (pv 4) pa_nil)) (pk_cons (pv 3) (pk_cons (pv 2) pk_nil)))) pa_nil)) (pe_callB (call_repE quiet hr.units) (by rfl) z.repr (by decide +kernel) (pa_cons (pv 7) pa_nil)) (nomark _))
        (pss_one (ps_ret pe_bl))
        pss_nil)
      (pss_cons (ps_par (i := 8) (j := 9) rfl sc__law_scene_right.nd rfl rfl (by decide) rfl rfl (pa_cons (pe_cal c__law_mixed hr (pa_cons (pv 0) (pa_cons (pe_op op_cat (pv 4) (pe_slice sl_list (pv 4) po_none (po_some pe_int))) pa_nil))) (pa_cons (pe_cal c__law_fewest hr (pa_cons (pv 3) (pa_cons (pv 2) (pa_cons (pv 4) pa_nil)))) pa_nil)) (by rfl))
      (pss_cons (ps_if (pt_not (pt_val (pe_cal c__law_told_right hr (pa_cons (pe_calX x_least_passing hr takes_none (pa_cons (pv 2) (pa_cons (pv 3) (pa_cons (pv 8) pa_nil)))) (pa_cons (pv 2) (pa_cons (pv 3) (pa_cons (pv 4) (pa_cons (pv 6) pa_nil))))))))
        (pss_one (ps_ret pe_bl))
        pss_nil)
      (pss_one (ps_ret (pe_cal c__law_told_right hr (pa_cons (pe_calX x_least_passing hr takes_none (pa_cons (pv 3) (pa_cons (pv 2) (pa_cons (pe_callTy call_listL (by rfl) z.list (by decide +kernel) (pa_cons (pv 4) pa_nil)) pa_nil)))) (pa_cons (pv 3) (pa_cons (pv 2) (pa_cons (pv 4) (pa_cons (pv 9) pa_nil))))))))))))))), ?_⟩
    have eqs := del_sub _ _ eq
    walk_at "rd"
    refine ⟨q, _, rfl, sqL_of eqs, rfl, ?_⟩
    obtain ⟨h1, h2, hk, a5, c5, kk, la, lc, lk⟩ := S
    have size : (a.length + 1) * (c.length + 1) ≤ 7000 := Nat.le_trans (Nat.mul_le_mul (show a.length + 1 ≤ 58 by omega) (show c.length + 1 ≤ 58 by omega)) (by decide)
    have size' : (c.length + 1) * (a.length + 1) ≤ 7000 := by rw [Nat.mul_comm]; exact size
    walk_at "rd"
    obtain ⟨vk, ek, pk⟩ := hk.sub
    refine i_listL (.inl (sqL_of ek)) fun hp nh lh => ?_
    have s1 := same_upd (o := .lst vk) nh
    have K1 : KL (upd H hp (.lst vk)) hp ks := ⟨vk, upd_same, Paired.mapP pk fun _ _ zz => zz.same s1⟩
    generalize upd H hp (.lst vk) = H1 at *
    walk_at "rd"
    refine ⟨v1, v2, kp, a, c, ks, rfl, h1.sub.same s1, h2.sub.same s1, hk.sub.same s1, kk, by omega, size, a5, c5, fun H2 s2 => ?_⟩
    walk_at "rd"
    have s12 := s1.trans s2
    refine lp_good (h1.sub.same s12) (h2.sub.same s12) (.inl ⟨hp, rfl, lh, K1.same s2⟩) a5 c5 kk (by omega) (by omega) (by omega) size fun told H3 s3 T3 => ?_
    have s13 := s12.trans s3
    walk_at "rd"
    refine ⟨told, v1, v2, kp, a, c, ks, rfl, h1.sub.same s13, h2.sub.same s13, hk.sub.same s13, kk, by omega, by omega, a5, c5, T3, fun H4 s4 => ?_⟩
    have s14 := s13.trans s4
    walk_at "rd"
    refine i_neKK ((K1.same (s2.trans (s3.trans s4)))) (hk.sub.same s14) kk ?_
    walk_at "rd"
    refine ⟨_, _, rfl, .inl ⟨sqL_of (s14 _ _ ek), fun tp ntp => ?_⟩⟩
    have s5 := same_upd (o := .tup vk) ntp
    have e5 := upd_same (H := H4) (a := tp) (o := .tup vk)
    generalize upd H4 tp (.tup vk) = H5 at *
    have s15 := s14.trans s5
    walk_at "rd"
    refine lp_good (h1.sub.same s15) (h2.sub.same s15) (.inr ⟨tp, vk, rfl, e5, Paired.mapP pk fun _ _ zz => zz.same s15⟩) a5 c5 kk (by omega) (by omega) (by omega) size fun told2 H6 s6 T6 => ?_
    have s16 := s15.trans s6
    obtain ⟨dd, de2, de1, sdd⟩ := T6.two (T3.same (s4.trans (s5.trans s6))) (by omega) (by omega)
    walk_at "rd"
    refine i_repE de2 sdd (by omega) (by omega) ?_
    walk_at "rd"
    refine i_repE de1 sdd (by omega) (by omega) ?_
    walk_at "rd"
    refine ⟨rfl, ?_⟩
    rw [decide_eq_true rfl]
    walk_at "rd"
    refine i_slK (n := 1) (hk.sub.same s16) fun p7 H7 n7 s7 K7 => ?_
    have s17 := s16.trans s7
    walk_at "rd"
    refine i_catK (hk.sub.same s17) K7 (by rw [List.length_take]; omega) fun p8 H8 n8 s8 K8 => ?_
    have s18 := s17.trans s8
    have B8 := B.same s18
    have kk8 : Kinds (ks ++ ks.take 1) := kk.app (kk.take 1)
    walk_at "rd"
    refine ⟨b, p8, d, _, rfl, B8, by omega, K8.del B8 (box_ne (B.same s17) n8), kk8, by rw [List.length_append, List.length_take]; omega, fun q2 ks2 H9 lt2 n9 K9 l9 m9 B9 s9 => ?_⟩
    have mem : inP ks2 = inP ks := by
      funext s
      unfold inP
      rw [decide_eq_decide, m9 s, List.mem_append]
      exact ⟨fun h => h.elim id List.mem_of_mem_take, .inl⟩
    have kk9 : Kinds ks2 := fun s hs => kk8 s ((m9 s).mp hs)
    have d09 : Same (L2.del H b) (L2.del H9 b) := (del_sb (SB.of s18)).trans (del_sb s9)
    have h19 := (h1.same d09).sub
    have h29 := (h2.same d09).sub
    have hk9 := (hk.same d09).sub
    have lk9 : ks2.length ≤ 200 := by rw [l9, List.length_append, List.length_take]; omega
    walk_at "rd"
    refine ⟨v2, v1, kp, c, a, ks, rfl, h29, h19, hk9, kk, by omega, size', c5, a5, fun H10 s10 => ?_⟩
    walk_at "rd"
    refine lp_good (h19.same s10) (h29.same s10) (.inl ⟨q2, rfl, lt2, K9.sub.same s10⟩) a5 c5 kk9 (by omega) (by omega) (by omega) size fun told3 H11 s11 T11 => ?_
    rw [mem] at T11
    have s911 := s10.trans s11
    walk_at "rd"
    refine ⟨told3, v1, v2, kp, a, c, ks, rfl, h19.same s911, h29.same s911, hk9.same s911, kk, by omega, by omega, a5, c5, T11, fun H12 s12' => ?_⟩
    have s912 := s911.trans s12'
    walk_at "rd"
    obtain ⟨vk2, ek2, pk2⟩ := hk9.same s912
    refine i_listL (.inl (sqL_of ek2)) fun hp2 nh2 lh2 => ?_
    have s13' := same_upd (o := .lst vk2) nh2
    have K13 : KL (upd H12 hp2 (.lst vk2)) hp2 ks := ⟨vk2, upd_same, Paired.mapP pk2 fun _ _ zz => zz.same s13'⟩
    generalize upd H12 hp2 (.lst vk2) = H13 at *
    have s913 := s912.trans s13'
    walk_at "rd"
    refine lp_good (h29.same s913) (h19.same s913) (.inl ⟨hp2, rfl, lh2, K13⟩) c5 a5 kk (by omega) (by omega) (by omega) size' fun told4 H14 s14' T14 => ?_
    have s914 := s913.trans s14'
    walk_at "rd"
    refine ⟨told4, v2, v1, kp, c, a, ks, rfl, h29.same s914, h19.same s914, hk9.same s914, kk, by omega, by omega, c5, a5, T14, fun H15 s15' => ?_⟩
    have s915 := s914.trans s15'
    exact k _ ((B9.same s915).mono (by omega)) ((SB.of s18).trans (s9.trans (SB.of s915)))
end
end Sw
namespace Sw
open PySem PySem.Spec PyProof.Rows L2
/-! ### a tuple no times -/
theorem tuple_mul0 (l : Addr) (items : Array Value) (n : Nat) (dd : Option Addr) (sl : Array (Option Value)) (u : Tok) (ne : items.isEmpty = false) :
    Meets (Builtin.«tuple.__mul__» ⟨[.ref l, .int 0 u], []⟩) (fun _ R s => s.heap.get? l = some { cls := .type "tuple", dict := dd, data := .seq items n, slots := sl } ∧
      R (.ok (.ret (Value.ref s.heap.objs.size))) { s with heap := s.heap.push { cls := Value.type "tuple", data := Data.seq #[] }, toks := s.toks }) :=
  .of_wp fun prog w A R s h => by
    obtain ⟨hp, g, d, tk, os⟩ := s
    obtain ⟨hl, h⟩ := h
    have f1 := AutoSeq1.idx_int
    have c1 : (items.isEmpty || ((0 : Int) == 1)) = false := by rw [ne]; rfl
    have c2 : (decide ((0 : Int) ≤ 0) || items.isEmpty) = true := rfl
    have hsz : ((#[] : Array Value)).size ≤ sizeLine := Nat.zero_le _
    wp_walk using wpAny_loadPart' hl, wpAny_load hl
    repeat (first
      | (refine wpAny_ite_false (decide_eq_false (by rw [c1]; exact Bool.false_ne_true)) ?_; wp_walk using wpAny_loadPart' hl)
      | (refine wpAny_ite_true c2 ?_; wp_walk using wpAny_loadPart' hl, wpAny_load hl)
      | (refine wpAny_ite_true (decide_eq_true c2) ?_; wp_walk using wpAny_loadPart' hl, wpAny_load hl)
      | (refine wpAny_ite_false (decide_eq_false (Nat.not_lt.mpr hsz)) ?_; wp_walk using wpAny_loadPart' hl))
    exact ⟨_, rfl, h⟩
def rRepZ (K : PySem.W.Frag) : R2 := fun x y H Q => (∃ l xs, x = .ref l ∧ y = .int 0 ∧ SqT K H l xs ∧ xs ≠ [] ∧ ∀ p, H p = none → Q (.ref p) (upd H p (.tup []))) ∨ rRepU K x y H Q
theorem op_repZ {X : Cx} : OpR X (binaryOp .Mult) (rRepZ X.K) := by
  intro pins s σ H x y v u Q I rx ry h
  rcases h with ⟨l, xs, rfl, rfl, hT, ne, q⟩ | h
  · cases rx
    obtain ⟨t, rfl⟩ := ry
    obtain ⟨its, r, ⟨⟨cls, dd, data, sl⟩, ho, hc, n, hd⟩, hs⟩ := I.tuple hT
    simp only at hc hd
    subst hc hd
    have full : its.toArray.isEmpty = false := by
      cases its with
      | nil => exact absurd (List.eq_nil_of_length_eq_zero r.length) ne
      | cons a b => rfl
    have mul := tuple_mul0 l its.toArray n dd sl t full
    have spec := int_rmul_tuple 0 t l its.toArray n dd sl
    have isT : s.TypeIs (.ref l) "tuple" := ⟨_, ho, rfl⟩
    refine wpAny_binaryOp_repeat_ref (T := "tuple") (U := "int") (by decide) isT (fun s' => typeIs_int s' 0 t) noFill_tuple_mul F.fills_int_mul F.slot_int_rmul repeat_tuple F.slot_int_index.lookup (call_meets F.slot_int_rmul (typeIs_int s 0 t) F.entry_int_rmul (F.args_int_rmul_2 _ _) spec ?_)
    refine ⟨ho, rfl, isT, call_meets F.slot_tuple_mul isT F.entry_tuple_mul (F.args_tuple_mul_2 _ _) mul ⟨ho, ?_⟩⟩
    exact ⟨.ref s.heap.objs.size, _, I.laid (t' := s.toks) (o := .tup []) (fun b ob q => Heap.get?_push_of_some _ q) (Nat.le_refl _) ⟨Nat.zero_le _, _, .nil, IsTup.new _ _⟩, rfl, q _ (I.hok.fresh (Nat.le_refl _))⟩
  · exact op_repU pins s σ H x y v u Q I rx ry h
/-- one value, n times -/
theorem i_repZ {K : PySem.W.Frag} {l : Addr} {x : V} {k : Nat} {H : Hp} {Q : VK} (h : SqT K H l [x]) (lk : k ≤ 1000) (q : ∀ p H', Same H H' → SqT K H' p (List.replicate k x) → Q (.ref p) H') : rRepZ K (.ref l) (.int (k : Int)) H Q := by
  rcases k with _ | _ | k
  · exact .inl ⟨l, _, rfl, rfl, h, by simp, fun p np => q p _ (same_upd np) (sqT_of upd_same)⟩
  · exact .inr (i_rep1 h (q l H (Same.refl _) h))
  · refine .inr (i_repN h (by simp) (by omega) lk (by simp) fun p H' np s e => q p H' s (sqT_of ?_))
    rw [e]
    have : ∀ n, (List.replicate n [x]).flatten = List.replicate n x := fun n => by
      induction n with
      | zero => rfl
      | succ n ih => rw [List.replicate_succ, List.replicate_succ, List.flatten_cons, ih]; rfl
    rw [this]
end Sw
namespace Sw
open PySem PySem.Spec PyProof.Rows L2
local macro_rules | `(tactic| walk_at "hp") => `(tactic| first
  | (with_reducible assumption) | (with_reducible exact upd_same)
  | ((with_reducible refine' upd_old ?q1 ?q2); (case q1 => (with_reducible assumption)); (case q2 => walk_at "hp"))
  | ((with_reducible refine' Same.at ?q1 ?q2); (case q1 => (with_reducible assumption)); (case q2 => walk_at "hp"))
  | ((with_reducible refine' upd_skip ?q1 ?q2); (case q1 => walk_at "ne"); (case q2 => walk_at "hp"))
  | fail)
local macro_rules | `(tactic| walk_at "ne") => `(tactic| first
  | (with_reducible assumption) | (with_reducible exact Ne.symm (by assumption))
  | ((with_reducible refine' ne_of_none ?q1 ?q2); (case q2 => (with_reducible assumption)); (case q1 => walk_at "hp"))
  | fail)
local macro_rules | `(tactic| walk_at "ci") => `(tactic| first | assumption | (show (0 : Int) < _; first | decide | (with_reducible omega)) | exact ⟨by decide, by decide⟩ | exact .inl ⟨by decide, by decide⟩ | exact .inr ⟨by decide, by decide⟩)
local macro_rules | `(tactic| walk_at "ln") => `(tactic| first | (with_reducible assumption) | (with_reducible omega) | (simp only [List.length_append, List.length_take, List.length_drop, List.length_reverse, List.length_cons, List.length_nil]; with_reducible omega))
local macro_rules | `(tactic| walk_at "rd1") => `(tactic| first
  | (with_reducible refine i_seq ?_) | (with_reducible refine i_asg ?_) | (with_reducible refine i_ret ?_) | (with_reducible refine i_name ?_) | ((with_reducible refine' i_var ?q1 ?_); (case q1 => exact rfl)) | (with_reducible refine i_c ?_) | (with_reducible refine i_op ?_) | (with_reducible refine i_un ?_)
  | (with_reducible refine i_rI0 ?_) | (with_reducible refine i_cb ?_) | (with_reducible refine i_cons ?_) | (with_reducible refine i_nil ?_) | (with_reducible refine i_call ?_) | (with_reducible refine i_if ?_) | (with_reducible refine i_ifE ?_) | (with_reducible refine i_test ?_) | (with_reducible refine i_bl ?_)
  | (with_reducible refine i_and ?_) | (with_reducible refine i_or ?_) | (with_reducible refine i_not ?_) | (with_reducible refine i_lstM ?_) | (with_reducible refine i_lstLM ?_) | (with_reducible refine i_tupM ?_) | (with_reducible refine i_next ?_) | (with_reducible refine i_drop ?_) | (with_reducible refine i_sub ?_)
  | (with_reducible refine i_bm ?_) | (with_reducible refine i_sl ?_) | (with_reducible refine i_part ?_) | (with_reducible refine i_nopart ?_) | (with_reducible refine i_exI ?_) | (with_reducible refine i_chain ?_) | ((with_reducible refine' i_aug ?q1 ?_); (case q1 => exact rfl)) | (with_reducible refine i_ip ?_)
  | (with_reducible refine i_par ?_) | (with_reducible refine i_pair ?_) | (with_reducible refine i_andV ?_) | (with_reducible refine i_orV ?_) | (with_reducible refine i_notV ?_) | (with_reducible refine i_m1 ?_) | (with_reducible refine i_str ?_)
  | (with_reducible refine iteF ?_) | (with_reducible refine iteT ?_) | (with_reducible refine iteNT ?_) | (with_reducible refine iteNF ?_) | (with_reducible refine i_tyS ?_) | (with_reducible refine i_tB ?_) | (with_reducible refine i_retN ?_) | (with_reducible refine i_par3 ?_) | (with_reducible refine i_trip ?_) | (with_reducible refine i_gCons ?_) | (with_reducible refine i_gNil ?_) | (with_reducible refine i_lstRg ?_) | (with_reducible refine i_rg1 ?_)
  | (with_reducible refine i_lc ?_) | (with_reducible refine i_for ?_) | (with_reducible refine i_iList ?_) | (with_reducible refine i_iTup ?_) | (with_reducible refine i_iStr ?_) | (with_reducible refine i_iRng1 ?_) | (with_reducible refine i_iEnS ?_)
  | ((with_reducible refine' i_ixTH ?q1 ?q2 ?_); (case q1 => walk_at "hp"); (case q2 => exact rfl))
  | ((with_reducible refine' i_ixLH ?q1 ?q2 ?_); (case q1 => walk_at "hp"); (case q2 => exact rfl))
  | ((with_reducible refine i_addS ?q1 ?_); (case q1 => walk_at "ln")) | ((with_reducible refine i_lenSS ?q1 ?_); (case q1 => walk_at "ln")) | ((with_reducible refine i_slFrom ?q1 ?q2 ?_); (case q1 => walk_at "ln"); (case q2 => walk_at "ln")) | ((with_reducible refine i_slTo ?q1 ?q2 ?_); (case q1 => walk_at "ln"); (case q2 => walk_at "ln"))
  | ((with_reducible refine' i_tyL ?q1 ?_); (case q1 => walk_at "hp"))
  | ((with_reducible refine' i_gTupH ?q1 ?q2 ?_); (case q1 => walk_at "hp"); (case q2 => exact rfl))
  | (with_reducible refine i_dnewM ?_) | (with_reducible refine i_init ?_) | (with_reducible refine i_fst ?_) | (with_reducible refine i_mk ?_) | (with_reducible refine i_raise ?_) | (with_reducible refine i_callS ?_) | (with_reducible refine i_kwS ?_)
  | (with_reducible refine i_revT ?_) | (with_reducible refine i_kw ?_) | ((with_reducible refine' ⟨_, _, rfl, sqT_of ?q1, ?_⟩); (case q1 => walk_at "hp"))
  | (with_reducible refine i_revS ?_) | ((with_reducible refine i_revSS ?q1 ?_); (case q1 => walk_at "ln"))
  | (with_reducible refine i_startS ?_) | (with_reducible refine i_inSg ?_) | (with_reducible refine i_absN ?_) | (with_reducible refine i_min2 ?_) | (with_reducible refine i_max2 ?_) | (with_reducible refine i_min3 ?_) | (with_reducible refine i_intN ?_) | (with_reducible refine i_intNB ?_)
  | ((with_reducible refine' i_lenL ?q1 ?_); (case q1 => walk_at "hp")) | ((with_reducible refine' i_lenT ?q1 ?_); (case q1 => walk_at "hp"))
  | (with_reducible refine i_eqI ?_) | (with_reducible refine i_neI ?_) | (with_reducible refine i_eqS ?_) | (with_reducible refine i_neS ?_) | (with_reducible refine i_isNoI ?_) | (with_reducible refine i_isNoN ?_) | (with_reducible refine i_isNoR ?_)
  | ((with_reducible refine i_pow ?q1 ?q2 ?q3 ?_); (case q1 => decide); (case q2 => decide); (case q3 => (with_reducible omega)))
  | ((with_reducible refine i_rI ?q1 ?_); (case q1 => walk_at "ci"))
  | (with_reducible refine Or.inl ⟨_, rfl, ?_⟩) | (with_reducible refine Or.inr ⟨_, rfl, ?_⟩) | (with_reducible refine ⟨_, rfl, ?_⟩) | (with_reducible refine ⟨_, _, rfl, ?_⟩) | (with_reducible refine ⟨_, _, rfl, rfl, ?_⟩)
  | ((with_reducible refine' ⟨_, _, rfl, Or.inl (sqL_of ?q1), ?_⟩); (case q1 => walk_at "hp")) | ((with_reducible refine' ⟨_, _, rfl, Or.inr (sqT_of ?q1), ?_⟩); (case q1 => walk_at "hp")) | (with_reducible refine i_dget ?_) | (with_reducible refine i_disp1T ?_) | (with_reducible refine i_dcT ?_) | (with_reducible refine i_dnewT ?_) | fail)
local macro_rules | `(tactic| walk_at "rd") => `(tactic| repeat' walk_at "rd1")

/-! ### lines that have no signs alike -/
abbrev k2P : List Pg := [.put 1, .lost 0]
abbrev k3P : List Pg := [.put 1, .lost 0, .turned 0 1]
theorem repl_getD {n i x : Nat} (h : i < n) : (List.replicate n x).getD i 0 = x := by
  rw [List.getD_eq_getElem?_getD, List.getElem?_replicate, if_pos h]; rfl
theorem fw_two {n m : Nat} : ∀ (s i j : Nat), i + j ≤ s → i ≤ n → j ≤ m → fwP (inP k2P) (List.replicate n 0) (List.replicate m 1) i j = some (i + j)
  | 0, i, j, hs, _, _ => by
    obtain rfl : i = 0 := by omega
    obtain rfl : j = 0 := by omega
    exact fw_00
  | s + 1, i, j, hs, hi, hj => by
    rcases i with _ | i <;> rcases j with _ | j
    · exact fw_00
    · rw [fw_0j, fw_two s 0 j (by omega) hi (by omega), repl_getD (by omega), cnd_on (by decide) rfl]
      simp only [Option.map_some] <;> congr 1 <;> omega
    · rw [fw_i0, fw_two s i 0 (by omega) (by omega) hj, repl_getD (by omega), cnd_on (by decide) rfl]
      simp only [Option.map_some] <;> congr 1 <;> omega
    · rw [fw_ij, fw_two s (i + 1) j (by omega) (by omega) (by omega), fw_two s i (j + 1) (by omega) (by omega) (by omega), fw_two s i j (by omega) (by omega) (by omega), repl_getD (by omega), repl_getD (by omega), cnd_on (by decide) rfl, cnd_on (by decide) rfl,
        show dgP 0 1 = .turned 0 1 from rfl, cnd_off (by decide) rfl]
      simp only [Option.map_some, ominP]; congr 1 <;> omega
theorem fw_three {n m : Nat} : ∀ (s i j : Nat), i + j ≤ s → i ≤ n → j ≤ m → fwP (inP k3P) (List.replicate n 0) (List.replicate m 1) i j = some (max i j)
  | 0, i, j, hs, _, _ => by
    obtain rfl : i = 0 := by omega
    obtain rfl : j = 0 := by omega
    exact fw_00
  | s + 1, i, j, hs, hi, hj => by
    rcases i with _ | i <;> rcases j with _ | j
    · exact fw_00
    · rw [fw_0j, fw_three s 0 j (by omega) hi (by omega), repl_getD (by omega), cnd_on (by decide) rfl]
      simp only [Option.map_some] <;> congr 1 <;> omega
    · rw [fw_i0, fw_three s i 0 (by omega) (by omega) hj, repl_getD (by omega), cnd_on (by decide) rfl]
      simp only [Option.map_some] <;> congr 1 <;> omega
    · rw [fw_ij, fw_three s (i + 1) j (by omega) (by omega) (by omega), fw_three s i (j + 1) (by omega) (by omega) (by omega), fw_three s i j (by omega) (by omega) (by omega), repl_getD (by omega), repl_getD (by omega), cnd_on (by decide) rfl, cnd_on (by decide) rfl,
        show dgP 0 1 = .turned 0 1 from rfl, cnd_on (by decide) rfl]
      simp only [Option.map_some, ominP]; congr 1 <;> omega
theorem repl_iV (n x : Nat) : List.replicate n (iV x) = (List.replicate n x).map iV := by rw [List.map_replicate]
/-- _law_long_right(box) -/
def spLongR : Sp := fun vs H Q _ => ∃ (b : Addr) (d : Int), vs = [.ref b] ∧ BoxAt H b d ∧ d + 100 ≤ 1000000 ∧ ∀ H', BoxAt H' b (d + 100) → SB b H H' → Q (.bl true) H'
section
variable {P : Program} {w : World} {K : PySem.W.Frag} {mg : Str → Option Value} {base : Heap} {f : Addr} {fd : FuncData}
theorem ok_longR {C D : Addr} (F : Fun K "_law_long_right" "_law_long_right" s__law_long_right f fd) (z : Z mg) (c__law_take : Cal P w K mg base "_law_take" ["box", "many"] 1 spTake) (c__law_told_right : Cal P w K mg base "_law_told_right" ["told", "one", "other", "kinds", "due"] 1 (spToldR K))
    (x_least_passing : CalX P w K mg base "least_passing" ["one", "other", "kinds"] 6 (spLp K C D)) : FnOk P w K mg base CX0 7 f fd ["box"] spLongR := by
  refine F.ok sc__law_long_right (fun vs H Q E h => ?_) (fun cdv A outer s H vs Q E hr h => ?_)
  · obtain ⟨b, d, rfl, _⟩ := h; rfl
  · obtain ⟨b, d, rfl, B, hd, k⟩ := h
    refine ⟨_, (pss_cons (ps_set (i := 1) sc__law_long_right.nd rfl (.inl rfl) (pe_ix ix_list (pe_lstL (pa_cons pe_int (pa_cons (pe_cal c__law_take hr (pa_cons (pv 0) (pa_cons pe_int pa_nil))) (pa_cons (pe_op op_add pe_int (pe_cal c__law_take hr (pa_cons (pv 0) (pa_cons pe_int pa_nil)))) pa_nil)))) (pe_cal c__law_take hr (pa_cons (pv 0) (pa_cons pe_int pa_nil))) (fun _ _ => rfl)))
      (pss_cons (ps_set (i := 2) sc__law_long_right.nd rfl (.inl rfl) (pe_cal c__law_take hr (pa_cons (pv 0) (pa_cons (pe_op op_add (pe_callB (call_min2N rfl) (by rfl) z.min_ (by decide +kernel) (pa_cons pe_int (pa_cons (pe_op op_fdiv pe_int (pe_op op_add (pv 1) pe_int)) pa_nil))) pe_int) pa_nil))))
      (pss_cons (ps_set (i := 3) sc__law_long_right.nd rfl (.inl rfl) (pe_ix ix_list (pe_lstL (pa_cons (pe_lstL (pa_cons (pv 1) (pa_cons (pv 2) pa_nil))) (pa_cons (pe_lstL (pa_cons (pv 2) (pa_cons (pv 1) pa_nil))) pa_nil))) (pe_cal c__law_take hr (pa_cons (pv 0) (pa_cons pe_int pa_nil))) (fun _ _ => rfl)))
      (pss_cons (ps_par3 (i := 4) (j := 5) (l := 6) rfl sc__law_long_right.nd rfl rfl rfl (by decide) (by decide) (by decide) rfl rfl rfl (pa_cons (pe_op op_repZ (pe_tup (pa_cons pe_int pa_nil)) (pe_ix ix_list (pv 3) pe_int (fun _ _ => rfl))) (pa_cons (pe_op op_repZ (pe_tup (pa_cons pe_int pa_nil)) (pe_ix ix_list (pv 3) pe_int (fun _ _ => rfl))) (pa_cons (pe_lstL (pa_cons (pe_tup (pa_cons (pe_strS (l := [112, 117, 116]) (by decide +kernel)) (pa_cons pe_int pa_nil))) (pa_cons (pe_tup (pa_cons (pe_strS (l := [108, 111, 115, 116]) (by decide +kernel)) (pa_cons pe_int pa_nil))) pa_nil))) pa_nil))) (by rfl))
      (pss_cons (ps_if (pt_not (pt_val (pe_cal c__law_told_right hr (pa_cons (pe_calX x_least_passing hr takes_none (pa_cons (pv 4) (pa_cons (pv 5) (pa_cons (pe_callTy call_listL (by rfl) z.list (by decide +kernel) (pa_cons (pv 6) pa_nil)) pa_nil)))) (pa_cons (pv 4) (pa_cons (pv 5) (pa_cons (pv 6) (pa_cons (pe_op op_add (pv 1) (pv 2)) pa_nil))))))))
        (pss_one (ps_ret pe_bl))
        pss_nil)
      (pss_cons (ps_set (i := 6) sc__law_long_right.nd rfl (.inl rfl) (pe_op op_cat (pv 6) (pe_lstL (pa_cons (pe_tup (pa_cons (pe_strS (l := [116, 117, 114, 110, 101, 100]) (by decide +kernel)) (pa_cons pe_int (pa_cons pe_int pa_nil)))) pa_nil))))
      (pss_one (ps_ret (pe_cal c__law_told_right hr (pa_cons (pe_calX x_least_passing hr takes_none (pa_cons (pv 4) (pa_cons (pv 5) (pa_cons (pe_callTy call_listL (by rfl) z.list (by decide +kernel) (pa_cons (pv 6) pa_nil)) pa_nil)))) (pa_cons (pv 4) (pa_cons (pv 5) (pa_cons (pv 6) (pa_cons (pe_callB (call_max2N rfl) (by rfl) z.max_ (by decide +kernel) (pa_cons (pv 1) (pa_cons (pv 2) pa_nil))) pa_nil)))))))))))))), ?_⟩
    walk_at "rd"
    refine ⟨b, 401, d, rfl, B, by omega, by omega, by omega, fun q1 H1 q10 q11 B1 s1 => ?_⟩
    obtain ⟨q1, rfl⟩ : ∃ n : Nat, q1 = n := ⟨q1.toNat, by omega⟩
    walk_at "rd"
    refine ⟨b, 60, _, rfl, B1, by omega, by omega, by omega, fun q2 H2 q20 q21 B2 s2 => ?_⟩
    obtain ⟨q2, rfl⟩ : ∃ n : Nat, q2 = n := ⟨q2.toNat, by omega⟩
    walk_at "rd"
    rw [show (50 : Int) + (q2 : Int) = ((50 + q2 : Nat) : Int) by omega]
    refine newLL B2 (Nat.le_of_ble_eq_true rfl) fun p3 H3 _ n3 B3 _ e3 t3 => ?_
    have e3 := del_sub _ _ e3
    have p3b := box_ne B2 n3
    walk_at "rd"
    refine ⟨b, 3, _, rfl, B3, by omega, by omega, by omega, fun q4 H4 q40 q41 B4 s4 => ?_⟩
    have e34 := s4 _ _ p3b e3
    obtain ⟨n, en, hn⟩ : ∃ n : Nat, ([.int 400, .int (q1 : Nat), .int (50 + q2 : Nat)] : List V)[q4.toNat]? = some (.int n) ∧ n ≤ 400 := by
      have hw : q4 = 0 ∨ q4 = 1 ∨ q4 = 2 := by omega
      rcases hw with rfl | rfl | rfl
      · exact ⟨400, rfl, by omega⟩
      · exact ⟨q1, rfl, by omega⟩
      · exact ⟨50 + q2, rfl, by omega⟩
    refine i_ixLv e34 q40 en ?_
    have s14 := s1.trans (s2.trans ((SB.of t3).trans s4))
    walk_at "rd"
    refine i_rI ⟨by omega, by omega⟩ ?_
    have hq := Int.ediv_nonneg (show (0 : Int) ≤ 6000 by omega) (show (0 : Int) ≤ (n : Int) + 1 by omega)
    have hq2 : (6000 : Int) / ((n : Int) + 1) * ((n : Int) + 1) ≤ 6000 := Int.ediv_mul_le _ (by omega)
    generalize (6000 : Int) / ((n : Int) + 1) = qq at *
    walk_at "rd"
    refine ⟨b, _, _, rfl, B4, by omega, by omega, by omega, fun m H5 m0 m1 B5 s5 => ?_⟩
    obtain ⟨m, rfl⟩ : ∃ n : Nat, m = n := ⟨m.toNat, by omega⟩
    have hm : m ≤ 400 := by omega
    have size : (n + 1) * (m + 1) ≤ 7000 := by
      have h1 : (m : Int) ≤ qq := by omega
      have h2 : (m : Int) * ((n : Int) + 1) ≤ qq * ((n : Int) + 1) := Int.mul_le_mul_of_nonneg_right h1 (by omega)
      have h3 : ((m * (n + 1) : Nat) : Int) ≤ 6000 := by rw [Int.natCast_mul]; exact Int.le_trans h2 hq2
      have h4 : m * (n + 1) ≤ 6000 := by omega
      rw [Nat.mul_succ, Nat.mul_comm]; omega
    have s15 := s14.trans s5
    walk_at "rd"
    refine newLL B5 (Nat.le_of_ble_eq_true rfl) fun p6 H6 _ n6 B6 _ e6 t6 => ?_
    have e6 := del_sub _ _ e6
    walk_at "rd"
    refine newLL B6 (Nat.le_of_ble_eq_true rfl) fun p7 H7 _ n7 B7 _ e7 t7 => ?_
    have e7 := del_sub _ _ e7
    walk_at "rd"
    refine newLL B7 (Nat.le_of_ble_eq_true rfl) fun p8 H8 _ n8 B8 _ e8 t8 => ?_
    have e8 := del_sub _ _ e8
    have e6 := t8 _ _ (t7 _ _ e6)
    have e7 := t8 _ _ e7
    have s18 := s15.trans (SB.of (t6.trans (t7.trans t8)))
    walk_at "rd"
    refine ⟨b, 2, _, rfl, B8, by omega, by omega, by omega, fun q9 H9 q90 q91 B9 s9 => ?_⟩
    have e6 := s9 _ _ (box_ne B5 n6) e6
    have e7 := s9 _ _ (box_ne B6 n7) e7
    have e8 := s9 _ _ (box_ne B7 n8) e8
    obtain ⟨sp, u, v, ep, es, hu, hv, hs, hmx, hsz⟩ : ∃ (sp : Addr) (u v : Nat), ([.ref p6, .ref p7] : List V)[q9.toNat]? = some (.ref sp) ∧ H9 sp = some (.lst [.int (u : Nat), .int (v : Nat)]) ∧ u ≤ 400 ∧ v ≤ 400 ∧ u + v = n + m ∧ max u v = max n m ∧ (u + 1) * (v + 1) ≤ 7000 := by
      have hw : q9 = 0 ∨ q9 = 1 := by omega
      rcases hw with rfl | rfl
      · exact ⟨p6, n, m, rfl, e6, hn, hm, rfl, rfl, size⟩
      · exact ⟨p7, m, n, rfl, e7, hm, hn, by omega, by omega, by rw [Nat.mul_comm]; exact size⟩
    refine i_ixLv e8 q90 ep ?_
    have s19 := s18.trans s9
    walk_at "rd"
    refine newT0 (Nat.le_of_ble_eq_true rfl) fun t1 H10 nt1 u1 et1 => ?_
    have es := u1 _ _ es
    walk_at "rd"
    refine i_repZ (k := u) (sqT_of et1) (by omega) fun one H11 u2 eo => ?_
    have es := u2 _ _ es
    walk_at "rd"
    refine newT0 (Nat.le_of_ble_eq_true rfl) fun t2 H12 nt2 u3 et2 => ?_
    have es := u3 _ _ es
    walk_at "rd"
    refine i_repZ (k := v) (sqT_of et2) (by omega) fun oth H13 u4 eh => ?_
    walk_at "rd"
    refine newT0 (Nat.le_of_ble_eq_true rfl) fun t3 H14 nt3 u5 et3 => ?_
    walk_at "rd"
    refine newT0 (Nat.le_of_ble_eq_true rfl) fun t4 H15 nt4 u6 et4 => ?_
    walk_at "rd"
    refine newLL0 (Nat.le_of_ble_eq_true rfl) fun kp H16 nkp lkp u7 ekp => ?_
    have L1 : LnAt K H16 (.ref one) (List.replicate u 0) := ⟨one, rfl, by rw [← repl_iV]; exact Same.sqT (u3.trans (u4.trans (u5.trans (u6.trans u7)))) eo⟩
    have L2 : LnAt K H16 (.ref oth) (List.replicate v 1) := ⟨oth, rfl, by rw [← repl_iV]; exact Same.sqT (u5.trans (u6.trans u7)) eh⟩
    have K2 : KL H16 kp k2P := ⟨_, ekp, .cons ⟨t3, rfl, u7 _ _ (u6 _ _ et3)⟩ (.cons ⟨t4, rfl, u7 _ _ et4⟩ .nil)⟩
    have z5 : ∀ x ∈ List.replicate u 0, x < 5 := fun x hx => by rw [List.eq_of_mem_replicate hx]; omega
    have o5 : ∀ x ∈ List.replicate v 1, x < 5 := fun x hx => by rw [List.eq_of_mem_replicate hx]; omega
    have l0 : (List.replicate u 0).length = u := List.length_replicate
    have l1 : (List.replicate v 1).length = v := List.length_replicate
    have f2 := fw_two (n := u) (m := v) (u + v) u v (Nat.le_refl _) (Nat.le_refl _) (Nat.le_refl _)
    have f3 := fw_three (n := u) (m := v) (u + v) u v (Nat.le_refl _) (Nat.le_refl _) (Nat.le_refl _)
    have kk2 : Kinds k2P := by intro s hs; revert s; decide
    have kk3 : Kinds k3P := by intro s hs; revert s; decide
    have B16 := B9.same (u1.trans (u2.trans (u3.trans (u4.trans (u5.trans (u6.trans u7))))))
    have s116 := s19.trans (SB.of (u1.trans (u2.trans (u3.trans (u4.trans (u5.trans (u6.trans u7)))))))
    walk_at "rd"
    obtain ⟨vk, ek, pk⟩ := K2
    refine i_listL (.inl (sqL_of ek)) fun hp nh lh => ?_
    have w1 := same_upd (o := .lst vk) nh
    have K17 : KL (upd H16 hp (.lst vk)) hp k2P := ⟨vk, upd_same, Paired.mapP pk fun _ _ zz => zz.same w1⟩
    generalize upd H16 hp (.lst vk) = H17 at *
    have size2 : ((List.replicate u 0).length + 1) * ((List.replicate v 1).length + 1) ≤ 7000 := by rw [l0, l1]; exact hsz
    walk_at "rd"
    refine lp_good (L1.same w1) (L2.same w1) (.inl ⟨hp, rfl, lh, K17⟩) z5 o5 kk2 (by omega) (by omega) (by simp) size2 fun told H18 w2 T18 => ?_
    have w12 := w1.trans w2
    walk_at "rd"
    have K16 : KL H16 kp k2P := ⟨vk, ek, pk⟩
    refine ⟨told, .ref one, .ref oth, kp, _, _, k2P, ?_, L1.same w12, L2.same w12, K16.same w12, kk2, by omega, by omega, z5, o5, T18, fun H19 w3 => ?_⟩
    · rw [l0, l1, f2, hs, show ofN (some (n + m)) = V.int ((n + m : Nat) : Int) from rfl, Int.natCast_add]; rfl
    have w13 := w12.trans w3
    walk_at "rd"
    refine newT0 (Nat.le_of_ble_eq_true rfl) fun t5 H20 nt5 w4 et5 => ?_
    walk_at "rd"
    refine newLL0 (Nat.le_of_ble_eq_true rfl) fun l5 H21 nl5 ll5 w5 el5 => ?_
    have w14 := w13.trans (w4.trans w5)
    walk_at "rd"
    refine i_catK (K16.same w14) (⟨_, el5, .cons ⟨t5, rfl, w5 _ _ et5⟩ .nil⟩ : KL H21 l5 [.turned 0 1]) (by simp) fun kp2 H22 n22 w6 K22 => ?_
    have w15 := w14.trans w6
    walk_at "rd"
    obtain ⟨vk2, ek2, pk2⟩ := K22
    refine i_listL (.inl (sqL_of ek2)) fun hp2 nh2 lh2 => ?_
    have w7 := same_upd (o := .lst vk2) nh2
    have K23 : KL (upd H22 hp2 (.lst vk2)) hp2 k3P := ⟨vk2, upd_same, Paired.mapP pk2 fun _ _ zz => zz.same w7⟩
    generalize upd H22 hp2 (.lst vk2) = H23 at *
    have w16 := w15.trans w7
    walk_at "rd"
    refine lp_good (L1.same w16) (L2.same w16) (.inl ⟨hp2, rfl, lh2, K23⟩) z5 o5 kk3 (by omega) (by omega) (by simp) size2 fun told2 H24 w8 T24 => ?_
    have w17 := w16.trans w8
    walk_at "rd"
    have K22 : KL H22 kp2 k3P := ⟨vk2, ek2, pk2⟩
    refine ⟨told2, .ref one, .ref oth, kp2, _, _, k3P, ?_, L1.same w17, L2.same w17, K22.same (w7.trans w8), kk3, by omega, by omega, z5, o5, T24, fun H25 w9 => ?_⟩
    · rw [l0, l1, f3, hmx, show ofN (some (max n m)) = V.int ((max n m : Nat) : Int) from rfl, show ((max n m : Nat) : Int) = max (n : Int) (m : Int) by omega]; rfl
    exact k _ ((B16.same (w17.trans w9)).mono (by omega)) (s116.trans (SB.of (w17.trans w9)))
end
end Sw
namespace Sw
open PySem PySem.Spec PyProof.Rows L2
local macro_rules | `(tactic| walk_at "hp") => `(tactic| first
  | (with_reducible assumption) | (with_reducible exact upd_same)
  | ((with_reducible refine' upd_old ?q1 ?q2); (case q1 => (with_reducible assumption)); (case q2 => walk_at "hp"))
  | ((with_reducible refine' Same.at ?q1 ?q2); (case q1 => (with_reducible assumption)); (case q2 => walk_at "hp"))
  | ((with_reducible refine' upd_skip ?q1 ?q2); (case q1 => walk_at "ne"); (case q2 => walk_at "hp"))
  | fail)
local macro_rules | `(tactic| walk_at "ne") => `(tactic| first
  | (with_reducible assumption) | (with_reducible exact Ne.symm (by assumption))
  | ((with_reducible refine' ne_of_none ?q1 ?q2); (case q2 => (with_reducible assumption)); (case q1 => walk_at "hp"))
  | fail)
local macro_rules | `(tactic| walk_at "ci") => `(tactic| first | assumption | (show (0 : Int) < _; first | decide | (with_reducible omega)) | exact ⟨by decide, by decide⟩ | exact .inl ⟨by decide, by decide⟩ | exact .inr ⟨by decide, by decide⟩)
local macro_rules | `(tactic| walk_at "ln") => `(tactic| first | (with_reducible assumption) | (with_reducible omega) | (simp only [List.length_append, List.length_take, List.length_drop, List.length_reverse, List.length_cons, List.length_nil]; with_reducible omega))
local macro_rules | `(tactic| walk_at "rd1") => `(tactic| first
  | (with_reducible refine i_seq ?_) | (with_reducible refine i_asg ?_) | (with_reducible refine i_ret ?_) | (with_reducible refine i_name ?_) | ((with_reducible refine' i_var ?q1 ?_); (case q1 => exact rfl)) | (with_reducible refine i_c ?_) | (with_reducible refine i_op ?_) | (with_reducible refine i_un ?_)
  | (with_reducible refine i_rI0 ?_) | (with_reducible refine i_cb ?_) | (with_reducible refine i_cons ?_) | (with_reducible refine i_nil ?_) | (with_reducible refine i_call ?_) | (with_reducible refine i_if ?_) | (with_reducible refine i_ifE ?_) | (with_reducible refine i_test ?_) | (with_reducible refine i_bl ?_)
  | (with_reducible refine i_and ?_) | (with_reducible refine i_or ?_) | (with_reducible refine i_not ?_) | (with_reducible refine i_lstM ?_) | (with_reducible refine i_lstLM ?_) | (with_reducible refine i_tupM ?_) | (with_reducible refine i_next ?_) | (with_reducible refine i_drop ?_) | (with_reducible refine i_sub ?_)
  | (with_reducible refine i_bm ?_) | (with_reducible refine i_sl ?_) | (with_reducible refine i_part ?_) | (with_reducible refine i_nopart ?_) | (with_reducible refine i_exI ?_) | (with_reducible refine i_chain ?_) | ((with_reducible refine' i_aug ?q1 ?_); (case q1 => exact rfl)) | (with_reducible refine i_ip ?_)
  | (with_reducible refine i_par ?_) | (with_reducible refine i_pair ?_) | (with_reducible refine i_andV ?_) | (with_reducible refine i_orV ?_) | (with_reducible refine i_notV ?_) | (with_reducible refine i_m1 ?_) | (with_reducible refine i_str ?_)
  | (with_reducible refine iteF ?_) | (with_reducible refine iteT ?_) | (with_reducible refine iteNT ?_) | (with_reducible refine iteNF ?_) | (with_reducible refine i_tyS ?_) | (with_reducible refine i_tB ?_) | (with_reducible refine i_retN ?_) | (with_reducible refine i_par3 ?_) | (with_reducible refine i_trip ?_) | (with_reducible refine i_gCons ?_) | (with_reducible refine i_gNil ?_) | (with_reducible refine i_lstRg ?_) | (with_reducible refine i_rg1 ?_)
  | (with_reducible refine i_lc ?_) | (with_reducible refine i_for ?_) | (with_reducible refine i_iList ?_) | (with_reducible refine i_iTup ?_) | (with_reducible refine i_iStr ?_) | (with_reducible refine i_iRng1 ?_) | (with_reducible refine i_iEnS ?_)
  | ((with_reducible refine' i_ixTH ?q1 ?q2 ?_); (case q1 => walk_at "hp"); (case q2 => exact rfl))
  | ((with_reducible refine' i_ixLH ?q1 ?q2 ?_); (case q1 => walk_at "hp"); (case q2 => exact rfl))
  | ((with_reducible refine i_addS ?q1 ?_); (case q1 => walk_at "ln")) | ((with_reducible refine i_lenSS ?q1 ?_); (case q1 => walk_at "ln")) | ((with_reducible refine i_slFrom ?q1 ?q2 ?_); (case q1 => walk_at "ln"); (case q2 => walk_at "ln")) | ((with_reducible refine i_slTo ?q1 ?q2 ?_); (case q1 => walk_at "ln"); (case q2 => walk_at "ln"))
  | ((with_reducible refine' i_tyL ?q1 ?_); (case q1 => walk_at "hp"))
  | ((with_reducible refine' i_gTupH ?q1 ?q2 ?_); (case q1 => walk_at "hp"); (case q2 => exact rfl))
  | (with_reducible refine i_dnewM ?_) | (with_reducible refine i_init ?_) | (with_reducible refine i_fst ?_) | (with_reducible refine i_mk ?_) | (with_reducible refine i_raise ?_) | (with_reducible refine i_callS ?_) | (with_reducible refine i_kwS ?_)
  | (with_reducible refine i_revT ?_) | (with_reducible refine i_kw ?_) | ((with_reducible refine' ⟨_, _, rfl, sqT_of ?q1, ?_⟩); (case q1 => walk_at "hp"))
  | (with_reducible refine i_revS ?_) | ((with_reducible refine i_revSS ?q1 ?_); (case q1 => walk_at "ln"))
  | (with_reducible refine i_startS ?_) | (with_reducible refine i_inSg ?_) | (with_reducible refine i_absN ?_) | (with_reducible refine i_min2 ?_) | (with_reducible refine i_max2 ?_) | (with_reducible refine i_min3 ?_) | (with_reducible refine i_intN ?_) | (with_reducible refine i_intNB ?_)
  | ((with_reducible refine' i_lenL ?q1 ?_); (case q1 => walk_at "hp")) | ((with_reducible refine' i_lenT ?q1 ?_); (case q1 => walk_at "hp"))
  | (with_reducible refine i_eqI ?_) | (with_reducible refine i_neI ?_) | (with_reducible refine i_eqS ?_) | (with_reducible refine i_neS ?_) | (with_reducible refine i_isNoI ?_) | (with_reducible refine i_isNoN ?_) | (with_reducible refine i_isNoR ?_)
  | ((with_reducible refine i_pow ?q1 ?q2 ?q3 ?_); (case q1 => decide); (case q2 => decide); (case q3 => (with_reducible omega)))
  | ((with_reducible refine i_rI ?q1 ?_); (case q1 => walk_at "ci"))
  | (with_reducible refine Or.inl ⟨_, rfl, ?_⟩) | (with_reducible refine Or.inr ⟨_, rfl, ?_⟩) | (with_reducible refine ⟨_, rfl, ?_⟩) | (with_reducible refine ⟨_, _, rfl, ?_⟩) | (with_reducible refine ⟨_, _, rfl, rfl, ?_⟩)
  | ((with_reducible refine' ⟨_, _, rfl, Or.inl (sqL_of ?q1), ?_⟩); (case q1 => walk_at "hp")) | ((with_reducible refine' ⟨_, _, rfl, Or.inr (sqT_of ?q1), ?_⟩); (case q1 => walk_at "hp")) | (with_reducible refine i_dget ?_) | (with_reducible refine i_disp1T ?_) | (with_reducible refine i_dcT ?_) | (with_reducible refine i_dnewT ?_) | fail)
local macro_rules | `(tactic| walk_at "rd") => `(tactic| repeat' walk_at "rd1")

abbrev wLine : List Nat := [108, 105, 110, 101]
abbrev wKinds : List Nat := [107, 105, 110, 100, 115]
/-- the first value at fault, its place and word -/
def Fault (d1 d2 d3 : PyData) (i : Int) (w : List Nat) : Prop := (i = 0 ∧ w = wLine ∧ lineB 5 d1 = false) ∨ (i = 1 ∧ w = wLine ∧ lineB 5 d1 = true ∧ lineB 5 d2 = false) ∨ (i = 2 ∧ w = wKinds ∧ lineB 5 d1 = true ∧ lineB 5 d2 = true ∧ kindsB 5 d3 = false)
/-- _law_met(values), one of them at fault -/
def spMet (K : PySem.W.Frag) : Sp := fun vs H Q _ => ∃ (p : Addr) (x y z g : V) (d1 d2 d3 : PyData) (i : Int) (w : List Nat), vs = [.ref p] ∧ H p = some (.lst [x, y, z]) ∧ De K H x d1 ∧ De K H y d2 ∧ De K H z d3 ∧ LenOk d1 ∧ LenOk d2 ∧ KsOk d3 ∧ Fault d1 d2 d3 i w ∧ [x, y, z][i.toNat]? = some g ∧
  ∀ t H', Same H H' → H t = none → sysModules < t → H' t = some (.lst [.str (S w), g]) → Q (.ref t) H'
section
variable {P : Program} {w : World} {K : PySem.W.Frag} {mg : Str → Option Value} {base : Heap} {f : Addr} {fd : FuncData}
theorem ok_met {C D : Addr} (F : Fun K "_law_met" "_law_met" s__law_met f fd) (xl : XQ "InvalidLine" P w K mg base C) (xk : XQ "InvalidKinds" P w K mg base D) (hDC : PySem.W.exmOne K (.ref D) (.ref C) = some false) (x_least_passing : CalX P w K mg base "least_passing" ["one", "other", "kinds"] 6 (spLp K C D)) :
    FnOk P w K mg base CX0 7 f fd ["values"] (spMet K) := by
  refine F.ok sc__law_met (fun vs H Q E h => ?_) (fun cdv A outer s H vs Q E hr h => ?_)
  · obtain ⟨p, x, y, z, g, d1, d2, d3, i, w, rfl, _⟩ := h; rfl
  · obtain ⟨p, x, y, zz, g, d1, d2, d3, i, w, rfl, ep, hx, hy, hz, l1, l2, l3, ft, eg, k⟩ := h
    refine ⟨_, (pss_one (ps_tries (Wo := fun _ _ _ _ => False) rfl rfl sc__law_met.nd takes_none (fun W pn xe tk po => (pss_one (ps_ret (pe_lstL (pa_cons (pe_strS (l := [116, 111, 108, 100]) (by decide +kernel)) (pa_cons (pe_calX x_least_passing hr tk (pa_cons (pe_ix (r := rIxL K) ix_list (pv 0) pe_int (fun _ _ => rfl)) (pa_cons (pe_ix (r := rIxL K) ix_list (pv 0) pe_int (fun _ _ => rfl)) (pa_cons (pe_ix (r := rIxL K) ix_list (pv 0) pe_int (fun _ _ => rfl)) pa_nil)))) pa_nil))))))
      (.cons (i := 1) rfl rfl (names_Q xl) (fun a oe cls d pn hz hf => (pss_one (ps_ret (pe_lstL (pa_cons (pe_strS (l := [108, 105, 110, 101]) (by decide +kernel)) (pa_cons (pe_xf xl.xf xl.no hz hf (pv 1)) pa_nil)))))) (.cons (i := 1) rfl rfl (names_Q xk) (fun a oe cls d pn hz hf => (pss_one (ps_ret (pe_lstL (pa_cons (pe_strS (l := [107, 105, 110, 100, 115]) (by decide +kernel)) (pa_cons (pe_xf xk.xf xk.no hz hf (pv 1)) pa_nil)))))) .nil)))), ?_⟩
    walk_at "rd"
    refine ⟨x, y, zz, d1, d2, d3, rfl, hx, hy, hz, l1, l2, l3, ?_⟩
    rcases ft with ⟨rfl, rfl, e1⟩ | ⟨rfl, rfl, e1, e2⟩ | ⟨rfl, rfl, e1, e2, e3⟩
    · cases eg
      refine .inl ⟨e1, fun dx H1 nx s1 ed => ?_⟩
      refine ⟨true, xl.me, fun _ a na => ?_, fun z => by cases z⟩
      walk_at "rd"
      refine ⟨_, rfl, rfl, rfl, dx, _, _, rfl, ed, rfl, ?_⟩
      walk_at "rd"
      refine newLL0 (Nat.le_of_ble_eq_true rfl) fun t H2 nt lt s2 et => ?_
      exact k t _ (s1.trans s2) (s1.free nt) lt et
    · cases eg
      refine .inr (.inl ⟨e1, e2, fun dx H1 nx s1 ed => ?_⟩)
      refine ⟨true, xl.me, fun _ a na => ?_, fun z => by cases z⟩
      walk_at "rd"
      refine ⟨_, rfl, rfl, rfl, dx, _, _, rfl, ed, rfl, ?_⟩
      walk_at "rd"
      refine newLL0 (Nat.le_of_ble_eq_true rfl) fun t H2 nt lt s2 et => ?_
      exact k t _ (s1.trans s2) (s1.free nt) lt et
    · cases eg
      refine .inr (.inr (.inl ⟨e1, e2, e3, fun dx H1 nx s1 ed => ?_⟩))
      refine ⟨false, hDC, (fun z => by cases z), fun _ => ⟨true, xk.me, fun _ a na => ?_, fun z => by cases z⟩⟩
      walk_at "rd"
      refine ⟨_, rfl, rfl, rfl, dx, _, _, rfl, ed, rfl, ?_⟩
      walk_at "rd"
      refine newLL0 (Nat.le_of_ble_eq_true rfl) fun t H2 nt lt s2 et => ?_
      exact k t _ (s1.trans s2) (s1.free nt) lt et
end
end Sw
namespace Sw
open PySem PySem.Spec PyProof.Rows L2
local macro_rules | `(tactic| walk_at "hp") => `(tactic| first
  | (with_reducible assumption) | (with_reducible exact upd_same)
  | ((with_reducible refine' upd_old ?q1 ?q2); (case q1 => (with_reducible assumption)); (case q2 => walk_at "hp"))
  | ((with_reducible refine' Same.at ?q1 ?q2); (case q1 => (with_reducible assumption)); (case q2 => walk_at "hp"))
  | ((with_reducible refine' upd_skip ?q1 ?q2); (case q1 => walk_at "ne"); (case q2 => walk_at "hp"))
  | fail)
local macro_rules | `(tactic| walk_at "ne") => `(tactic| first
  | (with_reducible assumption) | (with_reducible exact Ne.symm (by assumption))
  | ((with_reducible refine' ne_of_none ?q1 ?q2); (case q2 => (with_reducible assumption)); (case q1 => walk_at "hp"))
  | fail)
local macro_rules | `(tactic| walk_at "ci") => `(tactic| first | assumption | (show (0 : Int) < _; first | decide | (with_reducible omega)) | exact ⟨by decide, by decide⟩ | exact .inl ⟨by decide, by decide⟩ | exact .inr ⟨by decide, by decide⟩)
local macro_rules | `(tactic| walk_at "ln") => `(tactic| first | (with_reducible assumption) | (with_reducible omega) | (simp only [List.length_append, List.length_take, List.length_drop, List.length_reverse, List.length_cons, List.length_nil]; with_reducible omega))
local macro_rules | `(tactic| walk_at "rd1") => `(tactic| first
  | (with_reducible refine i_seq ?_) | (with_reducible refine i_asg ?_) | (with_reducible refine i_ret ?_) | (with_reducible refine i_name ?_) | ((with_reducible refine' i_var ?q1 ?_); (case q1 => exact rfl)) | (with_reducible refine i_c ?_) | (with_reducible refine i_op ?_) | (with_reducible refine i_un ?_)
  | (with_reducible refine i_rI0 ?_) | (with_reducible refine i_cb ?_) | (with_reducible refine i_cons ?_) | (with_reducible refine i_nil ?_) | (with_reducible refine i_call ?_) | (with_reducible refine i_if ?_) | (with_reducible refine i_ifE ?_) | (with_reducible refine i_test ?_) | (with_reducible refine i_bl ?_)
  | (with_reducible refine i_and ?_) | (with_reducible refine i_or ?_) | (with_reducible refine i_not ?_) | (with_reducible refine i_lstM ?_) | (with_reducible refine i_lstLM ?_) | (with_reducible refine i_tupM ?_) | (with_reducible refine i_next ?_) | (with_reducible refine i_drop ?_) | (with_reducible refine i_sub ?_)
  | (with_reducible refine i_bm ?_) | (with_reducible refine i_sl ?_) | (with_reducible refine i_part ?_) | (with_reducible refine i_nopart ?_) | (with_reducible refine i_exI ?_) | (with_reducible refine i_chain ?_) | ((with_reducible refine' i_aug ?q1 ?_); (case q1 => exact rfl)) | (with_reducible refine i_ip ?_)
  | (with_reducible refine i_par ?_) | (with_reducible refine i_pair ?_) | (with_reducible refine i_andV ?_) | (with_reducible refine i_orV ?_) | (with_reducible refine i_notV ?_) | (with_reducible refine i_m1 ?_) | (with_reducible refine i_str ?_)
  | (with_reducible refine iteF ?_) | (with_reducible refine iteT ?_) | (with_reducible refine iteNT ?_) | (with_reducible refine iteNF ?_) | (with_reducible refine i_tyS ?_) | (with_reducible refine i_tB ?_) | (with_reducible refine i_retN ?_) | (with_reducible refine i_par3 ?_) | (with_reducible refine i_trip ?_) | (with_reducible refine i_gCons ?_) | (with_reducible refine i_gNil ?_) | (with_reducible refine i_lstRg ?_) | (with_reducible refine i_rg1 ?_)
  | (with_reducible refine i_lc ?_) | (with_reducible refine i_for ?_) | (with_reducible refine i_iList ?_) | (with_reducible refine i_iTup ?_) | (with_reducible refine i_iStr ?_) | (with_reducible refine i_iRng1 ?_) | (with_reducible refine i_iEnS ?_)
  | ((with_reducible refine' i_ixTH ?q1 ?q2 ?_); (case q1 => walk_at "hp"); (case q2 => exact rfl))
  | ((with_reducible refine' i_ixLH ?q1 ?q2 ?_); (case q1 => walk_at "hp"); (case q2 => exact rfl))
  | ((with_reducible refine i_addS ?q1 ?_); (case q1 => walk_at "ln")) | ((with_reducible refine i_lenSS ?q1 ?_); (case q1 => walk_at "ln")) | ((with_reducible refine i_slFrom ?q1 ?q2 ?_); (case q1 => walk_at "ln"); (case q2 => walk_at "ln")) | ((with_reducible refine i_slTo ?q1 ?q2 ?_); (case q1 => walk_at "ln"); (case q2 => walk_at "ln"))
  | ((with_reducible refine' i_tyL ?q1 ?_); (case q1 => walk_at "hp"))
  | ((with_reducible refine' i_gTupH ?q1 ?q2 ?_); (case q1 => walk_at "hp"); (case q2 => exact rfl))
  | (with_reducible refine i_dnewM ?_) | (with_reducible refine i_init ?_) | (with_reducible refine i_fst ?_) | (with_reducible refine i_mk ?_) | (with_reducible refine i_raise ?_) | (with_reducible refine i_callS ?_) | (with_reducible refine i_kwS ?_)
  | (with_reducible refine i_revT ?_) | (with_reducible refine i_kw ?_) | ((with_reducible refine' ⟨_, _, rfl, sqT_of ?q1, ?_⟩); (case q1 => walk_at "hp"))
  | (with_reducible refine i_revS ?_) | ((with_reducible refine i_revSS ?q1 ?_); (case q1 => walk_at "ln"))
  | (with_reducible refine i_startS ?_) | (with_reducible refine i_inSg ?_) | (with_reducible refine i_absN ?_) | (with_reducible refine i_min2 ?_) | (with_reducible refine i_max2 ?_) | (with_reducible refine i_min3 ?_) | (with_reducible refine i_intN ?_) | (with_reducible refine i_intNB ?_)
  | ((with_reducible refine' i_lenL ?q1 ?_); (case q1 => walk_at "hp")) | ((with_reducible refine' i_lenT ?q1 ?_); (case q1 => walk_at "hp"))
  | (with_reducible refine i_eqI ?_) | (with_reducible refine i_neI ?_) | (with_reducible refine i_eqS ?_) | (with_reducible refine i_neS ?_) | (with_reducible refine i_isNoI ?_) | (with_reducible refine i_isNoN ?_) | (with_reducible refine i_isNoR ?_)
  | ((with_reducible refine i_pow ?q1 ?q2 ?q3 ?_); (case q1 => decide); (case q2 => decide); (case q3 => (with_reducible omega)))
  | ((with_reducible refine i_rI ?q1 ?_); (case q1 => walk_at "ci"))
  | (with_reducible refine Or.inl ⟨_, rfl, ?_⟩) | (with_reducible refine Or.inr ⟨_, rfl, ?_⟩) | (with_reducible refine ⟨_, rfl, ?_⟩) | (with_reducible refine ⟨_, _, rfl, ?_⟩) | (with_reducible refine ⟨_, _, rfl, rfl, ?_⟩)
  | ((with_reducible refine' ⟨_, _, rfl, Or.inl (sqL_of ?q1), ?_⟩); (case q1 => walk_at "hp")) | ((with_reducible refine' ⟨_, _, rfl, Or.inr (sqT_of ?q1), ?_⟩); (case q1 => walk_at "hp")) | (with_reducible refine i_dget ?_) | (with_reducible refine i_disp1T ?_) | (with_reducible refine i_dcT ?_) | (with_reducible refine i_dnewT ?_) | fail)
local macro_rules | `(tactic| walk_at "rd") => `(tactic| repeat' walk_at "rd1")

theorem call_listLB {X : Cx} {K : PySem.W.Frag} (e : X.K = K) : CallR X (.type "list") (rListL K) := by
  subst e
  exact call_listL
theorem pass_len {n : Nat} : ∀ {w : Nat} {ds : List PyData}, SdAll n w ds → ds.length ≤ w
  | _, [], _ => Nat.zero_le _
  | _, d :: ds, h => by
    obtain ⟨a, b, hab, h1, h2⟩ := h.inv
    have := pass_len h2
    rw [List.length_cons]
    omega
/-- a value that may be copied: a list, or none -/
def Rf (K : PySem.W.Frag) (H : Hp) (v : V) (d : PyData) : Prop := (tyB "list" d = false ∧ De K H v d) ∨ ∃ a xs ds, v = .ref a ∧ H a = some (.lst xs) ∧ DeAll K H xs ds ∧ d = .list ds
theorem Rf.same {K : PySem.W.Frag} {H H' : Hp} {v : V} {d : PyData} (h : Rf K H v d) (s : Same H H') : Rf K H' v d := by
  rcases h with ⟨h1, h2⟩ | ⟨a, xs, ds, e, h1, h2, h3⟩
  · exact .inl ⟨h1, h2.same s⟩
  · exact .inr ⟨a, xs, ds, e, s _ _ h1, h2.same s, h3⟩
/-- what stands in its place while the copies are gathered at p -/
def Cp (K : PySem.W.Frag) (H0 : Hp) (p : Addr) (H : Hp) (w : V) (d : PyData) : Prop := (tyB "list" d = false ∧ De K H0 w d) ∨ ∃ a xs ds, w = .ref a ∧ H a = some (.lst xs) ∧ sysModules < a ∧ DeAll K H0 xs ds ∧ d = .list ds ∧ H0 a = none ∧ a ≠ p
theorem Cp.de {K : PySem.W.Frag} {H0 H : Hp} {p : Addr} {w : V} {d : PyData} (h : Cp K H0 p H w d) (s : Same H0 H) : De K H w d := by
  rcases h with ⟨_, h⟩ | ⟨a, xs, ds, rfl, h1, lt, h2, rfl, _⟩
  · exact h.same s
  · exact .lst h1 lt (h2.same s)
theorem Cp.same {K : PySem.W.Frag} {H0 H H' : Hp} {p : Addr} {w : V} {d : PyData} (h : Cp K H0 p H w d) (s : Same H H') : Cp K H0 p H' w d := by
  rcases h with h | ⟨a, xs, ds, e, h1, h2⟩
  · exact .inl h
  · exact .inr ⟨a, xs, ds, e, s _ _ h1, h2⟩
theorem Cp.upd {K : PySem.W.Frag} {H0 H : Hp} {p : Addr} {w : V} {d : PyData} {o : HO} (h : Cp K H0 p H w d) : Cp K H0 p (L2.upd H p o) w d := by
  rcases h with h | ⟨a, xs, ds, e, h1, lt, h2, h3, h4, h5⟩
  · exact .inl h
  · exact .inr ⟨a, xs, ds, e, by rw [L2.upd_ne h5]; exact h1, lt, h2, h3, h4, h5⟩
theorem three_at {α : Type} {P : V → α → Prop} {x y z v : V} {a b c : α} {i : Nat} (h1 : P x a) (h2 : P y b) (h3 : P z c) (e : [x, y, z][i]? = some v) : ∃ d, [a, b, c][i]? = some d ∧ P v d := by
  rcases i with _ | _ | _ | i
  · cases e; exact ⟨a, rfl, h1⟩
  · cases e; exact ⟨b, rfl, h2⟩
  · cases e; exact ⟨c, rfl, h3⟩
  · simp at e
theorem i_eqWW {K : PySem.W.Frag} {H : Hp} {w : List Nat} {Q : VK} (hw : (∀ c ∈ w, c ≤ 1000) ∧ w.length ≤ 10) (q : Q (.bl true) H) : rEqX K (.str (S w)) (.str (S w)) H Q := by
  refine i_eqS1 (d := .str (S w)) (.str _) (sd_str hw.1) (.inr (by simp only [PyData.hasDict])) hw.1 ?_
  rw [show isS w (.str (S w)) = true from decide_eq_true rfl]
  exact q
/-- _law_refused(values, place, word) -/
def spRef (K : PySem.W.Frag) : Sp := fun vs H Q _ => ∃ (p : Addr) (x y z : V) (d1 d2 d3 : PyData) (i : Int) (w : List Nat), vs = [.ref p, .int i, .str (S w)] ∧ H p = some (.lst [x, y, z]) ∧ Rf K H x d1 ∧ Rf K H y d2 ∧ Rf K H z d3 ∧ LenOk d1 ∧ LenOk d2 ∧ KsOk d3 ∧ Sd 6 20000 d1 ∧ Sd 6 20000 d2 ∧ Sd 6 20000 d3 ∧ Fault d1 d2 d3 i w ∧
  ∀ H', Same H H' → Q (.bl true) H'
section
variable {P : Program} {w : World} {K : PySem.W.Frag} {mg : Str → Option Value} {base : Heap} {f : Addr} {fd : FuncData}
theorem ok_ref (F : Fun K "_law_refused" "_law_refused" s__law_refused f fd) (z : Z mg) (c__law_met : Cal P w K mg base "_law_met" ["values"] 7 (spMet K)) : FnG P w K mg base CX0 8 f fd ["values", "place", "word"] (spRef K) := by
  refine Sw.Fun.okG0 F sc__law_refused (fun vs H Q E h => ?_) (fun cdv A outer s H vs Q E hr quiet h => ?_)
  · obtain ⟨p, x, y, z, d1, d2, d3, i, w, rfl, _⟩ := h; rfl
  · obtain ⟨p, x, y, zz, d1, d2, d3, i, w, rfl, ep, hx, hy, hz, l1, l2, l3, sd1, sd2, sd3, ft, k⟩ := h
    refine ⟨_, (pss_cons (ps_setLc (i := 3) (own := [("value", 4)]) (g := gName 4) (tt := tYes) rfl sc__law_refused.nd rfl rfl (sw_true rfl rfl rfl (by decide +kernel)) (pi_list (pv 0)) (blkOk_by (own := [("value", 4)]) (N := n__law_refused) (sc := defScope s__law_refused) (by decide +kernel)) (fun _ _ _ _ _ => (pg_name (i := 4) sc__law_refused.nd rfl (.inl rfl))) (fun _ _ _ _ _ => pts_nil) (fun _ _ _ _ _ => (pe_ifExp (pt_val (pe_callB (call_isiB (K := K) rfl) (by rfl) z.isinstance (by decide +kernel) (pa_cons (pv 4) (pa_cons (pe_bltn (v := .ty "list") (by rfl) z.list (by decide +kernel) rfl) pa_nil)))) (pe_callTy (call_listLB (K := K) rfl) (by rfl) z.list (by decide +kernel) (pa_cons (pv 4) pa_nil)) (pv 4))))
      (pss_cons (ps_set (i := 5) sc__law_refused.nd rfl (.inl rfl) (pe_cal c__law_met hr (pa_cons (pv 3) pa_nil)))
      (pss_cons (ps_if (pt_val (pe_callB call_isi (by rfl) z.isinstance (by decide +kernel) (pa_cons (pe_ix ix_list (pv 3) (pv 1) (fun _ _ => rfl)) (pa_cons (pe_bltn (v := .ty "list") (by rfl) z.list (by decide +kernel) rfl) pa_nil))))
        (pss_one (ps_expr (pe_bm PySem.F.plainAttrs_list PySem.F.slot_list_append PySem.F.type_list_append mt_append (pe_ix ix_list (pv 3) (pv 1) (fun _ _ => rfl)) (pa_cons pe_int pa_nil))))
        pss_nil)
      (pss_one (ps_ret (pe_and (pe_cmpR (op_eqX hr.units) (pe_ix ix_list (pv 5) pe_int (fun _ _ => rfl)) (pv 2) (nomark _)) (pe_one (pe_cmpR op_eq (pe_callB (call_repE quiet hr.units) (by rfl) z.repr (by decide +kernel) (pa_cons (pe_ix ix_list (pv 5) pe_int (fun _ _ => rfl)) pa_nil)) (pe_callB (call_repE quiet hr.units) (by rfl) z.repr (by decide +kernel) (pa_cons (pe_ix ix_list (pv 3) (pv 1) (fun _ _ => rfl)) pa_nil)) (nomark _))))))))), ?_⟩
    walk_at "rd"
    refine ⟨⟨_, sqL_of ep⟩, ?_⟩
    refine go_lc (walk_list (xs := [x, y, zz])) (fun p i Hx => ∃ ws, Hx p = some (.lst ws) ∧ Paired (Cp K H p Hx) ws ([d1, d2, d3].take i) ∧ Same H Hx) (fun p np => ⟨[], upd_same, .nil, same_upd np⟩) (fun p i Hx hi q => sqL_of (q.choose_spec.2.2 _ _ ep)) (fun p' np i v Hx Hy hi q y => ?_) (fun gp H1 ngp q => ?_)
    · obtain ⟨ws, ew, pr, sx⟩ := q
      obtain ⟨rfl, hv⟩ := y
      have hi' : i < 3 := hi
      have lw : ws.length ≤ 3 := by have := Paired.length pr; rw [List.length_take] at this; have h3 : [d1, d2, d3].length = 3 := rfl; omega
      obtain ⟨d, gd, rf⟩ := three_at (P := fun v d => Rf K H v d) hx hy hz hv
      rw [List.take_add_one, gd]
      walk_at "rd"
      refine ⟨rfl, i_yes (iteT ?_)⟩
      walk_at "rd"
      rcases rf with ⟨nl, de⟩ | ⟨a, xs, ds, rfl, ea, hds, rfl⟩
      · refine (de.same sx).isi (n := "list") (.inr (.inr (.inr (.inl rfl)))) ?_
        rw [nl]
        walk_at "rd"
        exact ⟨ws, ew, sm100 (by omega), _, upd_same, Paired.snoc (Paired.mapP pr fun _ _ zz => zz.upd) (.inl ⟨nl, de⟩), Same.set_new sx np⟩
      · have ea := sx _ _ ea
        refine i_isi true (.base (.lst ea)) (kit_ty (by decide +kernel)) ?_
        walk_at "rd"
        refine i_listL (.inl (sqL_of ea)) fun c nc lc => ?_
        have s2 := same_upd (o := .lst xs) nc
        have ec := upd_same (H := Hy) (a := c) (o := .lst xs)
        generalize upd Hy c (.lst xs) = H2 at *
        have nec : c ≠ p' := fun q => by rw [q, ew] at nc; cases nc
        exact ⟨ws, s2 _ _ ew, sm100 (by omega), _, upd_same, Paired.snoc (Paired.mapP pr fun _ _ zz => (zz.same s2).upd) (.inr ⟨c, xs, ds, rfl, by rw [L2.upd_ne nec]; exact ec, lc, hds, rfl, sx.free nc, nec⟩), Same.set_new (sx.trans s2) np⟩
    obtain ⟨ws, ew, pr, s1⟩ := q
    obtain ⟨w1, w2, w3, rfl, c1, c2, c3⟩ : ∃ w1 w2 w3, ws = [w1, w2, w3] ∧ Cp K H gp H1 w1 d1 ∧ Cp K H gp H1 w2 d2 ∧ Cp K H gp H1 w3 d3 := by
      have pr : Paired (Cp K H gp H1) ws [d1, d2, d3] := pr
      cases pr with
      | cons h1 pr => cases pr with
        | cons h2 pr => cases pr with
          | cons h3 pr => cases pr; exact ⟨_, _, _, rfl, h1, h2, h3⟩
    have hi : 0 ≤ i ∧ i.toNat < 3 := by rcases ft with ⟨rfl, _⟩ | ⟨rfl, _⟩ | ⟨rfl, _⟩ <;> decide
    have hw : (∀ c ∈ w, c ≤ 1000) ∧ w.length ≤ 10 := by rcases ft with ⟨_, rfl, _⟩ | ⟨_, rfl, _⟩ | ⟨_, rfl, _⟩ <;> decide
    obtain ⟨g, eg⟩ : ∃ g, [w1, w2, w3][i.toNat]? = some g := ⟨_, List.getElem?_eq_getElem hi.2⟩
    obtain ⟨dg, _, cg, sdg⟩ := three_at (P := fun v d => Cp K H gp H1 v d ∧ Sd 6 20000 d) ⟨c1, sd1⟩ ⟨c2, sd2⟩ ⟨c3, sd3⟩ eg
    walk_at "rd"
    refine ⟨gp, w1, w2, w3, g, d1, d2, d3, i, w, rfl, ew, c1.de s1, c2.de s1, c3.de s1, l1, l2, l3, ft, eg, fun t H2 s2 nt lt et => ?_⟩
    have ew2 := s2 _ _ ew
    have s12 := s1.trans s2
    have cg2 := cg.same s2
    walk_at "rd"
    refine i_ixLv ew2 hi.1 eg ?_
    walk_at "rd"
    rcases cg2 with ⟨nl, de⟩ | ⟨a, xs, ds, rfl, ea, la, hds, rfl, na, nag⟩
    · have de2 := de.same s12
      refine de2.isi (n := "list") (.inr (.inr (.inr (.inl rfl)))) ?_
      rw [nl]
      walk_at "rd"
      refine i_eqWW hw ?_
      walk_at "rd"
      refine i_repE de2 sdg (by omega) (by omega) ?_
      walk_at "rd"
      refine i_ixLv ew2 hi.1 eg ?_
      walk_at "rd"
      refine i_repE de2 sdg (by omega) (by omega) ?_
      refine ⟨rfl, ?_⟩
      rw [decide_eq_true rfl]
      exact k _ s12
    · refine i_isi true (.base (.lst ea)) (kit_ty (by decide +kernel)) ?_
      walk_at "rd"
      refine i_ixLv ew2 hi.1 eg ?_
      walk_at "rd"
      have lds : xs.length ≤ 20000 := by
        rw [hds.len]
        exact pass_len sdg.lstI'
      refine i_append ea (Nat.lt_of_le_of_lt lds (Nat.lt_of_lt_of_le (by decide : 20000 < 100000) (Nat.le_of_ble_eq_true rfl))) ?_
      have nta : t ≠ a := fun q => by
        rcases cg with ⟨nl, _⟩ | ⟨a', xs', ds', e, ea', _⟩
        · cases nl
        · cases e; rw [← q, nt] at ea'; cases ea'
      have et3 := upd_skip (o := .lst (xs ++ [.int 0])) nta et
      have ew3 := upd_skip (o := .lst (xs ++ [.int 0])) (Ne.symm nag) ew2
      have ea3 := upd_same (H := H2) (a := a) (o := .lst (xs ++ [.int 0]))
      have s3 : Same H (upd H2 a (.lst (xs ++ [.int 0]))) := Same.set_new s12 na
      generalize upd H2 a (.lst (xs ++ [.int 0])) = H3 at *
      have de3 : De K H3 (.ref a) (.list (ds ++ [.int 0])) := .lst ea3 la ((hds.same s3).app (.cons (.int 0) .nil))
      have sd3' : Sd 7 30000 (.list (ds ++ [.int 0])) := (sd_lst' (sdg.lstI'.app (.cons ((sd_int (i := 0) (by decide)).mono (by omega) (Nat.le_refl _)) .nil))).mono (by omega) (by omega)
      walk_at "rd"
      refine i_eqWW hw ?_
      walk_at "rd"
      refine i_repE de3 sd3' (by omega) (by omega) ?_
      walk_at "rd"
      refine i_ixLv ew3 hi.1 eg ?_
      walk_at "rd"
      refine i_repE de3 sd3' (by omega) (by omega) ?_
      refine ⟨rfl, ?_⟩
      rw [decide_eq_true rfl]
      exact k _ s3
end
end Sw
namespace Sw
open PySem PySem.Spec PyProof.Rows L2
local macro_rules | `(tactic| walk_at "hp") => `(tactic| first
  | (with_reducible assumption) | (with_reducible exact upd_same)
  | ((with_reducible refine' upd_old ?q1 ?q2); (case q1 => (with_reducible assumption)); (case q2 => walk_at "hp"))
  | ((with_reducible refine' Same.at ?q1 ?q2); (case q1 => (with_reducible assumption)); (case q2 => walk_at "hp"))
  | ((with_reducible refine' upd_skip ?q1 ?q2); (case q1 => walk_at "ne"); (case q2 => walk_at "hp"))
  | fail)
local macro_rules | `(tactic| walk_at "ne") => `(tactic| first
  | (with_reducible assumption) | (with_reducible exact Ne.symm (by assumption))
  | ((with_reducible refine' ne_of_none ?q1 ?q2); (case q2 => (with_reducible assumption)); (case q1 => walk_at "hp"))
  | fail)
local macro_rules | `(tactic| walk_at "ci") => `(tactic| first | assumption | (show (0 : Int) < _; first | decide | (with_reducible omega)) | exact ⟨by decide, by decide⟩ | exact .inl ⟨by decide, by decide⟩ | exact .inr ⟨by decide, by decide⟩)
local macro_rules | `(tactic| walk_at "ln") => `(tactic| first | (with_reducible assumption) | (with_reducible omega) | (simp only [List.length_append, List.length_take, List.length_drop, List.length_reverse, List.length_cons, List.length_nil]; with_reducible omega))
local macro_rules | `(tactic| walk_at "rd1") => `(tactic| first
  | (with_reducible refine i_seq ?_) | (with_reducible refine i_asg ?_) | (with_reducible refine i_ret ?_) | (with_reducible refine i_name ?_) | ((with_reducible refine' i_var ?q1 ?_); (case q1 => exact rfl)) | (with_reducible refine i_c ?_) | (with_reducible refine i_op ?_) | (with_reducible refine i_un ?_)
  | (with_reducible refine i_rI0 ?_) | (with_reducible refine i_cb ?_) | (with_reducible refine i_cons ?_) | (with_reducible refine i_nil ?_) | (with_reducible refine i_call ?_) | (with_reducible refine i_if ?_) | (with_reducible refine i_ifE ?_) | (with_reducible refine i_test ?_) | (with_reducible refine i_bl ?_)
  | (with_reducible refine i_and ?_) | (with_reducible refine i_or ?_) | (with_reducible refine i_not ?_) | (with_reducible refine i_lstM ?_) | (with_reducible refine i_lstLM ?_) | (with_reducible refine i_tupM ?_) | (with_reducible refine i_next ?_) | (with_reducible refine i_drop ?_) | (with_reducible refine i_sub ?_)
  | (with_reducible refine i_bm ?_) | (with_reducible refine i_sl ?_) | (with_reducible refine i_part ?_) | (with_reducible refine i_nopart ?_) | (with_reducible refine i_exI ?_) | (with_reducible refine i_chain ?_) | ((with_reducible refine' i_aug ?q1 ?_); (case q1 => exact rfl)) | (with_reducible refine i_ip ?_)
  | (with_reducible refine i_par ?_) | (with_reducible refine i_pair ?_) | (with_reducible refine i_andV ?_) | (with_reducible refine i_orV ?_) | (with_reducible refine i_notV ?_) | (with_reducible refine i_m1 ?_) | (with_reducible refine i_str ?_)
  | (with_reducible refine iteF ?_) | (with_reducible refine iteT ?_) | (with_reducible refine iteNT ?_) | (with_reducible refine iteNF ?_) | (with_reducible refine i_tyS ?_) | (with_reducible refine i_tB ?_) | (with_reducible refine i_retN ?_) | (with_reducible refine i_par3 ?_) | (with_reducible refine i_trip ?_) | (with_reducible refine i_gCons ?_) | (with_reducible refine i_gNil ?_) | (with_reducible refine i_lstRg ?_) | (with_reducible refine i_rg1 ?_)
  | (with_reducible refine i_lc ?_) | (with_reducible refine i_for ?_) | (with_reducible refine i_iList ?_) | (with_reducible refine i_iTup ?_) | (with_reducible refine i_iStr ?_) | (with_reducible refine i_iRng1 ?_) | (with_reducible refine i_iEnS ?_)
  | ((with_reducible refine' i_ixTH ?q1 ?q2 ?_); (case q1 => walk_at "hp"); (case q2 => exact rfl))
  | ((with_reducible refine' i_ixLH ?q1 ?q2 ?_); (case q1 => walk_at "hp"); (case q2 => exact rfl))
  | ((with_reducible refine i_addS ?q1 ?_); (case q1 => walk_at "ln")) | ((with_reducible refine i_lenSS ?q1 ?_); (case q1 => walk_at "ln")) | ((with_reducible refine i_slFrom ?q1 ?q2 ?_); (case q1 => walk_at "ln"); (case q2 => walk_at "ln")) | ((with_reducible refine i_slTo ?q1 ?q2 ?_); (case q1 => walk_at "ln"); (case q2 => walk_at "ln"))
  | ((with_reducible refine' i_tyL ?q1 ?_); (case q1 => walk_at "hp"))
  | ((with_reducible refine' i_gTupH ?q1 ?q2 ?_); (case q1 => walk_at "hp"); (case q2 => exact rfl))
  | (with_reducible refine i_dnewM ?_) | (with_reducible refine i_init ?_) | (with_reducible refine i_fst ?_) | (with_reducible refine i_mk ?_) | (with_reducible refine i_raise ?_) | (with_reducible refine i_callS ?_) | (with_reducible refine i_kwS ?_)
  | (with_reducible refine i_revT ?_) | (with_reducible refine i_kw ?_) | ((with_reducible refine' ⟨_, _, rfl, sqT_of ?q1, ?_⟩); (case q1 => walk_at "hp"))
  | (with_reducible refine i_revS ?_) | ((with_reducible refine i_revSS ?q1 ?_); (case q1 => walk_at "ln"))
  | (with_reducible refine i_startS ?_) | (with_reducible refine i_inSg ?_) | (with_reducible refine i_absN ?_) | (with_reducible refine i_min2 ?_) | (with_reducible refine i_max2 ?_) | (with_reducible refine i_min3 ?_) | (with_reducible refine i_intN ?_) | (with_reducible refine i_intNB ?_)
  | ((with_reducible refine' i_lenL ?q1 ?_); (case q1 => walk_at "hp")) | ((with_reducible refine' i_lenT ?q1 ?_); (case q1 => walk_at "hp"))
  | (with_reducible refine i_eqI ?_) | (with_reducible refine i_neI ?_) | (with_reducible refine i_eqS ?_) | (with_reducible refine i_neS ?_) | (with_reducible refine i_isNoI ?_) | (with_reducible refine i_isNoN ?_) | (with_reducible refine i_isNoR ?_)
  | ((with_reducible refine i_pow ?q1 ?q2 ?q3 ?_); (case q1 => decide); (case q2 => decide); (case q3 => (with_reducible omega)))
  | ((with_reducible refine i_rI ?q1 ?_); (case q1 => walk_at "ci"))
  | (with_reducible refine Or.inl ⟨_, rfl, ?_⟩) | (with_reducible refine Or.inr ⟨_, rfl, ?_⟩) | (with_reducible refine ⟨_, rfl, ?_⟩) | (with_reducible refine ⟨_, _, rfl, ?_⟩) | (with_reducible refine ⟨_, _, rfl, rfl, ?_⟩)
  | ((with_reducible refine' ⟨_, _, rfl, Or.inl (sqL_of ?q1), ?_⟩); (case q1 => walk_at "hp")) | ((with_reducible refine' ⟨_, _, rfl, Or.inr (sqT_of ?q1), ?_⟩); (case q1 => walk_at "hp")) | (with_reducible refine i_dget ?_) | (with_reducible refine i_disp1T ?_) | (with_reducible refine i_dcT ?_) | (with_reducible refine i_dnewT ?_) | fail)
local macro_rules | `(tactic| walk_at "rd") => `(tactic| repeat' walk_at "rd1")

/-- a value that is no line -/
def BadL (K : PySem.W.Frag) (G : Hp) (v : V) : Prop := ∃ d, Rf K G v d ∧ LenOk d ∧ Sd 6 20000 d ∧ lineB 5 d = false
theorem BadL.same {K : PySem.W.Frag} {G G' : Hp} {v : V} (h : BadL K G v) (s : Same G G') : BadL K G' v := by
  obtain ⟨d, h1, h2⟩ := h; exact ⟨d, h1.same s, h2⟩
theorem lenOk_small {d : PyData} (h : ∀ ds, (d = .list ds ∨ d = .tuple ds) → ds.length ≤ 1000) : LenOk d := fun ds e => by have := h ds e; omega
theorem lenOk_not {d : PyData} (h1 : tyB "list" d = false) (h2 : tyB "tuple" d = false) : LenOk d := fun ds e => by
  rcases e with rfl | rfl
  · cases h1
  · cases h2
theorem BadL.flat {K : PySem.W.Frag} {G : Hp} {v : V} {d : PyData} (h : De K G v d) (s : Sd 6 20000 d) (h1 : tyB "list" d = false) (h2 : tyB "tuple" d = false) : BadL K G v :=
  ⟨d, .inl ⟨h1, h⟩, lenOk_not h1 h2, s, by cases d <;> first | rfl | cases h2⟩
theorem BadL.lst {K : PySem.W.Frag} {G : Hp} {a : Addr} {xs : List V} {ds : List PyData} (e : G a = some (.lst xs)) (h : DeAll K G xs ds) (s : Sd 6 20000 (.list ds)) (l : ds.length ≤ 1000) : BadL K G (.ref a) :=
  ⟨.list ds, .inr ⟨a, xs, ds, rfl, e, h, rfl⟩, lenOk_small (by rintro _ (e | e) <;> cases e; exact l), s, rfl⟩
theorem BadL.tup {K : PySem.W.Frag} {G : Hp} {a : Addr} {xs : List V} {ds : List PyData} (e : SqT K G a xs) (h : DeAll K G xs ds) (s : Sd 6 20000 (.tuple ds)) (l : ds.length ≤ 1000) (no : ds.all (isX 5) = false) : BadL K G (.ref a) :=
  ⟨.tuple ds, .inl ⟨rfl, .tup e h⟩, lenOk_small (by rintro _ (e | e) <;> cases e; exact l), s, no⟩
theorem BadL.del {K : PySem.W.Frag} {H : Hp} {b : Addr} {d : Int} {v : V} (B : BoxAt H b d) (h : BadL K H v) (nv : v ≠ .ref b) : True := trivial
/-- _law_no_line(box, line) -/
def spNoL (K : PySem.W.Frag) : Sp := fun vs H Q _ => ∃ (b : Addr) (v : V) (l : List Nat) (d : Int), vs = [.ref b, v] ∧ LnAt K (L2.del H b) v l ∧ l.length ≤ 57 ∧ (∀ x ∈ l, x < 5) ∧ BoxAt H b d ∧ d + 10 ≤ 1000000 ∧
  ∀ r H', BadL K (L2.del H' b) r → BoxAt H' b (d + 10) → SB b H H' → Q r H'
section
variable {P : Program} {w : World} {K : PySem.W.Frag} {mg : Str → Option Value} {base : Heap} {f : Addr} {fd : FuncData}
theorem ok_noL (F : Fun K "_law_no_line" "_law_no_line" s__law_no_line f fd) (z : Z mg) (c__law_take : Cal P w K mg base "_law_take" ["box", "many"] 1 spTake) : FnOk P w K mg base CX0 2 f fd ["box", "line"] (spNoL K) := by
  refine F.ok sc__law_no_line (fun vs H Q E h => ?_) (fun cdv A outer s H vs Q E hr h => ?_)
  · obtain ⟨b, v, l, d, rfl, _⟩ := h; rfl
  · obtain ⟨b, v, l, d, rfl, ⟨lp, rfl, hl⟩, ll, l5, B, hd, k⟩ := h
    refine ⟨_, (pss_cons (ps_par (i := 2) (j := 3) rfl sc__law_no_line.nd rfl rfl (by decide) rfl rfl (pa_cons (pe_cal c__law_take hr (pa_cons (pv 0) (pa_cons (pe_op op_add (pe_callB call_lenQ (by rfl) z.len PySem.boot_len (pa_cons (pv 1) pa_nil)) pe_int) pa_nil))) (pa_cons (pe_ix ix_list (pe_lstL (pa_cons pe_int (pa_cons (pe_op op_sub pe_int pe_int) (pa_cons pe_bl (pa_cons pe_non (pa_cons (pe_strS (l := [48]) (by decide +kernel)) (pa_cons (pe_tup (pa_cons pe_int pa_nil)) (pa_cons pe_bl (pa_cons (pe_op op_pow pe_int pe_int) pa_nil))))))))) (pe_cal c__law_take hr (pa_cons (pv 0) (pa_cons pe_int pa_nil))) (fun _ _ => rfl)) pa_nil)) (by rfl))
      (pss_cons (ps_set (i := 4) sc__law_no_line.nd rfl (.inl rfl) (pe_op op_catA (pe_op op_catA (pe_slice sl_tupA (pv 1) po_none (po_some (pv 2))) (pe_tup (pa_cons (pv 3) pa_nil))) (pe_slice sl_tupA (pv 1) (po_some (pv 2)) po_none)))
      (pss_one (ps_ret (pe_ix ix_list (pe_lstL (pa_cons (pv 4) (pa_cons (pe_callTy call_listL (by rfl) z.list (by decide +kernel) (pa_cons (pv 1) pa_nil)) (pa_cons (pv 4) (pa_cons pe_non (pa_cons (pe_strS (l := []) (by decide +kernel)) (pa_cons pe_dnewK (pa_cons pe_int (pa_cons (pe_lstL (pa_cons pe_int pa_nil)) (pa_cons (pv 4) (pa_cons (pe_tup (pa_cons (pe_tup (pa_cons (pe_strS (l := [115, 97, 109, 101]) (by decide +kernel)) (pa_cons pe_int pa_nil))) pa_nil)) pa_nil))))))))))) (pe_cal c__law_take hr (pa_cons (pv 0) (pa_cons pe_int pa_nil))) (fun _ _ => rfl)))))), ?_⟩
    walk_at "rd"
    refine i_lenSqT (Same.sqT del_sub hl) ?_
    walk_at "rd"
    rw [List.length_map]
    refine ⟨b, _, d, rfl, B, by omega, by omega, by omega, fun at' H1 a0 a1 B1 s1 => ?_⟩
    obtain ⟨n, rfl⟩ : ∃ n : Nat, at' = n := ⟨at'.toNat, by omega⟩
    have hl1 := Same.sqT (del_sb s1) hl
    walk_at "rd"
    refine newT B1 (Nat.le_of_ble_eq_true rfl) fun p2 H2 B2 s2 e2 t2 => ?_
    walk_at "rd"
    refine newLL B2 (Nat.le_of_ble_eq_true rfl) fun p3 H3 _ n3 B3 s3 e3 t3 => ?_
    have e23 := s3 _ _ e2
    walk_at "rd"
    refine ⟨b, 8, _, rfl, B3, by omega, by omega, by omega, fun r H4 r0 r1 B4 s4 => ?_⟩
    have e34 := s4 _ _ (box_ne B2 n3) (del_sub _ _ e3)
    have e24 := (del_sb s4) _ _ e23
    have hl4 := Same.sqT (del_sb s4) (Same.sqT s3 (Same.sqT s2 hl1))
    obtain ⟨sg, dg, eg, hg, sdg, nog⟩ : ∃ sg dg, ([.int 5, .int (0 - 1), .bl true, .non, .str (S [48]), .ref p2, .bl false, .int (10 ^ 18)] : List V)[r.toNat]? = some sg ∧ De K (L2.del H4 b) sg dg ∧ Sd 1 200 dg ∧ isX 5 dg = false := by
      have hr : r = 0 ∨ r = 1 ∨ r = 2 ∨ r = 3 ∨ r = 4 ∨ r = 5 ∨ r = 6 ∨ r = 7 := by omega
      rcases hr with rfl | rfl | rfl | rfl | rfl | rfl | rfl | rfl
      · exact ⟨_, _, rfl, .int _, (sd_int (by decide)).mono (by omega) (by omega), rfl⟩
      · exact ⟨_, _, rfl, .int _, (sd_int (by decide)).mono (by omega) (by omega), rfl⟩
      · exact ⟨_, _, rfl, .bl _, (sd_bl _).mono (by omega) (by omega), rfl⟩
      · exact ⟨_, _, rfl, .non, sd_non.mono (by omega) (by omega), rfl⟩
      · exact ⟨_, _, rfl, .str _, (sd_str (by decide)).mono (by omega) (by decide), rfl⟩
      · exact ⟨_, .tuple [.int 0], rfl, .tup (sqT_of e24) (.cons (.int _) .nil), (sd_tup' (.cons (sd_int (by decide)) .nil)).mono (by omega) (by omega), rfl⟩
      · exact ⟨_, _, rfl, .bl _, (sd_bl _).mono (by omega) (by omega), rfl⟩
      · exact ⟨_, _, rfl, .int _, (sd_int (by decide)).mono (by omega) (by omega), rfl⟩
    refine i_ixLv e34 r0 eg ?_
    have s04 := s1.trans ((SB.of (t2.trans t3)).trans s4)
    have hlA := Same.sqT (del_sub (H := H4) (b := b)) hl4
    have hgA := hg.same del_sub
    walk_at "rd"
    refine i_slTT (k := n) hlA fun p5 H5 s5 e5 => ?_
    walk_at "rd"
    refine newT0 (Nat.le_of_ble_eq_true rfl) fun p6 H6 n6 s6 e6 => ?_
    walk_at "rd"
    refine i_catT (Same.sqT s6 e5) (sqT_of e6) (Nat.le_of_lt (sm100 (by rw [List.length_take, List.length_map]; simp; omega))) fun p7 H7 s7 e7 => ?_
    walk_at "rd"
    refine i_slTF (k := n) (Same.sqT (s5.trans (s6.trans s7)) hlA) fun p8 H8 s8 e8 => ?_
    walk_at "rd"
    refine i_catT (Same.sqT s8 e7) e8 (Nat.le_of_lt (sm100 (by rw [List.length_append, List.length_take, List.length_drop, List.length_map]; simp; omega))) fun bp H9 s9 e9 => ?_
    have s49 := s5.trans (s6.trans (s7.trans (s8.trans s9)))
    have B9 := B4.same s49
    have dBad : BadL K (L2.del H9 b) (.ref bp) := by
      refine .tup (sqT_del B9 e9) ((((ints_de l).take n).app (.cons (hg.same (del_sb (SB.of s49))) .nil)).app ((ints_de l).drop n)) (sd_tup' (n := 1) (((((ints_sd fun x hx => Nat.lt_trans (l5 x hx) (by decide)).take n).mono (by omega) (Nat.le_refl _)).app (.cons sdg .nil)).app (((ints_sd fun x hx => Nat.lt_trans (l5 x hx) (by decide)).drop n).mono (by omega) (Nat.le_refl _))) |>.mono (by omega) (by omega)) (by simp; omega) (by simp [nog])
    walk_at "rd"
    refine i_listB B9 (.inr (Same.sqT s49 hlA)) fun q1 K1 _ m1 C1 u1 f1 v1 => ?_
    walk_at "rd"
    refine newD C1 fun q2 K2 C2 u2 f2 v2 => ?_
    walk_at "rd"
    refine newLL C2 (Nat.le_of_ble_eq_true rfl) fun q3 K3 _ m3 C3 u3 f3 v3 => ?_
    walk_at "rd"
    refine newT C3 (Nat.le_of_ble_eq_true rfl) fun q4 K4 C4 u4 f4 v4 => ?_
    walk_at "rd"
    refine newT C4 (Nat.le_of_ble_eq_true rfl) fun q5 K5 C5 u5 f5 v5 => ?_
    walk_at "rd"
    refine newLL C5 (Nat.le_of_ble_eq_true rfl) fun q6 K6 _ m6 C6 u6 f6 v6 => ?_
    walk_at "rd"
    refine ⟨b, 10, _, rfl, C6, by omega, by omega, by omega, fun r' K7 r0' r1' C7 u7 => ?_⟩
    have t7 := del_sb u7
    have f6 := u7 _ _ (box_ne C5 m6) (del_sub _ _ f6)
    have f1 := t7 _ _ (u6 _ _ (u5 _ _ (u4 _ _ (u3 _ _ (u2 _ _ f1)))))
    have f2 := t7 _ _ (u6 _ _ (u5 _ _ (u4 _ _ (u3 _ _ f2))))
    have f3 := t7 _ _ (u6 _ _ (u5 _ _ (u4 _ _ f3)))
    have f4 := t7 _ _ (u6 _ _ (u5 _ _ f4))
    have f5 := t7 _ _ (u6 _ _ f5)
    have bad7 := (dBad.same (u1.trans (u2.trans (u3.trans (u4.trans (u5.trans u6)))))).same t7
    have fin := s04.trans ((SB.of (s49.trans (v1.trans (v2.trans (v3.trans (v4.trans (v5.trans v6))))))).trans u7)
    obtain ⟨x, ex, hx⟩ : ∃ x, ([.ref bp, .ref q1, .ref bp, .non, .str (S []), .ref q2, .int 0, .ref q3, .ref bp, .ref q5] : List V)[r'.toNat]? = some x ∧ BadL K (L2.del K7 b) x := by
      have hr : r' = 0 ∨ r' = 1 ∨ r' = 2 ∨ r' = 3 ∨ r' = 4 ∨ r' = 5 ∨ r' = 6 ∨ r' = 7 ∨ r' = 8 ∨ r' = 9 := by omega
      rcases hr with rfl | rfl | rfl | rfl | rfl | rfl | rfl | rfl | rfl | rfl
      · exact ⟨_, rfl, bad7⟩
      · exact ⟨_, rfl, .lst f1 (ints_de l) ((sd_lst' (ints_sd fun x hx => Nat.lt_trans (l5 x hx) (by decide))).mono (by omega) (by omega)) (by rw [List.length_map]; omega)⟩
      · exact ⟨_, rfl, bad7⟩
      · exact ⟨_, rfl, .flat .non (sd_non.mono (by omega) (by omega)) rfl rfl⟩
      · exact ⟨_, rfl, .flat (.str _) ((sd_str (l := []) (by simp)).mono (by omega) (by simp)) rfl rfl⟩
      · exact ⟨_, rfl, .flat (.dict f2 .nil) (sd_emp.mono (by omega) (by omega)) rfl rfl⟩
      · exact ⟨_, rfl, .flat (.int _) ((sd_int (by decide)).mono (by omega) (by omega)) rfl rfl⟩
      · exact ⟨_, rfl, .lst f3 (.cons (.int 0) .nil) ((sd_lst' (.cons (sd_int (by decide)) .nil)).mono (by omega) (by omega)) (by simp)⟩
      · exact ⟨_, rfl, bad7⟩
      · exact ⟨_, rfl, .tup (sqT_of f5) (.cons (.tup (sqT_of f4) (.cons (.str (S [115, 97, 109, 101])) (.cons (.int 0) .nil))) .nil) ((sd_tup' (.cons (sd_tup' (.cons (sd_str (by decide)) (.cons ((sd_int (i := 0) (by decide)).mono (Nat.le_refl _) (Nat.le_refl _)) .nil))) .nil)).mono (by omega) (by decide)) (by simp) rfl⟩
    refine i_ixLv f6 r0' ex ?_
    exact k _ _ hx (C7.mono (by omega)) fin
end
end Sw
namespace Sw
open PySem PySem.Spec PyProof.Rows L2
local macro_rules | `(tactic| walk_at "hp") => `(tactic| first
  | (with_reducible assumption) | (with_reducible exact upd_same)
  | ((with_reducible refine' upd_old ?q1 ?q2); (case q1 => (with_reducible assumption)); (case q2 => walk_at "hp"))
  | ((with_reducible refine' Same.at ?q1 ?q2); (case q1 => (with_reducible assumption)); (case q2 => walk_at "hp"))
  | ((with_reducible refine' upd_skip ?q1 ?q2); (case q1 => walk_at "ne"); (case q2 => walk_at "hp"))
  | fail)
local macro_rules | `(tactic| walk_at "ne") => `(tactic| first
  | (with_reducible assumption) | (with_reducible exact Ne.symm (by assumption))
  | ((with_reducible refine' ne_of_none ?q1 ?q2); (case q2 => (with_reducible assumption)); (case q1 => walk_at "hp"))
  | fail)
local macro_rules | `(tactic| walk_at "ci") => `(tactic| first | assumption | (show (0 : Int) < _; first | decide | (with_reducible omega)) | exact ⟨by decide, by decide⟩ | exact .inl ⟨by decide, by decide⟩ | exact .inr ⟨by decide, by decide⟩)
local macro_rules | `(tactic| walk_at "ln") => `(tactic| first | (with_reducible assumption) | (with_reducible omega) | (simp only [List.length_append, List.length_take, List.length_drop, List.length_reverse, List.length_cons, List.length_nil]; with_reducible omega))
local macro_rules | `(tactic| walk_at "rd1") => `(tactic| first
  | (with_reducible refine i_seq ?_) | (with_reducible refine i_asg ?_) | (with_reducible refine i_ret ?_) | (with_reducible refine i_name ?_) | ((with_reducible refine' i_var ?q1 ?_); (case q1 => exact rfl)) | (with_reducible refine i_c ?_) | (with_reducible refine i_op ?_) | (with_reducible refine i_un ?_)
  | (with_reducible refine i_rI0 ?_) | (with_reducible refine i_cb ?_) | (with_reducible refine i_cons ?_) | (with_reducible refine i_nil ?_) | (with_reducible refine i_call ?_) | (with_reducible refine i_if ?_) | (with_reducible refine i_ifE ?_) | (with_reducible refine i_test ?_) | (with_reducible refine i_bl ?_)
  | (with_reducible refine i_and ?_) | (with_reducible refine i_or ?_) | (with_reducible refine i_not ?_) | (with_reducible refine i_lstM ?_) | (with_reducible refine i_lstLM ?_) | (with_reducible refine i_tupM ?_) | (with_reducible refine i_next ?_) | (with_reducible refine i_drop ?_) | (with_reducible refine i_sub ?_)
  | (with_reducible refine i_bm ?_) | (with_reducible refine i_sl ?_) | (with_reducible refine i_part ?_) | (with_reducible refine i_nopart ?_) | (with_reducible refine i_exI ?_) | (with_reducible refine i_chain ?_) | ((with_reducible refine' i_aug ?q1 ?_); (case q1 => exact rfl)) | (with_reducible refine i_ip ?_)
  | (with_reducible refine i_par ?_) | (with_reducible refine i_pair ?_) | (with_reducible refine i_andV ?_) | (with_reducible refine i_orV ?_) | (with_reducible refine i_notV ?_) | (with_reducible refine i_m1 ?_) | (with_reducible refine i_str ?_)
  | (with_reducible refine iteF ?_) | (with_reducible refine iteT ?_) | (with_reducible refine iteNT ?_) | (with_reducible refine iteNF ?_) | (with_reducible refine i_tyS ?_) | (with_reducible refine i_tB ?_) | (with_reducible refine i_retN ?_) | (with_reducible refine i_par3 ?_) | (with_reducible refine i_trip ?_) | (with_reducible refine i_gCons ?_) | (with_reducible refine i_gNil ?_) | (with_reducible refine i_lstRg ?_) | (with_reducible refine i_rg1 ?_)
  | (with_reducible refine i_lc ?_) | (with_reducible refine i_for ?_) | (with_reducible refine i_iList ?_) | (with_reducible refine i_iTup ?_) | (with_reducible refine i_iStr ?_) | (with_reducible refine i_iRng1 ?_) | (with_reducible refine i_iEnS ?_)
  | ((with_reducible refine' i_ixTH ?q1 ?q2 ?_); (case q1 => walk_at "hp"); (case q2 => exact rfl))
  | ((with_reducible refine' i_ixLH ?q1 ?q2 ?_); (case q1 => walk_at "hp"); (case q2 => exact rfl))
  | ((with_reducible refine i_addS ?q1 ?_); (case q1 => walk_at "ln")) | ((with_reducible refine i_lenSS ?q1 ?_); (case q1 => walk_at "ln")) | ((with_reducible refine i_slFrom ?q1 ?q2 ?_); (case q1 => walk_at "ln"); (case q2 => walk_at "ln")) | ((with_reducible refine i_slTo ?q1 ?q2 ?_); (case q1 => walk_at "ln"); (case q2 => walk_at "ln"))
  | ((with_reducible refine' i_tyL ?q1 ?_); (case q1 => walk_at "hp"))
  | ((with_reducible refine' i_gTupH ?q1 ?q2 ?_); (case q1 => walk_at "hp"); (case q2 => exact rfl))
  | (with_reducible refine i_dnewM ?_) | (with_reducible refine i_init ?_) | (with_reducible refine i_fst ?_) | (with_reducible refine i_mk ?_) | (with_reducible refine i_raise ?_) | (with_reducible refine i_callS ?_) | (with_reducible refine i_kwS ?_)
  | (with_reducible refine i_revT ?_) | (with_reducible refine i_kw ?_) | ((with_reducible refine' ⟨_, _, rfl, sqT_of ?q1, ?_⟩); (case q1 => walk_at "hp"))
  | (with_reducible refine i_revS ?_) | ((with_reducible refine i_revSS ?q1 ?_); (case q1 => walk_at "ln"))
  | (with_reducible refine i_startS ?_) | (with_reducible refine i_inSg ?_) | (with_reducible refine i_absN ?_) | (with_reducible refine i_min2 ?_) | (with_reducible refine i_max2 ?_) | (with_reducible refine i_min3 ?_) | (with_reducible refine i_intN ?_) | (with_reducible refine i_intNB ?_)
  | ((with_reducible refine' i_lenL ?q1 ?_); (case q1 => walk_at "hp")) | ((with_reducible refine' i_lenT ?q1 ?_); (case q1 => walk_at "hp"))
  | (with_reducible refine i_eqI ?_) | (with_reducible refine i_neI ?_) | (with_reducible refine i_eqS ?_) | (with_reducible refine i_neS ?_) | (with_reducible refine i_isNoI ?_) | (with_reducible refine i_isNoN ?_) | (with_reducible refine i_isNoR ?_)
  | ((with_reducible refine i_pow ?q1 ?q2 ?q3 ?_); (case q1 => decide); (case q2 => decide); (case q3 => (with_reducible omega)))
  | ((with_reducible refine i_rI ?q1 ?_); (case q1 => walk_at "ci"))
  | (with_reducible refine Or.inl ⟨_, rfl, ?_⟩) | (with_reducible refine Or.inr ⟨_, rfl, ?_⟩) | (with_reducible refine ⟨_, rfl, ?_⟩) | (with_reducible refine ⟨_, _, rfl, ?_⟩) | (with_reducible refine ⟨_, _, rfl, rfl, ?_⟩)
  | ((with_reducible refine' ⟨_, _, rfl, Or.inl (sqL_of ?q1), ?_⟩); (case q1 => walk_at "hp")) | ((with_reducible refine' ⟨_, _, rfl, Or.inr (sqT_of ?q1), ?_⟩); (case q1 => walk_at "hp")) | (with_reducible refine i_dget ?_) | (with_reducible refine i_disp1T ?_) | (with_reducible refine i_dcT ?_) | (with_reducible refine i_dnewT ?_) | fail)
local macro_rules | `(tactic| walk_at "rd") => `(tactic| repeat' walk_at "rd1")

/-- a value that is no kind -/
def BdV (K : PySem.W.Frag) (G : Hp) (v : V) : Prop := ∃ db, De K G v db ∧ Sd 3 300 db ∧ StOk db ∧ kindB 5 db = false
theorem BdV.same {K : PySem.W.Frag} {G G' : Hp} {v : V} (h : BdV K G v) (s : Same G G') : BdV K G' v := by
  obtain ⟨d, h1, h2⟩ := h; exact ⟨d, h1.same s, h2⟩
theorem BdV.flat {K : PySem.W.Frag} {G : Hp} {v : V} {d : PyData} (h : De K G v d) (s : Sd 3 300 d) (z : d.hasDict = false) (no : kindB 5 d = false) : BdV K G v := ⟨d, h, s, .flat z, no⟩
theorem BdV.tup {K : PySem.W.Frag} {G : Hp} {p : Addr} {xs : List V} {ds : List PyData} (e : G p = some (.tup xs)) (h : DeAll K G xs ds) (s : SdAll 0 300 ds) (z : (PyData.tuple ds).hasDict = false) (no : kindB 5 (.tuple ds) = false) : BdV K G (.ref p) :=
  .flat (.tup (sqT_of e) h) ((sd_tup' s).mono (by omega) (by omega)) z no
theorem BdV.lst {K : PySem.W.Frag} {G : Hp} {p : Addr} {xs : List V} {ds : List PyData} (e : G p = some (.lst xs)) (lt : sysModules < p) (h : DeAll K G xs ds) (s : SdAll 0 300 ds) (z : (PyData.list ds).hasDict = false) (no : kindB 5 (.list ds) = false) : BdV K G (.ref p) :=
  .flat (.lst e lt h) ((sd_lst' s).mono (by omega) (by omega)) z no
theorem sd9 {i : Int} (h : i.natAbs < 512) : Sd 0 9 (.int i) := sd_int9 h
theorem sdall_of {ds : List PyData} {n : Nat} (h : ∀ d ∈ ds, Sd 0 9 d) (l : ds.length * 10 ≤ n) : SdAll 0 n ds := (sd_all h).mono (Nat.le_refl _) (by omega)
/-- a value that is no list of kinds -/
def BadK (K : PySem.W.Frag) (G : Hp) (v : V) : Prop := ∃ d, Rf K G v d ∧ KsOk d ∧ Sd 6 20000 d ∧ kindsB 5 d = false
theorem BadK.same {K : PySem.W.Frag} {G G' : Hp} {v : V} (h : BadK K G v) (s : Same G G') : BadK K G' v := by
  obtain ⟨d, h1, h2⟩ := h; exact ⟨d, h1.same s, h2⟩
theorem BadK.flat {K : PySem.W.Frag} {G : Hp} {v : V} {d : PyData} (h : De K G v d) (s : Sd 6 20000 d) (h1 : tyB "list" d = false) (h2 : tyB "tuple" d = false) : BadK K G v :=
  ⟨d, .inl ⟨h1, h⟩, fun ds e => by rcases e with rfl | rfl; (· cases h1); (· cases h2), s, by cases d <;> first | (cases h2; done) | (cases h1; done) | rfl⟩
theorem cutV_from {vs : List V} {n : Nat} : cutV vs (some (n : Int)) none = vs.drop n := by
  unfold cutV
  rw [HT.sIx_nat, HT.sIx_none]
  rcases Nat.le_total n vs.length with q | q
  · rw [Nat.min_eq_left q, List.take_of_length_le (by rw [List.length_drop]; omega)]
  · rw [Nat.min_eq_right q, List.drop_length, List.drop_of_length_le q]; simp
theorem i_slLB {K : PySem.W.Frag} {b a : Addr} {d : Int} {xs : List V} {lo hi : Option Int} {H : Hp} {Q : VK} (B : BoxAt H b d) (h : L2.del H b a = some (.lst xs)) (k : ∀ t H', BoxAt H' b d → Same (L2.del H b) (L2.del H' b) → L2.del H' b t = some (.lst (cutV xs lo hi)) → Same H H' → Q (.ref t) H') : rSlL K (.ref a) lo hi H Q :=
  ⟨a, xs, rfl, sqL_of (del_sub _ _ h), fun p np => k _ _ (B.same (same_upd np)) (del_sb (SB.of (same_upd np))) (del_new B np) (same_upd np)⟩
/-- _law_no_kinds(box, kinds) -/
def spNoK (K : PySem.W.Frag) : Sp := fun vs H Q _ => ∃ (b kp : Addr) (ks : List Pg) (d : Int), vs = [.ref b, .ref kp] ∧ KL (L2.del H b) kp ks ∧ Kinds ks ∧ ks.length ≤ 60 ∧ BoxAt H b d ∧ d + 10 ≤ 1000000 ∧
  ∀ r H', BadK K (L2.del H' b) r → BoxAt H' b (d + 10) → SB b H H' → Q r H'
section
variable {P : Program} {w : World} {K : PySem.W.Frag} {mg : Str → Option Value} {base : Heap} {f : Addr} {fd : FuncData}
theorem ok_noK (F : Fun K "_law_no_kinds" "_law_no_kinds" s__law_no_kinds f fd) (z : Z mg) (c__law_take : Cal P w K mg base "_law_take" ["box", "many"] 1 spTake) : FnOk P w K mg base CX0 2 f fd ["box", "kinds"] (spNoK K) := by
  refine F.ok sc__law_no_kinds (fun vs H Q E h => ?_) (fun cdv A outer s H vs Q E hr h => ?_)
  · obtain ⟨b, kp, ks, d, rfl, _⟩ := h; rfl
  · obtain ⟨b, kp, ks, d, rfl, hk, kk, lk, B, hd, k⟩ := h
    refine ⟨_, (pss_cons (ps_set (i := 2) sc__law_no_kinds.nd rfl (.inl rfl) (pe_lstL (pa_cons (pe_tup (pa_cons (pe_strS (l := [108, 111, 115, 116]) (by decide +kernel)) (pa_cons pe_int pa_nil))) (pa_cons (pe_lstL (pa_cons (pe_strS (l := [108, 111, 115, 116]) (by decide +kernel)) (pa_cons pe_int pa_nil))) (pa_cons (pe_tup (pa_cons (pe_strS (l := [116, 117, 114, 110, 101, 100]) (by decide +kernel)) (pa_cons pe_int (pa_cons pe_int pa_nil)))) (pa_cons (pe_tup (pa_cons (pe_strS (l := [115, 97, 109, 101]) (by decide +kernel)) (pa_cons pe_int pa_nil))) (pa_cons (pe_strS (l := [108, 111, 115, 116]) (by decide +kernel)) (pa_cons pe_non (pa_cons (pe_tup (pa_cons (pe_strS (l := [112, 117, 116]) (by decide +kernel)) (pa_cons pe_bl pa_nil))) (pa_cons (pe_tup (pa_cons (pe_strS (l := [108, 111, 115, 116]) (by decide +kernel)) (pa_cons (pe_op op_sub pe_int pe_int) pa_nil))) pa_nil))))))))))
      (pss_cons (ps_set (i := 2) sc__law_no_kinds.nd rfl (.inl rfl) (pe_ix ix_list (pe_op op_cat (pv 2) (pe_lstL (pa_cons (pe_tup (pa_cons (pe_strS (l := [108, 111, 115, 116]) (by decide +kernel)) pa_nil)) (pa_cons (pe_tup (pa_cons (pe_strS (l := [116, 117, 114, 110, 101, 100]) (by decide +kernel)) (pa_cons pe_int (pa_cons pe_int pa_nil)))) (pa_cons (pe_tup (pa_cons (pe_strS (l := [112, 117, 116]) (by decide +kernel)) (pa_cons pe_int (pa_cons pe_int pa_nil)))) (pa_cons (pe_tup (pa_cons (pe_strS (l := [116, 117, 114, 110, 101, 100]) (by decide +kernel)) (pa_cons pe_int pa_nil))) (pa_cons (pe_tup pa_nil) (pa_cons (pe_tup (pa_cons (pe_strS (l := [80, 117, 116]) (by decide +kernel)) (pa_cons pe_int pa_nil))) pa_nil)))))))) (pe_cal c__law_take hr (pa_cons (pv 0) (pa_cons pe_int pa_nil))) (fun _ _ => rfl)))
      (pss_cons (ps_set (i := 3) sc__law_no_kinds.nd rfl (.inl rfl) (pe_cal c__law_take hr (pa_cons (pv 0) (pa_cons (pe_op op_add (pe_callB call_lenQ (by rfl) z.len PySem.boot_len (pa_cons (pv 1) pa_nil)) pe_int) pa_nil))))
      (pss_one (ps_ret (pe_ix ix_list (pe_lstL (pa_cons (pe_op op_cat (pe_op op_cat (pe_slice sl_list (pv 1) po_none (po_some (pv 3))) (pe_lstL (pa_cons (pv 2) pa_nil))) (pe_slice sl_list (pv 1) (po_some (pv 3)) po_none)) (pa_cons (pe_tup (pa_cons (pv 2) pa_nil)) (pa_cons pe_non (pa_cons pe_dnewK (pa_cons (pe_tup (pa_cons (pe_strS (l := [108, 111, 115, 116]) (by decide +kernel)) (pa_cons pe_int pa_nil))) (pa_cons pe_int (pa_cons (pe_lstL (pa_cons (pv 2) pa_nil)) (pa_cons (pe_strS (l := []) (by decide +kernel)) pa_nil))))))))) (pe_cal c__law_take hr (pa_cons (pv 0) (pa_cons pe_int pa_nil))) (fun _ _ => rfl))))))), ?_⟩
    walk_at "rd"
    refine newT B (Nat.le_of_ble_eq_true rfl) fun p1 H1 B1 s1 e1 t1 => ?_
    have a1 : BdV K (L2.del H1 b) (.ref p1) := .tup (ds := [.str (S [108, 111, 115, 116]), .int 5]) e1 (.cons (.str _) (.cons (.int _) .nil)) (SdAll.mono (.cons (sd_str (by decide)) (.cons (sd9 (by decide)) .nil)) (Nat.le_refl _) (by decide)) (by simp [PyData.hasDict, PyData.hasDictAll]) (by simp (decide := true) [kindB, isX, isS, PyData.eqv, S_inj])
    walk_at "rd"
    refine newLL B1 (Nat.le_of_ble_eq_true rfl) fun p2 H2 l2 n2 B2 s2 e2 t2 => ?_
    have a1 := a1.same s2
    have a2 : BdV K (L2.del H2 b) (.ref p2) := .lst (ds := [.str (S [108, 111, 115, 116]), .int 0]) e2 l2 (.cons (.str _) (.cons (.int _) .nil)) (SdAll.mono (.cons (sd_str (by decide)) (.cons (sd9 (by decide)) .nil)) (Nat.le_refl _) (by decide)) (by simp [PyData.hasDict, PyData.hasDictAll]) (by simp (decide := true) [kindB, isX, isS, PyData.eqv, S_inj])
    walk_at "rd"
    refine newT B2 (Nat.le_of_ble_eq_true rfl) fun p3 H3 B3 s3 e3 t3 => ?_
    have a1 := a1.same s3
    have a2 := a2.same s3
    have a3 : BdV K (L2.del H3 b) (.ref p3) := .tup (ds := [.str (S [116, 117, 114, 110, 101, 100]), .int 0, .int 0]) e3 (.cons (.str _) (.cons (.int _) (.cons (.int _) .nil))) (SdAll.mono (.cons (sd_str (by decide)) (.cons (sd9 (by decide)) (.cons (sd9 (by decide)) .nil))) (Nat.le_refl _) (by decide)) (by simp [PyData.hasDict, PyData.hasDictAll]) (by simp (decide := true) [kindB, isX, isS, PyData.eqv, S_inj])
    walk_at "rd"
    refine newT B3 (Nat.le_of_ble_eq_true rfl) fun p4 H4 B4 s4 e4 t4 => ?_
    have a1 := a1.same s4
    have a2 := a2.same s4
    have a3 := a3.same s4
    have a4 : BdV K (L2.del H4 b) (.ref p4) := .tup (ds := [.str (S [115, 97, 109, 101]), .int 0]) e4 (.cons (.str _) (.cons (.int _) .nil)) (SdAll.mono (.cons (sd_str (by decide)) (.cons (sd9 (by decide)) .nil)) (Nat.le_refl _) (by decide)) (by simp [PyData.hasDict, PyData.hasDictAll]) (by simp (decide := true) [kindB, isX, isS, PyData.eqv, S_inj])
    walk_at "rd"
    refine newT B4 (Nat.le_of_ble_eq_true rfl) fun p5 H5 B5 s5 e5 t5 => ?_
    have a1 := a1.same s5
    have a2 := a2.same s5
    have a3 := a3.same s5
    have a4 := a4.same s5
    have a5 : BdV K (L2.del H5 b) (.ref p5) := .tup (ds := [.str (S [112, 117, 116]), .bool true]) e5 (.cons (.str _) (.cons (.bl _) .nil)) (SdAll.mono (.cons (sd_str (by decide)) (.cons (sd_bl _) .nil)) (Nat.le_refl _) (by decide)) (by simp [PyData.hasDict, PyData.hasDictAll]) (by simp (decide := true) [kindB, isX, isS, PyData.eqv, S_inj])
    walk_at "rd"
    refine newT B5 (Nat.le_of_ble_eq_true rfl) fun p6 H6 B6 s6 e6 t6 => ?_
    have a1 := a1.same s6
    have a2 := a2.same s6
    have a3 := a3.same s6
    have a4 := a4.same s6
    have a5 := a5.same s6
    have a6 : BdV K (L2.del H6 b) (.ref p6) := .tup (ds := [.str (S [108, 111, 115, 116]), .int (0 - 1)]) e6 (.cons (.str _) (.cons (.int _) .nil)) (SdAll.mono (.cons (sd_str (by decide)) (.cons (sd9 (by decide)) .nil)) (Nat.le_refl _) (by decide)) (by simp [PyData.hasDict, PyData.hasDictAll]) (by simp (decide := true) [kindB, isX, isS, PyData.eqv, S_inj])
    walk_at "rd"
    refine newLL B6 (Nat.le_of_ble_eq_true rfl) fun p7 H7 l7 n7 B7 s7 e7 t7 => ?_
    have a1 := a1.same s7
    have a2 := a2.same s7
    have a3 := a3.same s7
    have a4 := a4.same s7
    have a5 := a5.same s7
    have a6 := a6.same s7
    walk_at "rd"
    refine newT B7 (Nat.le_of_ble_eq_true rfl) fun p8 H8 B8 s8 e8 t8 => ?_
    have a1 := a1.same s8
    have a2 := a2.same s8
    have a3 := a3.same s8
    have a4 := a4.same s8
    have a5 := a5.same s8
    have a6 := a6.same s8
    have e7 := s8 _ _ e7
    have a8 : BdV K (L2.del H8 b) (.ref p8) := .tup (ds := [.str (S [108, 111, 115, 116])]) e8 (.cons (.str _) .nil) (SdAll.mono (.cons (sd_str (by decide)) .nil) (Nat.le_refl _) (by decide)) (by simp [PyData.hasDict, PyData.hasDictAll]) (by simp (decide := true) [kindB, isX, isS, PyData.eqv, S_inj])
    walk_at "rd"
    refine newT B8 (Nat.le_of_ble_eq_true rfl) fun p9 H9 B9 s9 e9 t9 => ?_
    have a1 := a1.same s9
    have a2 := a2.same s9
    have a3 := a3.same s9
    have a4 := a4.same s9
    have a5 := a5.same s9
    have a6 := a6.same s9
    have e7 := s9 _ _ e7
    have a8 := a8.same s9
    have a9 : BdV K (L2.del H9 b) (.ref p9) := .tup (ds := [.str (S [116, 117, 114, 110, 101, 100]), .int 0, .int 5]) e9 (.cons (.str _) (.cons (.int _) (.cons (.int _) .nil))) (SdAll.mono (.cons (sd_str (by decide)) (.cons (sd9 (by decide)) (.cons (sd9 (by decide)) .nil))) (Nat.le_refl _) (by decide)) (by simp [PyData.hasDict, PyData.hasDictAll]) (by simp (decide := true) [kindB, isX, isS, PyData.eqv, S_inj])
    walk_at "rd"
    refine newT B9 (Nat.le_of_ble_eq_true rfl) fun p10 H10 B10 s10 e10 t10 => ?_
    have a1 := a1.same s10
    have a2 := a2.same s10
    have a3 := a3.same s10
    have a4 := a4.same s10
    have a5 := a5.same s10
    have a6 := a6.same s10
    have e7 := s10 _ _ e7
    have a8 := a8.same s10
    have a9 := a9.same s10
    have a10 : BdV K (L2.del H10 b) (.ref p10) := .tup (ds := [.str (S [112, 117, 116]), .int 0, .int 1]) e10 (.cons (.str _) (.cons (.int _) (.cons (.int _) .nil))) (SdAll.mono (.cons (sd_str (by decide)) (.cons (sd9 (by decide)) (.cons (sd9 (by decide)) .nil))) (Nat.le_refl _) (by decide)) (by simp [PyData.hasDict, PyData.hasDictAll]) (by simp (decide := true) [kindB, isX, isS, PyData.eqv, S_inj])
    walk_at "rd"
    refine newT B10 (Nat.le_of_ble_eq_true rfl) fun p11 H11 B11 s11 e11 t11 => ?_
    have a1 := a1.same s11
    have a2 := a2.same s11
    have a3 := a3.same s11
    have a4 := a4.same s11
    have a5 := a5.same s11
    have a6 := a6.same s11
    have e7 := s11 _ _ e7
    have a8 := a8.same s11
    have a9 := a9.same s11
    have a10 := a10.same s11
    have a11 : BdV K (L2.del H11 b) (.ref p11) := .tup (ds := [.str (S [116, 117, 114, 110, 101, 100]), .int 0]) e11 (.cons (.str _) (.cons (.int _) .nil)) (SdAll.mono (.cons (sd_str (by decide)) (.cons (sd9 (by decide)) .nil)) (Nat.le_refl _) (by decide)) (by simp [PyData.hasDict, PyData.hasDictAll]) (by simp (decide := true) [kindB, isX, isS, PyData.eqv, S_inj])
    walk_at "rd"
    refine newT B11 (Nat.le_of_ble_eq_true rfl) fun p12 H12 B12 s12 e12 t12 => ?_
    have a1 := a1.same s12
    have a2 := a2.same s12
    have a3 := a3.same s12
    have a4 := a4.same s12
    have a5 := a5.same s12
    have a6 := a6.same s12
    have e7 := s12 _ _ e7
    have a8 := a8.same s12
    have a9 := a9.same s12
    have a10 := a10.same s12
    have a11 := a11.same s12
    have a12 : BdV K (L2.del H12 b) (.ref p12) := .tup (ds := []) e12 (.nil) (SdAll.nil.mono (Nat.le_refl _) (by decide)) (by simp [PyData.hasDict, PyData.hasDictAll]) (by simp (decide := true) [kindB, isX, isS, PyData.eqv, S_inj])
    walk_at "rd"
    refine newT B12 (Nat.le_of_ble_eq_true rfl) fun p13 H13 B13 s13 e13 t13 => ?_
    have a1 := a1.same s13
    have a2 := a2.same s13
    have a3 := a3.same s13
    have a4 := a4.same s13
    have a5 := a5.same s13
    have a6 := a6.same s13
    have e7 := s13 _ _ e7
    have a8 := a8.same s13
    have a9 := a9.same s13
    have a10 := a10.same s13
    have a11 := a11.same s13
    have a12 := a12.same s13
    have a13 : BdV K (L2.del H13 b) (.ref p13) := .tup (ds := [.str (S [80, 117, 116]), .int 0]) e13 (.cons (.str _) (.cons (.int _) .nil)) (SdAll.mono (.cons (sd_str (by decide)) (.cons (sd9 (by decide)) .nil)) (Nat.le_refl _) (by decide)) (by simp [PyData.hasDict, PyData.hasDictAll]) (by simp (decide := true) [kindB, isX, isS, PyData.eqv, S_inj])
    walk_at "rd"
    refine newLL B13 (Nat.le_of_ble_eq_true rfl) fun p14 H14 l14 n14 B14 s14 e14 t14 => ?_
    have a1 := a1.same s14
    have a2 := a2.same s14
    have a3 := a3.same s14
    have a4 := a4.same s14
    have a5 := a5.same s14
    have a6 := a6.same s14
    have e7 := s14 _ _ e7
    have a8 := a8.same s14
    have a9 := a9.same s14
    have a10 := a10.same s14
    have a11 := a11.same s14
    have a12 := a12.same s14
    have a13 := a13.same s14
    walk_at "rd"
    refine i_catLB B14 e7 e14 (Nat.le_of_ble_eq_true rfl) fun p15 H15 B15 s15 e15 t15 => ?_
    have a1 := a1.same s15
    have a2 := a2.same s15
    have a3 := a3.same s15
    have a4 := a4.same s15
    have a5 := a5.same s15
    have a6 := a6.same s15
    have a8 := a8.same s15
    have a9 := a9.same s15
    have a10 := a10.same s15
    have a11 := a11.same s15
    have a12 := a12.same s15
    have a13 := a13.same s15
    have tT : Same H H15 := (Same.trans (Same.trans (Same.trans (Same.trans (Same.trans (Same.trans (Same.trans (Same.trans (Same.trans (Same.trans (Same.trans (Same.trans (Same.trans (Same.trans t1 t2) t3) t4) t5) t6) t7) t8) t9) t10) t11) t12) t13) t14) t15)
    have sT : Same (L2.del H b) (L2.del H15 b) := (Same.trans (Same.trans (Same.trans (Same.trans (Same.trans (Same.trans (Same.trans (Same.trans (Same.trans (Same.trans (Same.trans (Same.trans (Same.trans (Same.trans s1 s2) s3) s4) s5) s6) s7) s8) s9) s10) s11) s12) s13) s14) s15)
    have pb : p15 ≠ b := fun q => by rw [q, L2.del_same] at e15; cases e15
    have all : ∀ r : Nat, r < 14 → ∃ v, ([.ref p1, .ref p2, .ref p3, .ref p4, .str (S tLost), .non, .ref p5, .ref p6, .ref p8, .ref p9, .ref p10, .ref p11, .ref p12, .ref p13] : List V)[r]? = some v ∧ BdV K (L2.del H15 b) v := fun r hr => by
      have hr : r = 0 ∨ r = 1 ∨ r = 2 ∨ r = 3 ∨ r = 4 ∨ r = 5 ∨ r = 6 ∨ r = 7 ∨ r = 8 ∨ r = 9 ∨ r = 10 ∨ r = 11 ∨ r = 12 ∨ r = 13 := by omega
      rcases hr with rfl | rfl | rfl | rfl | rfl | rfl | rfl | rfl | rfl | rfl | rfl | rfl | rfl | rfl
      · exact ⟨_, rfl, a1⟩
      · exact ⟨_, rfl, a2⟩
      · exact ⟨_, rfl, a3⟩
      · exact ⟨_, rfl, a4⟩
      · exact ⟨_, rfl, .flat (.str _) ((sd_str (by decide)).mono (by omega) (by decide)) (by simp [PyData.hasDict, PyData.hasDictAll]) rfl⟩
      · exact ⟨_, rfl, .flat .non (sd_non.mono (by omega) (by omega)) (by simp [PyData.hasDict, PyData.hasDictAll]) rfl⟩
      · exact ⟨_, rfl, a5⟩
      · exact ⟨_, rfl, a6⟩
      · exact ⟨_, rfl, a8⟩
      · exact ⟨_, rfl, a9⟩
      · exact ⟨_, rfl, a10⟩
      · exact ⟨_, rfl, a11⟩
      · exact ⟨_, rfl, a12⟩
      · exact ⟨_, rfl, a13⟩
    walk_at "rd"
    refine ⟨b, 14, d, rfl, B15, by omega, by omega, by omega, fun r HA r0 r1 BA sA => ?_⟩
    have tA := del_sb sA
    have eA := sA _ _ pb (del_sub _ _ e15)
    obtain ⟨bd, ebd, hbd⟩ := all r.toNat (by omega)
    refine i_ixLv eA r0 ebd ?_
    have hbd := hbd.same tA
    have s0A : SB b H HA := (SB.of tT).trans sA
    obtain ⟨vk, ek, pk⟩ := hk.same (sT.trans tA)
    have lvk : vk.length = ks.length := Paired.length pk
    have ekA := del_sub _ _ ek
    walk_at "rd"
    refine ⟨b, _, _, rfl, BA, by omega, by omega, by rw [lvk]; omega, fun at' HC a0 a1 BC sC => ?_⟩
    obtain ⟨n, rfl⟩ : ∃ n : Nat, at' = n := ⟨at'.toNat, by omega⟩
    have tC := del_sb sC
    have ekC := tC _ _ ek
    have hbd := hbd.same tC
    walk_at "rd"
    refine i_slLB BC ekC fun q1 K1 C1 u1 f1 v1 => ?_
    rw [cutV_to] at f1
    have hbd := hbd.same u1
    walk_at "rd"
    refine newLL C1 (Nat.le_of_ble_eq_true rfl) fun q2 K2 _ m2 C2 u2 f2 v2 => ?_
    have f1 := u2 _ _ f1
    have hbd := hbd.same u2
    walk_at "rd"
    refine i_catLB C2 f1 f2 (Nat.le_of_lt (sm100 (by rw [List.length_take, List.length_singleton]; omega))) fun q3 K3 C3 u3 f3 v3 => ?_
    have hbd := hbd.same u3
    have ekD := u3 _ _ (u2 _ _ (u1 _ _ ekC))
    walk_at "rd"
    refine i_slLB C3 ekD fun q4 K4 C4 u4 f4 v4 => ?_
    rw [cutV_from] at f4
    have f3 := u4 _ _ f3
    have hbd := hbd.same u4
    walk_at "rd"
    refine i_catLB C4 f3 f4 (Nat.le_of_lt (sm100 (by rw [List.length_append, List.length_take, List.length_drop, List.length_singleton]; omega))) fun q5 K5 C5 u5 f5 v5 => ?_
    have hbd := hbd.same u5
    walk_at "rd"
    refine newT C5 (Nat.le_of_ble_eq_true rfl) fun q6 K6 C6 u6 f6 v6 => ?_
    have hbd := hbd.same u6
    walk_at "rd"
    refine newD C6 fun q7 K7 C7 u7 f7 v7 => ?_
    have hbd := hbd.same u7
    walk_at "rd"
    refine newT C7 (Nat.le_of_ble_eq_true rfl) fun q8 K8 C8 u8 f8 v8 => ?_
    have hbd := hbd.same u8
    walk_at "rd"
    refine newLL C8 (Nat.le_of_ble_eq_true rfl) fun q9 K9 _ m9 C9 u9 f9 v9 => ?_
    have hbd := hbd.same u9
    walk_at "rd"
    refine newLL C9 (Nat.le_of_ble_eq_true rfl) fun q10 K10 _ m10 C10 u10 f10 v10 => ?_
    have hbd := hbd.same u10
    walk_at "rd"
    refine ⟨b, 8, _, rfl, C10, by omega, by omega, by omega, fun r' K11 r0' r1' C11 u11 => ?_⟩
    have t11 := del_sb u11
    have hbd := hbd.same t11
    have g10 := u11 _ _ (box_ne C9 m10) (del_sub _ _ f10)
    have f5 := t11 _ _ (u10 _ _ (u9 _ _ (u8 _ _ (u7 _ _ (u6 _ _ f5)))))
    have f6 := t11 _ _ (u10 _ _ (u9 _ _ (u8 _ _ (u7 _ _ f6))))
    have f7 := t11 _ _ (u10 _ _ (u9 _ _ (u8 _ _ f7)))
    have f8 := t11 _ _ (u10 _ _ (u9 _ _ f8))
    have f9 := t11 _ _ (u10 _ _ f9)
    have dAll : Same (L2.del HA b) (L2.del K11 b) := Same.trans tC (Same.trans u1 (Same.trans u2 (Same.trans u3 (Same.trans u4 (Same.trans u5 (Same.trans u6 (Same.trans u7 (Same.trans u8 (Same.trans u9 (Same.trans u10 t11))))))))))
    have fin : SB b H K11 := s0A.trans (sC.trans ((SB.of (Same.trans v1 (Same.trans v2 (Same.trans v3 (Same.trans v4 (Same.trans v5 (Same.trans v6 (Same.trans v7 (Same.trans v8 (Same.trans v9 v10)))))))))).trans u11))
    have pkF : Paired (KdAt (L2.del K11 b)) vk ks := Paired.mapP pk fun _ _ zz => zz.same dAll
    obtain ⟨db, hdb, sdb, okb, nob⟩ := hbd
    have dks := kd_de (K := K) pkF
    have sks : SdAll 3 (ks.length * 41) (ks.map Pg.dat) := (pg_sds fun x hx => Nat.lt_trans (Pg.kind_top (kk x hx)) (by decide)).mono (by omega) (Nat.le_refl _)
    have stk : ∀ y ∈ ks.map Pg.dat, StOk y ∧ Sd 40 900000 y := fun y hy => by
      obtain ⟨s, hs, rfl⟩ := List.mem_map.mp hy
      exact ⟨.flat s.flat, (Pg.sd (Nat.lt_trans (Pg.kind_top (kk s hs)) (by decide))).mono (by omega) (by omega)⟩
    have stb : StOk db ∧ Sd 40 900000 db := ⟨okb, sdb.mono (by omega) (by omega)⟩
    obtain ⟨x, ex, hx⟩ : ∃ x, ([.ref q5, .ref q6, .non, .ref q7, .ref q8, .int 0, .ref q9, .str (S [])] : List V)[r'.toNat]? = some x ∧ BadK K (L2.del K11 b) x := by
      have hr : r' = 0 ∨ r' = 1 ∨ r' = 2 ∨ r' = 3 ∨ r' = 4 ∨ r' = 5 ∨ r' = 6 ∨ r' = 7 := by omega
      rcases hr with rfl | rfl | rfl | rfl | rfl | rfl | rfl | rfl
      · refine ⟨_, rfl, .list ((ks.map Pg.dat).take n ++ [db] ++ (ks.map Pg.dat).drop n), .inr ⟨q5, _, _, rfl, f5, ((dks.take n).app (.cons hdb .nil)).app (dks.drop n), rfl⟩, fun ds e => ?_, (sd_lst' (((sks.take n).app (.cons sdb .nil)).app (sks.drop n))).mono (by omega) (by omega), by simp [kindsB, nob]⟩
        obtain rfl : (ks.map Pg.dat).take n ++ [db] ++ (ks.map Pg.dat).drop n = ds := by rcases e with e | e <;> cases e; rfl
        refine ⟨by simp; omega, fun y hy => ?_⟩
        rcases List.mem_append.mp hy with hy | hy
        · rcases List.mem_append.mp hy with hy | hy
          · exact stk y (List.mem_of_mem_take hy)
          · rw [List.mem_singleton.mp hy]; exact stb
        · exact stk y (List.mem_of_mem_drop hy)
      · refine ⟨_, rfl, .tuple [db], .inl ⟨rfl, .tup (sqT_of f6) (.cons hdb .nil)⟩, fun ds e => ?_, (sd_tup' (.cons sdb .nil)).mono (by omega) (by omega), by simp [kindsB, nob]⟩
        obtain rfl : [db] = ds := by rcases e with e | e <;> cases e; rfl
        exact ⟨by simp, fun y hy => by rw [List.mem_singleton.mp hy]; exact stb⟩
      · exact ⟨_, rfl, .flat .non (sd_non.mono (by omega) (by omega)) rfl rfl⟩
      · exact ⟨_, rfl, .flat (.dict f7 .nil) (sd_emp.mono (by omega) (by omega)) rfl rfl⟩
      · refine ⟨_, rfl, .tuple [.str (S tLost), .int 0], .inl ⟨rfl, .tup (sqT_of f8) (.cons (.str _) (.cons (.int 0) .nil))⟩, fun ds e => ?_, (sd_tup' (.cons (sd_str (by decide)) (.cons (sd_int (i := 0) (by decide)) .nil))).mono (by omega) (by decide), rfl⟩
        obtain rfl : [PyData.str (S tLost), .int 0] = ds := by rcases e with e | e <;> cases e; rfl
        refine ⟨by simp, fun y hy => ?_⟩
        simp only [List.mem_cons, List.not_mem_nil, or_false] at hy
        rcases hy with rfl | rfl
        · exact ⟨.flat (by simp only [PyData.hasDict]), (sd_str (by decide)).mono (by omega) (by decide)⟩
        · exact ⟨.flat (by simp only [PyData.hasDict]), (sd_int (by decide)).mono (by omega) (by omega)⟩
      · exact ⟨_, rfl, .flat (.int _) ((sd_int (by decide)).mono (by omega) (by omega)) rfl rfl⟩
      · refine ⟨_, rfl, .list [db], .inr ⟨q9, _, _, rfl, f9, .cons hdb .nil, rfl⟩, fun ds e => ?_, (sd_lst' (.cons sdb .nil)).mono (by omega) (by omega), by simp [kindsB, nob]⟩
        obtain rfl : [db] = ds := by rcases e with e | e <;> cases e; rfl
        exact ⟨by simp, fun y hy => by rw [List.mem_singleton.mp hy]; exact stb⟩
      · exact ⟨_, rfl, .flat (.str _) ((sd_str (l := []) (by simp)).mono (by omega) (by simp)) rfl rfl⟩
    refine i_ixLv g10 r0' ex ?_
    exact k _ _ hx (C11.mono (by omega)) fin
end
end Sw
namespace Sw
open PySem PySem.Spec PyProof.Rows L2
local macro_rules | `(tactic| walk_at "hp") => `(tactic| first
  | (with_reducible assumption) | (with_reducible exact upd_same)
  | ((with_reducible refine' upd_old ?q1 ?q2); (case q1 => (with_reducible assumption)); (case q2 => walk_at "hp"))
  | ((with_reducible refine' Same.at ?q1 ?q2); (case q1 => (with_reducible assumption)); (case q2 => walk_at "hp"))
  | ((with_reducible refine' upd_skip ?q1 ?q2); (case q1 => walk_at "ne"); (case q2 => walk_at "hp"))
  | fail)
local macro_rules | `(tactic| walk_at "ne") => `(tactic| first
  | (with_reducible assumption) | (with_reducible exact Ne.symm (by assumption))
  | ((with_reducible refine' ne_of_none ?q1 ?q2); (case q2 => (with_reducible assumption)); (case q1 => walk_at "hp"))
  | fail)
local macro_rules | `(tactic| walk_at "ci") => `(tactic| first | assumption | (show (0 : Int) < _; first | decide | (with_reducible omega)) | exact ⟨by decide, by decide⟩ | exact .inl ⟨by decide, by decide⟩ | exact .inr ⟨by decide, by decide⟩)
local macro_rules | `(tactic| walk_at "ln") => `(tactic| first | (with_reducible assumption) | (with_reducible omega) | (simp only [List.length_append, List.length_take, List.length_drop, List.length_reverse, List.length_cons, List.length_nil]; with_reducible omega))
local macro_rules | `(tactic| walk_at "rd1") => `(tactic| first
  | (with_reducible refine i_seq ?_) | (with_reducible refine i_asg ?_) | (with_reducible refine i_ret ?_) | (with_reducible refine i_name ?_) | ((with_reducible refine' i_var ?q1 ?_); (case q1 => exact rfl)) | (with_reducible refine i_c ?_) | (with_reducible refine i_op ?_) | (with_reducible refine i_un ?_)
  | (with_reducible refine i_rI0 ?_) | (with_reducible refine i_cb ?_) | (with_reducible refine i_cons ?_) | (with_reducible refine i_nil ?_) | (with_reducible refine i_call ?_) | (with_reducible refine i_if ?_) | (with_reducible refine i_ifE ?_) | (with_reducible refine i_test ?_) | (with_reducible refine i_bl ?_)
  | (with_reducible refine i_and ?_) | (with_reducible refine i_or ?_) | (with_reducible refine i_not ?_) | (with_reducible refine i_lstM ?_) | (with_reducible refine i_lstLM ?_) | (with_reducible refine i_tupM ?_) | (with_reducible refine i_next ?_) | (with_reducible refine i_drop ?_) | (with_reducible refine i_sub ?_)
  | (with_reducible refine i_bm ?_) | (with_reducible refine i_sl ?_) | (with_reducible refine i_part ?_) | (with_reducible refine i_nopart ?_) | (with_reducible refine i_exI ?_) | (with_reducible refine i_chain ?_) | ((with_reducible refine' i_aug ?q1 ?_); (case q1 => exact rfl)) | (with_reducible refine i_ip ?_)
  | (with_reducible refine i_par ?_) | (with_reducible refine i_pair ?_) | (with_reducible refine i_andV ?_) | (with_reducible refine i_orV ?_) | (with_reducible refine i_notV ?_) | (with_reducible refine i_m1 ?_) | (with_reducible refine i_str ?_)
  | (with_reducible refine iteF ?_) | (with_reducible refine iteT ?_) | (with_reducible refine iteNT ?_) | (with_reducible refine iteNF ?_) | (with_reducible refine i_tyS ?_) | (with_reducible refine i_tB ?_) | (with_reducible refine i_retN ?_) | (with_reducible refine i_par3 ?_) | (with_reducible refine i_trip ?_) | (with_reducible refine i_gCons ?_) | (with_reducible refine i_gNil ?_) | (with_reducible refine i_lstRg ?_) | (with_reducible refine i_rg1 ?_)
  | (with_reducible refine i_lc ?_) | (with_reducible refine i_for ?_) | (with_reducible refine i_iList ?_) | (with_reducible refine i_iTup ?_) | (with_reducible refine i_iStr ?_) | (with_reducible refine i_iRng1 ?_) | (with_reducible refine i_iEnS ?_)
  | ((with_reducible refine' i_ixTH ?q1 ?q2 ?_); (case q1 => walk_at "hp"); (case q2 => exact rfl))
  | ((with_reducible refine' i_ixLH ?q1 ?q2 ?_); (case q1 => walk_at "hp"); (case q2 => exact rfl))
  | ((with_reducible refine i_addS ?q1 ?_); (case q1 => walk_at "ln")) | ((with_reducible refine i_lenSS ?q1 ?_); (case q1 => walk_at "ln")) | ((with_reducible refine i_slFrom ?q1 ?q2 ?_); (case q1 => walk_at "ln"); (case q2 => walk_at "ln")) | ((with_reducible refine i_slTo ?q1 ?q2 ?_); (case q1 => walk_at "ln"); (case q2 => walk_at "ln"))
  | ((with_reducible refine' i_tyL ?q1 ?_); (case q1 => walk_at "hp"))
  | ((with_reducible refine' i_gTupH ?q1 ?q2 ?_); (case q1 => walk_at "hp"); (case q2 => exact rfl))
  | (with_reducible refine i_dnewM ?_) | (with_reducible refine i_init ?_) | (with_reducible refine i_fst ?_) | (with_reducible refine i_mk ?_) | (with_reducible refine i_raise ?_) | (with_reducible refine i_callS ?_) | (with_reducible refine i_kwS ?_)
  | (with_reducible refine i_revT ?_) | (with_reducible refine i_kw ?_) | ((with_reducible refine' ⟨_, _, rfl, sqT_of ?q1, ?_⟩); (case q1 => walk_at "hp"))
  | (with_reducible refine i_revS ?_) | ((with_reducible refine i_revSS ?q1 ?_); (case q1 => walk_at "ln"))
  | (with_reducible refine i_startS ?_) | (with_reducible refine i_inSg ?_) | (with_reducible refine i_absN ?_) | (with_reducible refine i_min2 ?_) | (with_reducible refine i_max2 ?_) | (with_reducible refine i_min3 ?_) | (with_reducible refine i_intN ?_) | (with_reducible refine i_intNB ?_)
  | ((with_reducible refine' i_lenL ?q1 ?_); (case q1 => walk_at "hp")) | ((with_reducible refine' i_lenT ?q1 ?_); (case q1 => walk_at "hp"))
  | (with_reducible refine i_eqI ?_) | (with_reducible refine i_neI ?_) | (with_reducible refine i_eqS ?_) | (with_reducible refine i_neS ?_) | (with_reducible refine i_isNoI ?_) | (with_reducible refine i_isNoN ?_) | (with_reducible refine i_isNoR ?_)
  | ((with_reducible refine i_pow ?q1 ?q2 ?q3 ?_); (case q1 => decide); (case q2 => decide); (case q3 => (with_reducible omega)))
  | ((with_reducible refine i_rI ?q1 ?_); (case q1 => walk_at "ci"))
  | (with_reducible refine Or.inl ⟨_, rfl, ?_⟩) | (with_reducible refine Or.inr ⟨_, rfl, ?_⟩) | (with_reducible refine ⟨_, rfl, ?_⟩) | (with_reducible refine ⟨_, _, rfl, ?_⟩) | (with_reducible refine ⟨_, _, rfl, rfl, ?_⟩)
  | ((with_reducible refine' ⟨_, _, rfl, Or.inl (sqL_of ?q1), ?_⟩); (case q1 => walk_at "hp")) | ((with_reducible refine' ⟨_, _, rfl, Or.inr (sqT_of ?q1), ?_⟩); (case q1 => walk_at "hp")) | (with_reducible refine i_dget ?_) | (with_reducible refine i_disp1T ?_) | (with_reducible refine i_dcT ?_) | (with_reducible refine i_dnewT ?_) | fail)
local macro_rules | `(tactic| walk_at "rd") => `(tactic| repeat' walk_at "rd1")

theorem LnAt.rf {K : PySem.W.Frag} {G : Hp} {v : V} {l : List Nat} (h : LnAt K G v l) (ll : l.length ≤ 57) (l5 : ∀ x ∈ l, x < 5) : ∃ d, Rf K G v d ∧ LenOk d ∧ Sd 6 20000 d ∧ lineB 5 d = true :=
  ⟨_, .inl ⟨rfl, h.de⟩, line_len (by omega), (sd_tup' (ints_sd fun x hx => Nat.lt_trans (l5 x hx) (by decide))).mono (by omega) (by omega), line_ok l5⟩
theorem KL.rf {K : PySem.W.Frag} {G : Hp} {p : Addr} {ks : List Pg} (h : KL G p ks) (lk : ks.length ≤ 60) (kk : Kinds ks) : ∃ d, Rf K G (.ref p) d ∧ KsOk d ∧ Sd 6 20000 d ∧ kindsB 5 d = true := by
  obtain ⟨vs, e, pr⟩ := h
  exact ⟨.list (ks.map Pg.dat), .inr ⟨p, vs, _, rfl, e, kd_de pr, rfl⟩, ks_ok kk (by omega) (.inl rfl), (sd_lst' (pg_sds fun x hx => Nat.lt_trans (Pg.kind_top (kk x hx)) (by decide))).mono (by omega) (by omega), ks_all kk⟩
/-- _law_right(box) -/
def spRightP : Sp := fun vs H Q _ => ∃ (b : Addr) (d : Int), vs = [.ref b] ∧ BoxAt H b d ∧ d + 10000 ≤ 1000000 ∧ ∀ H', SB b H H' → Q (.bl true) H'
/-- law(script) -/
def spLaw (K : PySem.W.Frag) : Sp := fun vs H Q _ => ∃ (a : Addr) (ns : List Int), vs = [.ref a] ∧ SqL K H a (ns.map V.int) ∧ ∀ H', Same H H' → Q (.bl true) H'
section
variable {P : Program} {w : World} {K : PySem.W.Frag} {mg : Str → Option Value} {base : Heap} {f : Addr} {fd : FuncData}
theorem ok_right (F : Fun K "_law_right" "_law_right" s__law_right f fd) (z : Z mg) (c__law_scene : Cal P w K mg base "_law_scene" ["box"] 4 (spScene K)) (q__law_scene_right : CalG P w K mg base "_law_scene_right" ["box", "scene"] 7 (spSceneR K)) (c__law_no_line : Cal P w K mg base "_law_no_line" ["box", "line"] 2 (spNoL K)) (c__law_no_kinds : Cal P w K mg base "_law_no_kinds" ["box", "kinds"] 2 (spNoK K)) (q__law_refused : CalG P w K mg base "_law_refused" ["values", "place", "word"] 8 (spRef K)) : FnG P w K mg base CX0 9 f fd ["box"] spRightP := by
  refine Sw.Fun.okG0 F sc__law_right (fun vs H Q E h => ?_) (fun cdv A outer s H vs Q E hr quiet h => ?_)
  · obtain ⟨b, d, rfl, _⟩ := h; rfl
  · obtain ⟨b, d, rfl, B, hd, k⟩ := h
    refine ⟨_, (pss_cons (ps_set (i := 1) sc__law_right.nd rfl (.inl rfl) (pe_lstL (pa_cons (pe_cal c__law_scene hr (pa_cons (pv 0) pa_nil)) (pa_cons (pe_cal c__law_scene hr (pa_cons (pv 0) pa_nil)) pa_nil))))
      (pss_cons (ps_for PassesOwn.never rfl (pi_list (pe_lstL (pa_cons pe_int (pa_cons pe_int (pa_cons pe_int pa_nil))))) (pg_name (i := 2) sc__law_right.nd rfl (.inl rfl))
        (pss_one (ps_if (pt_not (pt_val (pe_calG q__law_scene_right hr quiet (pa_cons (pv 0) (pa_cons (pe_ix ix_list (pv 1) (pv 2) (fun _ _ => rfl)) pa_nil)))))
          (pss_one (ps_ret pe_bl))
          pss_nil)))
      (pss_cons (ps_asg (pe_ix ix_list (pv 1) pe_int (fun _ _ => rfl)) (pg_lst rfl (pgs_cons (pg_name (i := 3) sc__law_right.nd rfl (.inl rfl)) (pgs_cons (pg_name (i := 4) sc__law_right.nd rfl (.inl rfl)) (pgs_cons (pg_name (i := 5) sc__law_right.nd rfl (.inl rfl)) pgs_nil)))))
      (pss_cons (ps_par3 (i := 6) (j := 7) (l := 8) rfl sc__law_right.nd rfl rfl rfl (by decide) (by decide) (by decide) rfl rfl rfl (pa_cons (pe_cal c__law_no_line hr (pa_cons (pv 0) (pa_cons (pv 3) pa_nil))) (pa_cons (pe_cal c__law_no_line hr (pa_cons (pv 0) (pa_cons (pv 4) pa_nil))) (pa_cons (pe_cal c__law_no_kinds hr (pa_cons (pv 0) (pa_cons (pv 5) pa_nil))) pa_nil))) (by rfl))
      (pss_cons (ps_if (PW.pt (pw_or (pt_not (pt_val (pe_calG q__law_refused hr quiet (pa_cons (pe_lstL (pa_cons (pv 6) (pa_cons (pv 4) (pa_cons (pv 5) pa_nil)))) (pa_cons pe_int (pa_cons (pe_strS (l := [108, 105, 110, 101]) (by decide +kernel)) pa_nil)))))) (pw_or1 (pt_not (pt_val (pe_calG q__law_refused hr quiet (pa_cons (pe_lstL (pa_cons (pv 6) (pa_cons (pv 7) (pa_cons (pv 8) pa_nil)))) (pa_cons pe_int (pa_cons (pe_strS (l := [108, 105, 110, 101]) (by decide +kernel)) pa_nil)))))))))
        (pss_one (ps_ret pe_bl))
        pss_nil)
      (pss_cons (ps_if (PW.pt (pw_or (pt_not (pt_val (pe_calG q__law_refused hr quiet (pa_cons (pe_lstL (pa_cons (pv 3) (pa_cons (pv 7) (pa_cons (pv 5) pa_nil)))) (pa_cons pe_int (pa_cons (pe_strS (l := [108, 105, 110, 101]) (by decide +kernel)) pa_nil)))))) (pw_or1 (pt_not (pt_val (pe_calG q__law_refused hr quiet (pa_cons (pe_lstL (pa_cons (pv 3) (pa_cons (pv 7) (pa_cons (pv 8) pa_nil)))) (pa_cons pe_int (pa_cons (pe_strS (l := [108, 105, 110, 101]) (by decide +kernel)) pa_nil)))))))))
        (pss_one (ps_ret pe_bl))
        pss_nil)
      (pss_one (ps_ret (pe_calG q__law_refused hr quiet (pa_cons (pe_lstL (pa_cons (pv 3) (pa_cons (pv 4) (pa_cons (pv 8) pa_nil)))) (pa_cons pe_int (pa_cons (pe_strS (l := [107, 105, 110, 100, 115]) (by decide +kernel)) pa_nil)))))))))))), ?_⟩
    walk_at "rd"
    refine ⟨b, d, rfl, B, by omega, fun q1 v1 v2 kp a c ks H1 e1 S1 B1 s1 => ?_⟩
    walk_at "rd"
    refine ⟨b, _, rfl, B1, by omega, fun q2 w1 w2 kp2 a2 c2 ks2 H2 e2 S2 B2 s2 => ?_⟩
    have e12 := del_sb s2 _ _ e1
    have S12 := S1.same (del_sb s2)
    have s02 := s1.trans s2
    walk_at "rd"
    refine newLL B2 (Nat.le_of_ble_eq_true rfl) fun sp H3 _ n3 B3 s3 e3 t3 => ?_
    walk_at "rd"
    refine newLL B3 (Nat.le_of_ble_eq_true rfl) fun lp H4 _ n4 B4 s4 e4 t4 => ?_
    have s24 := s3.trans s4
    have e14 := s24 _ _ e12
    have e24 := s24 _ _ e2
    have e34 := s4 _ _ e3
    have S14 := S12.same s24
    have S24 := S2.same s24
    have s04 := s02.trans (SB.of (t3.trans t4))
    have e4' := del_sub _ _ e4
    walk_at "rd"
    refine i_sqL (sqL_of e4') ?_
    refine go_for (walk_list (xs := [.int 0, .int 1, .int 0])) (fun i σ Hx => ∃ (u2 u3 u4 u5 u6 u7 u8 : Option V), σ = [some (.ref b), some (.ref sp), u2, u3, u4, u5, u6, u7, u8] ∧ BoxAt Hx b (d + 2000 + 300 * i) ∧ SB b H4 Hx)
      ⟨_, _, _, _, _, _, _, rfl, B4.mono (by omega), SB.refl _⟩ (fun i σ Hx hi h => sqL_of (del_sub _ _ (del_sb h.choose_spec.choose_spec.choose_spec.choose_spec.choose_spec.choose_spec.choose_spec.2.2 _ _ e4))) (fun i v σ Hx Hy hi h y => ?_) (fun σ Hx h => ?_)
    · obtain ⟨u2, u3, u4, u5, u6, u7, u8, rfl, Bx, sx⟩ := h
      obtain ⟨rfl, hv⟩ := y
      have hi' : i < 3 := hi
      have dx := del_sb sx
      obtain ⟨n, q, rfl, eq, x1, x2, xp, xa, xc, xk, eqq, Sq⟩ : ∃ (n : Nat) (q : Addr), v = .int n ∧ ([.ref q1, .ref q2] : List V)[n]? = some (.ref q) ∧ ∃ x1 x2 xp xa xc xk, L2.del Hy b q = some (.lst [x1, x2, .ref xp]) ∧ ScAt K (L2.del Hy b) x1 x2 xp xa xc xk := by
        have hi3 : i = 0 ∨ i = 1 ∨ i = 2 := by omega
        rcases hi3 with rfl | rfl | rfl
        · cases hv; exact ⟨0, q1, rfl, rfl, _, _, _, _, _, _, dx _ _ e14, S14.same dx⟩
        · cases hv; exact ⟨1, q2, rfl, rfl, _, _, _, _, _, _, dx _ _ e24, S24.same dx⟩
        · cases hv; exact ⟨0, q1, rfl, rfl, _, _, _, _, _, _, dx _ _ e14, S14.same dx⟩
      have e3y := del_sub _ _ (dx _ _ e34)
      walk_at "rd"
      refine i_ixLv e3y (by omega) (by rw [Int.toNat_natCast]; exact eq) ?_
      refine ⟨b, q, _, x1, x2, xp, xa, xc, xk, rfl, eqq, Sq, Bx, by omega, fun H5 B5 s5 => ?_⟩
      walk_at "rd"
      exact ⟨_, _, _, _, _, _, _, rfl, B5.mono (by omega), sx.trans s5⟩
    · obtain ⟨u2, u3, u4, u5, u6, u7, u8, rfl, Bx, sx⟩ := h
      rw [show (([.int 0, .int 1, .int 0] : List V).length : Int) = 3 from rfl] at Bx
      have dx := del_sb sx
      have e3x := del_sub _ _ (dx _ _ e34)
      have e2x := del_sub _ _ (dx _ _ e24)
      have S2x := S24.same dx
      have s0x := s04.trans sx
      walk_at "rd"
      refine ⟨q2, _, rfl, sqL_of e2x, rfl, ?_⟩
      obtain ⟨h1, h2, hk, a5, c5, kk, la, lc, lk⟩ := S2x
      walk_at "rd"
      refine ⟨b, w1, a2, _, rfl, h1, la, a5, Bx, by omega, fun r1 H5 bad1 B5 s5 => ?_⟩
      have d5 := del_sb s5
      walk_at "rd"
      refine ⟨b, w2, c2, _, rfl, h2.same d5, lc, c5, B5, by omega, fun r2 H6 bad2 B6 s6 => ?_⟩
      have d6 := del_sb s6
      walk_at "rd"
      refine ⟨b, kp2, ks2, _, rfl, (hk.same d5).same d6, kk, lk, B6, by omega, fun r3 H7 bad3 B7 s7 => ?_⟩
      have d7 := del_sb s7
      have d57 := d5.trans (d6.trans d7)
      obtain ⟨da, ra, la', sa, oa⟩ := (h1.same d57).rf la a5
      obtain ⟨dc, rc, lc', sc, oc⟩ := (h2.same d57).rf lc c5
      obtain ⟨dk, rk, lk', sk, ok⟩ := (hk.same d57).rf (K := K) lk kk
      obtain ⟨f1, rf1, lf1, sf1, no1⟩ := (bad1.same d6).same d7
      obtain ⟨f2, rf2, lf2, sf2, no2⟩ := bad2.same d7
      obtain ⟨f3, rf3, lf3, sf3, no3⟩ := bad3
      have s07 := s0x.trans (s5.trans (s6.trans s7))
      have up : ∀ {v : V} {d : PyData} {Hz : Hp}, Rf K (L2.del H7 b) v d → Same H7 Hz → Rf K Hz v d := fun h s => (h.same del_sub).same s
      walk_at "rd"
      refine newLL0 (Nat.le_of_ble_eq_true rfl) fun p8 H8 n8 l8 s8 e8 => ?_
      walk_at "rd"
      refine ⟨p8, _, _, _, f1, dc, dk, 0, wLine, rfl, e8, up rf1 s8, up rc s8, up rk s8, lf1, lc', lk', sf1, sc, sk, .inl ⟨rfl, rfl, no1⟩, fun H9 s9 => ?_⟩
      walk_at "rd"
      refine newLL0 (Nat.le_of_ble_eq_true rfl) fun p10 H10 n10 l10 s10 e10 => ?_
      have t10 := s8.trans (s9.trans s10)
      walk_at "rd"
      refine ⟨p10, _, _, _, f1, f2, f3, 0, wLine, rfl, e10, up rf1 t10, up rf2 t10, up rf3 t10, lf1, lf2, lf3, sf1, sf2, sf3, .inl ⟨rfl, rfl, no1⟩, fun H11 s11 => ?_⟩
      walk_at "rd"
      refine newLL0 (Nat.le_of_ble_eq_true rfl) fun p12 H12 n12 l12 s12 e12' => ?_
      have t12 := t10.trans (s11.trans s12)
      walk_at "rd"
      refine ⟨p12, _, _, _, da, f2, dk, 1, wLine, rfl, e12', up ra t12, up rf2 t12, up rk t12, la', lf2, lk', sa, sf2, sk, .inr (.inl ⟨rfl, rfl, oa, no2⟩), fun H13 s13 => ?_⟩
      walk_at "rd"
      refine newLL0 (Nat.le_of_ble_eq_true rfl) fun p14 H14 n14 l14 s14 e14' => ?_
      have t14 := t12.trans (s13.trans s14)
      walk_at "rd"
      refine ⟨p14, _, _, _, da, f2, f3, 1, wLine, rfl, e14', up ra t14, up rf2 t14, up rf3 t14, la', lf2, lf3, sa, sf2, sf3, .inr (.inl ⟨rfl, rfl, oa, no2⟩), fun H15 s15 => ?_⟩
      walk_at "rd"
      refine newLL0 (Nat.le_of_ble_eq_true rfl) fun p16 H16 n16 l16 s16 e16 => ?_
      have t16 := t14.trans (s15.trans s16)
      walk_at "rd"
      refine ⟨p16, _, _, _, da, dc, f3, 2, wKinds, rfl, e16, up ra t16, up rc t16, up rf3 t16, la', lc', lf3, sa, sc, sf3, .inr (.inr ⟨rfl, rfl, oa, oc, no3⟩), fun H17 s17 => ?_⟩
      exact k _ (s07.trans (SB.of (t16.trans s17)))
theorem ok_law (F : Fun K "law" "law" s_law f fd) (z : Z mg) (q__law_right : CalG P w K mg base "_law_right" ["box"] 9 spRightP) (c__law_long_right : Cal P w K mg base "_law_long_right" ["box"] 7 spLongR)
    (c__law_box : Cal P w K mg base "_law_box" ["great"] 1 spBox) (c__law_cell : Cal P w K mg base "_law_cell" ["script", "k"] 1 (spCell K)) : FnG P w K mg base CX0 10 f fd ["script"] (spLaw K) := by
  refine Sw.Fun.okG0 F sc_law (fun vs H Q E h => ?_) (fun cdv A outer s H vs Q E hr quiet h => ?_)
  · obtain ⟨a, ns, rfl, _⟩ := h; rfl
  · obtain ⟨a, ns, rfl, L, k⟩ := h
    refine ⟨_, (pss_cons (ps_for PassesOwn.never rfl (pi_range1 (by rfl) z.range (pa_cons (pe_callB (call_max2N rfl) (by rfl) z.max_ (by decide +kernel) (pa_cons pe_int (pa_cons (pe_callB (call_min2N rfl) (by rfl) z.min_ (by decide +kernel) (pa_cons pe_int (pa_cons (pe_callB call_lenQ (by rfl) z.len PySem.boot_len (pa_cons (pv 0) pa_nil)) pa_nil))) pa_nil))) pa_nil)) (pg_name (i := 1) sc_law.nd rfl (.inl rfl))
        (pss_one (ps_if (pt_not (pt_val (pe_calG q__law_right hr quiet (pa_cons (pe_cal c__law_box hr (pa_cons (pe_cal c__law_cell hr (pa_cons (pv 0) (pa_cons (pv 1) pa_nil))) pa_nil)) pa_nil))))
          (pss_one (ps_ret pe_bl))
          pss_nil)))
      (pss_one (ps_ret (pe_cal c__law_long_right hr (pa_cons (pe_cal c__law_box hr (pa_cons (pe_cal c__law_cell hr (pa_cons (pv 0) (pa_cons pe_int pa_nil))) pa_nil)) pa_nil))))), ?_⟩
    walk_at "rd"
    refine i_lenK L ?_
    walk_at "rd"
    rw [List.length_map]
    refine i_rng (by omega) (by omega) ?_
    refine go_for walk_rangeZ (fun i σ H2 => ∃ u1, σ = [some (.ref a), u1] ∧ Same H H2) ⟨none, rfl, Same.refl _⟩ (fun _ _ _ _ _ => trivial) (fun i v σ H2 H3 hi p y => ?_) (fun σ H2 p => ?_)
    · obtain ⟨u1, rfl, s2⟩ := p
      obtain ⟨rfl, rfl⟩ := y
      walk_at "rd"
      refine ⟨a, ns, i, rfl, Same.sqL s2 L, by omega, by omega, fun v H4 s4 => ?_⟩
      walk_at "rd"
      refine ⟨v, rfl, fun b H5 nb s5 B5 => ?_⟩
      walk_at "rd"
      refine ⟨b, 0, rfl, B5, by omega, fun H6 s6 => ?_⟩
      have keep : Same H H6 := fun x o e => by
        have e4 := s4 _ _ (s2 _ _ e)
        have nxb : x ≠ b := ne_of_none e4 nb
        exact s6 _ _ nxb (s5 _ _ e4)
      walk_at "rd"
      exact keep
    · obtain ⟨u1, rfl, s2⟩ := p
      walk_at "rd"
      refine ⟨a, ns, 1, rfl, Same.sqL s2 L, by omega, by omega, fun v H4 s4 => ?_⟩
      walk_at "rd"
      refine ⟨v, rfl, fun b H5 nb s5 B5 => ?_⟩
      walk_at "rd"
      refine ⟨b, 0, rfl, B5, by omega, fun H6 B6 s6 => ?_⟩
      have keep : Same H H6 := fun x o e => by
        have e4 := s4 _ _ (s2 _ _ e)
        have nxb : x ≠ b := ne_of_none e4 nb
        exact s6 _ _ nxb (s5 _ _ e4)
      exact k _ keep
end
end Sw
namespace Sw
open PySem PySem.Spec PyProof.Rows L2
theorem def_mk {K : PySem.W.Frag} {h : Heap} {mg : Str → Option Value} {x : Str} {st : Stmt} {f : Addr} {od an : Option Addr} {sl : Array (Option Value)} {oc kV dc pm cd ct : Value} (X : K.In h) (G : h.Ns mainGlobals mg)
    (a : PySem.W.nsIn K mainGlobals x = some (some (.ref f))) (l : K.lookup f = some ⟨oc, od, .func (PySem.W.fnOf x x (defArgs st) (defBody st) (defScope st) .none kV dc pm an cd ct), sl⟩) (c : PySem.W.codeIn K cd x = true) (k : PySem.W.keepIn K (.ref f) = true) : Def K mg x st :=
  ⟨f, _, fun_mk l c k, PySem.W.mg_of X G a⟩
theorem oex_mk {K : PySem.W.Frag} {C B N : Addr} {nm q : Str} {bs : List Value} {sn : List Str} {sub : List Value} {ab : Bool} {col : Option Bool} {dd : Option Addr} {k0 k1 k2 k3 k5 : Option Value}
    (h : K.lookup C = some (excClassObj nm q C N bs [.ref B, .type "Exception", .type "BaseException", .type "object"] true sn sub ab col dd k0 k1 k2 k3 k5 "Exception.__new__")) (sa : PySem.W.findIn K (.ref C) "__setattr__" = some (some (.builtin "object.__setattr__"))) (exC : PySem.W.subIn K (.ref C) (.type "BaseException") = some true)
    (tyC : PySem.W.typeIn K (.ref C) = some (.type "type")) (kC : PySem.W.keepIn K (.ref C) = true) : OexE K C := ⟨⟨nm, q, N, bs, [B], sn, sub, ab, col, dd, k0, k1, k2, k3, k5, h⟩, sa, exC, tyC, kC⟩
theorem exm_mk {K : PySem.W.Frag} {c : Value} (h1 : PySem.W.subIn K c (.type "BaseException") = some true) (h2 : PySem.W.kitCls K c c = some true) : PySem.W.exmOne K c c = some true := by
  unfold PySem.W.exmOne
  rw [h1]
  exact h2
theorem exn_mk {K : PySem.W.Frag} {d c : Value} (h1 : PySem.W.subIn K c (.type "BaseException") = some true) (h2 : PySem.W.kitCls K d c = some false) : PySem.W.exmOne K d c = some false := by
  unfold PySem.W.exmOne
  rw [h1]
  exact h2
/-- an own exception class, its __init__ apart -/
structure XI (x q : Str) (st : Stmt) (K : PySem.W.Frag) (mg : Str → Option Value) (C : Addr) : Prop where
  T : OexE K C
  xf : XfC K C
  no : PySem.W.findIn K (.ref C) "given" = some none
  hm : mg x = some (.ref C)
  me : PySem.W.exmOne K (.ref C) (.ref C) = some true
  ini : ∃ (fI : Addr) (fd : FuncData), PySem.W.findIn K (.ref C) "__init__" = some (some (.ref fI)) ∧ PySem.W.typeIn K (.ref fI) = some (.type "function") ∧ Fun K "__init__" q st fI fd
theorem iniq_mk {K : PySem.W.Frag} {q : Str} {st : Stmt} {C fI : Addr} {od an : Option Addr} {sl : Array (Option Value)} {oc kV dc pm cd ct : Value} (i : PySem.W.findIn K (.ref C) "__init__" = some (some (.ref fI))) (t : PySem.W.typeIn K (.ref fI) = some (.type "function"))
    (l : K.lookup fI = some ⟨oc, od, .func (PySem.W.fnOf "__init__" q (defArgs st) (defBody st) (defScope st) .none kV dc pm an cd ct), sl⟩) (c : PySem.W.codeIn K cd q = true) (k : PySem.W.keepIn K (.ref fI) = true) :
    ∃ (fI : Addr) (fd : FuncData), PySem.W.findIn K (.ref C) "__init__" = some (some (.ref fI)) ∧ PySem.W.typeIn K (.ref fI) = some (.type "function") ∧ Fun K "__init__" q st fI fd := ⟨fI, _, i, t, fun_mk l c k⟩
theorem all_mk {l : PySem.W.OpenLaw} {w : World} {K : PySem.W.Frag} {mg : Str → Option Value} {fa : Addr} (hfa : mg "law" = some (.ref fa)) (z : Z mg) {t_MOST_SIGNS : Tok} (g_MOST_SIGNS : mg "MOST_SIGNS" = some (.int 5 t_MOST_SIGNS)) {B : Addr} (ov : Over K mg B) {C : Addr} (xi_C : XI "InvalidLine" "InvalidLine.__init__" s_initL K mg C) {D : Addr} (xi_D : XI "InvalidKinds" "InvalidKinds.__init__" s_initK K mg D) (hDC : PySem.W.exmOne K (.ref D) (.ref C) = some false) 
    (d_is_list : Def K mg "is_list" s_is_list) (d_is_integer : Def K mg "is_integer" s_is_integer) (d_is_index : Def K mg "is_index" s_is_index) (d_is_signs : Def K mg "is_signs" s_is_signs) (d_is_sign : Def K mg "is_sign" s_is_sign) (d_is_line : Def K mg "is_line" s_is_line) (d_check_line : Def K mg "check_line" s_check_line) (d_is_kind : Def K mg "is_kind" s_is_kind) (d_are_kinds : Def K mg "are_kinds" s_are_kinds) (d_last_steps : Def K mg "last_steps" s_last_steps) (d_least_end : Def K mg "least_end" s_least_end) (d_least_passing : Def K mg "least_passing" s_least_passing) (d__law_cell : Def K mg "_law_cell" s__law_cell) (d__law_box : Def K mg "_law_box" s__law_box) (d__law_take : Def K mg "_law_take" s__law_take) (d__law_mixed : Def K mg "_law_mixed" s__law_mixed) (d__law_all : Def K mg "_law_all" s__law_all) (d__law_kinds : Def K mg "_law_kinds" s__law_kinds) (d__law_line : Def K mg "_law_line" s__law_line) (d__law_spoilt : Def K mg "_law_spoilt" s__law_spoilt) (d__law_scene : Def K mg "_law_scene" s__law_scene) (d__law_fewest : Def K mg "_law_fewest" s__law_fewest) (d__law_told_right : Def K mg "_law_told_right" s__law_told_right) (d__law_scene_right : Def K mg "_law_scene_right" s__law_scene_right) (d__law_long_right : Def K mg "_law_long_right" s__law_long_right) (d__law_met : Def K mg "_law_met" s__law_met) (d__law_refused : Def K mg "_law_refused" s__law_refused) (d__law_no_line : Def K mg "_law_no_line" s__law_no_line) (d__law_no_kinds : Def K mg "_law_no_kinds" s__law_no_kinds) (d__law_right : Def K mg "_law_right" s__law_right) (d_law : Def K mg "law" s_law) :
    ∃ fd : FuncData, (∀ (s : Shared) (v : Value), BindsTo s fd ⟨[v], []⟩ [("script", v)]) ∧ ∀ base : Heap, K.In base → base.Ns mainGlobals mg → FnG l.prog w K mg base CX0 10 fa fd ["script"] (spLaw K) := by
  obtain ⟨f, fd, F, e⟩ := d_law
  cases hfa.symm.trans e
  have F0 := F
  obtain ⟨oc, od, kV, doc, pm, an, cdv, ct, osl, rfl, lk, hcd⟩ := F.ex
  refine ⟨PySem.W.fnOf "law" "law" (defArgs s_law) (defBody s_law) (defScope s_law) .none kV doc pm an cdv ct, fun s v => .of_eq rfl, fun base _ _ => ?_⟩
  have xq_C : XQ "InvalidLine" l.prog w K mg base C := by
    obtain ⟨fI, fdI, i1, i2, FI⟩ := xi_C.ini
    exact ⟨xi_C.T, xi_C.xf, xi_C.no, xi_C.hm, xi_C.me, fI, fdI, i1, i2, ok_initL FI ov, FI.binds fun _ _ _ _ _ _ us hl => match us, hl with | [_, _], _ => rfl⟩
  have xq_D : XQ "InvalidKinds" l.prog w K mg base D := by
    obtain ⟨fI, fdI, i1, i2, FI⟩ := xi_D.ini
    exact ⟨xi_D.T, xi_D.xf, xi_D.no, xi_D.hm, xi_D.me, fI, fdI, i1, i2, ok_initK FI ov, FI.binds fun _ _ _ _ _ _ us hl => match us, hl with | [_, _], _ => rfl⟩
  have c_int := Sw.Def.cal (P := l.prog) (w := w) (base := base) d_is_integer (ps := ["value"]) (k := 1) (sp := (spInt K)) (fun _ _ _ _ _ _ us hl => match us, hl with | [_], _ => rfl) fun f fd F => ok_integer F z
  have c_idx := Sw.Def.cal (P := l.prog) (w := w) (base := base) d_is_index (ps := ["value", "many"]) (k := 2) (sp := (spIdx K)) (fun _ _ _ _ _ _ us hl => match us, hl with | [_, _], _ => rfl) fun f fd F => ok_index F c_int
  have c_sgs := Sw.Def.cal (P := l.prog) (w := w) (base := base) d_is_signs (ps := ["value"]) (k := 2) (sp := (spSg K)) (fun _ _ _ _ _ _ us hl => match us, hl with | [_], _ => rfl) fun f fd F => ok_signs F c_int g_MOST_SIGNS
  have c_sg := Sw.Def.cal (P := l.prog) (w := w) (base := base) d_is_sign (ps := ["value", "signs"]) (k := 3) (sp := (spIdx K)) (fun _ _ _ _ _ _ us hl => match us, hl with | [_, _], _ => rfl) fun f fd F => ok_sign F c_idx
  have c_list := Sw.Def.cal (P := l.prog) (w := w) (base := base) d_is_list (ps := ["value"]) (k := 1) (sp := (spSeq K)) (fun _ _ _ _ _ _ us hl => match us, hl with | [_], _ => rfl) fun f fd F => ok_list F z
  have c_line := Sw.Def.cal (P := l.prog) (w := w) (base := base) d_is_line (ps := ["value", "signs"]) (k := 3) (sp := (spLine K)) (fun _ _ _ _ _ _ us hl => match us, hl with | [_, _], _ => rfl) fun f fd F => ok_line F z c_idx
  have x_ckl := Sw.Def.calX (P := l.prog) (w := w) (base := base) d_check_line (ps := ["line", "signs"]) (k := 4) (sp := (spCkL K C)) (fun _ _ _ _ _ _ us hl => match us, hl with | [_, _], _ => rfl) fun f fd F => ok_ckL F xq_C c_line
  have c_kind := Sw.Def.cal (P := l.prog) (w := w) (base := base) d_is_kind (ps := ["value", "signs"]) (k := 4) (sp := (spKind K)) (fun _ _ _ _ _ _ us hl => match us, hl with | [_, _], _ => rfl) fun f fd F => ok_kind F z c_sgs c_sg
  have c_kds := Sw.Def.cal (P := l.prog) (w := w) (base := base) d_are_kinds (ps := ["value", "signs"]) (k := 5) (sp := (spKds K)) (fun _ _ _ _ _ _ us hl => match us, hl with | [_, _], _ => rfl) fun f fd F => ok_kds F z c_list c_kind
  have c_last := Sw.Def.cal (P := l.prog) (w := w) (base := base) d_last_steps (ps := ["one", "other", "i", "j"]) (k := 1) (sp := (spLast K)) (fun _ _ _ _ _ _ us hl => match us, hl with | [_, _, _, _], _ => rfl) fun f fd F => ok_last F z
  have c_end := Sw.Def.cal (P := l.prog) (w := w) (base := base) d_least_end (ps := ["best", "ways", "allowed"]) (k := 1) (sp := spEnd) (fun _ _ _ _ _ _ us hl => match us, hl with | [_, _, _], _ => rfl) fun f fd F => ok_end F z
  have x_lp := Sw.Def.calX (P := l.prog) (w := w) (base := base) d_least_passing (ps := ["one", "other", "kinds"]) (k := 6) (sp := (spLp K C D)) (fun _ _ _ _ _ _ us hl => match us, hl with | [_, _, _], _ => rfl) fun f fd F => ok_lpX F z xq_D g_MOST_SIGNS x_ckl c_kds c_last c_end
  have kx_lp := Sw.Def.calKX (P := l.prog) (w := w) (base := base) d_least_passing (ps := ["one", "other", "kinds"]) (ks := lpKs) (k := 6) (sp := (spLp K C D)) (g := rev3) (gV := rev3)
    (fun kV doc pm an cdv ct us ws hl => by obtain ⟨rfl, c, b, a, rfl⟩ := rev3_inv hl; rfl) rev3_rel fun f fd F => ok_lpX F z xq_D g_MOST_SIGNS x_ckl c_kds c_last c_end
  have c_cell := Sw.Def.cal (P := l.prog) (w := w) (base := base) d__law_cell (ps := ["script", "k"]) (k := 1) (sp := (spCell K)) (fun _ _ _ _ _ _ us hl => match us, hl with | [_, _], _ => rfl) fun f fd F => ok__law_cell F z
  have c_box := Sw.Def.cal (P := l.prog) (w := w) (base := base) d__law_box (ps := ["great"]) (k := 1) (sp := spBox) (fun _ _ _ _ _ _ us hl => match us, hl with | [_], _ => rfl) fun f fd F => ok__law_box F z
  have c_take := Sw.Def.cal (P := l.prog) (w := w) (base := base) d__law_take (ps := ["box", "many"]) (k := 1) (sp := spTake) (fun _ _ _ _ _ _ us hl => match us, hl with | [_, _], _ => rfl) fun f fd F => ok__law_take F z
  have c_mix := Sw.Def.cal (P := l.prog) (w := w) (base := base) d__law_mixed (ps := ["box", "items"]) (k := 2) (sp := spMixed) (fun _ _ _ _ _ _ us hl => match us, hl with | [_, _], _ => rfl) fun f fd F => ok_mixed F z c_take
  have c_all := Sw.Def.cal (P := l.prog) (w := w) (base := base) d__law_all (ps := ["signs"]) (k := 1) (sp := spAllP) (fun _ _ _ _ _ _ us hl => match us, hl with | [_], _ => rfl) fun f fd F => ok_all F z
  have c_ks := Sw.Def.cal (P := l.prog) (w := w) (base := base) d__law_kinds (ps := ["box", "signs"]) (k := 3) (sp := spKindsP) (fun _ _ _ _ _ _ us hl => match us, hl with | [_, _], _ => rfl) fun f fd F => ok_kinds F z c_take c_mix c_all
  have c_ln := Sw.Def.cal (P := l.prog) (w := w) (base := base) d__law_line (ps := ["box", "signs"]) (k := 2) (sp := (spLineP K)) (fun _ _ _ _ _ _ us hl => match us, hl with | [_, _], _ => rfl) fun f fd F => ok_lineP F z c_take
  have c_spo := Sw.Def.cal (P := l.prog) (w := w) (base := base) d__law_spoilt (ps := ["box", "line", "kinds", "often"]) (k := 2) (sp := (spSpoilt K)) (fun _ _ _ _ _ _ us hl => match us, hl with | [_, _, _, _], _ => rfl) fun f fd F => ok_spoilt F z c_take
  have c_sc := Sw.Def.cal (P := l.prog) (w := w) (base := base) d__law_scene (ps := ["box"]) (k := 4) (sp := (spScene K)) (fun _ _ _ _ _ _ us hl => match us, hl with | [_], _ => rfl) fun f fd F => ok_scene F z c_take c_ks c_ln c_spo
  have c_few := Sw.Def.cal (P := l.prog) (w := w) (base := base) d__law_fewest (ps := ["one", "other", "kinds"]) (k := 1) (sp := (spFew K)) (fun _ _ _ _ _ _ us hl => match us, hl with | [_, _, _], _ => rfl) fun f fd F => ok_few F z
  have c_told := Sw.Def.cal (P := l.prog) (w := w) (base := base) d__law_told_right (ps := ["told", "one", "other", "kinds", "due"]) (k := 1) (sp := (spToldR K)) (fun _ _ _ _ _ _ us hl => match us, hl with | [_, _, _, _, _], _ => rfl) fun f fd F => ok_toldR F z
  have q_scr := Sw.Def.calG (P := l.prog) (w := w) (base := base) d__law_scene_right (ps := ["box", "scene"]) (k := 7) (sp := (spSceneR K)) (fun _ _ _ _ _ _ us hl => match us, hl with | [_, _], _ => rfl) fun f fd F => ok_sceneR F z c_few c_told c_mix x_lp kx_lp
  have c_long := Sw.Def.cal (P := l.prog) (w := w) (base := base) d__law_long_right (ps := ["box"]) (k := 7) (sp := spLongR) (fun _ _ _ _ _ _ us hl => match us, hl with | [_], _ => rfl) fun f fd F => ok_longR F z c_take c_told x_lp
  have c_met := Sw.Def.cal (P := l.prog) (w := w) (base := base) d__law_met (ps := ["values"]) (k := 7) (sp := (spMet K)) (fun _ _ _ _ _ _ us hl => match us, hl with | [_], _ => rfl) fun f fd F => ok_met F xq_C xq_D hDC x_lp
  have q_ref := Sw.Def.calG (P := l.prog) (w := w) (base := base) d__law_refused (ps := ["values", "place", "word"]) (k := 8) (sp := (spRef K)) (fun _ _ _ _ _ _ us hl => match us, hl with | [_, _, _], _ => rfl) fun f fd F => ok_ref F z c_met
  have c_nol := Sw.Def.cal (P := l.prog) (w := w) (base := base) d__law_no_line (ps := ["box", "line"]) (k := 2) (sp := (spNoL K)) (fun _ _ _ _ _ _ us hl => match us, hl with | [_, _], _ => rfl) fun f fd F => ok_noL F z c_take
  have c_nok := Sw.Def.cal (P := l.prog) (w := w) (base := base) d__law_no_kinds (ps := ["box", "kinds"]) (k := 2) (sp := (spNoK K)) (fun _ _ _ _ _ _ us hl => match us, hl with | [_, _], _ => rfl) fun f fd F => ok_noK F z c_take
  have q_right := Sw.Def.calG (P := l.prog) (w := w) (base := base) d__law_right (ps := ["box"]) (k := 9) (sp := spRightP) (fun _ _ _ _ _ _ us hl => match us, hl with | [_], _ => rfl) fun f fd F => ok_right F z c_sc q_scr c_nol c_nok q_ref
  exact ok_law F0 z q_right c_long c_box c_cell
end Sw
open PySem PySem.W PyProof.Rows
set_option maxHeartbeats 0 in
theorem PySem.Challenge.cw_spoiltways_k06_least_passings_holds : PySem.Challenge.rw_spoiltways_k06_least_passings.Holds := by
  w_on; o_law; k_head; (case hw => w_witness2)
  k_fill
  refine Sw.walk_G (l := PySem.Challenge.rw_spoiltways_k06_least_passings) (n := 63) (k := 10) (x := "script") (sp := Sw.spLaw) rfl (by decide) rfl ⟨rfl, by decide, by decide⟩ (fun w h Y => PySem.W.kIn_of Y) ?F (fun _ _ a ns hl _ hS => ⟨a, ns, rfl, hS, fun _ _ => rfl⟩)
  case F =>
    intro w mg fa h KX G hmg
    have z : Sw.Z mg := by
      refine' ⟨PySem.W.mg_none_of KX G ?z0, PySem.W.mg_none_of KX G ?z1, PySem.W.mg_none_of KX G ?z2, PySem.W.mg_none_of KX G ?z3, PySem.W.mg_none_of KX G ?z4, PySem.W.mg_none_of KX G ?z5, PySem.W.mg_none_of KX G ?z6, PySem.W.mg_none_of KX G ?z7, PySem.W.mg_none_of KX G ?z8, PySem.W.mg_none_of KX G ?z9, PySem.W.mg_none_of KX G ?z10, PySem.W.mg_none_of KX G ?z11, PySem.W.mg_none_of KX G ?z12, PySem.W.mg_none_of KX G ?z13, PySem.W.mg_none_of KX G ?z14⟩
      (case z0 => k_is)
      (case z1 => k_is)
      (case z2 => k_is)
      (case z3 => k_is)
      (case z4 => k_is)
      (case z5 => k_is)
      (case z6 => k_is)
      (case z7 => k_is)
      (case z8 => k_is)
      (case z9 => k_is)
      (case z10 => k_is)
      (case z11 => k_is)
      (case z12 => k_is)
      (case z13 => k_is)
      (case z14 => k_is)
    obtain ⟨v_MOST_SIGNS, gv_MOST_SIGNS, t_MOST_SIGNS, rfl⟩ : ∃ v, mg "MOST_SIGNS" = some v ∧ ∃ t, v = .int 5 t := by
      refine' ⟨_, PySem.W.mg_of KX G ?a, ?b⟩
      (case a => k_is)
      (case b => exact ⟨_, rfl⟩)
    refine' Sw.all_mk hmg z gv_MOST_SIGNS ?ov ?xi_C ?xi_D ?hDC ?d_is_list ?d_is_integer ?d_is_index ?d_is_signs ?d_is_sign ?d_is_line ?d_check_line ?d_is_kind ?d_are_kinds ?d_last_steps ?d_least_end ?d_least_passing ?d__law_cell ?d__law_box ?d__law_take ?d__law_mixed ?d__law_all ?d__law_kinds ?d__law_line ?d__law_spoilt ?d__law_scene ?d__law_fewest ?d__law_told_right ?d__law_scene_right ?d__law_long_right ?d__law_met ?d__law_refused ?d__law_no_line ?d__law_no_kinds ?d__law_right ?d_law
    case xi_C =>
      refine' ⟨Sw.oex_mk ?h1 ?h2 ?h3 ?h4 ?h5, ⟨?f1, ?f2, ?f3, ?f4⟩, ?no, PySem.W.mg_of KX G ?hm, Sw.exm_mk ?me1 ?me2, Sw.iniq_mk ?i1 ?i2 ?i3 ?i4 ?i5⟩
      (case hm => k_is)
      (case h1 => k_is)
      (case h2 => k_is)
      (case h3 => k_is)
      (case h4 => k_is)
      (case h5 => k_is)
      (case f1 => k_is)
      (case f2 => k_is)
      (case f3 => k_is)
      (case f4 => k_is)
      (case no => k_is)
      (case me1 => k_is)
      (case me2 => first | k_is | rfl | decide +kernel)
      (case i1 => k_is)
      (case i2 => k_is)
      (case i3 => k_is)
      (case i4 => k_is)
      (case i5 => k_is)
    case xi_D =>
      refine' ⟨Sw.oex_mk ?h1 ?h2 ?h3 ?h4 ?h5, ⟨?f1, ?f2, ?f3, ?f4⟩, ?no, PySem.W.mg_of KX G ?hm, Sw.exm_mk ?me1 ?me2, Sw.iniq_mk ?i1 ?i2 ?i3 ?i4 ?i5⟩
      (case hm => k_is)
      (case h1 => k_is)
      (case h2 => k_is)
      (case h3 => k_is)
      (case h4 => k_is)
      (case h5 => k_is)
      (case f1 => k_is)
      (case f2 => k_is)
      (case f3 => k_is)
      (case f4 => k_is)
      (case no => k_is)
      (case me1 => k_is)
      (case me2 => first | k_is | rfl | decide +kernel)
      (case i1 => k_is)
      (case i2 => k_is)
      (case i3 => k_is)
      (case i4 => k_is)
      (case i5 => k_is)
    case ov =>
      refine' ⟨PySem.W.mg_of KX G ?b1, ?b2, ?b3, ?b4, ?b5⟩
      (case b1 => k_is)
      (case b2 => k_is)
      (case b3 => k_is)
      (case b4 => k_is)
      (case b5 => k_is)
    case hDC =>
      refine' Sw.exn_mk ?n1 ?n2
      (case n1 => k_is)
      (case n2 => first | k_is | rfl | decide +kernel)
    case d_is_list =>
      refine' Sw.def_mk KX G ?a ?l ?c ?k
      (case a => k_is)
      (case l => k_is)
      (case c => k_is)
      (case k => k_is)
    case d_is_integer =>
      refine' Sw.def_mk KX G ?a ?l ?c ?k
      (case a => k_is)
      (case l => k_is)
      (case c => k_is)
      (case k => k_is)
    case d_is_index =>
      refine' Sw.def_mk KX G ?a ?l ?c ?k
      (case a => k_is)
      (case l => k_is)
      (case c => k_is)
      (case k => k_is)
    case d_is_signs =>
      refine' Sw.def_mk KX G ?a ?l ?c ?k
      (case a => k_is)
      (case l => k_is)
      (case c => k_is)
      (case k => k_is)
    case d_is_sign =>
      refine' Sw.def_mk KX G ?a ?l ?c ?k
      (case a => k_is)
      (case l => k_is)
      (case c => k_is)
      (case k => k_is)
    case d_is_line =>
      refine' Sw.def_mk KX G ?a ?l ?c ?k
      (case a => k_is)
      (case l => k_is)
      (case c => k_is)
      (case k => k_is)
    case d_check_line =>
      refine' Sw.def_mk KX G ?a ?l ?c ?k
      (case a => k_is)
      (case l => k_is)
      (case c => k_is)
      (case k => k_is)
    case d_is_kind =>
      refine' Sw.def_mk KX G ?a ?l ?c ?k
      (case a => k_is)
      (case l => k_is)
      (case c => k_is)
      (case k => k_is)
    case d_are_kinds =>
      refine' Sw.def_mk KX G ?a ?l ?c ?k
      (case a => k_is)
      (case l => k_is)
      (case c => k_is)
      (case k => k_is)
    case d_last_steps =>
      refine' Sw.def_mk KX G ?a ?l ?c ?k
      (case a => k_is)
      (case l => k_is)
      (case c => k_is)
      (case k => k_is)
    case d_least_end =>
      refine' Sw.def_mk KX G ?a ?l ?c ?k
      (case a => k_is)
      (case l => k_is)
      (case c => k_is)
      (case k => k_is)
    case d_least_passing =>
      refine' Sw.def_mk KX G ?a ?l ?c ?k
      (case a => k_is)
      (case l => k_is)
      (case c => k_is)
      (case k => k_is)
    case d__law_cell =>
      refine' Sw.def_mk KX G ?a ?l ?c ?k
      (case a => k_is)
      (case l => k_is)
      (case c => k_is)
      (case k => k_is)
    case d__law_box =>
      refine' Sw.def_mk KX G ?a ?l ?c ?k
      (case a => k_is)
      (case l => k_is)
      (case c => k_is)
      (case k => k_is)
    case d__law_take =>
      refine' Sw.def_mk KX G ?a ?l ?c ?k
      (case a => k_is)
      (case l => k_is)
      (case c => k_is)
      (case k => k_is)
    case d__law_mixed =>
      refine' Sw.def_mk KX G ?a ?l ?c ?k
      (case a => k_is)
      (case l => k_is)
      (case c => k_is)
      (case k => k_is)
    case d__law_all =>
      refine' Sw.def_mk KX G ?a ?l ?c ?k
      (case a => k_is)
      (case l => k_is)
      (case c => k_is)
      (case k => k_is)
    case d__law_kinds =>
      refine' Sw.def_mk KX G ?a ?l ?c ?k
      (case a => k_is)
      (case l => k_is)
      (case c => k_is)
      (case k => k_is)
    case d__law_line =>
      refine' Sw.def_mk KX G ?a ?l ?c ?k
      (case a => k_is)
      (case l => k_is)
      (case c => k_is)
      (case k => k_is)
    case d__law_spoilt =>
      refine' Sw.def_mk KX G ?a ?l ?c ?k
      (case a => k_is)
      (case l => k_is)
      (case c => k_is)
      (case k => k_is)
    case d__law_scene =>
      refine' Sw.def_mk KX G ?a ?l ?c ?k
      (case a => k_is)
      (case l => k_is)
      (case c => k_is)
      (case k => k_is)
    case d__law_fewest =>
      refine' Sw.def_mk KX G ?a ?l ?c ?k
      (case a => k_is)
      (case l => k_is)
      (case c => k_is)
      (case k => k_is)
    case d__law_told_right =>
      refine' Sw.def_mk KX G ?a ?l ?c ?k
      (case a => k_is)
      (case l => k_is)
      (case c => k_is)
      (case k => k_is)
    case d__law_scene_right =>
      refine' Sw.def_mk KX G ?a ?l ?c ?k
      (case a => k_is)
      (case l => k_is)
      (case c => k_is)
      (case k => k_is)
    case d__law_long_right =>
      refine' Sw.def_mk KX G ?a ?l ?c ?k
      (case a => k_is)
      (case l => k_is)
      (case c => k_is)
      (case k => k_is)
    case d__law_met =>
      refine' Sw.def_mk KX G ?a ?l ?c ?k
      (case a => k_is)
      (case l => k_is)
      (case c => k_is)
      (case k => k_is)
    case d__law_refused =>
      refine' Sw.def_mk KX G ?a ?l ?c ?k
      (case a => k_is)
      (case l => k_is)
      (case c => k_is)
      (case k => k_is)
    case d__law_no_line =>
      refine' Sw.def_mk KX G ?a ?l ?c ?k
      (case a => k_is)
      (case l => k_is)
      (case c => k_is)
      (case k => k_is)
    case d__law_no_kinds =>
      refine' Sw.def_mk KX G ?a ?l ?c ?k
      (case a => k_is)
      (case l => k_is)
      (case c => k_is)
      (case k => k_is)
    case d__law_right =>
      refine' Sw.def_mk KX G ?a ?l ?c ?k
      (case a => k_is)
      (case l => k_is)
      (case c => k_is)
      (case k => k_is)
    case d_law =>
      refine' Sw.def_mk KX G ?a ?l ?c ?k
      (case a => k_is)
      (case l => k_is)
      (case c => k_is)
      (case k => k_is)
