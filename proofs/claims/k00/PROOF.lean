import PyProof.Rows.All
import Wide.All
import OpenK.AllK
import Wide.FinOn
import HandS.ForMost
import HandS.Wide
import HandS.Style
import HandS.IsInst
import HandS.Conv
import HandS.Walk
import HandS.Codes
import HandS.TupAny
import HandS.RaiseMore
import HandS.Flt
import HandS.Flow
import KE.GoesMore
import HandS.Ends
import HandS.ExcInit
import HandS.ExcField
import HandS.ExcOwn
import HandS.TryMany
import HandS.ExcIs
import KE.KExcIs
import HandS.Deep
import KE.KEqDict
import HandS.ListEq
import PyProof.NeKinds
import HandS.DictComp
import HandS.Small
import HandS.TupMul
import HandS.ExcCtx
import HandS.HotCalls
import HandS.ExcInitHot
import HandS.Comp
import PySem.Challenge.RW_spoiltways_k00_errors
set_option Elab.async false
set_option linter.all false
set_option maxRecDepth 100000
set_option maxHeartbeats 4000000
namespace Sw
open PySem PySem.Spec PyProof.Rows L2

/-! ### texts as lists of signs -/
def S (l : List Nat) : Str := ⟨l.toArray⟩
theorem S_len (l : List Nat) : (S l).length = l.length := by simp [S, Str.length]
theorem S_size (l : List Nat) : (S l).cps.size = l.length := by simp [S]
theorem S_list (l : List Nat) : (S l).cps.toList = l := by simp [S]
theorem S_app (a b : List Nat) : S a ++ S b = S (a ++ b) := by
  show Str.append _ _ = _
  simp [S, Str.append]
theorem S_get (l : List Nat) (i : Nat) : (S l).cps[i]? = l[i]? := by simp [S]
theorem S_inj {a b : List Nat} : S a = S b ↔ a = b := by
  constructor
  · intro h
    have e : (S a).cps.toList = (S b).cps.toList := by rw [h]
    rwa [S_list, S_list] at e
  · rintro rfl; rfl
theorem S_dec (a b : List Nat) : decide (V.str (S a) = V.str (S b)) = decide (a = b) := by
  by_cases h : a = b
  · subst h; simp
  · rw [decide_eq_false h, decide_eq_false]
    intro e
    exact h (S_inj.mp (V.str.inj e))

/-! ### calls of own defs -/
section
variable (P : Program) (w : World) (K : PySem.W.Frag) (mg : Str → Option Value) (base : Heap)
/-- the def x of the text st stands -/
def Def (x : Str) (st : Stmt) : Prop := ∃ (f : Addr) (fd : FuncData), Fun K x x st f fd ∧ mg x = some (.ref f)
/-- the def x keeps its promise -/
def Cal (x : Str) (ps : List Str) (k : Nat) (sp : Sp) : Prop := ∃ (f : Addr) (fd : FuncData), FnOk P w K mg base CX0 k f fd ps sp ∧ mg x = some (.ref f) ∧ PySem.W.keepIn K (.ref f) = true ∧ Binds K fd ps []
end
section
variable {P : Program} {w : World} {K : PySem.W.Frag} {mg : Str → Option Value} {base : Heap}
theorem Def.cal {x : Str} {st : Stmt} {ps : List Str} {k : Nat} {sp : Sp} (d : Def K mg x st)
    (b : ∀ (kV doc pm : Value) (an : Option Addr) (cdv ct : Value) (us : List Value), us.length = ps.length → bindArgs (PySem.W.fnOf x x (defArgs st) (defBody st) (defScope st) .none kV doc pm an cdv ct) ⟨us, []⟩ = pure (ps.zip us))
    (ok : ∀ (f : Addr) (fd : FuncData), Fun K x x st f fd → FnOk P w K mg base CX0 k f fd ps sp) : Cal P w K mg base x ps k sp := by
  obtain ⟨f, fd, F, m⟩ := d
  exact ⟨f, fd, ok f fd F, m, F.kp, F.binds b⟩
end
section
variable {X : Cx} {x : Str} {ps : List Str} {k n : Nat} {sp : Sp} {e : Expr} {es : List Expr} {t : TA} {p pos : Pos}
theorem pe_cal (c : Cal X.prog X.w X.K X.mg X.base x ps k sp) (hr : Room n X.A) (ha : PA X (e :: es) t) (hg : Gl X x := by rfl) (hk : k ≤ n := by decide)
    (hdb : (x == ("__debug__" : Str)) = false := by decide) (he : starEach (e :: es) X.env = (false, eval e X.env) :: starEach es X.env := by rfl) (hpl : (backTo pos (starEach es X.env)).any (·.1) = false := by rfl) :
    PE X (.Call (.Name x p) (e :: es) [] pos) (tCall sp [] E0 t) := by
  obtain ⟨f, fd, F, m, kp, b⟩ := c
  exact pe_call F (hr.mono hk) hg m kp b .nil pass0 ha hdb he hpl
end

/-! ### answers to readings -/
section
variable {σ : L2.St} {H : Hp} {Q : VK} {D : Ends}
theorem i_seq {t u : TS} (h : t { D with nx := u D } σ H) : tSeq t u D σ H := h
theorem i_asg {te : TE} {g : TG} (h : te σ H fun x H1 => g x σ H1 D.nx) : tAsg te g D σ H := h
theorem i_name {i : Nat} {v : V} {R : L2.St → Hp → Prop} (h : R (σ.set i (some v)) H) : gName i v σ H R := h
theorem i_ret {te : TE} (h : te σ H D.rt) : tRet te D σ H := h
theorem i_var {i : Nat} {v : V} (e : σ[i]? = some (some v)) (h : Q v H) : tVar i σ H Q := ⟨v, e, h⟩
theorem i_c {v : V} (h : Q v H) : tC v σ H Q := h
theorem i_op {r : R2} {ta tb : TE} (h : ta σ H fun x H1 => tb σ H1 fun y H2 => r x y H2 Q) : tOp r ta tb σ H Q := h
theorem i_un {r : V → Hp → VK → Prop} {ta : TE} (h : ta σ H fun x H1 => r x H1 Q) : tUn r ta σ H Q := h
theorem i_rI {C : Int → Int → Prop} {g : Int → Int → V} {a b : Int} (c : C a b) (h : Q (g a b) H) : rI C g (.int a) (.int b) H Q := ⟨a, b, rfl, rfl, c, h⟩
theorem i_rI0 {g : Int → Int → V} {a b : Int} (h : Q (g a b) H) : rI0 g (.int a) (.int b) H Q := ⟨a, b, rfl, rfl, h⟩
theorem i_cb {r : List V → Hp → VK → Prop} {t : TA} (h : t σ H fun vs H1 => r vs H1 Q) : tCB r t σ H Q := h
theorem i_cons {ta : TE} {tr : TA} {R : List V → Hp → Prop} (h : ta σ H fun x H1 => tr σ H1 fun xs H2 => R (x :: xs) H2) : tCons ta tr σ H R := h
theorem i_nil {R : List V → Hp → Prop} (h : R [] H) : tNil σ H R := h
theorem i_call {sp : Sp} {dvs : List V} {E : XK} {t : TA} (h : t σ H fun vs H1 => sp (vs ++ dvs) H1 Q E) : tCall sp dvs E t σ H Q := h
theorem i_if {c : TT} {t u : TS} (h : c σ H fun b H1 => if b = true then t D σ H1 else u D σ H1) : tIfS c t u D σ H := h
theorem i_ifE {c : TT} {t u : TE} (h : c σ H fun b H1 => if b = true then t σ H1 Q else u σ H1 Q) : tIf c t u σ H Q := h
theorem i_test {t : TE} {R : Bool → Hp → Prop} (h : t σ H fun x H1 => ∃ k, x = .bl k ∧ R k H1) : tTest t σ H R := h
theorem i_bl {k : Bool} {R : Bool → Prop} (h : R k) : ∃ k', V.bl k = .bl k' ∧ R k' := ⟨k, rfl, h⟩
theorem i_and {t u : TT} {R : Bool → Hp → Prop} (h : t σ H fun c H1 => if c = true then u σ H1 R else R false H1) : tAnd t u σ H R := h
theorem i_or {t u : TT} {R : Bool → Hp → Prop} (h : t σ H fun c H1 => if c = true then R true H1 else u σ H1 R) : tOr t u σ H R := h
theorem i_not {t : TT} {R : Bool → Hp → Prop} (h : t σ H fun c H1 => R (!c) H1) : tNot t σ H R := h
theorem i_lst {t : TA} (h : t σ H fun xs H1 => xs.length ≤ sizeLine ∧ ∀ p, H1 p = none → Q (.ref p) (upd H1 p (.lst xs))) : tLst t σ H Q := h
theorem i_tup {t : TA} (h : t σ H fun xs H1 => xs.length ≤ sizeLine ∧ ∀ p, H1 p = none → Q (.ref p) (upd H1 p (.tup xs))) : tTup t σ H Q := h
theorem iteB {p : Prop} [Decidable p] {A B : Prop} (h1 : p → A) (h2 : ¬ p → B) : if decide p = true then A else B := by
  by_cases h : p
  · rw [decide_eq_true h]; exact iteT (h1 h)
  · rw [decide_eq_false h]; exact iteF (h2 h)
theorem iteC {c : Bool} {A B : Prop} (h1 : c = true → A) (h2 : c = false → B) : if c = true then A else B := by
  cases c with
  | true => exact iteT (h1 rfl)
  | false => exact iteF (h2 rfl)
/-- xs[i], xs a list of which the item is known -/
theorem i_ixL {K : PySem.W.Frag} {p : Addr} {xs : List V} {i : Int} {v : V} (h1 : SqL K H p xs) (h2 : atI xs i = some v) (h : Q v H) : rIxL K (.ref p) (.int i) H Q := ⟨p, xs, i, v, rfl, rfl, h1, h2, h⟩
theorem i_ixT {K : PySem.W.Frag} {p : Addr} {xs : List V} {i : Int} {v : V} (h1 : SqT K H p xs) (h2 : atI xs i = some v) (h : Q v H) : rIxT K (.ref p) (.int i) H Q := ⟨p, xs, i, v, rfl, rfl, h1, h2, h⟩
end

/-! ### the box of draws -/
/-- the box at b: the rest n of a great cell, whether it is one, the seed c, the draws d so far -/
structure BoxAt (H : Hp) (b : Addr) (d : Int) : Prop where
  ex : ∃ (n : Int) (g : Bool) (c e : Int), H b = some (.lst [.int n, .bl g, .int c, .int e]) ∧ 0 ≤ n ∧ 0 ≤ c ∧ c < 2147483629 ∧ 0 ≤ e ∧ e ≤ d
/-- all but the object at b is as it was -/
def SB (b : Addr) (H H' : Hp) : Prop := ∀ a o, a ≠ b → H a = some o → H' a = some o
theorem SB.refl {b : Addr} (H : Hp) : SB b H H := fun _ _ _ h => h
theorem SB.trans {b : Addr} {H H1 H2 : Hp} (x : SB b H H1) (y : SB b H1 H2) : SB b H H2 := fun a o n h => y a o n (x a o n h)
theorem SB.of {b : Addr} {H H' : Hp} (s : Same H H') : SB b H H' := fun a o _ h => s a o h
theorem SB.upd {b : Addr} {H : Hp} {o : HO} : SB b H (upd H b o) := fun a u n h => by rw [upd_ne n]; exact h
theorem BoxAt.mono {H : Hp} {b : Addr} {d d' : Int} (x : BoxAt H b d) (h : d ≤ d') : BoxAt H b d' := by
  obtain ⟨n, g, c, e, h1, h2, h3, h4, h5, h6⟩ := x.ex
  exact ⟨n, g, c, e, h1, h2, h3, h4, h5, by omega⟩
theorem BoxAt.same {H H' : Hp} {b : Addr} {d : Int} (x : BoxAt H b d) (s : Same H H') : BoxAt H' b d := by
  obtain ⟨n, g, c, e, h1, h⟩ := x.ex
  exact ⟨n, g, c, e, s _ _ h1, h⟩
theorem same_upd {H : Hp} {p : Addr} {o : HO} (h : H p = none) : Same H (upd H p o) := fun b x e => by
  rw [upd_ne (ne_of_none e h)]
  exact e
/-- _law_take(box, many): a number below many; the box is one draw further at most -/
def spTake : Sp := fun vs H Q _ => ∃ (b : Addr) (m d : Int), vs = [.ref b, .int m] ∧ BoxAt H b d ∧ d ≤ 1000000 ∧ 0 < m ∧ m < 2 ^ 64 ∧
  ∀ (r : Int) (H' : Hp), 0 ≤ r → r < m → BoxAt H' b (d + 1) → SB b H H' → Q (.int r) H'
/-- _law_box(great) -/
def spBox : Sp := fun vs H Q _ => ∃ n : Int, vs = [.int n] ∧ ∀ (b : Addr) (H' : Hp), H b = none → Same H H' → BoxAt H' b 0 → Q (.ref b) H'
/-- _law_cell(script, k) -/
def spCell (K : PySem.W.Frag) : Sp := fun vs H Q _ => ∃ (a : Addr) (ns : List Int) (k : Int), vs = [.ref a, .int k] ∧ SqL K H a (ns.map V.int) ∧ 0 ≤ k ∧ k < 1000 ∧
  ∀ (n : Int) (H' : Hp), Same H H' → Q (.int n) H'
/-! ### more answers -/
section
variable {σ : L2.St} {H : Hp} {Q : VK} {D : Ends} {K : PySem.W.Frag}
theorem i_next (h : D.nx σ H) : tNext D σ H := h
theorem i_drop {te : TE} (h : te σ H fun _ H1 => D.nx σ H1) : tDrop te D σ H := h
theorem i_sub {to ti : TE} {t : TSet} {v : V} {R : L2.St → Hp → Prop} (h : to σ H fun o H1 => ti σ H1 fun i H2 => t o i v H2 fun H3 => R σ H3) : gSub to ti t v σ H R := h
theorem i_setL {p : Addr} {xs : List V} {k : Int} {j : Nat} {v : V} {R : Hp → Prop} (h1 : H p = some (.lst xs)) (h2 : ixN xs.length k = some j) (h : R (upd H p (.lst (xs.set j v)))) : rSetL (.ref p) (.int k) v H R := ⟨p, xs, k, j, rfl, rfl, h1, h2, h⟩
theorem i_int {i : Int} (h : Q (.int i) H) : (∃ j, [V.int i] = [.int j] ∧ Q (.int j) H) ∨ ∃ k, [V.int i] = [.bl k] ∧ Q (.int (if k = true then 1 else 0)) H := .inl ⟨i, rfl, h⟩
theorem i_intB {b : Bool} (h : Q (.int (if b = true then 1 else 0)) H) : (∃ j, [V.bl b] = [.int j] ∧ Q (.int j) H) ∨ ∃ k, [V.bl b] = [.bl k] ∧ Q (.int (if k = true then 1 else 0)) H := .inr ⟨b, rfl, h⟩
theorem i_ix1 {α : Type} {P : α → Prop} {x : α} {R : α → Prop} (h : R x) : ∃ y, x = y ∧ R y := ⟨x, rfl, h⟩
theorem i_abs {i : Int} (h : Q (.int (if i < 0 then -i else i)) H) : ∃ j, [V.int i] = [.int j] ∧ Q (.int (if j < 0 then -j else j)) H := ⟨i, rfl, h⟩
theorem i_two {R : Int → Int → Prop} {i j : Int} (h : R i j) : ∃ a b, [V.int i, V.int j] = [.int a, .int b] ∧ R a b := ⟨i, j, rfl, h⟩
theorem i_one {R : Int → Prop} {i : Int} (h : R i) : ∃ a, [V.int i] = [.int a] ∧ R a := ⟨i, rfl, h⟩
theorem i_cmod {i m : Int} (h : 0 < m) : (fun (_ j : Int) => 0 < j) i m := h
theorem i_bm {T : String} {r : V → List V → Hp → VK → Prop} {to : TE} {t : TA} (h : to σ H fun x H1 => tyV K T x H1 ∧ t σ H1 fun xs H2 => r x xs H2 Q) : tBM K T r to t σ H Q := h
theorem i_tyL {p : Addr} {xs : List V} {R : Prop} (h1 : H p = some (.lst xs)) (h : R) : tyV K "list" (.ref p) H ∧ R := ⟨.inl ⟨rfl, xs, .inl (.inl h1)⟩, h⟩
theorem i_tyS {z : Str} {R : Prop} (h : R) : tyV K "str" (.str z) H ∧ R := ⟨rfl, h⟩
theorem i_append {p : Addr} {xs : List V} {y : V} (h1 : H p = some (.lst xs)) (h2 : xs.length < sizeLine) (h : Q .non (upd H p (.lst (xs ++ [y])))) : rAppend (.ref p) [y] H Q := ⟨p, xs, y, rfl, rfl, h1, h2, h⟩
theorem i_sl {r : V → Option Int → Option Int → Hp → VK → Prop} {te : TE} {tl th : TO} (h : te σ H fun x H1 => tl σ H1 fun l H2 => th σ H2 fun u H3 => r x l u H3 Q) : L2.tSl r te tl th σ H Q := h
theorem i_part {t : TE} {R : Option Int → Hp → Prop} (h : t σ H fun x H1 => ∃ i, x = .int i ∧ R (some i) H1) : tPart t σ H R := h
theorem i_nopart {R : Option Int → Hp → Prop} (h : R none H) : tNoPart σ H R := h
theorem i_exI {R : Int → Prop} {i : Int} (h : R i) : ∃ j, V.int i = .int j ∧ R j := ⟨i, rfl, h⟩
theorem i_chain {r r' : R2} {ta tb tc : TE} (h : ta σ H fun x H1 => tb σ H1 fun y H2 => r x y H2 fun z H3 => ∃ k, z = .bl k ∧ (if k = true then tc σ H3 fun w' H4 => r' y w' H4 Q else Q (.bl false) H3)) : tChain r r' ta tb tc σ H Q := h
theorem i_aug {i : Nat} {te : TE} {ti : TIp} {x : V} (e : σ[i]? = some (some x)) (h : te σ H fun y H1 => ti x y H1 fun z H2 => D.nx (σ.set i (some z)) H2) : tAug i te ti D σ H := ⟨x, e, h⟩
theorem i_ip {g : Int → Int → Int} {a b : Int} (h : Q (.int (g a b)) H) : ipI g (.int a) (.int b) H Q := ⟨a, b, rfl, rfl, h⟩
theorem i_par {i j : Nat} {ta : TA} (h : ta σ H fun vs H1 => ∃ v w, vs = [v, w] ∧ D.nx ((σ.set i (some v)).set j (some w)) H1) : tPar i j ta D σ H := h
theorem i_pair {R : V → V → Prop} {a b : V} (h : R a b) : ∃ v w, [a, b] = [v, w] ∧ R v w := ⟨a, b, rfl, h⟩
theorem i_andV {ta tb : TE} (h : ta σ H fun x H1 => ∃ c, x = .bl c ∧ if c = true then tb σ H1 Q else Q (.bl false) H1) : tAndV ta tb σ H Q := h
theorem i_orV {ta tb : TE} (h : ta σ H fun x H1 => ∃ c, x = .bl c ∧ if c = true then Q (.bl true) H1 else tb σ H1 Q) : tOrV ta tb σ H Q := h
theorem i_notV {ta : TE} (h : ta σ H fun x H1 => ∃ c, x = .bl c ∧ Q (.bl (!c)) H1) : tNotV ta σ H Q := h
theorem i_m1 {r : V → List V → Hp → VK → Prop} {to te : TE} (h : to σ H fun x H1 => (∃ a, x = .str a) ∧ te σ H1 fun y H2 => r x [y] H2 Q) : tM1 r to te σ H Q := h
theorem i_str {z : Str} {R : Prop} (h : R) : (∃ a, V.str z = .str a) ∧ R := ⟨⟨z, rfl⟩, h⟩
theorem i_len {p : Addr} {ys : List V} (h1 : SqL K H p ys ∨ SqT K H p ys) (h : Q (.int ys.length) H) : ∃ q zs, [V.ref p] = [.ref q] ∧ (SqL K H q zs ∨ SqT K H q zs) ∧ Q (.int zs.length) H := ⟨p, ys, rfl, h1, h⟩
theorem i_lenS {l : List Nat} (h1 : l.length ≤ sizeLine) (h : Q (.int (l.length : Int)) H) : ∃ z, [V.str (S l)] = [.str z] ∧ z.length ≤ sizeLine ∧ Q (.int z.length) H := ⟨S l, rfl, by rw [S_len]; exact h1, by rw [S_len]; exact h⟩
end
theorem sqL_of {K : PySem.W.Frag} {H : Hp} {a : Addr} {xs : List V} (h : H a = some (.lst xs)) : SqL K H a xs := .inl (.inl h)
theorem sqT_of {K : PySem.W.Frag} {H : Hp} {a : Addr} {xs : List V} (h : H a = some (.tup xs)) : SqT K H a xs := .inl (.inl h)
/-- the part of a text between two places -/
def cut (l : List Nat) (lo hi : Option Int) : List Nat := (l.drop (HT.sIx l.length 0 lo)).take (HT.sIx l.length l.length hi - HT.sIx l.length 0 lo)
theorem cutS_S (l : List Nat) (lo hi : Option Int) : cutS (S l) lo hi = S (cut l lo hi) := by
  unfold cutS cut
  rw [S_list, S_len]; rfl
theorem cut_from (l : List Nat) (k : Nat) : cut l (some (k : Int)) none = l.drop k := by
  unfold cut
  rw [HT.sIx_nat, HT.sIx_none]
  rcases Nat.le_total k l.length with h | h
  · rw [Nat.min_eq_left h, List.take_of_length_le (by rw [List.length_drop]; omega)]
  · rw [Nat.min_eq_right h, List.drop_length, List.drop_of_length_le h, List.take_nil]
theorem cut_to (l : List Nat) (k : Nat) : cut l none (some (k : Int)) = l.take k := by
  unfold cut
  rw [HT.sIx_nat, HT.sIx_none, List.drop_zero, Nat.sub_zero]
  rcases Nat.le_total k l.length with h | h
  · rw [Nat.min_eq_left h]
  · rw [Nat.min_eq_right h, List.take_length, List.take_of_length_le h]
theorem i_slS {l : List Nat} {lo hi : Option Int} {H : Hp} {Q : VK} (h1 : l.length ≤ sizeLine) (h : Q (.str (S (cut l lo hi))) H) : rSlS (.str (S l)) lo hi H Q := ⟨S l, rfl, by rw [S_len]; exact h1, by rw [cutS_S]; exact h⟩
theorem i_tB {t : TE} {R : Bool → Hp → Prop} {σ : L2.St} {H : Hp} (h : t σ H fun x H1 => ∃ c, x = .bl c ∧ R c H1) : tB t σ H R := h
theorem i_retN {σ : L2.St} {H : Hp} {D : Ends} (h : D.rt .non H) : tRetN D σ H := h
theorem i_par3 {i j l : Nat} {ta : TA} {σ : L2.St} {H : Hp} {D : Ends} (h : ta σ H fun vs H1 => ∃ u v w, vs = [u, v, w] ∧ D.nx (((σ.set i (some u)).set j (some v)).set l (some w)) H1) : tPar3 i j l ta D σ H := h
theorem i_trip {R : V → V → V → Prop} {a b c : V} (h : R a b c) : ∃ u v w, [a, b, c] = [u, v, w] ∧ R u v w := ⟨a, b, c, rfl, h⟩
theorem i_gTup {K : PySem.W.Frag} {n : Nat} {t : TGs} {a : Addr} {xs : List V} {σ : L2.St} {H : Hp} {R : L2.St → Hp → Prop} (h1 : SqT K H a xs) (h2 : xs.length = n) (h : t xs σ H R) : gTup K n t (.ref a) σ H R := ⟨a, xs, rfl, h1, h2, h⟩
theorem i_gCons {t : TG} {u : TGs} {v : V} {r : List V} {σ : L2.St} {H : Hp} {R : L2.St → Hp → Prop} (h : t v σ H fun σ' H' => u r σ' H' R) : gCons t u (v :: r) σ H R := ⟨v, r, rfl, h⟩
theorem i_gNil {σ : L2.St} {H : Hp} {R : L2.St → Hp → Prop} (h : R σ H) : gNil [] σ H R := ⟨rfl, h⟩
theorem i_lstRg {te : L2.St → Hp → (Int → Int → Hp → Prop) → Prop} {σ : L2.St} {H : Hp} {Q : VK} (h : te σ H fun a b H1 => RgOk a b ∧ ∀ q, H1 q = none → Q (.ref q) (upd H1 q (.lst (rgV a b)))) : tLstRg te σ H Q := h
theorem i_rg1 {ta : TE} {σ : L2.St} {H : Hp} {R : Int → Int → Hp → Prop} (h : ta σ H fun x H1 => ∃ n, x = .int n ∧ R 0 n H1) : tRg1 ta σ H R := h
theorem i_pow {g : Int → Int → V} {a b : Int} {H : Hp} {Q : VK} (h1 : 0 ≤ b) (h2 : b ≤ 1000000) (h3 : a.natAbs < 2 ^ 64) (h : Q (g a b) H) : rI CPow g (.int a) (.int b) H Q := ⟨a, b, rfl, rfl, ⟨h1, h2, h3⟩, h⟩
theorem S_le {l : List Nat} (h : l.length ≤ 100000) : (S l).length ≤ sizeLine := Nat.le_trans h (by decide)
theorem ints_get {ns : List Int} {j : Nat} {v : V} (h : (ns.map V.int)[j]? = some v) : ∃ i, ns[j]? = some i ∧ v = .int i := by
  rw [List.getElem?_map] at h
  cases e : ns[j]? with
  | none => rw [e] at h; cases h
  | some i => rw [e] at h; exact ⟨i, rfl, (Option.some.inj h).symm⟩
theorem ints_at {ns : List Int} {j : Nat} (h : j < ns.length) : (ns.map V.int)[j]? = some (.int ns[j]) := by
  rw [List.getElem?_map, List.getElem?_eq_getElem h]; rfl
theorem atI_ints {ns : List Int} {i : Int} (h0 : 0 ≤ i) (h1 : i < ns.length) : atI (ns.map V.int) i = some (.int (ns[i.toNat]'(by omega))) := by
  have h := atI_nat (xs := ns.map V.int) (ints_at (ns := ns) (show i.toNat < ns.length by omega))
  rwa [show ((i.toNat : Nat) : Int) = i by omega] at h
end Sw
namespace Sw
open PySem PySem.Spec PyProof.Rows L2
/-! ### x[::-1] of a text -/
def tRevS (te : TE) : TE := fun σ H Q => te σ H fun x H1 => ∃ l, x = .str (S l) ∧ l.length ≤ sizeLine ∧ Q (.str (S l.reverse)) H1
theorem fmap_map {α β : Type} {f : α → Option β} {g : α → β} : ∀ {l : List α}, (∀ a ∈ l, f a = some (g a)) → l.filterMap f = l.map g
  | [], _ => rfl
  | a :: l, h => by
    rw [List.filterMap_cons, h a List.mem_cons_self, List.map_cons, fmap_map fun b hb => h b (List.mem_cons_of_mem _ hb)]
theorem rev_list (l : List Nat) : ((Builtin.Str.strSliceIndices none none (-1) l.length).filterMap (l.toArray[·]?)) = l.reverse := by
  rw [PyProof.Rows.picked_rev, List.filterMap_map]
  apply List.ext_getElem?
  intro k
  have hf : List.filterMap ((fun x => l.toArray[x]?) ∘ fun k => l.length - 1 - k) (List.range l.length) = (List.range l.length).map fun k => l.getD (l.length - 1 - k) 0 := by
    refine fmap_map fun a ha => ?_
    have ha' : a < l.length := List.mem_range.mp ha
    have hb : l.length - 1 - a < l.length := by omega
    show l.toArray[l.length - 1 - a]? = some (l.getD (l.length - 1 - a) 0)
    rw [List.getElem?_toArray, List.getD_eq_getElem?_getD, List.getElem?_eq_getElem hb]
    rfl
  rw [hf, List.getElem?_map]
  by_cases hk : k < l.length
  · have hb : l.length - 1 - k < l.length := by omega
    rw [List.getElem?_range hk, List.getElem?_reverse hk]
    show some (l.getD (l.length - 1 - k) 0) = _
    rw [List.getD_eq_getElem?_getD, List.getElem?_eq_getElem hb]
    rfl
  · rw [List.getElem?_eq_none (by rw [List.length_range]; omega), List.getElem?_eq_none (by rw [List.length_reverse]; omega)]
    rfl
theorem pe_revS {X : Cx} {e : Expr} {te : TE} {k : Nat} {p1 p2 p3 pos : Pos} (he : PE X e te) :
    PE X (.Subscript e (.Slice none none (some (.UnaryOp .USub (.Constant (.int 1) k p1) p2)) p3) pos) (tRevS te) := by
  constructor
  intro pins s σ H Q I h
  refine Subscript_ (thn (he.run pins s σ H _ I h) fun v s1 ⟨x, H1, I1, r1, l, ex, hl, q⟩ => ?_)
  subst ex
  obtain ⟨tk, rfl⟩ := r1
  have st : PO X (some (.UnaryOp .USub (.Constant (.int 1) k p1) p2)) (tPart (tUn (rU fun i => .int (-i)) (tC (.int 1)))) := po_some (pe_un un_neg pe_int)
  refine wpAny_Slice (thn (po_none.run pins s1 σ H1 (fun o G => o = none ∧ G = H1) I1 ⟨rfl, rfl⟩) fun w1 s2 ⟨o1, G1, J1, z1, a1, b1⟩ => ?_)
  subst a1 b1
  refine thn (po_none.run pins s2 σ G1 (fun o G => o = none ∧ G = G1) J1 ⟨rfl, rfl⟩) fun w2 s3 ⟨o2, G2, J2, z2, a2, b2⟩ => ?_
  subst a2 b2
  refine thn (st.run pins s3 σ G2 (fun o G => o = some (-1) ∧ G = G2) J2 ⟨1, rfl, -1, rfl, rfl, rfl⟩) fun w3 s4 ⟨o3, G3, J3, z3, a3, b3⟩ => ?_
  subst a3 b3
  have J4 : Inv X pins σ G3 { s4 with heap := s4.heap.push { cls := .type "slice", data := .fields #[w1, w2, w3] } } := J3.kept (t' := s4.toks) fun b ob q => Heap.get?_push_of_some _ q
  obtain ⟨y1, rfl, f1⟩ := IsPart.raw z1
  obtain ⟨y2, rfl, f2⟩ := IsPart.raw z2
  obtain ⟨y3, rfl, f3⟩ := IsPart.raw z3
  cases y1 with
  | some y => cases f1
  | none =>
  cases y2 with
  | some y => cases f2
  | none =>
  cases y3 with
  | none => cases f3
  | some y =>
  obtain ⟨m, u⟩ := y
  have em : m = -1 := Option.some.inj f3
  subst em
  refine tail_any (T := "str") (id := _) (ops := [.str (S l) tk, .ref s4.heap.objs.size]) (typeIs_str _ _ _) F.slot_str_getitem.lookup ?_ (by with_unfolding_all rfl)
  refine wpAny_getItem_str_slice (l := none) (u := none) (st := some (-1, u)) ⟨_, Heap.get?_push_size _ rfl, rfl, rfl⟩ rfl ?_
  show Made.post (if ((-1 : Int) == 1 && (Builtin.Str.strSliceIndices none none (-1) (S l).length).length == (S l).length) = true then Made.val (.str (S l) tk)
    else Made.str ⟨((Builtin.Str.strSliceIndices none none (-1) (S l).length).filterMap ((S l).cps[·]?)).toArray⟩) (EP X pins σ Q) _
  rw [if_neg (by rw [show ((-1 : Int) == 1) = false from rfl, Bool.false_and]; exact Bool.false_ne_true)]
  have e : ((Builtin.Str.strSliceIndices none none (-1) (S l).length).filterMap ((S l).cps[·]?)) = l.reverse := by
    rw [S_len]
    exact rev_list l
  rw [e]
  refine ⟨by show (S l.reverse).length ≤ sizeLine; rw [S_len, List.length_reverse]; exact hl, .str (S l.reverse), G3, J4.tok _, ⟨_, rfl⟩, q⟩
/-! ### enumerate(text) -/
/-- a text's signs, each in a new pair with its number -/
def ItE (x : Str) : It := ⟨fun i _ => i < x.cps.size, fun i H v H' => ∃ T c, v = .ref T ∧ H T = none ∧ x.cps[i]? = some c ∧ H' = upd H T (.tup [.int (i : Nat), .str ⟨#[c]⟩]), fun i _ => i = x.cps.size⟩
theorem turn_enumS {P : Program} {w : World} {K : PySem.W.Frag} {elts : List Expr} {kk : Nat} {tpos : Pos} (x : Str) (t : Tok) (e it : Addr) (hne : e ≠ it) :
    Turn P w K (.Tuple elts kk tpos) (ItE x) [e, it] e (fun i h => (∃ old, IsEnum h e it ((i : Nat) : Int) old) ∧ h.IsStrIter it (strIterType x) x t i) := by
  refine ⟨by simp, fun i h st b hb => ?_, fun i h h' st k => ?_, ?_, ?_, fun A i s Q E st h => ?_⟩
  · obtain ⟨⟨old, he⟩, o, ho, hc, hd⟩ := st
    have e' : b = e ∨ b = it := by simpa using hb
    rcases e' with rfl | rfl
    · exact ⟨_, he, fun v q => nomatch q⟩
    · exact ⟨o, ho, fun v q => by rw [hd] at q; cases q⟩
  · obtain ⟨⟨old, he⟩, o, ho, z⟩ := st
    exact ⟨⟨old, k e (by simp) _ he⟩, o, k it (by simp) o ho, z⟩
  · rintro X rfl rfl rfl hc i pins s σ H E I hf ⟨⟨old, he⟩, hit⟩ hg
    have hh : X.A.in1.handled = none := I.ok.hd hc
    have DD := Draws.text (prog := X.prog) (w := X.w) (A := X.A.in1) hh it x t
    have l1 : e < s.heap.objs.size := Heap.lt_size he
    have l2 : it < s.heap.objs.size := by obtain ⟨_, q, _⟩ := hit; exact Heap.lt_size q
    refine wpAny_pyNext_enum_itemD DD he hit hg hne (by simpa using hne) fun v h1 tk hv ho hit' hT hsz hk => ?_
    obtain ⟨c, u, hc', rfl⟩ := hv
    refine ⟨_, rfl, wpAny_letOwnedTupleGo_enum (s := { s with heap := h1, toks := tk + 1 }) ho fun h2 he' sb => ?_⟩
    have nT := Nat.ne_of_gt l1
    have gT : h2.get? s.heap.objs.size = some { cls := .type "tuple", data := .seq #[.int i tk, .str ⟨#[c]⟩ u] } := (sb.2 _ nT).trans hT
    have fresh : H s.heap.objs.size = none := I.hok.fresh (Nat.le_refl _)
    have new : ObjOk X.prog X.w (upd H s.heap.objs.size (.tup [.int (i : Nat), .str ⟨#[c]⟩])) h2 s.heap.objs.size (.tup [.int (i : Nat), .str ⟨#[c]⟩]) :=
      ⟨Nat.le_of_ble_eq_true rfl, [.int i tk, .str ⟨#[c]⟩ u], .cons ⟨_, rfl⟩ (.cons ⟨_, rfl⟩ .nil), _, gT, rfl, _, rfl⟩
    have J : Inv X pins σ (upd H s.heap.objs.size (.tup [.int (i : Nat), .str ⟨#[c]⟩])) { s with heap := h2, toks := tk + 1 } := by
      refine I.turnedNew (ch := [e, it]) (fun b ob hb q => ?_) hf (Nat.le_refl _) new
      have n1 : b ≠ e := fun z => hb (by simp [z])
      have n2 : b ≠ it := fun z => hb (by simp [z])
      exact (sb.2 b n1).trans (hk b ob n1 n2 q)
    refine ⟨.ref s.heap.objs.size, _, J, rfl, ⟨_, c, rfl, fresh, hc', rfl⟩, ⟨⟨.str ⟨#[c]⟩ u, ?_⟩, ?_⟩, fun b hb => ?_⟩
    · rw [show ((i + 1 : Nat) : Int) = (i : Int) + 1 by omega]
      exact he'
    · obtain ⟨o, g1, g2⟩ := hit'
      exact ⟨o, (sb.2 it (Ne.symm hne)).trans g1, g2⟩
    · have lb : b < s.heap.objs.size := by
        have e' : b = e ∨ b = it := by simpa using hb
        rcases e' with rfl | rfl <;> assumption
      rw [upd_ne (Nat.ne_of_lt lb)]
      exact (hf b hb).1
  · rintro X rfl rfl rfl hc i pins s σ H E I hf ⟨⟨old, he⟩, hit⟩ hg
    have hh : X.A.in1.handled = none := I.ok.hd hc
    have DD := Draws.text (prog := X.prog) (w := X.w) (A := X.A.in1) hh it x t
    have hi : i = x.cps.size := hg
    subst hi
    obtain ⟨f0, f1, f2, f3, f4, f5⟩ := hf it (by simp)
    exact wpAny_pyNext_enum_endD DD he hit fun h1 eb => ⟨rfl, I.turned (t' := s.toks) (fun b o hb q => eb b o hb q) f0 f1 f3 f4 f5⟩
  · obtain ⟨⟨old, he⟩, _⟩ := st
    exact wpAny_pyIter_enum he h
def iEnS (ta : TA) : TI := fun σ H R => ta σ H fun vs H1 => ∃ x, vs = [.str x] ∧ R (ItE x) H1
theorem pi_enumS {X : Cx} {e : Expr} {ta : TA} {p pos tpos : Pos} {elts : List Expr} {kk : Nat} (hg : Gl X "enumerate") (hm : X.mg "enumerate" = none) (ha : PA X [e] ta) (hs : starEach [e] X.env = [(false, eval e X.env)] := by rfl) :
    PI X (.Tuple elts kk tpos) (.Call (.Name "enumerate" p) [e] [] pos) (iEnS ta) := by
  constructor
  intro pins s σ H R I h
  refine Call_ (ld_blt I hg hm boot_enumerate (PyProof.Rows.callWith_type1 (thn (ha.run pos pins s σ H _ I h) fun us s1 q1 => ?_) hs rfl))
  obtain ⟨vs, H1, I1, r1, x, rfl, q⟩ := q1
  cases r1 with
  | cons r rr =>
    cases rr
    obtain ⟨t, rfl⟩ := r
    refine call_enumerate_str fun h1 he hit hsz hk => wpAny_pyIter_enum he ?_
    have J : Inv X pins σ H1 { s1 with heap := h1 } := I1.kept (t' := s1.toks) hk
    refine ⟨s1.heap.objs.size + 1, [s1.heap.objs.size + 1, s1.heap.objs.size], _, ItE x, H1, rfl, J, turn_enumS x t _ _ (Nat.succ_ne_self _), ⟨⟨.none, he⟩, hit⟩, fun b hb => ?_, q⟩
    have lb : s1.heap.objs.size ≤ b := by
      have e' : b = s1.heap.objs.size + 1 ∨ b = s1.heap.objs.size := by simpa using hb
      rcases e' with rfl | rfl
      · exact Nat.le_succ _
      · exact Nat.le_refl _
    exact I1.fpOk lb (I1.hok.fresh lb)
theorem walk_enumS {x : Str} : Walk (ItE x) x.cps.size (fun _ => True) (fun i H v H' => ∃ T c, v = .ref T ∧ H T = none ∧ x.cps[i]? = some c ∧ H' = upd H T (.tup [.int (i : Nat), .str ⟨#[c]⟩])) :=
  ⟨fun _ _ hi _ => hi, fun _ _ => rfl, fun _ _ _ _ _ _ y => y⟩
end Sw
namespace Sw
open PySem PySem.Spec PyProof.Rows L2
/-! ### comprehensions that leave all as it was -/
theorem lc_map {J : It} {n : Nat} {G : Hp → Prop} {Y : Nat → Hp → V → Hp → Prop} {g : TG} {te : TE} {vs : List Nat} {σ : L2.St} {H1 : Hp} {D : Addr} {Qd : Hp → Prop} (w : Walk J n G Y) (f : Nat → V)
    (hn : n ≤ 1000000) (nD : H1 D = none) (hG : ∀ H, Same H1 H → G H)
    (hs : ∀ i x H H', i < n → Same H1 H → Y i H x H' → ∀ R : V → Hp → Prop, (∀ H4, Same H H4 → R (f i) H4) → g x (wipe σ vs) H' fun σ2 H2 => wipe σ2 vs = wipe σ vs ∧ te σ2 H2 R)
    (hd : ∀ H, Same H1 H → H D = some (.lst ((List.range n).map f)) → Qd H)
    (hmono : ∀ x σ H (R R' : L2.St → Hp → Prop), (∀ σ' H', R σ' H' → R' σ' H') → g x σ H R → g x σ H R') :
    ∃ W : Nat → Nat → Hp → Prop, (∃ m, W 0 m (upd H1 D (.lst []))) ∧ ∀ i m H, W i m H →
      (J.stop i H ∧ Qd H) ∨ (J.go i H ∧ ∃ Nx : Hp → Prop, (∀ H', Nx H' → ∃ m', m' < m ∧ W (i + 1) m' H') ∧ ∀ x H', J.yld i H x H' → g x (wipe σ vs) H' fun σ2 H2 => wipe σ2 vs = wipe σ vs ∧ tYes σ2 H2 fun b H3 =>
        if b = true then te σ2 H3 fun y H4 => ∃ acc, H4 D = some (.lst acc) ∧ acc.length < sizeLine ∧ Nx (upd H4 D (.lst (acc ++ [y]))) else Nx H3) := by
  refine lc_it w (fun i H => Same H1 H ∧ H D = some (.lst ((List.range i).map f))) ⟨same_upd nD, upd_same⟩ (fun i H _ p => hG H p.1) (fun i x H H' hi p y => ?_) (fun H p => hd H p.1 p.2)
  refine hmono _ _ _ _ _ (fun σ2 H2 q => ?_) (hs i x H H' hi p.1 y (fun y H4 => ∃ acc, H4 D = some (.lst acc) ∧ acc.length < sizeLine ∧ (Same H1 (upd H4 D (.lst (acc ++ [y]))) ∧ (upd H4 D (.lst (acc ++ [y]))) D = some (.lst ((List.range (i + 1)).map f)))) (fun H4 s4 => ?_))
  · refine ⟨q.1, ?_⟩
    unfold tYes
    dsimp only
    rw [if_pos rfl]
    exact q.2
  · refine ⟨_, s4 _ _ p.2, ?_, fun b o e => ?_, ?_⟩
    · rw [List.length_map, List.length_range]
      exact Nat.lt_of_lt_of_le hi (Nat.le_trans hn (by decide))
    · rw [upd_ne (ne_of_none e nD)]
      exact s4 _ _ (p.1 _ _ e)
    · rw [upd_same, List.range_succ, List.map_append]
      rfl
theorem mono_name {i : Nat} (x : V) (σ : L2.St) (H : Hp) (R R' : L2.St → Hp → Prop) (h : ∀ σ' H', R σ' H' → R' σ' H') (q : gName i x σ H R) : gName i x σ H R' := h _ _ q
theorem range_map_get {α β : Type} (l : List α) (F : Nat → β) (g : α → β) (h : ∀ i x, l[i]? = some x → F i = g x) : (List.range l.length).map F = l.map g := by
  apply List.ext_getElem?
  intro i
  rw [List.getElem?_map, List.getElem?_map]
  by_cases hi : i < l.length
  · rw [List.getElem?_range hi, List.getElem?_eq_getElem hi]
    show some (F i) = some (g l[i])
    rw [h i _ (List.getElem?_eq_getElem hi)]
  · rw [List.getElem?_eq_none (by rw [List.length_range]; omega), List.getElem?_eq_none (by omega)]; rfl
/-! ### isinstance -/
theorem i_isi {K : PySem.W.Frag} {H : Hp} {Q : VK} {x : V} {t : Value} {n : String} (b : Bool) (h1 : TyX K H x t) (h2 : PySem.W.kitOne K t (.type n) = some b) (h : Q (.bl b) H) : rIsi K [x, .ty n] H Q := ⟨x, .ty n, t, .type n, b, rfl, .ty n, h1, h2, h⟩
/-! ### texts of letters -/
def azB (l : List Nat) : Bool := l.all fun c => decide (97 ≤ c ∧ c ≤ 122)
theorem azB_app (a b : List Nat) : azB (a ++ b) = (azB a && azB b) := by simp [azB, List.all_append]
theorem azB_take {l : List Nat} (h : azB l = true) (n : Nat) : azB (l.take n) = true := by
  unfold azB at *
  rw [List.all_eq_true] at *
  exact fun x hx => h x (List.mem_of_mem_take hx)
theorem azB_drop {l : List Nat} (h : azB l = true) (n : Nat) : azB (l.drop n) = true := by
  unfold azB at *
  rw [List.all_eq_true] at *
  exact fun x hx => h x (List.mem_of_mem_drop hx)
theorem az_letters : (("abcdefghijklmnopqrstuvwxyz" : Str)).cps.toList = List.range' 97 26 := by decide +kernel
theorem az_in (c : Nat) : decide (c ∈ (("abcdefghijklmnopqrstuvwxyz" : Str)).cps.toList) = decide (97 ≤ c ∧ c ≤ 122) := by
  rw [az_letters]
  by_cases h : 97 ≤ c ∧ c ≤ 122
  · rw [decide_eq_true h, decide_eq_true]
    exact List.mem_range'_1.mpr ⟨h.1, by omega⟩
  · rw [decide_eq_false h, decide_eq_false]
    intro q
    have := List.mem_range'_1.mp q
    omega
theorem e_empty : (("" : Str)) = S [] := by decide +kernel
theorem starts_S (a b : List Nat) : Txt.startswith (S a) (S b) = decide (a.take b.length = b) := by
  unfold Txt.startswith Builtin.Str.subAt
  rw [S_len, S_len]
  show (decide (0 + b.length ≤ a.length) && ((a.toArray.extract 0 (0 + b.length)) == b.toArray)) = _
  rw [Nat.zero_add]
  have e : (a.toArray.extract 0 b.length) = (a.take b.length).toArray := by
    rw [List.extract_toArray, List.extract_eq_take_drop]
    simp
  rw [e]
  by_cases h : a.take b.length = b
  · rw [h, decide_eq_true rfl, beq_self_eq_true, Bool.and_true, decide_eq_true]
    have := congrArg List.length h
    rw [List.length_take] at this
    omega
  · rw [decide_eq_false h]
    have : ((a.take b.length).toArray == b.toArray) = false := by
      rw [beq_eq_false_iff_ne]
      intro q
      exact h (by simpa using q)
    rw [this, Bool.and_false]
/-! ### what is known of a heap stays -/
theorem Same.at {H H' : Hp} {a : Addr} {o : HO} (s : Same H H') (h : H a = some o) : H' a = some o := s a o h
theorem Same.sqT {K : PySem.W.Frag} {H H' : Hp} {a : Addr} {xs : List V} (e : Same H H') (h : SqT K H a xs) : SqT K H' a xs := by
  rcases h with (h | ⟨o, h⟩) | h
  · exact .inl (.inl (e _ _ h))
  · exact .inl (.inr ⟨o, e _ _ h⟩)
  · exact .inr h
theorem Same.sqL {K : PySem.W.Frag} {H H' : Hp} {a : Addr} {xs : List V} (e : Same H H') (h : SqL K H a xs) : SqL K H' a xs := e.seq h
theorem Same.upd_new {H H1 : Hp} {p : Addr} {o : HO} (s : Same H H1) (n : H1 p = none) : Same H (upd H1 p o) := s.trans (same_upd n)
/-- an object that is new since H is written: what was tracked at H stays -/
theorem Same.set_new {H H1 : Hp} {p : Addr} {o : HO} (s : Same H H1) (n : H p = none) : Same H (upd H1 p o) := fun b x e => by
  rw [upd_ne (ne_of_none e n)]
  exact s _ _ e
/-! ### loops and comprehensions, their source apart -/
def LcGo (J : It) (g : TG) (tt : TT) (te : TE) (vs : List Nat) (σ : L2.St) (H : Hp) (Q : VK) : Prop := tLc (fun _ H R => R J H) g tt te vs σ H Q
def ForGo (J : It) (g : TG) (tb : TS) (D : Ends) (σ : L2.St) (H : Hp) : Prop := tFor (fun _ H R => R J H) g tb D σ H
theorem i_lc {wi : TI} {g : TG} {tt : TT} {te : TE} {vs : List Nat} {σ : L2.St} {H : Hp} {Q : VK} (h : wi σ H fun J H1 => LcGo J g tt te vs σ H1 Q) : tLc wi g tt te vs σ H Q := h
theorem i_for {wi : TI} {g : TG} {tb : TS} {D : Ends} {σ : L2.St} {H : Hp} (h : wi σ H fun J H1 => ForGo J g tb D σ H1) : tFor wi g tb D σ H := h
theorem i_iList {K : PySem.W.Frag} {tl : TE} {R : It → Hp → Prop} {σ : L2.St} {H : Hp} (h : tl σ H fun x H1 => ∃ a, x = .ref a ∧ (∃ xs, SqL K H1 a xs) ∧ R (Itl K a) H1) : iList K tl σ H R := h
theorem i_iTup {K : PySem.W.Frag} {tl : TE} {R : It → Hp → Prop} {σ : L2.St} {H : Hp} (h : tl σ H fun x H1 => ∃ a, x = .ref a ∧ (∃ xs, SqT K H1 a xs) ∧ R (Itt K a) H1) : iTup K tl σ H R := h
theorem i_iStr {te : TE} {R : It → Hp → Prop} {σ : L2.St} {H : Hp} (h : te σ H fun v H1 => ∃ x, v = .str x ∧ R (Its x) H1) : iStr te σ H R := h
theorem i_iRng1 {ta : TA} {R : It → Hp → Prop} {σ : L2.St} {H : Hp} (h : ta σ H fun vs H1 => ∃ j : Int, vs = [.int j] ∧ -(2 ^ 62) ≤ j ∧ j < 2 ^ 62 ∧ R (Itr 0 j.toNat) H1) : iRng1 ta σ H R := h
theorem i_iEnS {ta : TA} {R : It → Hp → Prop} {σ : L2.St} {H : Hp} (h : ta σ H fun vs H1 => ∃ x, vs = [.str x] ∧ R (ItE x) H1) : iEnS ta σ H R := h
theorem i_rng {j : Int} {A : Prop} (h0 : 0 ≤ j) (h1 : j ≤ 1000000) (h : A) : -(2 ^ 62) ≤ j ∧ j < 2 ^ 62 ∧ A := ⟨by omega, by omega, h⟩
theorem i_sqL {K : PySem.W.Frag} {H : Hp} {a : Addr} {xs : List V} {A : Prop} (h1 : SqL K H a xs) (h : A) : (∃ xs, SqL K H a xs) ∧ A := ⟨⟨xs, h1⟩, h⟩
section
variable {J : It} {n : Nat} {G : Hp → Prop} {Y : Nat → Hp → V → Hp → Prop} {g : TG} {tt : TT} {te : TE} {tb : TS} {vs : List Nat} {σ : L2.St} {H1 : Hp} {D : Ends} {Q : VK}
theorem go_map (w : Walk J n G Y) (f : Nat → V) (hn : n ≤ 1000000) (hG : ∀ H, Same H1 H → G H)
    (hs : ∀ i x H H', i < n → Same H1 H → Y i H x H' → ∀ R : V → Hp → Prop, (∀ H4, Same H H4 → R (f i) H4) → g x (wipe σ vs) H' fun σ2 H2 => wipe σ2 vs = wipe σ vs ∧ te σ2 H2 R)
    (hmono : ∀ x σ H (R R' : L2.St → Hp → Prop), (∀ σ' H', R σ' H' → R' σ' H') → g x σ H R → g x σ H R')
    (hd : ∀ p H, H1 p = none → Same H1 H → H p = some (.lst ((List.range n).map f)) → Q (.ref p) H) : LcGo J g tYes te vs σ H1 Q :=
  fun p np => lc_map w f hn np hG hs (fun H s e => hd p H np s e) hmono
theorem go_lc (w : Walk J n G Y) (Pv : Addr → Nat → Hp → Prop) (h0 : ∀ p, H1 p = none → Pv p 0 (upd H1 p (.lst []))) (hG : ∀ p i H, i ≤ n → Pv p i H → G H)
    (hs : ∀ p, H1 p = none → ∀ i x H H', i < n → Pv p i H → Y i H x H' → g x (wipe σ vs) H' fun σ2 H2 => wipe σ2 vs = wipe σ vs ∧ tt σ2 H2 fun b H3 =>
      if b = true then te σ2 H3 fun y H4 => ∃ acc, H4 p = some (.lst acc) ∧ acc.length < sizeLine ∧ Pv p (i + 1) (upd H4 p (.lst (acc ++ [y]))) else Pv p (i + 1) H3)
    (hd : ∀ p H, H1 p = none → Pv p n H → Q (.ref p) H) : LcGo J g tt te vs σ H1 Q :=
  fun p np => lc_it w (Pv p) (h0 p np) (hG p) (hs p np) fun H q => hd p H np q
theorem go_for (w : Walk J n G Y) (Pv : Nat → L2.St → Hp → Prop) (h0 : Pv 0 σ H1) (hG : ∀ i σ H, i ≤ n → Pv i σ H → G H)
    (hs : ∀ i x σ H H', i < n → Pv i σ H → Y i H x H' → g x σ H' fun σ2 H2 => tb { D with nx := Pv (i + 1), ct := Pv (i + 1), bk := D.nx } σ2 H2) (hd : ∀ σ H, Pv n σ H → D.nx σ H) : ForGo J g tb D σ H1 :=
  for_it w Pv h0 hG hs hd
end
theorem i_all {K : PySem.W.Frag} {p : Addr} {bs : List Bool} {H : Hp} {Q : VK} (h1 : H p = some (.lst (bs.map V.bl))) (h : Q (.bl (bs.all id)) H) : rAll K [.ref p] H Q := ⟨p, bs, rfl, sqL_of h1, h⟩
theorem i_inSeq {K : PySem.W.Frag} {p : Addr} {xs : List V} {x : V} {H : Hp} {Q : VK} (h1 : SqL K H p xs ∨ SqT K H p xs) (h2 : flatV x = true) (h3 : xs.all flatV = true) (h : Q (.bl (inV x xs)) H) : rIn K false x (.ref p) H Q := ⟨p, xs, rfl, h1, h2, h3, h⟩
theorem i_ixLH {K : PySem.W.Frag} {p : Addr} {xs : List V} {i : Int} {v : V} {H : Hp} {Q : VK} (h1 : H p = some (.lst xs)) (h2 : atI xs i = some v) (h : Q v H) : rIxL K (.ref p) (.int i) H Q := i_ixL (sqL_of h1) h2 h
theorem i_ixTH {K : PySem.W.Frag} {p : Addr} {xs : List V} {i : Int} {v : V} {H : Hp} {Q : VK} (h1 : H p = some (.tup xs)) (h2 : atI xs i = some v) (h : Q v H) : rIxT K (.ref p) (.int i) H Q := i_ixT (sqT_of h1) h2 h
theorem upd_old {H : Hp} {p a : Addr} {o u : HO} (n : H p = none) (h : H a = some u) : upd H p o a = some u := by rw [upd_ne (ne_of_none h n)]; exact h
theorem upd_skip {H : Hp} {p a : Addr} {o u : HO} (n : a ≠ p) (h : H a = some u) : upd H p o a = some u := by rw [upd_ne n]; exact h
theorem iteNT {A B : Prop} (h : B) : if (!true) = true then A else B := iteF h
theorem iteNF {A B : Prop} (h : A) : if (!false) = true then A else B := iteT h
theorem iteNB {p : Prop} [Decidable p] {A B : Prop} (h1 : ¬ p → A) (h2 : p → B) : if (!decide p) = true then A else B := by
  by_cases h : p
  · rw [decide_eq_true h]; exact iteF (h2 h)
  · rw [decide_eq_false h]; exact iteT (h1 h)
theorem iteNC {c : Bool} {A B : Prop} (h1 : c = false → A) (h2 : c = true → B) : if (!c) = true then A else B := by
  cases c with
  | true => exact iteF (h2 rfl)
  | false => exact iteT (h1 rfl)
/-! ### rules whose readings have names, over texts S l -/
section
variable {X : Cx} {H : Hp} {Q : VK} {K : PySem.W.Frag}
theorem pe_strS {x : Str} {j pos} {l : List Nat} (e : x = S l) : PE X (.Constant (.str x) j pos) (tC (.str (S l))) := by rw [e]; exact pe_str
def rAddS : R2 := fun x y H Q => ∃ a b, x = .str (S a) ∧ y = .str (S b) ∧ a.length + b.length ≤ 1000000 ∧ Q (.str (S (a ++ b))) H
theorem op_addS : OpR X (binaryOp .Add) rAddS := fun pins s σ H x y v u Q I rx ry h => by
  obtain ⟨a, b, e1, e2, hz, q⟩ := h
  exact op_add_str pins s σ H x y v u Q I rx ry ⟨S a, S b, e1, e2, by rw [S_len, S_len]; exact Nat.le_trans hz (by decide), by rw [S_app]; exact q⟩
theorem i_addS {a b : List Nat} (h1 : a.length + b.length ≤ 1000000) (h : Q (.str (S (a ++ b))) H) : rAddS (.str (S a)) (.str (S b)) H Q := ⟨a, b, rfl, rfl, h1, h⟩
def rIxSS : V → V → Hp → VK → Prop := fun x y H Q => ∃ l i c, x = .str (S l) ∧ y = .int i ∧ l.length ≤ 1000000 ∧ atI l i = some c ∧ Q (.str (S [c])) H
theorem ix_S : IxR X rIxSS := fun pins s σ H x y v u b Q I rx ry hb h => by
  obtain ⟨l, i, c, e1, e2, hz, hc, q⟩ := h
  exact ix_str pins s σ H x y v u b Q I rx ry hb ⟨S l, i, c, e1, e2, by rw [S_len]; exact Nat.le_trans hz (by decide), by rw [S_list]; exact hc, q⟩
theorem i_ixSS {l : List Nat} {i : Int} {c : Nat} (h1 : l.length ≤ 1000000) (h2 : atI l i = some c) (h : Q (.str (S [c])) H) : rIxSS (.str (S l)) (.int i) H Q := ⟨l, i, c, rfl, rfl, h1, h2, h⟩
def rSlSS : V → Option Int → Option Int → Hp → VK → Prop := fun x lo hi H Q => ∃ l, x = .str (S l) ∧ l.length ≤ 1000000 ∧ Q (.str (S (cut l lo hi))) H
theorem sl_S : SlR X rSlSS := fun pins s σ H x v vl vu lo hi sl Q I rx hs pl pu h => by
  obtain ⟨l, e1, hz, q⟩ := h
  exact sl_str pins s σ H x v vl vu lo hi sl Q I rx hs pl pu ⟨S l, e1, by rw [S_len]; exact Nat.le_trans hz (by decide), by rw [cutS_S]; exact q⟩
theorem i_slFrom {l : List Nat} {k : Int} (h0 : 0 ≤ k) (h1 : l.length ≤ 1000000) (h : Q (.str (S (l.drop k.toNat))) H) : rSlSS (.str (S l)) (some k) none H Q :=
  ⟨l, rfl, h1, by rw [show k = ((k.toNat : Nat) : Int) by omega, cut_from]; exact h⟩
theorem i_slTo {l : List Nat} {k : Int} (h0 : 0 ≤ k) (h1 : l.length ≤ 1000000) (h : Q (.str (S (l.take k.toNat))) H) : rSlSS (.str (S l)) none (some k) H Q :=
  ⟨l, rfl, h1, by rw [show k = ((k.toNat : Nat) : Int) by omega, cut_to]; exact h⟩
def rLenSS : List V → Hp → VK → Prop := fun xs H Q => ∃ l, xs = [.str (S l)] ∧ l.length ≤ 1000000 ∧ Q (.int (l.length : Int)) H
theorem call_lenS : CallR X (.builtin "len") rLenSS := fun pins s σ H xs us Q I r h => by
  obtain ⟨l, e1, hz, q⟩ := h
  exact call_len_str pins s σ H xs us Q I r ⟨S l, e1, by rw [S_len]; exact Nat.le_trans hz (by decide), by rw [S_len]; exact q⟩
theorem i_lenSS {l : List Nat} (h1 : l.length ≤ 1000000) (h : Q (.int (l.length : Int)) H) : rLenSS [.str (S l)] H Q := ⟨l, rfl, h1, h⟩
def rStartS : V → List V → Hp → VK → Prop := fun x xs H Q => ∃ a b, x = .str (S a) ∧ xs = [.str (S b)] ∧ Q (.bl (decide (a.take b.length = b))) H
theorem mt_startsS : MtR X "str.startswith" rStartS := fun pins s σ H x xs v us Q I rx rv h => by
  obtain ⟨a, b, e1, e2, q⟩ := h
  exact mt_startswith pins s σ H x xs v us Q I rx rv ⟨S a, S b, e1, e2, by rw [starts_S]; exact q⟩
theorem i_startS {a b : List Nat} (h : Q (.bl (decide (a.take b.length = b))) H) : rStartS (.str (S a)) [.str (S b)] H Q := ⟨a, b, rfl, rfl, h⟩
def rInSg : R2 := fun x y H Q => ∃ (c : Nat) (z : Str), x = .str (S [c]) ∧ y = .str z ∧ Q (.bl (decide (c ∈ z.cps.toList))) H
theorem op_inSg : OpR X (compareOp .In) rInSg := op_in_sign
theorem i_inSg {c : Nat} {z : Str} (h : Q (.bl (decide (c ∈ z.cps.toList))) H) : rInSg (.str (S [c])) (.str z) H Q := ⟨c, z, rfl, rfl, h⟩
def rAbs : List V → Hp → VK → Prop := fun xs H Q => ∃ i, xs = [.int i] ∧ Q (.int (if i < 0 then -i else i)) H
theorem call_absN : CallR X (.builtin "abs") rAbs := call_abs
theorem i_absN {i : Int} (h : Q (.int (if i < 0 then -i else i)) H) : rAbs [.int i] H Q := ⟨i, rfl, h⟩
def rMin2 : List V → Hp → VK → Prop := fun xs H Q => ∃ i j, xs = [.int i, .int j] ∧ Q (.int (if j < i then j else i)) H
theorem call_min2N (hc : X.calm = true) : CallR X (.builtin "min") rMin2 := call_min2 hc
theorem i_min2 {i j : Int} (h : Q (.int (min i j)) H) : rMin2 [.int i, .int j] H Q := ⟨i, j, rfl, by
  by_cases c : j < i
  · rw [if_pos c]; rw [show min i j = j by omega] at h; exact h
  · rw [if_neg c]; rw [show min i j = i by omega] at h; exact h⟩
def rMax2 : List V → Hp → VK → Prop := fun xs H Q => ∃ i j, xs = [.int i, .int j] ∧ Q (.int (if j > i then j else i)) H
theorem call_max2N (hc : X.calm = true) : CallR X (.builtin "max") rMax2 := call_max2 hc
theorem i_max2 {i j : Int} (h : Q (.int (max i j)) H) : rMax2 [.int i, .int j] H Q := ⟨i, j, rfl, by
  by_cases c : j > i
  · rw [if_pos c]; rw [show max i j = j by omega] at h; exact h
  · rw [if_neg c]; rw [show max i j = i by omega] at h; exact h⟩
def rMin3 : List V → Hp → VK → Prop := fun xs H Q => ∃ i j k, xs = [.int i, .int j, .int k] ∧ Q (.int (min (min i j) k)) H
theorem nuMin2_int (i j : Int) : nuMin2 (.int i) (.int j) = some (.int (min i j)) := by
  show some (if decide (j < i) = true then V.int j else V.int i) = some (.int (min i j))
  by_cases c : j < i
  · rw [decide_eq_true c, if_pos rfl, show min i j = j by omega]
  · rw [decide_eq_false c, if_neg Bool.false_ne_true, show min i j = i by omega]
theorem call_min3N (hc : X.calm = true) : CallR X (.builtin "min") rMin3 := fun pins s σ H xs us Q I r h => by
  obtain ⟨i, j, k, e1, q⟩ := h
  exact call_min3Nu hc pins s σ H xs us Q I r ⟨_, _, _, _, e1, by unfold nuMin3; rw [nuMin2_int]; show nuMin2 (.int (min i j)) (.int k) = _; rw [nuMin2_int], q⟩
theorem i_min3 {i j k : Int} (h : Q (.int (min (min i j) k)) H) : rMin3 [.int i, .int j, .int k] H Q := ⟨i, j, k, rfl, h⟩
def rInt : List V → Hp → VK → Prop := fun xs H Q => (∃ i, xs = [.int i] ∧ Q (.int i) H) ∨ ∃ k, xs = [.bl k] ∧ Q (.int (if k then 1 else 0)) H
theorem call_intN : CallR X (.type "int") rInt := call_int1
theorem i_intN {i : Int} (h : Q (.int i) H) : rInt [.int i] H Q := .inl ⟨i, rfl, h⟩
theorem i_intNB {k : Bool} (h : Q (.int (if k then 1 else 0)) H) : rInt [.bl k] H Q := .inr ⟨k, rfl, h⟩
def rLenQ (K : PySem.W.Frag) : List V → Hp → VK → Prop := fun xs H Q => ∃ p ys, xs = [.ref p] ∧ (SqL K H p ys ∨ SqT K H p ys) ∧ Q (.int ys.length) H
theorem call_lenQ : CallR X (.builtin "len") (rLenQ X.K) := call_len_seq
theorem i_lenL {p : Addr} {ys : List V} (h1 : H p = some (.lst ys)) (h : Q (.int ys.length) H) : rLenQ K [.ref p] H Q := ⟨p, ys, rfl, .inl (sqL_of h1), h⟩
theorem i_lenT {p : Addr} {ys : List V} (h1 : H p = some (.tup ys)) (h : Q (.int ys.length) H) : rLenQ K [.ref p] H Q := ⟨p, ys, rfl, .inr (sqT_of h1), h⟩
theorem i_lenK {p : Addr} {ys : List V} (h1 : SqL K H p ys) (h : Q (.int ys.length) H) : rLenQ K [.ref p] H Q := ⟨p, ys, rfl, .inl h1, h⟩
theorem dec_inj {α β : Type} [DecidableEq α] [DecidableEq β] {f : α → β} (hf : ∀ a b, f a = f b → a = b) (a b : α) : decide (f a = f b) = decide (a = b) := by
  by_cases h : a = b
  · subst h; simp
  · rw [decide_eq_false h, decide_eq_false (fun e => h (hf a b e))]
theorem dec_I (a b : Int) : decide (V.int a = V.int b) = decide (a = b) := dec_inj (fun _ _ e => V.int.inj e) a b
theorem i_eqI {a b : Int} (h : Q (.bl (decide (a = b))) H) : rEq (.int a) (.int b) H Q := ⟨rfl, by rw [dec_I]; exact h⟩
theorem i_neI {a b : Int} (h : Q (.bl (!decide (a = b))) H) : rNe (.int a) (.int b) H Q := ⟨rfl, by rw [dec_I]; exact h⟩
theorem i_eqS {a b : List Nat} (h : Q (.bl (decide (a = b))) H) : rEq (.str (S a)) (.str (S b)) H Q := ⟨rfl, by rw [S_dec]; exact h⟩
theorem i_neS {a b : List Nat} (h : Q (.bl (!decide (a = b))) H) : rNe (.str (S a)) (.str (S b)) H Q := ⟨rfl, by rw [S_dec]; exact h⟩
def rIsNo : R2 := fun x y H Q => y = .non ∧ Q (.bl (decide (x = .non))) H
theorem op_isNo : OpR X (compareOp .Is) rIsNo := op_isN
theorem i_isNoI {i : Int} (h : Q (.bl false) H) : rIsNo (.int i) .non H Q := ⟨rfl, h⟩
theorem i_isNoN (h : Q (.bl true) H) : rIsNo .non .non H Q := ⟨rfl, h⟩
theorem i_isNoR {a : Addr} (h : Q (.bl false) H) : rIsNo (.ref a) .non H Q := ⟨rfl, h⟩
def rRepI : List V → Hp → VK → Prop := fun xs H Q => ∃ i, xs = [.int i] ∧ i.natAbs.log2 < 1920 ∧ Q (.str (toString i)) H
theorem call_repI : CallR X (.builtin "repr") rRepI := SkE.call_repr_int
end
theorem walk_S {l : List Nat} : Walk (Its (S l)) l.length (fun _ => True) (fun i H v H' => H' = H ∧ ∃ c, l[i]? = some c ∧ v = .str (S [c])) := by
  have w := walk_str (z := S l)
  rw [S_size] at w
  exact w.mono (fun _ _ => trivial) fun i H x H' _ _ y => by
    obtain ⟨e, c, hc, ev⟩ := y
    rw [S_get] at hc
    exact ⟨e, c, hc, ev⟩
theorem walk_eS {l : List Nat} : Walk (ItE (S l)) l.length (fun _ => True) (fun i H v H' => ∃ T c, v = .ref T ∧ H T = none ∧ l[i]? = some c ∧ H' = upd H T (.tup [.int (i : Nat), .str (S [c])])) := by
  have w := walk_enumS (x := S l)
  rw [S_size] at w
  exact w.mono (fun _ _ => trivial) fun i H x H' _ _ y => by
    obtain ⟨T, c, e, n, hc, eh⟩ := y
    rw [S_get] at hc
    exact ⟨T, c, e, n, hc, eh⟩
theorem go_while {c : TT} {tb : TS} {D : Ends} {σ : L2.St} {H : Hp} (Pv : Nat → L2.St → Hp → Prop) (m0 : Nat) (h0 : Pv m0 σ H)
    (hs : ∀ m σ H, Pv m σ H → c σ H fun b H1 => if b = true then ∃ N : L2.St → Hp → Prop, (∀ σ' H', N σ' H' → ∃ m', m' < m ∧ Pv m' σ' H') ∧ tb { D with nx := N, ct := N, bk := D.nx } σ H1 else D.nx σ H1) : tWhile c tb D σ H :=
  ⟨Pv, ⟨m0, h0⟩, hs⟩
theorem next_turn {m : Nat} {Pv : Nat → L2.St → Hp → Prop} {A : (L2.St → Hp → Prop) → Prop} (h : A fun σ' H' => ∃ m', m' < m ∧ Pv m' σ' H') : ∃ N : L2.St → Hp → Prop, (∀ σ' H', N σ' H' → ∃ m', m' < m ∧ Pv m' σ' H') ∧ A N := ⟨_, fun _ _ q => q, h⟩
def rRevS : V → Hp → VK → Prop := fun x H Q => ∃ l, x = .str (S l) ∧ l.length ≤ sizeLine ∧ Q (.str (S l.reverse)) H
theorem i_revS {te : TE} {σ : L2.St} {H : Hp} {Q : VK} (h : te σ H fun x H1 => rRevS x H1 Q) : tRevS te σ H Q := h
theorem i_revSS {l : List Nat} {H : Hp} {Q : VK} (h1 : l.length ≤ 1000000) (h : Q (.str (S l.reverse)) H) : rRevS (.str (S l)) H Q := ⟨l, rfl, Nat.le_trans h1 (by decide), h⟩
theorem i_cut {t u : TS} {D : Ends} {σ : L2.St} {H : Hp} (Mid : L2.St → Hp → Prop) (h1 : t { D with nx := Mid } σ H) (h2 : ∀ σ' H', Mid σ' H' → u D σ' H') : C8.tCut t u D σ H := ⟨Mid, h1, h2⟩
theorem i_minL {K : PySem.W.Frag} {p : Addr} {ns : List Int} {H : Hp} {Q : VK} (h1 : H p = some (.lst (ns.map V.int))) (h2 : 0 < ns.length) (h : ∀ m, m ∈ ns → (∀ y, y ∈ ns → m ≤ y) → Q (.int m) H) : rMin K [.ref p] H Q := ⟨p, ns, rfl, sqL_of h1, h2, h⟩
/-- one half of an if: what is appended, or nothing -/
theorem i_chainLL {g : Int → Int → Bool} {g' : Int → Int → Bool} {σ : L2.St} {H : Hp} {R : Bool → Hp → Prop} {i j k : Int}
    (h : R (g i j && g' j k) H) : rI0 (fun a b => .bl (g a b)) (.int i) (.int j) H fun z H3 => ∃ c, z = .bl c ∧ (if c = true then rI0 (fun a b => .bl (g' a b)) (.int j) (.int k) H3 fun x H4 => ∃ d, x = .bl d ∧ R d H4 else ∃ d, V.bl false = .bl d ∧ R d H3) := by
  refine ⟨i, j, rfl, rfl, g i j, rfl, ?_⟩
  cases e : g i j with
  | true => rw [e] at h; exact iteT ⟨j, k, rfl, rfl, g' j k, rfl, h⟩
  | false => rw [e] at h; exact iteF ⟨false, rfl, h⟩
theorem walk_rangeZ {n : Nat} : Walk (Itr 0 n) n (fun _ => True) (YFn fun i => .int (i : Int)) :=
  (walk_range (lo := 0) (n := n)).mono (fun _ h => h) fun i H x H' _ _ y => ⟨y.1, by rw [y.2]; show V.int (0 + (i : Int)) = V.int (i : Int); rw [Int.zero_add]⟩
theorem i_ixLI {K : PySem.W.Frag} {p : Addr} {ns : List Int} {i v : Int} {H : Hp} {Q : VK} (h1 : H p = some (.lst (ns.map V.int))) (h0 : 0 ≤ i) (h2 : ns[i.toNat]? = some v) (h : Q (.int v) H) : rIxL K (.ref p) (.int i) H Q := by
  refine i_ixLH h1 ?_ h
  have e := atI_nat (xs := ns.map V.int) (j := i.toNat) (v := .int v) (by rw [List.getElem?_map, h2]; rfl)
  rwa [show ((i.toNat : Nat) : Int) = i by omega] at e
theorem i_ixSI {l : List Nat} {i : Int} {c : Nat} {H : Hp} {Q : VK} (h0 : 0 ≤ i) (h2 : l[i.toNat]? = some c) (h1 : l.length ≤ 1000000) (h : Q (.str (S [c])) H) : rIxSS (.str (S l)) (.int i) H Q := by
  refine i_ixSS h1 ?_ h
  have e := atI_nat (xs := l) (j := i.toNat) (v := c) h2
  rwa [show ((i.toNat : Nat) : Int) = i by omega] at e
theorem i_appI {p : Addr} {ns : List Int} {v : Int} {H : Hp} {Q : VK} (h1 : H p = some (.lst (ns.map V.int))) (h2 : ns.length ≤ 1000000) (h : Q .non (upd H p (.lst ((ns ++ [v]).map V.int)))) : rAppend (.ref p) [.int v] H Q := by
  refine i_append h1 (by rw [List.length_map]; exact Nat.lt_of_le_of_lt h2 (by decide)) ?_
  rw [List.map_append] at h
  exact h
theorem i_gTupH {K : PySem.W.Frag} {n : Nat} {t : TGs} {a : Addr} {xs : List V} {σ : L2.St} {H : Hp} {R : L2.St → Hp → Prop} (h1 : H a = some (.tup xs)) (h2 : xs.length = n) (h : t xs σ H R) : gTup K n t (.ref a) σ H R := ⟨a, xs, rfl, sqT_of h1, h2, h⟩
theorem join_S (ws : List (List Nat)) : Txt.join (S []) (ws.map S) = S ws.flatten := by
  unfold Txt.join
  rw [StrLaws.glued_eq_join]
  induction ws with
  | nil => rfl
  | cons w ws ih =>
    cases ws with
    | nil => simp [Str.join]
    | cons v ws =>
      show S w ++ S [] ++ Str.join (S []) ((v :: ws).map S) = _
      rw [ih, S_app, S_app, List.append_nil]
      rfl
theorem sum_lens (ws : List (List Nat)) : ((ws.map S).map (·.length)).sum = ws.flatten.length := by
  induction ws with
  | nil => rfl
  | cons w ws ih =>
    rw [List.map_cons, List.map_cons, List.sum_cons, ih, List.flatten_cons, List.length_append, S_len]
def rJoinS (K : PySem.W.Frag) : V → List V → Hp → VK → Prop := fun x xs H Q => ∃ p, ∃ ws : List (List Nat), x = .str (S []) ∧ xs = [.ref p] ∧ (SqL K H p (ws.map fun l => .str (S l)) ∨ SqT K H p (ws.map fun l => .str (S l))) ∧ ws.flatten.length ≤ 1000000 ∧ Q (.str (S ws.flatten)) H
theorem mt_joinS {X : Cx} : MtR X "str.join" (rJoinS X.K) := fun pins s σ H x xs v us Q I rx rv h => by
  obtain ⟨p, ws, e1, e2, hp, hl, q⟩ := h
  have e3 : (ws.map fun l => V.str (S l)) = (ws.map S).map V.str := by rw [List.map_map]; rfl
  rw [e3] at hp
  refine mt_join pins s σ H x xs v us Q I rx rv ⟨S [], p, ws.map S, e1, e2, hp, ?_, by rw [join_S]; exact q⟩
  rw [sum_lens, show (S []).length = 0 from rfl, Nat.mul_zero, Nat.add_zero]
  omega
theorem i_joinS {K : PySem.W.Frag} {p : Addr} {ws : List (List Nat)} {H : Hp} {Q : VK} (h1 : H p = some (.lst (ws.map fun l => .str (S l)))) (h2 : ws.flatten.length ≤ 1000000) (h : Q (.str (S ws.flatten)) H) : rJoinS K (.str (S [])) [.ref p] H Q :=
  ⟨p, ws, rfl, rfl, .inl (sqL_of h1), h2, h⟩
theorem atI_neg1 {α : Type} {xs : List α} {v : α} {n : Nat} (h : xs.length = n + 1) (h2 : xs[n]? = some v) : atI xs (-1) = some v := by
  have e : xs = xs.dropLast ++ [v] := by
    have hne : xs ≠ [] := by intro z; rw [z] at h; cases h
    have := List.dropLast_concat_getLast hne
    have e2 : xs.getLast hne = v := by
      rw [List.getLast_eq_getElem]
      have := List.getElem?_eq_some_iff.mp h2
      obtain ⟨_, q⟩ := this
      simpa [h] using q
    rw [e2] at this
    exact this.symm
  rw [e]
  exact atI_last _ _
theorem i_ixLv {K : PySem.W.Frag} {p : Addr} {xs : List V} {i : Int} {v : V} {H : Hp} {Q : VK} (h1 : H p = some (.lst xs)) (h0 : 0 ≤ i) (h2 : xs[i.toNat]? = some v) (h : Q v H) : rIxL K (.ref p) (.int i) H Q := by
  refine i_ixLH h1 ?_ h
  have e := atI_nat (xs := xs) (j := i.toNat) (v := v) h2
  rwa [show ((i.toNat : Nat) : Int) = i by omega] at e
theorem i_rU {g : Int → V} {i : Int} {H : Hp} {Q : VK} (h : Q (g i) H) : rU g (.int i) H Q := ⟨i, rfl, h⟩
end Sw
namespace Sw
open PySem PySem.Spec PyProof.Rows L2
/-! ### t[::-1] of a tuple -/
theorem back_adjust (n : Nat) : Builtin.Slice.sliceAdjust none none (-1) (n : Int) = ((n : Int) - 1, -1) := by
  unfold Builtin.Slice.sliceAdjust
  simp
theorem back_places (n : Nat) : Builtin.Slice.slicePlaces ((n : Int) - 1) (-1) (-1) = n := by
  unfold Builtin.Slice.slicePlaces
  simp only [show ¬ ((-1 : Int) > 0) by decide, if_false]
  split <;> simp <;> omega
theorem fm_congr {α β : Type} {f g : α → Option β} : ∀ {l : List α}, (∀ a ∈ l, f a = g a) → l.filterMap f = l.filterMap g
  | [], _ => rfl
  | a :: l, h => by
    rw [List.filterMap_cons, List.filterMap_cons, h a List.mem_cons_self, fm_congr fun b hb => h b (List.mem_cons_of_mem _ hb)]
theorem back_pick {α : Type} (l : List α) : ((List.range l.length).filterMap fun (k : Nat) => l.toArray[(((l.length : Int) - 1) + (k : Int) * (-1)).toNat]?) = l.reverse := by
  have e : ∀ k ∈ List.range l.length, l.toArray[(((l.length : Int) - 1) + (k : Int) * (-1)).toNat]? = l.reverse[k]? := by
    intro k hk
    have hk := List.mem_range.mp hk
    rw [List.getElem?_reverse hk, List.getElem?_toArray]
    congr 1
    omega
  rw [fm_congr e]
  have h2 : ∀ m : List α, (List.range m.length).filterMap (fun k => m[k]?) = m := by
    intro m
    induction m with
    | nil => rfl
    | cons a m ih =>
      rw [List.length_cons, List.range_succ_eq_map, List.filterMap_cons, List.filterMap_map]
      show a :: List.filterMap ((fun k => (a :: m)[k]?) ∘ Nat.succ) (List.range m.length) = a :: m
      congr 1
  have := h2 l.reverse
  rwa [List.length_reverse] at this
theorem getItem_tuple_back {prog : Program} {w : World} {A : Around} {E : Value → Shared → Prop} {s : Shared} {t sl : Addr} {ys : List Value} {u : Tok} {Q : Value → Shared → Prop} (ht : IsTup s.heap t ys.toArray)
    (hs : ∃ os, s.heap.get? sl = some os ∧ os.cls = .type "slice" ∧ os.data = .fields #[.none, .none, .int (-1) u])
    (h : Q (.ref s.heap.objs.size) { s with heap := s.heap.push { cls := .type "tuple", data := .seq ys.reverse.toArray } }) (hz : ys.length ≤ sizeLine) : wpAny (model prog w) A (getItem (.ref t) (.ref sl)) Q E s := by
  have hno' : sizeOk (.seq ys.reverse.toArray) := by
    show ys.reverse.toArray.size ≤ sizeLine
    rw [List.size_toArray, List.length_reverse]
    exact hz
  obtain ⟨os, hos, hcs, hds⟩ := hs
  have hTs : s.TypeIs (.ref sl) "slice" := ⟨os, hos, hcs⟩
  unfold getItem
  try with_reducible refine wpAny_holding ?_
  first | refine wpAny_bind (wpAny_pure ?_) | skip
  refine wpAny_bind (wpAny_sequenceKey ht.typeIs (by decide) ?_)
  refine wpAny_bind (wpAny_callSpecial?_slot (name := Str.ofString "__getitem__") ht.typeIs PyProof.Rows.slot_tuple_getitem (wpAny_call_entry PyProof.Rows.slot_tuple_getitem ht.typeIs entry_tuple_getitem ?_ (args_tuple_getitem _ _)))
  show wpAny _ _ (Builtin.Tuple.tupleItemsOf (.ref t) >>= _) _ _ s
  refine wpAny_bind (tupleItemsOf_ ht ?_)
  refine wpAny_bind (wpAny_typeOf hTs ?_)
  rw [if_pos (by decide)]
  have ap : ∀ {R : Int × Int × Nat → Shared → Prop}, R (((ys.toArray.size : Nat) : Int) - 1, -1, ys.toArray.size) s → wpAny (model prog w) A.in1 (Builtin.Slice.sliceApplied (.ref sl) (pure ((ys.toArray.size : Nat) : Int))) R E s := by
    intro R hR
    unfold Builtin.Slice.sliceApplied Builtin.Slice.sliceFields
    refine wpAny_bind (wpAny_bind (wpAny_field hos hds (x := .none) rfl (wpAny_bind (wpAny_field hos hds (x := .none) rfl (wpAny_bind (wpAny_field hos hds (x := .int (-1) u) rfl (wpAny_pure ?_)))))))
    refine wpAny_bind (slicePart_int ?_)
    show wpAny _ _ (if ((-1 : Int) == 0) = true then _ else _) _ _ s
    rw [if_neg (by decide)]
    refine wpAny_bind (slicePart_none (wpAny_bind (slicePart_none (wpAny_bind (wpAny_pure ?_)))))
    show wpAny _ _ (match Builtin.Slice.sliceAdjust none none (-1) ((ys.toArray.size : Nat) : Int) with | (lo, hi) => pure (lo, (-1 : Int), Builtin.Slice.slicePlaces lo hi (-1))) _ _ s
    rw [back_adjust]
    show wpAny _ _ (pure (((ys.toArray.size : Nat) : Int) - 1, (-1 : Int), Builtin.Slice.slicePlaces (((ys.toArray.size : Nat) : Int) - 1) (-1) (-1))) _ _ s
    rw [back_places]
    exact wpAny_pure hR
  refine wpAny_bind (ap ?_)
  show wpAny _ _ (if (((ys.toArray.size : Nat) : Int) - 1 == 0 && (-1 : Int) == 1 && ys.toArray.size == ys.toArray.size) = true then _ else _) _ _ s
  rw [if_neg (by simp)]
  have e := back_pick ys
  rw [show ys.length = ys.toArray.size from List.size_toArray.symm] at e
  rw [e]
  first
    | exact wpAny_bind (m := Builtin.Tuple.tupleExact _) (wpAny_newObj_type (wpAny_pure ⟨_, rfl, wpAny_pure h⟩) hno')
    | exact wpAny_bind (m := Builtin.Tuple.tupleExact _) (wpAny_newObj_type (wpAny_bind (wpAny_pure (wpAny_pure ⟨_, rfl, wpAny_pure h⟩))) hno')
    | exact wpAny_bind (wpAny_bind (m := Builtin.Tuple.tupleExact _) (wpAny_newObj_type (wpAny_pure (wpAny_pure ⟨_, rfl, wpAny_pure h⟩)) hno'))
def tRevT (K : PySem.W.Frag) (te : TE) : TE := fun σ H Q => te σ H fun x H1 => ∃ a xs, x = .ref a ∧ SqT K H1 a xs ∧ ∀ p, H1 p = none → Q (.ref p) (upd H1 p (.tup xs.reverse))
theorem Vals.back {xs : List V} {us : List Value} (r : Vals xs us) : Vals xs.reverse us.reverse := by
  induction r with
  | nil => exact .nil
  | cons r1 _ ih =>
    rw [List.reverse_cons, List.reverse_cons]
    exact ih.append (.cons r1 .nil)
theorem pe_revT {X : Cx} {e : Expr} {te : TE} {k : Nat} {p1 p2 p3 pos : Pos} (he : PE X e te) :
    PE X (.Subscript e (.Slice none none (some (.UnaryOp .USub (.Constant (.int 1) k p1) p2)) p3) pos) (tRevT X.K te) := by
  constructor
  intro pins s σ H Q I h
  refine Subscript_ (thn (he.run pins s σ H _ I h) fun v s1 ⟨x, H1, I1, r1, a, xs, ex, hx, q⟩ => ?_)
  subst ex
  cases r1
  have st : PO X (some (.UnaryOp .USub (.Constant (.int 1) k p1) p2)) (tPart (tUn (rU fun i => .int (-i)) (tC (.int 1)))) := po_some (pe_un un_neg pe_int)
  refine wpAny_Slice (thn (po_none.run pins s1 σ H1 (fun o G => o = none ∧ G = H1) I1 ⟨rfl, rfl⟩) fun w1 s2 ⟨o1, G1, J1, z1, a1, b1⟩ => ?_)
  subst a1 b1
  refine thn (po_none.run pins s2 σ G1 (fun o G => o = none ∧ G = G1) J1 ⟨rfl, rfl⟩) fun w2 s3 ⟨o2, G2, J2, z2, a2, b2⟩ => ?_
  subst a2 b2
  refine thn (st.run pins s3 σ G2 (fun o G => o = some (-1) ∧ G = G2) J2 ⟨1, rfl, -1, rfl, rfl, rfl⟩) fun w3 s4 ⟨o3, G3, J3, z3, a3, b3⟩ => ?_
  subst a3 b3
  have J4 : Inv X pins σ G3 { s4 with heap := s4.heap.push { cls := .type "slice", data := .fields #[w1, w2, w3] } } := J3.kept (t' := s4.toks) fun b ob q => Heap.get?_push_of_some _ q
  obtain ⟨y1, rfl, f1⟩ := IsPart.raw z1
  obtain ⟨y2, rfl, f2⟩ := IsPart.raw z2
  obtain ⟨y3, rfl, f3⟩ := IsPart.raw z3
  cases y1 with
  | some y => cases f1
  | none =>
  cases y2 with
  | some y => cases f2
  | none =>
  cases y3 with
  | none => cases f3
  | some y =>
  obtain ⟨m, u⟩ := y
  have em : m = -1 := Option.some.inj f3
  subst em
  obtain ⟨its, r, ht, hz⟩ := J4.tuple hx
  refine tail_any (T := "tuple") (id := _) (ops := [.ref a, .ref s4.heap.objs.size]) ht.typeIs PyProof.Rows.slot_tuple_getitem.lookup ?_ (by with_unfolding_all rfl)
  have hz' : its.length ≤ sizeLine := by rw [← r.length]; exact hz
  refine getItem_tuple_back (u := u) ht ⟨_, Heap.get?_push_size _ rfl, rfl, rfl⟩ ?_ hz'
  refine ⟨.ref _, _, J4.laid (t' := s4.toks) (o := .tup xs.reverse) (fun b ob q => Heap.get?_push_of_some _ q) (Nat.le_refl _) ?_, rfl, q _ (J4.hok.fresh (Nat.le_refl _))⟩
  exact ⟨by rw [List.length_reverse]; exact hz, _, Vals.back r, IsTup.new _ _⟩
theorem i_revT {K : PySem.W.Frag} {te : TE} {σ : L2.St} {H : Hp} {Q : VK} (h : te σ H fun x H1 => ∃ a xs, x = .ref a ∧ SqT K H1 a xs ∧ ∀ p, H1 p = none → Q (.ref p) (upd H1 p (.tup xs.reverse))) : tRevT K te σ H Q := h
/-! ### text * int -/
def rMulS : R2 := fun x y H Q => ∃ (l : List Nat) (n : Nat), x = .str (S l) ∧ y = .int (n : Int) ∧ l.length ≤ 1000 ∧ n ≤ 1000 ∧ Q (.str (S (List.replicate n l).flatten)) H
theorem mul_S (l : List Nat) (n : Nat) : Txt.mul (S l) (n : Int) = S (List.replicate n l).flatten := by
  unfold Txt.mul
  by_cases h0 : n = 0
  · subst h0; simp [S, Str.empty]
  · rw [if_neg (by omega)]
    by_cases h1 : (((n : Int) == 1 || (S l).length == 0) = true)
    · rw [if_pos h1]
      rcases Bool.or_eq_true_iff.mp h1 with h1 | h1
      · have : n = 1 := by have := eq_of_beq h1; omega
        subst this; simp
      · have e : l = [] := by have := eq_of_beq h1; rw [S_len] at this; exact List.length_eq_zero_iff.mp this
        subst e
        simp
    · rw [if_neg h1]
      show (⟨(List.replicate n l.toArray).foldl (· ++ ·) #[]⟩ : Str) = ⟨(List.replicate n l).flatten.toArray⟩
      congr 1
      have : ∀ (m : Nat) (b : Array Nat), (List.replicate m l.toArray).foldl (· ++ ·) b = b ++ (List.replicate m l).flatten.toArray := by
        intro m
        induction m with
        | zero => intro b; simp
        | succ m ih =>
          intro b
          rw [List.replicate_succ, List.foldl_cons, ih, List.replicate_succ, List.flatten_cons]
          simp
      rw [this]
      simp
theorem op_mulS {X : Cx} : OpR X (binaryOp .Mult) rMulS := fun pins s σ H x y v u Q I rx ry h => by
  obtain ⟨l, n, rfl, rfl, h1, h2, q⟩ := h
  obtain ⟨t, rfl⟩ := rx
  obtain ⟨t', rfl⟩ := ry
  refine SB.mul ⟨?_, ?_, ?_⟩ fun t' tk => ⟨.str (S (List.replicate n l).flatten), H, I.tok _, ⟨_, by rw [mul_S]⟩, q⟩
  · rw [Bool.or_eq_false_iff]; exact ⟨decide_eq_false (by omega), decide_eq_false (by omega)⟩
  · intro hn _
    rw [S_len]
    have : (n : Int) * (l.length : Int) ≤ 2 ^ 63 - 1 := by
      have := Nat.mul_le_mul h2 h1
      have e : (n : Int) * (l.length : Int) = ((n * l.length : Nat) : Int) := by simp
      rw [e]; omega
    have := (Int.le_ediv_iff_mul_le (a := (l.length : Int)) (b := 2 ^ 63 - 1) (c := (n : Int)) (by omega)).mpr (by rw [Int.mul_comm]; exact this)
    omega
  · intro _ _
    rw [S_len, Int.toNat_natCast]
    have := Nat.mul_le_mul h1 h2
    unfold Builtin.Str.tooLong
    exact decide_eq_false (by rw [show sizeLine = 16777216 from rfl]; omega)
theorem i_mulS {l : List Nat} {n : Nat} {H : Hp} {Q : VK} (h1 : l.length ≤ 1000) (h2 : n ≤ 1000) (h : Q (.str (S (List.replicate n l).flatten)) H) : rMulS (.str (S l)) (.int (n : Int)) H Q := ⟨l, n, rfl, rfl, h1, h2, h⟩
/-! ### a def called by names alone -/
def tKw (sp : Sp) (gV : List V → List V → List V) (tk : TA) : TE := fun σ H Q => tk σ H fun zs H1 => sp (gV [] zs) H1 Q E0
section
variable (P : Program) (w : World) (K : PySem.W.Frag) (mg : Str → Option Value) (base : Heap)
def CalK (x : Str) (ps : List Str) (k : Nat) (sp : Sp) (ks : List Str) (g : List Value → List Value → List Value) (gV : List V → List V → List V) : Prop := ∃ (f : Addr) (fd : FuncData), FnOk P w K mg base CX0 k f fd ps sp ∧ mg x = some (.ref f) ∧ PySem.W.keepIn K (.ref f) = true ∧ KBinds K fd ps ks g gV
end
theorem Def.calK {P : Program} {w : World} {K : PySem.W.Frag} {mg : Str → Option Value} {base : Heap} {x : Str} {st : Stmt} {ps ks : List Str} {k : Nat} {sp : Sp} {g : List Value → List Value → List Value} {gV : List V → List V → List V} (d : Def K mg x st)
    (b : ∀ (kV doc pm : Value) (an : Option Addr) (cdv ct : Value) (us ws : List Value), (g us ws).length = ps.length → bindArgs (PySem.W.fnOf x x (defArgs st) (defBody st) (defScope st) .none kV doc pm an cdv ct) ⟨us, ks.zip ws⟩ = pure (ps.zip (g us ws)))
    (rel : ∀ {vs : List V} {us : List Value} {zs : List V} {ws : List Value}, Vals vs us → Vals zs ws → Vals (gV vs zs) (g us ws))
    (ok : ∀ (f : Addr) (fd : FuncData), Fun K x x st f fd → FnOk P w K mg base CX0 k f fd ps sp) : CalK P w K mg base x ps k sp ks g gV := by
  obtain ⟨f, fd, F, m⟩ := d
  have O := ok f fd F
  have kp := F.kp
  obtain ⟨oc, od, kV, doc, pm, an, cdv, ct, osl, rfl, lk, hcd⟩ := F.ex
  exact ⟨f, _, O, m, kp, fun s us ws _ hl => .of_eq (b kV doc pm an cdv ct us ws hl), rel⟩
section
variable {X : Cx} {x : Str} {ps ks : List Str} {k n : Nat} {sp : Sp} {g : List Value → List Value → List Value} {gV : List V → List V → List V} {kws : List Keyword} {tk : TA} {p pos : Pos}
theorem pe_calK (c : CalK X.prog X.w X.K X.mg X.base x ps k sp ks g gV) (hr : Room n X.A) (hkw : PK X kws tk) (hg : Gl X x := by rfl) (hk : k ≤ n := by decide)
    (hall : (backToKw pos (keywordEach kws X.env)).all (·.1.isSome) = true := by rfl) (hks : (backToKw pos (keywordEach kws X.env)).filterMap (·.1) = ks := by rfl) (hdb : (x == ("__debug__" : Str)) = false := by decide)
    (hpl : ((backTo pos (starEach [] X.env)).any (·.1) || (backToKw pos (keywordEach kws X.env)).any (·.1.isNone)) = false := by rfl) :
    PE X (.Call (.Name x p) [] kws pos) (tKw sp gV tk) := by
  obtain ⟨f, fd, F, m, kp, b⟩ := c
  refine ⟨fun pins s σ H Q I h => ?_⟩
  refine wpAny_Call_Name_kw (ld_glob I hg m ?_ hdb)
  refine PySem.W.callWith_KW0 (h₀ := X.base) I.ok.mod.kin kp hall (thn (hkw.run pos pins s σ H _ I h) fun ws s2 ⟨zs, H2, I2, rz, q2⟩ => ⟨I2.kIn, ?_⟩) hpl
  rw [hks]
  exact run_fnk F (hr.mono hk) b pass0 I2 .nil rz q2
theorem i_kw {σ : L2.St} {H : Hp} {Q : VK} (h : tk σ H fun zs H1 => sp (gV [] zs) H1 Q E0) : tKw sp gV tk σ H Q := h
end
end Sw
namespace Sw
open PySem PySem.Spec PyProof.Rows L2
/-! ### promises of defs that are called where nothing is being shown (repr) -/
structure FnG (P : Program) (w : World) (K : PySem.W.Frag) (mg : Str → Option Value) (base : Heap) (CX : CXT) (k : Nat) (f : Addr) (fd : FuncData) (ps : List Str) (sp : Sp) : Prop where
  len : ∀ xs M R X, sp xs M R X → xs.length = ps.length
  go : ∀ (A : Around) (out : List Env) (t : Shared) (M : Hp) (args : Args) (us : List Value) (xs : List V) (R : VK) (X : XK), Room k A → A.guards = some [] → Env0 P w K mg base A out t M → BindsTo t fd args (ps.zip us) → Vals xs us → sp xs M R X →
    codeAny (model P w) A (.call (.ref f) args) (CR CX out P w M t R X) t
section
variable {P : Program} {w : World} {K : PySem.W.Frag} {mg : Str → Option Value} {base : Heap} {CX : CXT} {k : Nat} {f : Addr} {fd : FuncData} {ps : List Str} {sp : Sp}
theorem FnG.of (F : FnOk P w K mg base CX k f fd ps sp) : FnG P w K mg base CX k f fd ps sp := ⟨F.len, fun A out t M args us xs R X room _ => F.run A out t M args us xs R X room⟩
theorem FnG.low {j : Nat} (F : FnG P w K mg base CX j f fd ps sp) (h : j ≤ k) : FnG P w K mg base CX k f fd ps sp := ⟨F.len, fun A out t M args us xs R X room => F.go A out t M args us xs R X (room.mono h)⟩
theorem Fun.okG {x qual : Str} {st : Stmt} {N : List Str} (F : Fun K x qual st f fd) (S : FnScope N ps (defScope st)) (len : ∀ xs M R X, sp xs M R X → xs.length = ps.length)
    (body : ∀ (cdv : Value) (A : Around) (out : List Env) (t : Shared) (M : Hp) (xs : List V) (R : VK) (X : XK), Room k (A.deeper (envOfC qual (defScope st) t.heap.objs.size f cdv)) → A.guards = some [] → sp xs M R X →
      ∃ r, PSs (cxOf CX P w K mg base N qual (defScope st) f cdv A out t M X) (defBody st) r ∧ r { nx := fun _ M' => R .non M', rt := R } (start N xs) M) : FnG P w K mg base CX (k + 1) f fd ps sp := by
  obtain ⟨oc, od, kV, doc, pm, an, cdv, ct, osl, rfl, found, coded⟩ := F.ex
  constructor
  · exact len
  intro A out t M args us xs R X room quiet env bind rel prom
  have count := len xs M R X prom
  have inHeap := env.mod.kin.keeps fun b o e => (env.bs b o e).1
  have quota := env.mod.nolimit.keeps fun b o e => (env.bs b o e).1
  have kinds : ∀ z ∈ ps.zip us, (defScope st).names.lookup z.1 = some .local ∨ ((defScope st).names.lookup z.1 = some .cell ∧ ((cellsFrom (t.heap.objs.size + 1) (defScope st).names []).lookup z.1).isSome = true) := by
    rintro ⟨n, v⟩ hz
    have hn := (List.of_mem_zip hz).1
    rcases S.par n hn with l | c
    · left; exact l
    · right; exact ⟨c, PySem.W.cellsFrom_some _ _ _ (.inl c)⟩
  apply codeAny_call_function room.depth (inHeap _ _ found) rfl S.co S.gen rfl (PySem.W.codeRec_of inHeap coded) (bind _ _ _ _ ?_)
  apply wpAny_newFunctionEnv_cells S.kind kinds
  intro env2 e2 t1 entry
  subst e2
  refine ⟨quota.keeps entry.toInCall.keep, codeAny_func ?_⟩
  obtain ⟨r, hr, runs⟩ := body cdv A out t M xs R X (room.deeper _) quiet prom
  have I := inv_start (CX := CX) (E := X) S room.hd env count rel entry
  apply wpAny_mono (hr.run [] t1 (start N xs) M _ I runs)
  · intro fl t' leaves
    cases fl with
    | ret u =>
      obtain ⟨v, σ', M', J, rv, q⟩ := leaves
      exact ⟨v, M', J.os, J.bare, J.base, J.hok, rv, q⟩
    | next =>
      obtain ⟨σ', M', J, q⟩ := leaves
      exact ⟨V.non, M', J.os, J.bare, J.base, J.hok, rfl, q⟩
    | brk => obtain ⟨_, _, _, q⟩ := leaves; exact q.elim
    | cont => obtain ⟨_, _, _, q⟩ := leaves; exact q.elim
  · exact fun _ _ z => z
end
section
variable {X : Cx} {ps : List Str} {k : Nat} {f : Addr} {fd : FuncData} {sp : Sp} {ds : List Value} {dvs : List V} {CX : CXT} {E : XK}
theorem run_G {pins : List (Addr × Obj)} {σ : L2.St} {M : Hp} {t : Shared} {R : VK} {us : List Value} {xs : List V} (F : FnG X.prog X.w X.K X.mg X.base CX k f fd ps sp) (room : Room k X.A) (quiet : X.A.guards = some []) (b : Binds X.K fd ps ds) (hd : Vals dvs ds) (px : Passes CX X E)
    (I : Inv X pins σ M t) (r : Vals xs us) (h : sp (xs ++ dvs) M R E) : wpAny (model X.prog X.w) X.A (call (.ref f) us) (EP X pins σ R) X.xe t := by
  have both := r.append hd
  have count : (us ++ ds).length = ps.length := both.length.symm.trans (F.len _ _ _ _ h)
  apply wpAny_call
  apply codeAny_mono (F.go X.A X.stack t M ⟨us, []⟩ (us ++ ds) (xs ++ dvs) R E room quiet I.env0 (b t us I.kIn count) both h)
  intro o t' q
  rcases o with e | fl
  · exact px pins σ M t e t' I q
  · cases fl with
    | ret u => exact I.after q
    | next => exact q.elim
    | brk => exact q.elim
    | cont => exact q.elim
end
section
variable (P : Program) (w : World) (K : PySem.W.Frag) (mg : Str → Option Value) (base : Heap)
def CalG (x : Str) (ps : List Str) (k : Nat) (sp : Sp) : Prop := ∃ (f : Addr) (fd : FuncData), FnG P w K mg base CX0 k f fd ps sp ∧ mg x = some (.ref f) ∧ PySem.W.keepIn K (.ref f) = true ∧ Binds K fd ps []
end
theorem Def.calG {P : Program} {w : World} {K : PySem.W.Frag} {mg : Str → Option Value} {base : Heap} {x : Str} {st : Stmt} {ps : List Str} {k : Nat} {sp : Sp} (d : Def K mg x st)
    (b : ∀ (kV doc pm : Value) (an : Option Addr) (cdv ct : Value) (us : List Value), us.length = ps.length → bindArgs (PySem.W.fnOf x x (defArgs st) (defBody st) (defScope st) .none kV doc pm an cdv ct) ⟨us, []⟩ = pure (ps.zip us))
    (ok : ∀ (f : Addr) (fd : FuncData), Fun K x x st f fd → FnG P w K mg base CX0 k f fd ps sp) : CalG P w K mg base x ps k sp := by
  obtain ⟨f, fd, F, m⟩ := d
  exact ⟨f, fd, ok f fd F, m, F.kp, F.binds b⟩
theorem pe_calG {X : Cx} {x : Str} {ps : List Str} {k n : Nat} {sp : Sp} {e : Expr} {es : List Expr} {t : TA} {p pos : Pos} (c : CalG X.prog X.w X.K X.mg X.base x ps k sp) (hr : Room n X.A) (quiet : X.A.guards = some []) (ha : PA X (e :: es) t) (hg : Gl X x := by rfl) (hk : k ≤ n := by decide)
    (hdb : (x == ("__debug__" : Str)) = false := by decide) (he : starEach (e :: es) X.env = (false, eval e X.env) :: starEach es X.env := by rfl) (hpl : (backTo pos (starEach es X.env)).any (·.1) = false := by rfl) :
    PE X (.Call (.Name x p) (e :: es) [] pos) (tCall sp [] E0 t) := by
  obtain ⟨f, fd, F, m, kp, b⟩ := c
  constructor
  intro pins s σ M R I h
  apply wpAny_Call_Name_kw (ld_glob I hg m ?_ hdb)
  exact PySem.W.callWith_K (h₀ := X.base) I.ok.mod.kin kp (thn (ha.run pos pins s σ M _ I h) fun us s1 ⟨xs, M1, I1, r, q⟩ => ⟨I1.kIn, run_G F (hr.mono hk) quiet b .nil pass0 I1 r q⟩) he hpl
/-! ### repr of data -/
def rRepD (K : PySem.W.Frag) : List V → Hp → VK → Prop := fun xs M R => ∃ x d, xs = [x] ∧ Dp K M x d ∧ d.showable = true ∧ d.hasDict = false ∧ d.depth ≤ 60 ∧ d.shown.length ≤ sizeLine ∧ R (.str d.shown) M
theorem call_repD {X : Cx} (quiet : X.A.guards = some []) (hu : X.A.units + 64 < cLine) : CallR X (.builtin "repr") (rRepD X.K) := by
  intro pins s σ M xs us R I r h
  obtain ⟨x, d, rfl, hd, sh, nd, dp, sz, q⟩ := h
  obtain ⟨u, rfl, ru⟩ := vals1 r
  obtain ⟨as, rd⟩ := Dp.reads I d x u hd ru
  cases hd with
  | non =>
    cases ru
    exact PySem.P.repr_of_none ⟨.str (PyData.shown .none), M, I.tok _, ⟨_, by simp only [PyData.shown]; rfl⟩, q⟩
  | bl b =>
    cases ru
    exact PySem.P.repr_of_bool ⟨.str (PyData.shown (.bool b)), M, I.tok _, ⟨_, by simp only [PyData.shown]; rfl⟩, q⟩
  | int i =>
    obtain ⟨t, rfl⟩ := ru
    exact PySem.P.repr_of_int (of_decide_eq_true (by simpa only [PyData.showable] using sh)) ⟨.str (PyData.shown (.int i)), M, I.tok _, ⟨_, by simp only [PyData.shown]; rfl⟩, q⟩
  | str z =>
    obtain ⟨t, rfl⟩ := ru
    exact PySem.P.repr_of_str ⟨.str (PyData.shown (.str z)), M, I.tok _, ⟨_, by simp only [PyData.shown]; rfl⟩, q⟩ (by simpa only [PyData.shown] using sz)
  | lst h1 h2 =>
    cases ru
    exact repr_of_reads' rd sh (PyData.noDict_hsm nd) quiet (by omega) (fun _ _ e => e) (fun h' t tk keep => ⟨.str _, M, I.kept (t' := tk) keep, ⟨t, rfl⟩, q⟩) sz
  | tup h1 h2 =>
    cases ru
    exact repr_of_reads' rd sh (PyData.noDict_hsm nd) quiet (by omega) (fun _ _ e => e) (fun h' t tk keep => ⟨.str _, M, I.kept (t' := tk) keep, ⟨t, rfl⟩, q⟩) sz
end Sw
namespace Sw
open PySem PySem.Spec PyProof.Rows L2
/-! ### the end of a law whose def is called where nothing is being shown -/
theorem law_G {P : Program} {w : World} {K : PySem.W.Frag} {mg mb : Str → Option Value} {k : Nat} {fa a : Addr} {fd : FuncData} {x : Str} {sp : Sp} {t : Shared} {vs : List Value} {ns : List Int}
    (inK : K.In t.heap) (gl : t.heap.Ns mainGlobals mg) (bl : t.heap.Ns builtinsNs mb) (bb : ∀ y : Str, y ≠ "__name__" → mb y = bootBuiltins y) (lim : t.heap.NoLimit) (quietGens : t.gens = #[])
    (script : t.heap.get? a = some { cls := .type "list", data := .seq vs.toArray }) (nums : IntsAre vs ns) (short : ns.length ≤ sizeLine) (room : Room k callerA)
    (F : ∀ base : Heap, K.In base → base.Ns mainGlobals mg → FnG P w K mg base CX0 k fa fd [x] sp) (bind : ∀ (s : Shared) (u : Value), BindsTo s fd ⟨[u], []⟩ [(x, u)])
    (prom : ∀ M : Hp, Only M → SqL K M a (ns.map V.int) → sp [.ref a] M (fun v _ => v = .bl true) E0) :
    codeAny (model P w) callerA (.call (.ref fa) ⟨[.ref a], []⟩) (fun r s' => r = .ok (.ret (.bool true)) ∧ OldK t.heap s'.heap ∧ s'.os = t.os ∧ AllBare s'.gens) t := by
  have vals := vals_ints nums
  have sameLen := nums.length
  -- tracked: the script alone, and only if the module does not hold it already
  let M : Hp := fun b => if b = a ∧ K.lookup a = none then some (.frz { cls := .type "list", data := .seq vs.toArray } (.lst (ns.map V.int))) else none
  have at_a : ∀ {b : Addr} {o : HO}, M b = some o → b = a ∧ K.lookup a = none ∧ o = .frz { cls := .type "list", data := .seq vs.toArray } (.lst (ns.map V.int)) := by
    intro b o q
    by_cases c : b = a ∧ K.lookup a = none
    · have q' := (if_pos c).symm.trans q
      exact ⟨c.1, c.2, (Option.some.inj q').symm⟩
    · have q' := (if_neg c).symm.trans q
      cases q'
  have only : Only M := by
    intro b
    by_cases c : b = a ∧ K.lookup a = none
    · right; exact ⟨_, _, if_pos c⟩
    · left; exact if_neg c
  have ok : HOk P w M t.heap := by
    intro b o q
    obtain ⟨rfl, _, rfl⟩ := at_a q
    exact ⟨script, by rw [List.length_map]; exact short, vs, _, vals, script⟩
  have known : SqL K M a (ns.map V.int) := by
    cases hk : K.lookup a with
    | none => exact .inl (.inr ⟨_, if_pos ⟨rfl, hk⟩⟩)
    | some o =>
      have e := inK a o hk
      rw [script] at e
      cases e
      exact .inr ⟨_, vs.toArray, _, hk, rfl, rfl, rfl, by rw [List.size_toArray, sameLen]; exact short, by simpa using vals⟩
  have under : ∀ {b : Addr} {o : Obj}, t.heap.get? b = some o → M b = none → (hidT t.heap M).get? b = some o := fun e n => hidT_get e n
  have dictFree : ∀ {b : Addr} {o : Obj} {es : Array DictEntry} {n : Nat}, t.heap.get? b = some o → o.data = .dict es n → M b = none := by
    intro b o es n e hd
    rcases q : M b with _ | u
    · rfl
    · obtain ⟨rfl, _, _⟩ := at_a q
      rw [script] at e
      cases e
      cases hd
  have names : ∀ {b : Addr} {m : Str → Option Value}, t.heap.Ns b m → (hidT t.heap M).Ns b m := by
    rintro b m ⟨o, es, n, e, hd, r⟩
    exact ⟨o, es, n, under e (dictFree e hd), hd, r⟩
  have baseIn : K.In (hidT t.heap M) := by
    intro b o e
    apply under (inK b o e)
    rcases q : M b with _ | u
    · rfl
    · obtain ⟨rfl, no, _⟩ := at_a q
      rw [no] at e
      cases e
  obtain ⟨mc, lim1, lim2⟩ := lim
  have env : Env0 P w K mg (hidT t.heap M) callerA [] t M :=
    ⟨rfl, ⟨baseIn, names gl, ⟨mb, names bl, bb⟩, ⟨mc, names lim1, lim2⟩⟩, fun b o e => of_hidT e, Nat.le_of_eq (hidT_size _ _), trivial, (fun b z => by have y : b ∈ ([] : List Addr) := z; simp at y), ok, .of_eq quietGens⟩
  apply codeAny_mono ((F _ baseIn (names gl)).go callerA [] t M ⟨[.ref a], []⟩ [.ref a] [.ref a] _ _ room rfl env (bind t (.ref a)) (.cons rfl .nil) (prom M only known))
  intro r s' q
  rcases r with e | fl
  · exact q.elim
  · cases fl with
    | next => exact q.elim
    | brk => exact q.elim
    | cont => exact q.elim
    | ret u =>
      obtain ⟨v, M', os, bare, un, ok', rel, said⟩ := q
      have said' : v = .bl true := said
      subst said'
      have isTrue : u = Value.bool true := rel
      subst isTrue
      refine ⟨rfl, OldK.of_keep ?_, os, bare⟩
      intro b o e
      rcases q : M b with _ | u
      · exact un.keep b o e q (fun z => by have y : b ∈ ([] : List Addr) := z; simp at y) (by simp)
      · obtain ⟨rfl, _, rfl⟩ := at_a q
        obtain ⟨e1, _⟩ := ok _ _ q
        obtain ⟨e2, _⟩ := ok' _ _ (un.frzs _ _ _ q)
        rw [e] at e1
        cases e1
        exact e2
theorem walk_G {l : PySem.W.OpenLaw} {n k : Nat} {q : Program} {loose : List Str} {XP : (Str → Option Value) → Heap → Prop} {YP : World → Heap → Prop} {d : DefRec} {K : Params → PySem.W.Frag} {sp : PySem.W.Frag → Sp} {x : Str}
    (many : l.most = some n) (few : n ≤ sizeLine) (plain : d.params.defaults = []) (room : Room k callerA) (inK : ∀ (w : World) (h : Heap), YP w h → (K w.params).In h)
    (F : ∀ (w : World) (mg : Str → Option Value) (fa : Addr) (h : Heap), (K w.params).In h → h.Ns mainGlobals mg → mg d.name = some (.ref fa) →
      ∃ fd : FuncData, (∀ (s : Shared) (u : Value), BindsTo s fd ⟨[u], []⟩ [(x, u)]) ∧ ∀ base : Heap, (K w.params).In base → base.Ns mainGlobals mg → FnG l.prog w (K w.params) mg base CX0 k fa fd [x] (sp (K w.params)))
    (prom : ∀ (K : PySem.W.Frag) (M : Hp) (a : Addr) (ns : List Int), ns.length ≤ n → Only M → SqL K M a (ns.map V.int) → sp K [.ref a] M (fun v _ => v = .bl true) E0) :
    PySem.W.WalkO q loose XP YP l.row.toRowW d [] (fun f vs => PySem.call f vs) := by
  apply Att.attach_call many plain
  intro w s₀ t mg mb fa o pm cd doc a vs ns G Y _ _ _ named script nums short gens
  have kin := inK w _ Y
  obtain ⟨fd, bind, hF⟩ := F w mg fa _ kin G.T.g named
  exact law_G kin G.T.g G.T.b G.T.builtins G.T.nolimit gens script nums (Nat.le_trans short few) room hF bind fun M o s => prom _ M a ns short o s
end Sw
/-! own exceptions over Exception, by own classes between, with own fields -/
namespace PySem
namespace SwE
open PySem.W PySem.Calls PyProof.Rows PySem.HandSPX
abbrev exT : List Value := [.type "Exception", .type "BaseException", .type "object"]
def over (rs : List Addr) : List Value := rs.map Value.ref ++ exT
theorem over_pass (self : Value) : ∀ rs : List Addr, refuseLoop self "__setattr__" (over rs) = pure ()
  | [] => F.store_Exception.passes self
  | r :: rs => by
    show refuseLoop self "__setattr__" (.ref r :: over rs) = pure ()
    rw [refuseLoop_ref]
    exact over_pass self rs
theorem over_has (T : String) : ∀ rs : List Addr, (over rs).contains (.type T) = exT.contains (.type T)
  | [] => rfl
  | r :: rs => by
    show (Value.ref r :: over rs).contains (.type T) = exT.contains (.type T)
    rw [List.contains_cons, over_has T rs]
    rfl
theorem over_cons (r : Addr) (rs : List Addr) : Value.ref r :: over rs = over (r :: rs) := rfl
section
open Builtin Builtin.ObjectAttr
variable {prog : Program} {w : World} {A : Around} {E : Value → Shared → Prop} {R : Result → Shared → Prop} {hp : Heap} {g : Array GenState} {d : Drawn} {t : Nat} {os : OsState}
/-- the first field of such an exception -/
theorem first_field {K : W.Frag} {name : Str} {tk : Tok} {v : Value} {x C : Addr} {fv : Array Value} {cd : ClassData} {rs : List Addr}
    (inK : K.In hp) (here : hp.get? x = some { cls := .ref C, data := .fields fv }) (cls : W.clsIn K C = some cd) (mro : cd.mro = over rs) (dict : cd.hasDict = true) (none' : W.findIn K (.ref C) name = some none)
    (hq : ∀ h' tk' dx, (∀ b o, b ≠ x → hp.get? b = some o → h'.get? b = some o) → hp.objs.size ≤ dx → dx ≠ x → h'.get? x = some { cls := .ref C, dict := some dx, data := .fields fv } →
      h'.Ns1 dx (fun y => if y = name then some v else none) → R (.ok (.ret .none)) ⟨h', g, d, tk', os⟩) :
    codeAny (model prog w) A (.call (.builtin "object.__setattr__") ⟨[.ref x, .str name tk, v], []⟩) R ⟨hp, g, d, t, os⟩ := by
  have inst : W.InstAt hp x { cls := .ref C, data := .fields fv } C none := ⟨here, rfl, rfl, trivial⟩
  have facts := F.store_object
  have isObj : cd.mro.contains (.type "object") = true := by rw [mro, over_has]; decide +kernel
  have notEmpty : cd.mro.isEmpty = false := by rw [mro]; cases rs <;> rfl
  have apart : x ≠ hp.objs.size := Nat.ne_of_lt (Heap.lt_size here)
  have sub : W.Looks (model prog w) hp (isInstance (.ref x) (.type "object")) true := inst.type.andThen (W.looks_mroIn inK (by unfold W.mroIn; rw [cls, Option.bind_some, if_neg (by rw [notEmpty]; decide), isObj]))
  apply codeAny_call_builtin facts.slot.plain facts.entry (@W.check_slot (model prog w) _ _ ⟨hp, g, d, t, os⟩ "object.__setattr__" "object" "__setattr__" (.ref x) [.str name tk, v] [] _ facts.kind facts.split sub (facts.args (.ref x) (.str name tk) v) ?_)
  have looksMro : W.Looks (model prog w) hp (mroOf (.ref C)) cd.mro := (W.looks_clsIn inK cls).andThen .now
  have noTaker : W.Looks (model prog w) hp (storeTaker? none) none := .now
  have looksCls : W.Looks (model prog w) hp (classData C) cd := W.looks_clsIn inK cls
  rw [W.osa_eq, refuse_eq]
  refine wpAny_bind (wpAny_bind (inst.type.at (wpAny_bind (looksMro.at ?_))))
  rw [mro, over_pass]
  refine wpAny_pure (wpAny_bind (inst.type.at (wpAny_bind ((W.looks_findIn inK none').at (wpAny_bind (noTaker.at ?_))))))
  show wpAny _ _ (storeInOwnDict (.ref x) (.ref C) (.str name tk) name v false) _ _ _
  obtain ⟨nm, bs, mr, ns, qn, hd, sn, sb, ab, col, del⟩ := cd
  dsimp only at dict
  subst dict
  unfold storeInOwnDict ownDictForStores
  repeat (first | with_reducible refine store_in_new ?_ ?_ | with_reducible refine wpAny_loadPart_at here ?_ | with_reducible refine looksCls.at ?_ | wp_step)
  · exact ⟨_, #[], _, (Heap.get?_update_ne _ _ _ _ apart.symm).trans (Heap.get?_push_at rfl rfl), rfl, fun e he => absurd he (by simp), fun _ => rfl⟩
  · intro h' tk' named same
    have still : (hp.push { cls := .type "dict", data := .dict #[] }).get? x = some { cls := .ref C, data := .fields fv } := Heap.get?_push_of_some _ here
    apply hq h' tk' hp.objs.size ?_ (Nat.le_refl _) apart.symm ?_ named
    · intro b o hb ho
      exact (same.2 b (Nat.ne_of_lt (Heap.lt_size ho))).trans ((Heap.get?_update_ne _ _ _ _ hb).trans (Heap.get?_push_of_some _ ho))
    · exact (same.2 x apart).trans (Heap.get?_update_self _ still rfl)
end
end SwE
end PySem
namespace Sw
open PySem PySem.Spec PyProof.Rows L2 PySem.SwE
/-- what the written part says of an own exception class over Exception -/
structure OexE (K : PySem.W.Frag) (C : Addr) : Prop where
  cls : ∃ nm q N bs rs sn sub ab col dd k0 k1 k2 k3 k5, K.lookup C = some (excClassObj nm q C N bs (over rs) true sn sub ab col dd k0 k1 k2 k3 k5 "Exception.__new__")
  sa : PySem.W.findIn K (.ref C) "__setattr__" = some (some (.builtin "object.__setattr__"))
  exC : PySem.W.subIn K (.ref C) (.type "BaseException") = some true
  tyC : PySem.W.typeIn K (.ref C) = some (.type "type")
  kC : PySem.W.keepIn K (.ref C) = true
section
variable {X : Cx} {pins : List (Addr × Obj)} {σ : L2.St} {H : Hp} {s : Shared} {a C dx : Addr} {f : Str} {y : V} {u : Value} {fs : List (Str × V)} {Q : Unit → Shared → Prop} {E : Value → Shared → Prop} {A : Around}
theorem field_new (T : OexE X.K C) (I : Inv X pins σ H s) (e : H a = some (exo a C none)) (no : PySem.W.findIn X.K (.ref C) f = some none) (ry : RelV y u)
    (h : ∀ dx s', H dx = none → dx ≠ a → Inv X pins σ (upd (upd H dx (exd dx [(f, y)])) a (exo a C (some dx))) s' → Q () s') : wpAny (model X.prog X.w) A (setAttr (.ref a) f u) Q E s := by
  obtain ⟨nm, q, N, bs, rs, sn, sub, ab, col, dd, k0, k1, k2, k3, k5, hC⟩ := T.cls
  have data : PySem.W.clsIn X.K C = some { name := nm, bases := bs, mro := .ref C :: over rs, ns := N, qualname := q, hasDict := true, slotNames := sn, subclasses := sub, abstract := ab, collection := col, hasDel := false } := by
    unfold PySem.W.clsIn
    rw [hC] <;> rfl
  obtain ⟨t1, there⟩ := exo_at I.hok e
  obtain ⟨hp, g, d, t, os⟩ := s
  apply PySem.W.set_plain I.kIn (ox := { cls := .ref C, dict := none, data := .fields #[.ref t1, .none, .none, .none, .bool false, .none] }) (od := none) ⟨there, rfl, rfl, trivial⟩ T.sa
  apply first_field I.kIn there data (over_cons C rs) rfl no
  intro h' tk' dx keep new apart now named
  have free : H dx = none := I.hok.fresh new
  have notNew : ∀ {b : Addr} {o : Obj}, hp.get? b = some o → b ≠ dx := fun z => Nat.ne_of_lt (Nat.lt_of_lt_of_le (Heap.lt_size z) new)
  have notIt : ∀ {b : Addr}, H b = none → b ≠ a := by
    rintro b n rfl
    rw [e] at n
    cases n
  have un : Un X.fs [] H (upd (upd H dx (exd dx [(f, y)])) a (exo a C (some dx))) hp h' := by
    constructor
    · exact fun b o z n _ _ => keep b o (notIt n) z
    · exact fun b o z n _ _ => ⟨o.slots, keep b o (notIt n) z⟩
    · intro b o z n _
      rw [upd_ne (notIt n), upd_ne (notNew z)]
      exact n
    · intro b o z _
      by_cases c : b = a
      · exact ⟨_, by rw [c]; exact now⟩
      · exact ⟨o, keep b o c z⟩
    · intro b xs z
      rw [upd_ne (at_ne e z exo_tup), upd_ne (ne_of_none z free)]
      exact z
    · intro b o v z
      rw [upd_ne (at_ne e z exo_frz), upd_ne (ne_of_none z free)]
      exact z
    · exact fun b ps z => ⟨#[], by rw [upd_ne (at_ne e z exo_tbl), upd_ne (ne_of_none z free), z]; simp⟩
  apply h dx _ free apart
  apply I.un (t' := tk') un
  intro b o z
  by_cases c : b = a
  · subst c
    rw [upd_same] at z
    cases z
    exact exo_ok now
  · rw [upd_ne c] at z
    by_cases c2 : b = dx
    · subst c2
      rw [upd_same] at z
      cases z
      exact exd_ok named (relO_put (fs := []) ry fun g => True.intro)
    · rw [upd_ne c2] at z
      apply (I.hok b o z).stay
      · intro cc v hc zz
        apply keep cc v _ zz
        rcases hc with hc | hc
        · rw [hc]; exact c
        · exact at_ne e hc exo_own
      · intro cc hc
        rw [upd_ne (at_ne e hc exo_own), upd_ne (ne_of_none hc free)]
        exact hc
      · intro cc xs hc
        rw [upd_ne (at_ne e hc exo_tup), upd_ne (ne_of_none hc free)]
        exact hc
/-- Exception.__init__(self, ..): nothing of it is told -/
theorem init_plain {us : List Value} {R : Value → Shared → Prop} (T : OexE X.K C) (I : Inv X pins σ H s) (e : H a = some (exo a C none)) (few : us.length ≤ sizeLine) (h : ∀ s', Inv X pins σ H s' → R .none s') :
    wpAny (model X.prog X.w) A (call (.builtin "Exception.__init__") (.ref a :: us)) R E s := by
  obtain ⟨nm, q, N, bs, rs, sn, sub, ab, col, dd, k0, k1, k2, k3, k5, hC⟩ := T.cls
  obtain ⟨t1, there⟩ := exo_at I.hok e
  obtain ⟨hp, g, d, t, os⟩ := s
  apply wpAny_call (PySem.HandSPX.init_base F.excBase_Exception (fun Y => over_has Y rs) (I.kIn _ _ hC) there few ?_)
  intro h' t2 keep now
  have J := I.write (t' := t) (x := a) (e := a) (o := exo a C none) (by rw [e]; exact True.intro) (.inl rfl) keep ⟨_, now⟩ (exo_ok now)
  have same : upd H a (exo a C none) = H := by
    funext b
    by_cases c : b = a
    · rw [c, upd_same, e]
    · rw [upd_ne c]
  rw [same] at J
  exact h _ J
end
/-- B.__init__(self, ..), B's own one being Exception's -/
def tInit (K : PySem.W.Frag) (ta : TA) : TE := fun σ H Q => ta σ H fun vs H1 => ∃ (a C : Addr) (ws : List V), vs = .ref a :: ws ∧ ws.length ≤ 1000 ∧ OexE K C ∧ H1 a = some (exo a C none) ∧ Q .non H1
/-- self.f = e, the first field -/
def tFst (K : PySem.W.Frag) (f : Str) (to te : TE) : TS := fun D σ H => te σ H fun y H1 => to σ H1 fun x H2 => ∃ a C : Addr, x = .ref a ∧ OexE K C ∧ PySem.W.findIn K (.ref C) f = some none ∧
  H2 a = some (exo a C none) ∧ ∀ dx, H2 dx = none → dx ≠ a → D.nx σ (upd (upd H2 dx (exd dx [(f, y)])) a (exo a C (some dx)))
section
variable {X : Cx} {o e : Expr} {es : List Expr} {to te : TE} {ta : TA} {f : Str} {p p' p1 p2 pos : Pos}
theorem ps_fst (ho : PE X o to) (he : PE X e te) (hs : swapsWith e (some (.Attribute o f p')) pos.line X.env = pure false := by rfl) : PS X (.Assign [.Attribute o f p'] e pos) (tFst X.K f to te) := by
  constructor
  intro pins s σ H D I h
  apply plainObj_wpAny_Assign_Attribute (thn (he.run pins s σ H _ I h) fun v s1 ⟨y, H1, I1, r1, q1⟩ => thn (ho.run pins s1 σ H1 _ I1 q1) fun u s2 ⟨x, H2, I2, r2, a, C, ex, T, no, ea, q⟩ => ?_) hs
  subst ex
  obtain rfl : u = Value.ref a := r2
  exact field_new T I2 ea no r1 fun dx s' n ne J => ⟨σ, _, J, q dx n ne⟩
theorem ps_init {x : Str} {B : Addr} {pl : Sem Bool} (hg : Gl X x) (hm : X.mg x = some (.ref B)) (ga : PySem.W.specialIn X.K (.ref B) "__getattribute__" = some (some (.builtin "type.__getattribute__"))) (tyB : PySem.W.typeIn X.K (.ref B) = some (.type "type"))
    (rd : PySem.W.readsIn X.K B (.type "type") = true) (fi : PySem.W.findCls X.K (.ref B) (.type "type") "__init__" = some (.val (.builtin "Exception.__init__"))) (ha : PA X (e :: es) ta)
    (hc : eval (.Call (.Attribute (.Name x p1) "__init__" p2) (e :: es) [] pos) X.env = (do
      let ov ← eval (.Name x p1) X.env
      standAt p2.atName
      let (f, first) ← holding [ov] (getMethod ov "__init__" pl)
      callWith pos f first (backTo pos (starEach (e :: es) X.env)) (backToKw pos (keywordEach [] X.env))) := by rfl)
    (hdb : (x == ("__debug__" : Str)) = false := by decide)
    (he : starEach (e :: es) X.env = (false, eval e X.env) :: starEach es X.env := by rfl) (hpl : (backTo pos (starEach es X.env)).any (·.1) = false := by rfl) :
    PE X (.Call (.Attribute (.Name x p1) "__init__" p2) (e :: es) [] pos) (tInit X.K ta) := by
  constructor
  intro pins s σ H Q I h
  apply PySem.W.methodCall_KW (ld_glob I hg hm ?_ hdb) hc
  apply PySem.W.method_cls I.kIn ga
  apply PySem.W.cls_value I.kIn rd fi (by decide +kernel)
  show wpAny _ _ (callWith pos (Value.builtin "Exception.__init__") [] (backTo pos (starEach (e :: es) X.env)) []) _ _ _
  apply PyProof.Rows.callWith_method1 (thn (ha.run pos pins _ σ H _ (I.tok _) h) fun us s1 ⟨vs, H1, I1, r1, a, C, ws, ev, hl, T, ea, q⟩ => ?_) he hpl
  subst ev
  cases r1 with
  | @cons _ u0 _ ur ra rest =>
    obtain rfl : u0 = Value.ref a := ra
    have few : ur.length ≤ sizeLine := by
      rw [← Paired.length rest, sizeLine_eq]
      omega
    exact init_plain T I1 ea few fun s' J => ⟨.non, H1, J, rfl, q⟩
end
end Sw
namespace Sw
open PySem PySem.Spec PyProof.Rows L2 PySem.SwE
section
variable {X : Cx} {e : Expr} {es : List Expr} {ta : TA} {p pos : Pos} {CX : CXT} {x : Str} {C fI : Addr} {k : Nat} {fd : FuncData} {ps : List Str} {sp : Sp}
/-- C(e, ..), C an own exception class over Exception whose __init__ keeps sp -/
theorem pmk_E (T : OexE X.K C) (iC : PySem.W.findIn X.K (.ref C) "__init__" = some (some (.ref fI))) (tI : PySem.W.typeIn X.K (.ref fI) = some (.type "function")) (F1 : FnOk X.prog X.w X.K X.mg X.base CX k fI fd ps sp) (room : Room (k + 1) X.A) (bd : Binds X.K fd ps [])
    (px : Passes CX X E0) (hm : X.mg x = some (.ref C)) (ha : PA X (e :: es) ta) (hg : Gl X x := by rfl)
    (hdb : (x == ("__debug__" : Str)) = false := by decide) (he : starEach (e :: es) X.env = (false, eval e X.env) :: starEach es X.env := by rfl) (hpl : (backTo pos (starEach es X.env)).any (·.1) = false := by rfl) :
    PMk X (.Call (.Name x p) (e :: es) [] pos) (tMkO C sp [] ta) := by
  intro pins s σ H Q I h
  obtain ⟨nm, q, N, bs, rs, sn, sub, ab, col, dd, k0, k1, k2, k3, k5, hC⟩ := T.cls
  refine wpAny_Call_Name_kw (ld_glob I hg hm ?_ hdb)
  refine PySem.W.callWith_K (h₀ := X.base) I.ok.mod.kin T.kC (thn (ha.run pos pins s σ H _ I h) fun us s1 ⟨vs, H1, I1, r1, few, q1⟩ => ⟨I1.kIn, ?_⟩) he hpl
  show wpAny _ _ (call (.ref C) us) _ _ _
  obtain ⟨hp, g, dr, tk, os⟩ := s1
  have le : hp.objs.size ≤ hp.objs.size + 1 := Nat.le_succ _
  have free : H1 (hp.objs.size + 1) = none := I1.hok.fresh le
  have said := q1 (hp.objs.size + 1) free
  have keep : ∀ b o, hp.get? b = some o → ((hp.push (PySem.W.kdv_tup us)).push (PySem.HandSPX.excO C hp.objs.size)).get? b = some o := fun b o z => Heap.get?_push_of_some _ (Heap.get?_push_of_some _ z)
  have made : ((hp.push (PySem.W.kdv_tup us)).push (PySem.HandSPX.excO C hp.objs.size)).get? (hp.objs.size + 1) = some (PySem.HandSPX.excO C hp.objs.size) := by heap_get
  have I2 : Inv X pins σ (upd H1 (hp.objs.size + 1) (exo (hp.objs.size + 1) C none)) ⟨(hp.push (PySem.W.kdv_tup us)).push (PySem.HandSPX.excO C hp.objs.size), g, dr, tk, os⟩ :=
    I1.laid (t' := tk) (a := hp.objs.size + 1) (o := exo (hp.objs.size + 1) C none) (h' := (hp.push (PySem.W.kdv_tup us)).push (PySem.HandSPX.excO C hp.objs.size)) keep le (exo_ok made)
  have both : Vals (V.ref (hp.objs.size + 1) :: (vs ++ [])) (Value.ref (hp.objs.size + 1) :: (us ++ [])) := .cons rfl (r1.append .nil)
  have count : (Value.ref (hp.objs.size + 1) :: us ++ []).length = ps.length := by
    have z := both.length
    rw [F1.len _ _ _ _ said] at z
    exact z.symm
  have bound := bd _ (Value.ref (hp.objs.size + 1) :: us) I2.kIn count
  rw [List.cons_append] at bound
  have few' : us.length ≤ sizeLine := by
    rw [← Paired.length r1, sizeLine_eq]
    omega
  refine wpAny_call (PySem.HandSPX.call_own F.excBase_Exception (fun Y => over_has Y rs) (I1.kIn _ _ hC) (PySem.W.looks_findIn I1.kIn iC) (fun self => PySem.W.bind_fn I1.kIn self tI) few' (codeAny_mono (F1.run _ X.stack _ _ ⟨Value.ref (hp.objs.size + 1) :: us, []⟩ (Value.ref (hp.objs.size + 1) :: (us ++ [])) _ _ E0
    (room.make C us []) (I2.env0.make C us []) bound both said) fun r s' z => ?_))
  rcases r with er | fl
  · exact px pins σ _ _ er s' I2 z
  · cases fl with
    | next => exact z.elim
    | brk => exact z.elim
    | cont => exact z.elim
    | ret u =>
      obtain ⟨v, H2, os2, bare, un, ok, rv, ev, d, fs, ea, ed, hd1, q2⟩ := z
      subst ev
      obtain ⟨h2, g2, d2, t2, os'⟩ := s'
      exact ⟨rv, mk_end (raises_own T.exC T.tyC) I1 le keep un ok os2 bare ea ed hd1 q2⟩
end
end Sw
namespace Sw
open PySem PySem.Spec PyProof.Rows L2 PySem.SwE
/-! ### defs that may let out an exception -/
theorem Fun.okX {P : Program} {w : World} {K : PySem.W.Frag} {mg : Str → Option Value} {base : Heap} {k : Nat} {f : Addr} {fd : FuncData} {ps : List Str} {sp : Sp} {x qual : Str} {st : Stmt} {N : List Str} (F : Fun K x qual st f fd) (S : FnScope N ps (defScope st)) (len : ∀ xs M R X, sp xs M R X → xs.length = ps.length)
    (body : ∀ (cdv : Value) (A : Around) (out : List Env) (t : Shared) (M : Hp) (xs : List V) (R : VK) (E : XK), Room k (A.deeper (envOfC qual (defScope st) t.heap.objs.size f cdv)) → sp xs M R E →
      Takes (cxOf (L2.CX P w) P w K mg base N qual (defScope st) f cdv A out t M E) (fun cls d _ M' => E cls d M') →
      ∃ r, PSs (cxOf (L2.CX P w) P w K mg base N qual (defScope st) f cdv A out t M E) (defBody st) r ∧ r { nx := fun _ M' => R .non M', rt := R } (start N xs) M) : FnOk P w K mg base (L2.CX P w) (k + 1) f fd ps sp := by
  obtain ⟨oc, od, kV, doc, pm, an, cdv, ct, osl, rfl, found, coded⟩ := F.ex
  exact fn_of found coded S len fun A out t M xs R E room prom => body cdv A out t M xs R E room prom (takes_of rfl rfl rfl rfl)
section
variable (P : Program) (w : World) (K : PySem.W.Frag) (mg : Str → Option Value) (base : Heap)
def CalX (x : Str) (ps : List Str) (k : Nat) (sp : Sp) : Prop := ∃ (f : Addr) (fd : FuncData), FnOk P w K mg base (L2.CX P w) k f fd ps sp ∧ mg x = some (.ref f) ∧ PySem.W.keepIn K (.ref f) = true ∧ Binds K fd ps []
def CalKX (x : Str) (ps : List Str) (k : Nat) (sp : Sp) (ks : List Str) (g : List Value → List Value → List Value) (gV : List V → List V → List V) : Prop := ∃ (f : Addr) (fd : FuncData), FnOk P w K mg base (L2.CX P w) k f fd ps sp ∧ mg x = some (.ref f) ∧ PySem.W.keepIn K (.ref f) = true ∧ KBinds K fd ps ks g gV
end
section
variable {P : Program} {w : World} {K : PySem.W.Frag} {mg : Str → Option Value} {base : Heap} {x : Str} {st : Stmt} {ps ks : List Str} {k : Nat} {sp : Sp}
theorem Def.calX (d : Def K mg x st)
    (b : ∀ (kV doc pm : Value) (an : Option Addr) (cdv ct : Value) (us : List Value), us.length = ps.length → bindArgs (PySem.W.fnOf x x (defArgs st) (defBody st) (defScope st) .none kV doc pm an cdv ct) ⟨us, []⟩ = pure (ps.zip us))
    (ok : ∀ (f : Addr) (fd : FuncData), Fun K x x st f fd → FnOk P w K mg base (L2.CX P w) k f fd ps sp) : CalX P w K mg base x ps k sp := by
  obtain ⟨f, fd, F, m⟩ := d
  exact ⟨f, fd, ok f fd F, m, F.kp, F.binds b⟩
theorem Def.calKX {g : List Value → List Value → List Value} {gV : List V → List V → List V} (d : Def K mg x st)
    (b : ∀ (kV doc pm : Value) (an : Option Addr) (cdv ct : Value) (us ws : List Value), (g us ws).length = ps.length → bindArgs (PySem.W.fnOf x x (defArgs st) (defBody st) (defScope st) .none kV doc pm an cdv ct) ⟨us, ks.zip ws⟩ = pure (ps.zip (g us ws)))
    (rel : ∀ {vs : List V} {us : List Value} {zs : List V} {ws : List Value}, Vals vs us → Vals zs ws → Vals (gV vs zs) (g us ws))
    (ok : ∀ (f : Addr) (fd : FuncData), Fun K x x st f fd → FnOk P w K mg base (L2.CX P w) k f fd ps sp) : CalKX P w K mg base x ps k sp ks g gV := by
  obtain ⟨f, fd, F, m⟩ := d
  have O := ok f fd F
  have kp := F.kp
  obtain ⟨oc, od, kV, doc, pm, an, cdv, ct, osl, rfl, lk, hcd⟩ := F.ex
  exact ⟨f, _, O, m, kp, fun s us ws _ hl => .of_eq (b kV doc pm an cdv ct us ws hl), rel⟩
end
def tKwS (sp : Sp) (gV : List V → List V → List V) (E : L2.St → XK) (tk : TA) : TE := fun σ H Q => tk σ H fun zs H1 => sp (gV [] zs) H1 Q (E σ)
section
variable {X : Cx} {x : Str} {ps ks : List Str} {k n : Nat} {sp : Sp} {e : Expr} {es : List Expr} {t : TA} {p pos : Pos} {W : WX} {g : List Value → List Value → List Value} {gV : List V → List V → List V} {kws : List Keyword}
theorem pe_calX (c : CalX X.prog X.w X.K X.mg X.base x ps k sp) (hr : Room n X.A) (tk : Takes X W) (ha : PA X (e :: es) t) (hg : Gl X x := by rfl) (hk : k ≤ n := by decide)
    (hdb : (x == ("__debug__" : Str)) = false := by decide) (he : starEach (e :: es) X.env = (false, eval e X.env) :: starEach es X.env := by rfl) (hpl : (backTo pos (starEach es X.env)).any (·.1) = false := by rfl) :
    PE X (.Call (.Name x p) (e :: es) [] pos) (tCallS sp (WE W) t) := by
  obtain ⟨f, fd, F, m, kp, b⟩ := c
  exact pe_callS F (hr.mono hk) hg m kp b (passAt tk) ha hdb he hpl
theorem i_callS {σ : L2.St} {H : Hp} {Q : VK} {E : L2.St → XK} (h : t σ H fun vs H1 => sp vs H1 Q (E σ)) : tCallS sp E t σ H Q := h
theorem pe_calKX (c : CalKX X.prog X.w X.K X.mg X.base x ps k sp ks g gV) (hr : Room n X.A) (tk : Takes X W) (hkw : PK X kws t) (hg : Gl X x := by rfl) (hk : k ≤ n := by decide)
    (hall : (backToKw pos (keywordEach kws X.env)).all (·.1.isSome) = true := by rfl) (hks : (backToKw pos (keywordEach kws X.env)).filterMap (·.1) = ks := by rfl) (hdb : (x == ("__debug__" : Str)) = false := by decide)
    (hpl : ((backTo pos (starEach [] X.env)).any (·.1) || (backToKw pos (keywordEach kws X.env)).any (·.1.isNone)) = false := by rfl) :
    PE X (.Call (.Name x p) [] kws pos) (tKwS sp gV (WE W) t) := by
  obtain ⟨f, fd, F, m, kp, b⟩ := c
  constructor
  intro pins s σ H Q I h
  apply wpAny_Call_Name_kw (ld_glob I hg m ?_ hdb)
  refine PySem.W.callWith_KW0 (h₀ := X.base) I.ok.mod.kin kp hall (thn (hkw.run pos pins s σ H _ I h) fun ws s2 ⟨zs, H2, I2, rz, q⟩ => ⟨I2.kIn, ?_⟩) hpl
  rw [hks]
  have rel := b.rel (vs := []) (us := []) .nil rz
  have count : (g [] ws).length = ps.length := by rw [← rel.length]; exact F.len _ _ _ _ q
  apply wpAny_call
  apply codeAny_mono (F.run X.A X.stack s2 H2 ⟨[], ks.zip ws⟩ (g [] ws) (gV [] zs) Q (WE W σ) (hr.mono hk) I2.env0 (b.to s2 [] ws I2.kIn count) rel q)
  intro o s' z
  rcases o with er | fl
  · exact passAt tk σ pins H2 s2 er s' I2 z
  · cases fl with
    | ret u => exact I2.after z
    | next => exact z.elim
    | brk => exact z.elim
    | cont => exact z.elim
theorem i_kwS {σ : L2.St} {H : Hp} {Q : VK} {E : L2.St → XK} (h : t σ H fun zs H1 => sp (gV [] zs) H1 Q (E σ)) : tKwS sp gV E t σ H Q := h
end
theorem takes_none {X : Cx} : Takes X (fun _ _ _ _ => False) := fun u s' z => by
  obtain ⟨a, B, sI, pins, σ, H, cls, d, e, I, nb, up, sky, na, os, ag, w⟩ := z
  exact w.elim
end Sw
namespace Sw
open PySem PySem.Spec PyProof.Rows L2 PySem.SwE
/-- InvalidText.__init__(self, given) -/
def spInit (K : PySem.W.Frag) : Sp := fun vs H Q _ => ∃ (a C : Addr) (v : V), vs = [.ref a, v] ∧ H a = some (exo a C none) ∧ OexE K C ∧ PySem.W.findIn K (.ref C) "given" = some none ∧
  ∀ dx, H dx = none → dx ≠ a → Q .non (upd (upd H dx (exd dx [("given", v)])) a (exo a C (some dx)))
/-- what the written part says of the class that is called over -/
structure Over (K : PySem.W.Frag) (mg : Str → Option Value) (B : Addr) : Prop where
  hm : mg "CodecError" = some (.ref B)
  ga : PySem.W.specialIn K (.ref B) "__getattribute__" = some (some (.builtin "type.__getattribute__"))
  ty : PySem.W.typeIn K (.ref B) = some (.type "type")
  rd : PySem.W.readsIn K B (.type "type") = true
  fi : PySem.W.findCls K (.ref B) (.type "type") "__init__" = some (.val (.builtin "Exception.__init__"))
theorem i_init {K : PySem.W.Frag} {ta : TA} {σ : L2.St} {H : Hp} {Q : VK} (h : ta σ H fun vs H1 => ∃ (a C : Addr) (ws : List V), vs = .ref a :: ws ∧ ws.length ≤ 1000 ∧ OexE K C ∧ H1 a = some (exo a C none) ∧ Q .non H1) : tInit K ta σ H Q := h
theorem i_fst {K : PySem.W.Frag} {f : Str} {to te : TE} {D : Ends} {σ : L2.St} {H : Hp} (h : te σ H fun y H1 => to σ H1 fun x H2 => ∃ a C : Addr, x = .ref a ∧ OexE K C ∧ PySem.W.findIn K (.ref C) f = some none ∧
  H2 a = some (exo a C none) ∧ ∀ dx, H2 dx = none → dx ≠ a → D.nx σ (upd (upd H2 dx (exd dx [(f, y)])) a (exo a C (some dx)))) : tFst K f to te D σ H := h
/-- the class InvalidText, as it stands behind the top -/
structure XT (P : Program) (w : World) (K : PySem.W.Frag) (mg : Str → Option Value) (base : Heap) (C : Addr) : Prop where
  T : OexE K C
  xf : XfC K C
  no : PySem.W.findIn K (.ref C) "given" = some none
  hm : mg "InvalidText" = some (.ref C)
  me : PySem.W.exmOne K (.ref C) (.ref C) = some true
  ini : ∃ (fI : Addr) (fd : FuncData), PySem.W.findIn K (.ref C) "__init__" = some (some (.ref fI)) ∧ PySem.W.typeIn K (.ref fI) = some (.type "function") ∧ FnOk P w K mg base CX0 1 fI fd ["self", "given"] (spInit K) ∧ Binds K fd ["self", "given"] []
theorem pmk_T {X : Cx} {C : Addr} {n : Nat} {e : Expr} {te : TE} {p pos : Pos} (xt : XT X.prog X.w X.K X.mg X.base C) (hr : Room n X.A) (he : PE X e te) (hn : 2 ≤ n := by decide) (hg : Gl X "InvalidText" := by rfl)
    (he2 : starEach [e] X.env = (false, eval e X.env) :: starEach [] X.env := by rfl) : PMk X (.Call (.Name "InvalidText" p) [e] [] pos) (tMkO C (spInit X.K) [] (tCons te tNil)) := by
  obtain ⟨fI, fd, h1, h2, h3, h4⟩ := xt.ini
  exact pmk_E xt.T h1 h2 h3 (hr.mono hn) h4 pass0 xt.hm (pa_cons he pa_nil he2) hg (by decide) he2 (by rfl)
def Thrown (K : PySem.W.Frag) (C : Addr) (vs : List V) (H1 : Hp) (Q : XK) : Prop := vs.length ≤ 1000 ∧ ∀ a, H1 a = none → spInit K (.ref a :: (vs ++ [])) (upd H1 a (exo a C none))
  (fun v H2 => v = .non ∧ ∃ (d : Addr) (fs : List (Str × V)), H2 a = some (exo a C (some d)) ∧ H2 d = some (exd d fs) ∧ H1 d = none ∧ Q (.ref C) (some d) (upd (del H2 a) d (.xd fs))) (fun _ _ _ => False)
theorem i_mk {K : PySem.W.Frag} {C : Addr} {ta : TA} {σ : L2.St} {H : Hp} {Q : XK} (h : ta σ H fun vs H1 => Thrown K C vs H1 Q) : tMkO C (spInit K) [] ta σ H Q := h
def tRs (t : L2.St → Hp → XK → Prop) (W : WX) : TS := fun _ σ H => t σ H fun cls d H' => W cls d σ H'
theorem ps_rs {X : Cx} {W : WX} {e : Expr} {t : L2.St → Hp → XK → Prop} {pos : Pos} (hc : X.calm = true) (tk : Takes X W) (he : PMk X e t) : PS X (.Raise (some e) none pos) (tRs t W) := L2.ps_raise hc tk he
theorem i_raise {t : L2.St → Hp → XK → Prop} {W : WX} {D : Ends} {σ : L2.St} {H : Hp} (h : t σ H fun cls d H' => W cls d σ H') : tRs t W D σ H := h
theorem i_thrown {K : PySem.W.Frag} {C : Addr} {v : V} {H1 : Hp} {Q : XK} (T : OexE K C) (no : PySem.W.findIn K (.ref C) "given" = some none) (h : ∀ dx, H1 dx = none → Q (.ref C) (some dx) (upd H1 dx (.xd [("given", v)]))) : Thrown K C [v] H1 Q := by
  refine ⟨by simp, fun a na => ⟨a, C, v, rfl, upd_same, T, no, fun dx nx ne => ⟨rfl, dx, [("given", v)], upd_same, ?_, ?_, ?_⟩⟩⟩
  · rw [upd_ne ne, upd_same]
  · rw [upd_ne ne] at nx; exact nx
  · rw [upd_ne ne] at nx
    have e : upd (del (upd (upd (upd H1 a (exo a C none)) dx (exd dx [("given", v)])) a (exo a C (some dx))) a) dx (.xd [("given", v)]) = upd H1 dx (.xd [("given", v)]) := by
      funext b
      by_cases c : b = dx
      · rw [c, upd_same, upd_same]
      · rw [upd_ne c, upd_ne c]
        by_cases c2 : b = a
        · rw [c2, del_same, na]
        · rw [del_ne c2, upd_ne c2, upd_ne c, upd_ne c2]
    rw [e]
    exact h dx nx
theorem i_dnew {σ : L2.St} {H : Hp} {Q : VK} (h : ∀ p, H p = none → Q (.ref p) (upd H p (.dK []))) : tDNewK σ H Q := h
end Sw
namespace Sw
open PySem PySem.Spec PyProof.Rows L2
/-! ### try with several clauses that name the error -/
inductive AsOk (X : Cx) (Wo : WX) : List ExceptHandler → (Ends → WX) → Prop
  | nil : AsOk X Wo [] fun _ => Wo
  | cons {x n : Str} {c : Value} {i : Nat} {ts : Addr → Value → Option Addr → TS} {st : Stmt} {more : List Stmt} {p1 p2 : Pos} {hds : List ExceptHandler} {W : Ends → WX}
      (hi : X.N[i]? = some n) (hl : X.env.kindOf n = some .local) (hc : Names X x c)
      (su : ∀ (a : Addr) (o : Obj) (cls : Value) (d : Option Addr) (pn : List (Addr × Obj)), Zc cls d o → (∃ vs, o.data = .fields vs) → PSs (X.suite a ((a, o) :: pn)) (st :: more) (ts a cls d))
      (rest : AsOk X Wo hds W) : AsOk X Wo (.ExceptHandler (some (.Name x p1)) (some n) (st :: more) p2 :: hds) fun D => wAs X.K c i ts (W D) D
theorem ps_tries {X : Cx} {Wo : WX} {W : Ends → WX} {body : List Stmt} {h₀ : ExceptHandler} {hds : List ExceptHandler} {pos : Pos} {tb : WX → TS} (hs : X.stack = X.env :: X.outer) (hf : X.env.frame = some X.env.locals) (nd : X.N.Nodup) (tk : Takes X Wo)
    (hb : ∀ (V : WX) (pn : List (Addr × Obj)) (xe : Value → Shared → Prop), Takes (X.tr pn xe) V → PassesOwn (model X.prog X.w) X.A X.env xe → PSs (X.tr pn xe) body (tb V))
    (hh : AsOk X Wo (h₀ :: hds) W) : PS X (.Try body (h₀ :: hds) [] [] pos) fun D σ H => tb (W D) D σ H := by
  constructor
  intro pins s σ H D I h
  have ok := I.ok
  have fr : X.A.frames = some (X.env :: X.outer) := by rw [← hs]; exact ok.frames
  let after : Value → Shared → Prop := fun e s₁ => wpAny (model X.prog X.w) X.A (noteFrame e X.env) (fun _ s₂ => wpAny (model X.prog X.w) X.A (setFlight e none) (fun _ s₃ => wpAny (model X.prog X.w) X.A (handleBy e X.env (h₀ :: hds)) (SP X pins D) X.xe s₃) X.xe s₂) X.xe s₁
  have run := (hb (W D) (X.pn ++ pins) after (fun u s' air => ?_) PassesOwn.looking).run [] s σ H D (I.toTry _) h
  · refine wpAny_Try_except (wpAny_mono run (fun f s1 z => ?_) fun _ _ z => z)
    cases f <;> obtain ⟨_, _, z⟩ := z
    · exact wpAny_execs_nil ⟨_, _, z.1.ofTry ok, z.2⟩
    · exact ⟨_, _, z.1.ofTry ok, z.2⟩
    · exact ⟨_, _, z.1.ofTry ok, z.2⟩
    · obtain ⟨H', J, r, q⟩ := z
      exact ⟨_, _, _, J.ofTry ok, r, q⟩
  · obtain ⟨a, B, sI, pins', σ', H', cls, d, rfl, J0, nb, up, sky, na, os, ag, w⟩ := air
    have J := J0.ofTry ok
    show wpAny (model X.prog X.w) X.A (noteFrame (.ref a) X.env) _ _ _
    refine Sky.land Zc.steady fr hf (by rw [← hs]; exact sky) fun h3 fl3 up3 => ?_
    have J3 : Inv X pins σ' H' { s' with heap := h3 } := J.landed nb fl3.1 (up.trans up3) os ag
    obtain ⟨o3, vs3, ho3, z3, d3⟩ := fl3.there
    have out : a ∉ frs (X.env :: X.outer) := fun hm => by
      obtain ⟨_, o', e', hn⟩ := fl3.2.2.1.mem hm
      cases ho3.symm.trans e'
      exact hn _ d3
    have nL : a ≠ X.env.locals := fun z => out (List.mem_filterMap.mpr ⟨_, List.mem_cons_self, by rw [hf, z]⟩)
    have nF : a ∉ X.fs := fun hm => by
      obtain ⟨e, he, q⟩ := List.mem_filterMap.mp hm
      exact out (List.mem_filterMap.mpr ⟨e, List.mem_cons_of_mem _ he, q⟩)
    have S3 := J3.suite ho3 d3 na nL nF
    clear h
    revert w
    generalize h₀ :: hds = all at hh
    intro w
    induction hh with
    | nil =>
      refine wpAny_handleBy_nil ?_
      obtain ⟨_, _, _, o, vs, T, _, _, g1, _, g2, g3, _⟩ := id fl3
      unfold PySem.passOn
      refine wpAny_bind (wpAny_field g1 g2 g3 ?_)
      rw [if_neg (by simp : ¬ (Value.ref T == Value.none) = true)]
      have away : wpAny (model X.prog X.w) X.A (setFlight (.ref a) X.env.frame) (fun _ s4 => wpAny (model X.prog X.w) X.A (throw (.ref a) : Sem Flow) (SP X pins D) X.xe s4) X.xe { s' with heap := h3 } := by
        rw [hf]
        exact HandSPX.setFlight_upZ fl3 fun h4 hh4 up4 => wpAny_throw (tk _ _ ⟨a, B, sI, pins, σ', H', cls, d, rfl, J, nb, (up.trans up3).trans up4, .inr (.inr (by rw [hs]; exact hh4)), na, os, ag, w⟩)
      first | exact wpAny_bind (wpAny_pure (wpAny_bind away)) | exact wpAny_bind away
    | @cons x n c i ts st more p1 p2 hds W hi hl hc su rest ih =>
      obtain ⟨b, hb1, yes, no⟩ := w
      refine wpAny_handleBy_cons (codeAny_handlers_test ?_) (by intro q; cases q)
      have ty : PySem.W.Looks (model X.prog X.w) h3 (typeOf (.ref a)) cls := fun _ _ _ s k q => wpAny_typeOf_ref (k _ _ ho3) (by rw [z3.1]; exact q)
      have hit := PySem.W.exm_one (M := model X.prog X.w) J3.kIn ty hb1
      have name : ∀ {Q E : Value → Shared → Prop}, Q c { s' with heap := h3 } → wpAny (model X.prog X.w) (X.A.mark (some (.ref a))) (eval (.Name x p1) X.env) Q E { s' with heap := h3 } := fun q => by
        obtain ⟨hg, hd, ⟨hm⟩ | ⟨hm, hv, hn⟩⟩ := hc
        · exact ld_glob (X := X.suite a ((a, o3) :: (X.pn ++ pins))) S3 hg (by assumption) q hd
        · exact ld_blt (X := X.suite a ((a, o3) :: (X.pn ++ pins))) S3 hg hm hv q hn hd
      refine name (hit.here ?_)
      cases b with
      | false => exact ih (no rfl)
      | true =>
        refine codeAny_handlers_suite_as (HandSPX.lands_againZ fl3 fun h4 fl4 up4 => ?_)
        obtain ⟨o4, vs4, ho4, z4, d4⟩ := fl4.there
        have J4 : Inv X pins σ' H' { s' with heap := h4 } := J.landed nb fl4.1 ((up.trans up3).trans up4) os ag
        refine store_ok (X := X.suite a ((a, o4) :: (X.pn ++ pins))) (v := .ref a) (J4.suite ho4 d4 na nL nF) nd hi (.inl hl) rfl (fun s5 S5 => ?_) (.inr hl)
        refine wpAny_mono ((su a o4 cls d (X.pn ++ pins) z4 ⟨_, d4⟩).run [] s5 _ H' _ S5 (yes rfl a na)) (fun f s6 z => ?_) fun _ _ z => z.elim
        have bye : ∀ {σ6 : L2.St} {H6 : Hp} {Q : Shared → Prop}, Inv (X.suite a ((a, o4) :: (X.pn ++ pins))) [] σ6 H6 s6 → (∀ s7, Inv X pins (σ6.set i none) H6 s7 → Q s7) →
            wpAny (model X.prog X.w) X.A (do bindName X.env n .none; unbindBehindTheSuite X.env n p2) (fun _ s7 => Q s7) X.xe s6 := fun S6 hq => gone_ok (S6.unsuite ok) nd hi hl hq
        cases f <;> obtain ⟨_, _, z⟩ := z
        · exact bye z.1 fun s7 J7 => ⟨_, _, J7, z.2⟩
        · exact bye z.1 fun s7 J7 => ⟨_, _, J7, z.2⟩
        · exact bye z.1 fun s7 J7 => ⟨_, _, J7, z.2⟩
        · obtain ⟨H6, S6, r6, q6⟩ := z
          exact bye S6 fun s7 J7 => ⟨_, _, _, J7, r6, q6⟩
end Sw
namespace Sw
open PySem PySem.Spec PyProof.Rows L2
/-- isinstance(e, c), e the caught error, its fields at d -/
def rIsEd (K : PySem.W.Frag) (a : Addr) (cls : Value) (d : Option Addr) : List V → Hp → VK → Prop := fun xs H Q => ∃ (D c dd : Addr) (fs : List (Str × V)) (b : Bool), xs = [.ref a, .ref c] ∧ cls = .ref D ∧ ExcC K D ∧ d = some dd ∧ H dd = some (.xd fs) ∧ PySem.W.kitOne K (.ref D) (.ref c) = some b ∧ Q (.bl b) H
theorem call_isEd {X : Cx} {a : Addr} {oe : Obj} {cls : Value} {d : Option Addr} {pn : List (Addr × Obj)} (hz : Zc cls d oe) (hf : ∃ vs, oe.data = .fields vs) : CallR (X.suite a ((a, oe) :: pn)) (.builtin "isinstance") (rIsEd X.K a cls d) := by
  intro pins s σ H xs us Q I r h
  obtain ⟨D, c, dd, fs, b, rfl, rfl, C, rfl, ea, e, q⟩ := h
  cases r with
  | cons rx rr =>
    cases rr with
    | cons rt rr =>
      cases rr
      cases rx
      cases rt
      obtain ⟨hget, _⟩ := I.pin (a, oe) (List.mem_append.mpr (.inl List.mem_cons_self))
      obtain ⟨vs, hv⟩ := hf
      have hx : ObjOk X.prog X.w H s.heap dd (.xd fs) := I.hok dd _ ea
      obtain ⟨mA, hns, hr⟩ := hx
      obtain ⟨od, ho, hl⟩ := lookIn_ns hns
      have J : PySem.W.InstAt s.heap a oe D (some od) := ⟨hget, hz.1, by unfold PySem.W.notCls; rw [hv] <;> rfl, by rw [hz.2]; exact ho⟩
      exact PySem.W.kia_one (PySem.W.kitx_exc (by obtain ⟨cd, hc, _⟩ := PySem.W.any_some C.hd; rw [hc]; rfl) C.hg C.hk C.hs C.ha C.hn C.ht C.hm) I.kIn J e (fun z => nomatch z) fun tk => ⟨.bl b, H, I.kept (t' := tk) fun _ _ z => z, rfl, q⟩
end Sw
namespace Sw
open PySem PySem.Spec PyProof.Rows L2
/-! ### data with dicts in it -/
def keyD : Key → PyData
  | .inl i => .int i
  | .inr x => .str x
mutual
inductive De (K : PySem.W.Frag) (H : Hp) : V → PyData → Prop
  | non : De K H .non .none
  | bl (b : Bool) : De K H (.bl b) (.bool b)
  | int (i : Int) : De K H (.int i) (.int i)
  | str (x : Str) : De K H (.str x) (.str x)
  | lst {a : Addr} {xs : List V} {ds : List PyData} : H a = some (.lst xs) → sysModules < a → DeAll K H xs ds → De K H (.ref a) (.list ds)
  | tup {a : Addr} {xs : List V} {ds : List PyData} : SqT K H a xs → DeAll K H xs ds → De K H (.ref a) (.tuple ds)
  | dict {a : Addr} {kvs : List (Key × V)} {ds : List (PyData × PyData)} : H a = some (.dK kvs) → DeKv K H kvs ds → De K H (.ref a) (.dict ds)
inductive DeAll (K : PySem.W.Frag) (H : Hp) : List V → List PyData → Prop
  | nil : DeAll K H [] []
  | cons {v : V} {vs : List V} {d : PyData} {ds : List PyData} : De K H v d → DeAll K H vs ds → DeAll K H (v :: vs) (d :: ds)
inductive DeKv (K : PySem.W.Frag) (H : Hp) : List (Key × V) → List (PyData × PyData) → Prop
  | nil : DeKv K H [] []
  | cons {k : Key} {v : V} {vs : List (Key × V)} {d : PyData} {ds : List (PyData × PyData)} : De K H v d → DeKv K H vs ds → DeKv K H ((k, v) :: vs) ((keyD k, d) :: ds)
end
theorem key_reads {h : Heap} {k : Key} {u : Value} (e : keyIs k u = true) : Reads h u (keyD k) [] := by
  rcases keyIs_shape e with ⟨i, t, rfl, rfl⟩ | ⟨x, t, rfl, rfl⟩
  · exact .int i t
  · exact .str x t
section
variable {X : Cx} {pins : List (Addr × Obj)} {σ : L2.St} {H : Hp} {s : Shared}
mutual
theorem De.reads (I : Inv X pins σ H s) : ∀ (d : PyData) (v : V) (u : Value), De X.K H v d → RelV v u → ∃ as, Reads s.heap u d as ∧ sysModules ∉ as
  | .none, _, _, h, r => by
    cases h
    cases r
    exact ⟨_, Reads.none, by simp⟩
  | .bool b, _, _, h, r => by
    cases h
    cases r
    exact ⟨_, Reads.bool b, by simp⟩
  | .int i, _, _, h, r => by
    cases h
    obtain ⟨t, rfl⟩ := r
    exact ⟨_, Reads.int i t, by simp⟩
  | .str x, _, _, h, r => by
    cases h
    obtain ⟨t, rfl⟩ := r
    exact ⟨_, Reads.str x t, by simp⟩
  | .list ds, _, _, h, r => by
    cases h with
    | lst hs hlt ha =>
      cases r
      obtain ⟨its, rv, ⟨o, n, ho, hc, _, hd⟩, _⟩ := I.list (.inl (.inl hs))
      obtain ⟨as, hr, hn⟩ := De.readsAll I ds _ its ha rv
      exact ⟨_, Reads.list ho hc hd hr, by
        intro z
        rcases List.mem_cons.mp z with z | z
        · exact Nat.lt_irrefl _ (z ▸ hlt)
        · exact hn z⟩
  | .tuple ds, _, _, h, r => by
    cases h with
    | tup hs ha =>
      cases r
      obtain ⟨its, rv, ⟨o, ho, hc, n, hd⟩, _⟩ := I.tuple hs
      obtain ⟨as, hr, hn⟩ := De.readsAll I ds _ its ha rv
      exact ⟨_, Reads.tuple ho hc hd hr, hn⟩
  | .dict ds, _, _, h, r => by
    cases h with
    | dict hs ha =>
      cases r
      obtain ⟨_, notSys, vs, kv, o, es, ep, ho, ex, hd, _, pr, _⟩ : ObjOk X.prog X.w H s.heap _ (.dK _) := I.hok _ _ hs
      obtain ⟨as, bs, hr1, hr2, hn1, hn2⟩ := De.readsKv I ds _ vs es.toList ha kv pr
      exact ⟨_, Reads.dict ho ex.1 hd hr1 hr2, by
        intro z
        rcases List.mem_append.mp z with z | z
        · rcases List.mem_cons.mp z with z | z
          · rw [← z] at notSys
            exact absurd notSys (by decide)
          · exact hn1 z
        · exact hn2 z⟩
theorem De.readsAll (I : Inv X pins σ H s) : ∀ (ds : List PyData) (vs : List V) (us : List Value), DeAll X.K H vs ds → Vals vs us → ∃ as, ReadsAll s.heap us ds as ∧ sysModules ∉ as
  | [], _, _, h, r => by
    cases h
    cases r
    exact ⟨_, ReadsAll.nil, by simp⟩
  | d :: ds, _, _, h, r => by
    cases h with
    | cons h1 h2 =>
      cases r with
      | cons r1 r2 =>
        obtain ⟨as, q1, n1⟩ := De.reads I d _ _ h1 r1
        obtain ⟨bs, q2, n2⟩ := De.readsAll I ds _ _ h2 r2
        exact ⟨_, ReadsAll.cons q1 q2, fun z => (List.mem_append.mp z).elim n1 n2⟩
theorem De.readsKv (I : Inv X pins σ H s) : ∀ (ds : List (PyData × PyData)) (kvs : List (Key × V)) (vs : List (Key × Value)) (es : List DictEntry), DeKv X.K H kvs ds → KV kvs vs → Pairs (mixKind X.prog X.w) es vs →
    ∃ as bs, ReadsAll s.heap (es.map (·.key)) (ds.map (·.1)) as ∧ ReadsAll s.heap (es.map (·.val)) (ds.map (·.2)) bs ∧ sysModules ∉ as ∧ sysModules ∉ bs
  | [], _, _, _, h, r, p => by
    cases h
    cases r
    cases p
    exact ⟨_, _, ReadsAll.nil, ReadsAll.nil, by simp, by simp⟩
  | d :: ds, _, _, _, h, r, p => by
    cases h with
    | cons h1 h2 =>
      cases r with
      | cons r1 r2 =>
        cases p with
        | cons p1 p2 p3 =>
          obtain ⟨as, q1, n1⟩ := De.reads I _ _ _ h1 r1.2
          obtain ⟨bs, cs, q2, q3, n2, n3⟩ := De.readsKv I _ _ _ _ h2 r2 p3
          refine ⟨[] ++ bs, as ++ cs, ?_, ?_, by simpa using n2, fun z => (List.mem_append.mp z).elim n1 n3⟩
          · rw [List.map_cons, List.map_cons]
            refine .cons (key_reads ?_) q2
            have e := r1.1
            dsimp only at e
            rw [e]
            exact p1
          · rw [List.map_cons, List.map_cons]
            refine .cons ?_ q3
            rw [p2]
            exact q1
end
/-! ### small data -/
mutual
def sok : PyData → Bool
  | .str z => PyData.strOk z
  | .list xs => sokAll xs
  | .tuple xs => sokAll xs
  | _ => true
def sokAll : List PyData → Bool
  | [] => true
  | x :: xs => sok x && sokAll xs
end
mutual
theorem sok_lay : ∀ {d : PyData}, sok d = true → d.hasDict = false → d.canLay0 = true
  | .none, _, _ => by simp only [PyData.canLay0]
  | .bool _, _, _ => by simp only [PyData.canLay0]
  | .int _, _, _ => by simp only [PyData.canLay0]
  | .str z, h, _ => by simp only [PyData.canLay0]; simpa only [sok] using h
  | .list xs, h, z => by
    simp only [PyData.canLay0]
    exact sokAll_lay (by simpa only [sok] using h) (by simpa only [PyData.hasDict] using z)
  | .tuple xs, h, z => by
    simp only [PyData.canLay0]
    exact sokAll_lay (by simpa only [sok] using h) (by simpa only [PyData.hasDict] using z)
  | .dict _, _, z => by simp only [PyData.hasDict] at z; cases z
theorem sokAll_lay : ∀ {ds : List PyData}, sokAll ds = true → PyData.hasDictAll ds = false → PyData.canLayAll0 ds = true
  | [], _, _ => by simp only [PyData.canLayAll0]
  | d :: ds, h, z => by
    simp only [sokAll, Bool.and_eq_true] at h
    simp only [PyData.hasDictAll, Bool.or_eq_false_iff] at z
    simp only [PyData.canLayAll0, sok_lay h.1 z.1, sokAll_lay h.2 z.2, Bool.and_self]
end
structure Sd (n w : Nat) (d : PyData) : Prop where
  dep : d.depth ≤ n
  wei : d.weight ≤ w
  sh : d.showable = true
  ls : d.leavesShort 60 = true
  ok : sok d = true
structure SdAll (n w : Nat) (ds : List PyData) : Prop where
  dep : PyData.depthAll ds ≤ n
  wei : PyData.weightAll ds ≤ w
  sh : PyData.showableAll ds = true
  ls : PyData.leavesShortAll 60 ds = true
  ok : sokAll ds = true
theorem Sd.mono {n w n' w' : Nat} {d : PyData} (s : Sd n w d) (h1 : n ≤ n') (h2 : w ≤ w') : Sd n' w' d := ⟨Nat.le_trans s.dep h1, Nat.le_trans s.wei h2, s.sh, s.ls, s.ok⟩
theorem SdAll.mono {n w n' w' : Nat} {d : List PyData} (s : SdAll n w d) (h1 : n ≤ n') (h2 : w ≤ w') : SdAll n' w' d := ⟨Nat.le_trans s.dep h1, Nat.le_trans s.wei h2, s.sh, s.ls, s.ok⟩
theorem SdAll.nil {n : Nat} : SdAll n 0 [] := ⟨by simp only [PyData.depthAll]; omega, by simp only [PyData.weightAll]; omega, by simp only [PyData.showableAll], by simp only [PyData.leavesShortAll], by simp only [sokAll]⟩
theorem SdAll.cons {n w v : Nat} {d : PyData} {ds : List PyData} (h : Sd n w d) (k : SdAll n v ds) : SdAll n (w + 1 + v) (d :: ds) := by
  obtain ⟨a1, a2, a3, a4, a5⟩ := h
  obtain ⟨b1, b2, b3, b4, b5⟩ := k
  exact ⟨by simp only [PyData.depthAll]; omega, by simp only [PyData.weightAll]; omega, by simp only [PyData.showableAll, a3, b3, Bool.and_self], by simp only [PyData.leavesShortAll, a4, b4, Bool.and_self], by simp only [sokAll, a5, b5, Bool.and_self]⟩
theorem SdAll.inv {n w : Nat} {d : PyData} {ds : List PyData} (h : SdAll n w (d :: ds)) : ∃ u v, u + 1 + v ≤ w ∧ Sd n u d ∧ SdAll n v ds := by
  obtain ⟨a1, a2, a3, a4, a5⟩ := h
  simp only [PyData.depthAll] at a1
  simp only [PyData.weightAll] at a2
  simp only [PyData.showableAll, Bool.and_eq_true] at a3
  simp only [PyData.leavesShortAll, Bool.and_eq_true] at a4
  simp only [sokAll, Bool.and_eq_true] at a5
  exact ⟨d.weight, PyData.weightAll ds, by omega, ⟨by omega, Nat.le_refl _, a3.1, a4.1, a5.1⟩, ⟨by omega, Nat.le_refl _, a3.2, a4.2, a5.2⟩⟩
theorem SdAll.app {n : Nat} : ∀ {w v : Nat} {ds es : List PyData}, SdAll n w ds → SdAll n v es → SdAll n (w + v) (ds ++ es)
  | _, _, [], _, _, k => k.mono (Nat.le_refl _) (by omega)
  | _, _, d :: ds, es, h, k => by
    obtain ⟨a, b, hab, h1, h2⟩ := h.inv
    exact (SdAll.cons h1 (h2.app k)).mono (Nat.le_refl _) (by omega)
theorem SdAll.take {n : Nat} : ∀ {w : Nat} {ds : List PyData} (k : Nat), SdAll n w ds → SdAll n w (ds.take k)
  | _, ds, 0, _ => by rw [List.take_zero]; exact SdAll.nil.mono (Nat.le_refl _) (by omega)
  | _, [], k + 1, h => by rw [List.take_nil]; exact h
  | _, d :: ds, k + 1, h => by
    obtain ⟨a, b, hab, h1, h2⟩ := h.inv
    rw [List.take_succ_cons]
    exact (SdAll.cons h1 (h2.take k)).mono (Nat.le_refl _) (by omega)
theorem SdAll.drop {n : Nat} : ∀ {w : Nat} {ds : List PyData} (k : Nat), SdAll n w ds → SdAll n w (ds.drop k)
  | _, ds, 0, h => h
  | _, [], k + 1, h => by rw [List.drop_nil]; exact h
  | _, d :: ds, k + 1, h => by
    obtain ⟨a, b, hab, h1, h2⟩ := h.inv
    rw [List.drop_succ_cons]
    exact (h2.drop k).mono (Nat.le_refl _) (by omega)
theorem SdAll.get {n : Nat} : ∀ {w : Nat} {ds : List PyData} {d : PyData}, SdAll n w ds → d ∈ ds → Sd n w d
  | _, d :: ds, e, h, hm => by
    obtain ⟨a, b, hab, h1, h2⟩ := h.inv
    rcases List.mem_cons.mp hm with rfl | hm
    · exact h1.mono (Nat.le_refl _) (by omega)
    · exact (h2.get hm).mono (Nat.le_refl _) (by omega)
theorem sd_all {n w : Nat} : ∀ {ds : List PyData}, (∀ d ∈ ds, Sd n w d) → SdAll n (ds.length * (w + 1)) ds
  | [], _ => SdAll.nil.mono (Nat.le_refl _) (by omega)
  | d :: ds, h => (SdAll.cons (h d List.mem_cons_self) (sd_all (ds := ds) fun x hx => h x (List.mem_cons_of_mem _ hx))).mono (Nat.le_refl _) (by rw [List.length_cons, Nat.succ_mul]; omega)
theorem sd_lst' {n w : Nat} {ds : List PyData} (h : SdAll n w ds) : Sd (n + 1) w (.list ds) := by
  obtain ⟨b1, b2, b3, b4, b5⟩ := h
  exact ⟨by simp only [PyData.depth]; omega, by simp only [PyData.weight]; exact b2, by simp only [PyData.showable, b3], by simp only [PyData.leavesShort, b4], by simp only [sok, b5]⟩
theorem sd_tup' {n w : Nat} {ds : List PyData} (h : SdAll n w ds) : Sd (n + 1) w (.tuple ds) := by
  obtain ⟨b1, b2, b3, b4, b5⟩ := h
  exact ⟨by simp only [PyData.depth]; omega, by simp only [PyData.weight]; exact b2, by simp only [PyData.showable, b3], by simp only [PyData.leavesShort, b4], by simp only [sok, b5]⟩
theorem sd_lst {n w : Nat} {ds : List PyData} (h : ∀ d ∈ ds, Sd n w d) : Sd (n + 1) (ds.length * (w + 1)) (.list ds) := sd_lst' (sd_all h)
theorem sd_tup {n w : Nat} {ds : List PyData} (h : ∀ d ∈ ds, Sd n w d) : Sd (n + 1) (ds.length * (w + 1)) (.tuple ds) := sd_tup' (sd_all h)
theorem Sd.tupI {n w : Nat} {ds : List PyData} (s : Sd (n + 1) w (.tuple ds)) : SdAll n w ds := by
  obtain ⟨b1, b2, b3, b4, b5⟩ := s
  simp only [PyData.depth] at b1
  exact ⟨by omega, by simpa only [PyData.weight] using b2, by simpa only [PyData.showable] using b3, by simpa only [PyData.leavesShort] using b4, by simpa only [sok] using b5⟩
theorem Sd.lstI {n w : Nat} {ds : List PyData} (s : Sd (n + 1) w (.list ds)) : SdAll n w ds := by
  obtain ⟨b1, b2, b3, b4, b5⟩ := s
  simp only [PyData.depth] at b1
  exact ⟨by omega, by simpa only [PyData.weight] using b2, by simpa only [PyData.showable] using b3, by simpa only [PyData.leavesShort] using b4, by simpa only [sok] using b5⟩
theorem sd_non : Sd 0 0 .none := ⟨by simp only [PyData.depth]; omega, by simp only [PyData.weight]; omega, by simp only [PyData.showable], by simp only [PyData.leavesShort], by simp only [sok]⟩
theorem sd_bl (b : Bool) : Sd 0 0 (.bool b) := ⟨by simp only [PyData.depth]; omega, by simp only [PyData.weight]; omega, by simp only [PyData.showable], by simp only [PyData.leavesShort], by simp only [sok]⟩
theorem sd_emp : Sd 1 0 (.dict []) := ⟨by simp only [PyData.depth, PyData.depthKv]; omega, by simp only [PyData.weight, PyData.weightKv]; omega, by simp only [PyData.showable, PyData.showableKv], by simp only [PyData.leavesShort, PyData.leavesShortKv], by simp only [sok]⟩
theorem strOk_lt' {l : List Nat} (h : ∀ c ∈ l, c ≤ 1000) : PyData.strOk (S l) = true := by
  unfold PyData.strOk
  rw [Array.all_eq_true]
  intro i hi
  have q := h (l[i]'(by simpa [S] using hi)) (List.getElem_mem _)
  have e : (S l).cps[i] = l[i]'(by simpa [S] using hi) := by simp [S]
  rw [e]
  exact decide_eq_true (by omega)
theorem sd_str {l : List Nat} (h : ∀ c ∈ l, c ≤ 1000) : Sd 0 l.length (.str (S l)) := by
  refine ⟨by simp only [PyData.depth]; omega, by simp only [PyData.weight, S_size]; omega, by simp only [PyData.showable], ?_, by simp only [sok]; exact strOk_lt' h⟩
  simp only [PyData.leavesShort]
  rw [List.all_eq_true]
  intro c hc
  have : c ∈ l := by simpa [S] using hc
  exact decide_eq_true (by have := h c this; omega)
theorem sd_intW {i : Int} {n k : Nat} (h : i.natAbs < 10 ^ 40) (h2 : i.natAbs < 2 ^ k) : Sd 0 k (.int i) := by
  refine ⟨by simp only [PyData.depth]; omega, ?_, ?_, ?_, by simp only [sok]⟩
  · simp only [PyData.weight]
    split
    · omega
    · rename_i z
      have z' : i.natAbs ≠ 0 := by
        intro e
        have : i = 0 := by omega
        rw [this] at z
        exact z rfl
      have := (Nat.log2_lt z' (k := k)).mpr h2
      omega
  · simp only [PyData.showable]
    refine decide_eq_true ?_
    by_cases z : i.natAbs = 0
    · rw [z]; decide
    · have := (Nat.log2_lt z (k := 139)).mpr (Nat.lt_of_lt_of_le h (by decide))
      omega
  · simp only [PyData.leavesShort]
    have e := int_text_length_le10 (k := 40) (by decide) h
    refine decide_eq_true ?_
    show (Str.ofString (toString i)).length ≤ 60
    rw [PySem.ofString_length]
    omega
theorem sd_int {i : Int} (h : i.natAbs < 10 ^ 40) : Sd 0 140 (.int i) := sd_intW (n := 0) h (Nat.lt_of_lt_of_le h (by decide))
/-- an int of a few digits -/
theorem sd_int9 {i : Int} (h : i.natAbs < 512) : Sd 0 9 (.int i) := sd_intW (n := 0) (Nat.lt_of_lt_of_le h (by decide)) (by omega)
theorem Sd.len {n w : Nat} {d : PyData} (s : Sd n w d) (hw : w ≤ 270000) : d.shown.length ≤ sizeLine := by
  have := PyData.shown_le 60 (by omega) d s.ls
  have h2 := s.wei
  have : d.shown.length ≤ 62 * 270000 + 60 := Nat.le_trans this (by omega)
  exact Nat.le_trans this (by decide)
end
def rRepE (K : PySem.W.Frag) : List V → Hp → VK → Prop := fun xs M R => ∃ x d n w, xs = [x] ∧ (De K M x d ∨ (Dp K M x d ∧ d.hasDict = false)) ∧ Sd n w d ∧ n ≤ 60 ∧ w ≤ 270000 ∧ R (.str d.shown) M
theorem call_repE {X : Cx} (quiet : X.A.guards = some []) (hu : X.A.units + 64 < cLine) : CallR X (.builtin "repr") (rRepE X.K) := by
  intro pins s σ M xs us R I r h
  obtain ⟨x, d, n, w, rfl, hd, sd, hn, hw, q⟩ := h
  obtain ⟨u, rfl, ru⟩ := vals1 r
  have sz := sd.len hw
  have dp := sd.dep
  rcases hd with hd | ⟨hd, nd⟩
  rotate_left
  · obtain ⟨as, rd⟩ := Dp.reads I d x u hd ru
    cases hd with
    | non =>
      cases ru
      exact PySem.P.repr_of_none ⟨.str (PyData.shown .none), M, I.tok _, ⟨_, by simp only [PyData.shown]; rfl⟩, q⟩
    | bl b =>
      cases ru
      exact PySem.P.repr_of_bool ⟨.str (PyData.shown (.bool b)), M, I.tok _, ⟨_, by simp only [PyData.shown]; rfl⟩, q⟩
    | int i =>
      obtain ⟨t, rfl⟩ := ru
      exact PySem.P.repr_of_int (of_decide_eq_true (by simpa only [PyData.showable] using sd.sh)) ⟨.str (PyData.shown (.int i)), M, I.tok _, ⟨_, by simp only [PyData.shown]; rfl⟩, q⟩
    | str z =>
      obtain ⟨t, rfl⟩ := ru
      exact PySem.P.repr_of_str ⟨.str (PyData.shown (.str z)), M, I.tok _, ⟨_, by simp only [PyData.shown]; rfl⟩, q⟩ (by simpa only [PyData.shown] using sz)
    | lst h1 h2 =>
      cases ru
      exact repr_of_reads' rd sd.sh (PyData.noDict_hsm nd) quiet (by omega) (fun _ _ e => e) (fun h' t tk keep => ⟨.str _, M, I.kept (t' := tk) keep, ⟨t, rfl⟩, q⟩) sz
    | tup h1 h2 =>
      cases ru
      exact repr_of_reads' rd sd.sh (PyData.noDict_hsm nd) quiet (by omega) (fun _ _ e => e) (fun h' t tk keep => ⟨.str _, M, I.kept (t' := tk) keep, ⟨t, rfl⟩, q⟩) sz
  obtain ⟨as, rd, nn⟩ := De.reads I d x u hd ru
  cases hd with
  | non =>
    cases ru
    exact PySem.P.repr_of_none ⟨.str (PyData.shown .none), M, I.tok _, ⟨_, by simp only [PyData.shown]; rfl⟩, q⟩
  | bl b =>
    cases ru
    exact PySem.P.repr_of_bool ⟨.str (PyData.shown (.bool b)), M, I.tok _, ⟨_, by simp only [PyData.shown]; rfl⟩, q⟩
  | int i =>
    obtain ⟨t, rfl⟩ := ru
    exact PySem.P.repr_of_int (of_decide_eq_true (by simpa only [PyData.showable] using sd.sh)) ⟨.str (PyData.shown (.int i)), M, I.tok _, ⟨_, by simp only [PyData.shown]; rfl⟩, q⟩
  | str z =>
    obtain ⟨t, rfl⟩ := ru
    exact PySem.P.repr_of_str ⟨.str (PyData.shown (.str z)), M, I.tok _, ⟨_, by simp only [PyData.shown]; rfl⟩, q⟩ (by simpa only [PyData.shown] using sz)
  | lst h1 h0 h2 =>
    cases ru
    exact repr_of_reads' rd sd.sh (fun _ => nn) quiet (by omega) (fun _ _ e => e) (fun h' t tk keep => ⟨.str _, M, I.kept (t' := tk) keep, ⟨t, rfl⟩, q⟩) sz
  | tup h1 h2 =>
    cases ru
    exact repr_of_reads' rd sd.sh (fun _ => nn) quiet (by omega) (fun _ _ e => e) (fun h' t tk keep => ⟨.str _, M, I.kept (t' := tk) keep, ⟨t, rfl⟩, q⟩) sz
  | dict h1 h2 =>
    cases ru
    exact repr_of_reads' rd sd.sh (fun _ => nn) quiet (by omega) (fun _ _ e => e) (fun h' t tk keep => ⟨.str _, M, I.kept (t' := tk) keep, ⟨t, rfl⟩, q⟩) sz
theorem i_repE {K : PySem.W.Frag} {M : Hp} {x : V} {d : PyData} {n w : Nat} {R : VK} (h : De K M x d) (s : Sd n w d) (hn : n ≤ 60 := by omega) (hw : w ≤ 270000 := by omega) (k : R (.str d.shown) M) : rRepE K [x] M R := ⟨x, d, n, w, rfl, .inl h, s, hn, hw, k⟩
theorem i_repP {K : PySem.W.Frag} {M : Hp} {x : V} {d : PyData} {n w : Nat} {R : VK} (h : Dp K M x d) (z : d.hasDict = false) (s : Sd n w d) (hn : n ≤ 60 := by omega) (hw : w ≤ 270000 := by omega) (k : R (.str d.shown) M) : rRepE K [x] M R := ⟨x, d, n, w, rfl, .inr ⟨h, z⟩, s, hn, hw, k⟩
/-! ### what is kept -/
mutual
theorem De.same {K : PySem.W.Frag} {H H' : Hp} (s : Same H H') : ∀ {v : V} {d : PyData}, De K H v d → De K H' v d
  | _, _, .non => .non
  | _, _, .bl b => .bl b
  | _, _, .int i => .int i
  | _, _, .str x => .str x
  | _, _, .lst h1 h0 h2 => .lst (s _ _ h1) h0 (DeAll.same s h2)
  | _, _, .tup h1 h2 => .tup (Same.sqT s h1) (DeAll.same s h2)
  | _, _, .dict h1 h2 => .dict (s _ _ h1) (DeKv.same s h2)
theorem DeAll.same {K : PySem.W.Frag} {H H' : Hp} (s : Same H H') : ∀ {vs : List V} {ds : List PyData}, DeAll K H vs ds → DeAll K H' vs ds
  | _, _, .nil => .nil
  | _, _, .cons h1 h2 => .cons (De.same s h1) (DeAll.same s h2)
theorem DeKv.same {K : PySem.W.Frag} {H H' : Hp} (s : Same H H') : ∀ {vs : List (Key × V)} {ds : List (PyData × PyData)}, DeKv K H vs ds → DeKv K H' vs ds
  | _, _, .nil => .nil
  | _, _, .cons h1 h2 => .cons (De.same s h1) (DeKv.same s h2)
end
theorem DeAll.len {K : PySem.W.Frag} {H : Hp} : ∀ {vs : List V} {ds : List PyData}, DeAll K H vs ds → vs.length = ds.length
  | _, _, .nil => rfl
  | _, _, .cons _ h2 => by rw [List.length_cons, List.length_cons, h2.len]
theorem DeAll.get {K : PySem.W.Frag} {H : Hp} : ∀ {vs : List V} {ds : List PyData} {i : Nat} {v : V}, DeAll K H vs ds → vs[i]? = some v → ∃ d, ds[i]? = some d ∧ De K H v d
  | _, _, _, _, .nil, e => by simp at e
  | _, _, 0, _, .cons h1 _, e => by simp at e; subst e; exact ⟨_, rfl, h1⟩
  | _, _, i + 1, v, .cons _ h2, e => by
    obtain ⟨d, h1, h3⟩ := h2.get (i := i) (v := v) (by simpa using e)
    exact ⟨d, by simpa using h1, h3⟩
theorem DeAll.app {K : PySem.W.Frag} {H : Hp} : ∀ {vs ws : List V} {ds es : List PyData}, DeAll K H vs ds → DeAll K H ws es → DeAll K H (vs ++ ws) (ds ++ es)
  | _, _, _, _, .nil, h => h
  | _, _, _, _, .cons h1 h2, h => .cons h1 (h2.app h)
theorem DeAll.take {K : PySem.W.Frag} {H : Hp} : ∀ {vs : List V} {ds : List PyData} (n : Nat), DeAll K H vs ds → DeAll K H (vs.take n) (ds.take n)
  | _, _, 0, _ => by rw [List.take_zero, List.take_zero]; exact .nil
  | _, _, n + 1, .nil => by rw [List.take_nil, List.take_nil]; exact .nil
  | _, _, n + 1, .cons h1 h2 => .cons h1 (h2.take n)
theorem DeAll.drop {K : PySem.W.Frag} {H : Hp} : ∀ {vs : List V} {ds : List PyData} (n : Nat), DeAll K H vs ds → DeAll K H (vs.drop n) (ds.drop n)
  | _, _, 0, h => h
  | _, _, n + 1, .nil => by rw [List.drop_nil, List.drop_nil]; exact .nil
  | _, _, n + 1, .cons _ h2 => h2.drop n
mutual
theorem De.dp {K : PySem.W.Frag} {H : Hp} : ∀ {v : V} {d : PyData}, De K H v d → d.hasDict = false → Dp K H v d
  | _, _, .non, _ => .non
  | _, _, .bl b, _ => .bl b
  | _, _, .int i, _ => .int i
  | _, _, .str x, _ => .str x
  | _, _, .lst h1 _ h2, z => .lst (.inl (.inl h1)) (h2.dp (by simpa only [PyData.hasDict] using z))
  | _, _, .tup h1 h2, z => .tup h1 (h2.dp (by simpa only [PyData.hasDict] using z))
  | _, _, .dict _ _, z => by simp only [PyData.hasDict] at z; cases z
theorem DeAll.dp {K : PySem.W.Frag} {H : Hp} : ∀ {vs : List V} {ds : List PyData}, DeAll K H vs ds → PyData.hasDictAll ds = false → DpAll K H vs ds
  | _, _, .nil, _ => .nil
  | _, _, .cons h1 h2, z => by
    simp only [PyData.hasDictAll, Bool.or_eq_false_iff] at z
    exact .cons (h1.dp z.1) (h2.dp z.2)
end
theorem Sd.shaped {n w : Nat} {d : PyData} (s : Sd n w d) (h : n ≤ 60) (z : d.hasDict = false) : SeqAt.shaped d = true := by
  show (PyData.canLay0 d && decide (PyData.depth d ≤ 64)) = true
  rw [sok_lay s.ok z, Bool.true_and]
  exact decide_eq_true (Nat.le_trans s.dep (by omega))
theorem i_eqE {K : PySem.W.Frag} {H : Hp} {x y : V} {d e : PyData} {Q : VK} {n w m u : Nat} (h1 : De K H x d) (h2 : De K H y e) (s1 : Sd n w d) (s2 : Sd m u e) (z1 : d.hasDict = false) (z2 : e.hasDict = false) (k : Q (.bl (PyData.eqv d e)) H) (hn : n ≤ 60 := by omega) (hm : m ≤ 60 := by omega) : rEqD K x y H Q :=
  ⟨d, e, h1.dp z1, h2.dp z2, s1.shaped hn z1, s2.shaped hm z2, k⟩
theorem i_neE {K : PySem.W.Frag} {H : Hp} {x y : V} {d e : PyData} {Q : VK} {n w m u : Nat} (h1 : De K H x d) (h2 : De K H y e) (s1 : Sd n w d) (s2 : Sd m u e) (z1 : d.hasDict = false) (z2 : e.hasDict = false) (k : Q (.bl (!PyData.eqv d e)) H) (hn : n ≤ 60 := by omega) (hm : m ≤ 60 := by omega) : rNeD K x y H Q :=
  ⟨d, e, h1.dp z1, h2.dp z2, s1.shaped hn z1, s2.shaped hm z2, k⟩
/-! ### isinstance of data -/
def tyB : String → PyData → Bool
  | "int", .int _ => true
  | "int", .bool _ => true
  | "bool", .bool _ => true
  | "str", .str _ => true
  | "list", .list _ => true
  | "tuple", .tuple _ => true
  | _, _ => false
theorem tyx_tup {K : PySem.W.Frag} {H : Hp} {a : Addr} {xs : List V} (h : SqT K H a xs) : TyX K H (.ref a) (.type "tuple") := by
  rcases h with (h | ⟨o, h⟩) | ⟨o, its, n, h, c, _⟩
  · exact .base (.tup h)
  · exact .fTuple h
  · exact .kTuple h c
theorem De.isi {K : PySem.W.Frag} {H : Hp} {v : V} {d : PyData} {Q : VK} {n : String} (h : De K H v d) (hn : n = "int" ∨ n = "bool" ∨ n = "str" ∨ n = "list" ∨ n = "tuple") (k : Q (.bl (tyB n d)) H) : rIsi K [v, .ty n] H Q := by
  cases h with
  | non => rcases hn with rfl | rfl | rfl | rfl | rfl <;> exact i_isi _ (.base .non) (kit_ty (by first | (show _ = some true; decide +kernel) | (show _ = some false; decide +kernel))) k
  | bl b => rcases hn with rfl | rfl | rfl | rfl | rfl <;> exact i_isi _ (.base (.bl _)) (kit_ty (by first | (show _ = some true; decide +kernel) | (show _ = some false; decide +kernel))) k
  | int i => rcases hn with rfl | rfl | rfl | rfl | rfl <;> exact i_isi _ (.base (.int _)) (kit_ty (by first | (show _ = some true; decide +kernel) | (show _ = some false; decide +kernel))) k
  | str x => rcases hn with rfl | rfl | rfl | rfl | rfl <;> exact i_isi _ (.base (.str _)) (kit_ty (by first | (show _ = some true; decide +kernel) | (show _ = some false; decide +kernel))) k
  | lst h1 _ h2 => rcases hn with rfl | rfl | rfl | rfl | rfl <;> exact i_isi _ (.base (.lst h1)) (kit_ty (by first | (show _ = some true; decide +kernel) | (show _ = some false; decide +kernel))) k
  | tup h1 h2 => rcases hn with rfl | rfl | rfl | rfl | rfl <;> exact i_isi _ (tyx_tup h1) (kit_ty (by first | (show _ = some true; decide +kernel) | (show _ = some false; decide +kernel))) k
  | dict h1 h2 => rcases hn with rfl | rfl | rfl | rfl | rfl <;> exact i_isi _ (.base (.dK h1)) (kit_ty (by first | (show _ = some true; decide +kernel) | (show _ = some false; decide +kernel))) k
theorem De.tupI {K : PySem.W.Frag} {H : Hp} {v : V} {ds : List PyData} (h : De K H v (.tuple ds)) : ∃ a xs, v = .ref a ∧ SqT K H a xs ∧ DeAll K H xs ds := by
  cases h with | tup h1 h2 => exact ⟨_, _, rfl, h1, h2⟩
theorem De.lstI {K : PySem.W.Frag} {H : Hp} {v : V} {ds : List PyData} (h : De K H v (.list ds)) : ∃ a xs, v = .ref a ∧ H a = some (.lst xs) ∧ sysModules < a ∧ DeAll K H xs ds := by
  cases h with | lst h1 h0 h2 => exact ⟨_, _, rfl, h1, h0, h2⟩
theorem De.intI {K : PySem.W.Frag} {H : Hp} {v : V} {i : Int} (h : De K H v (.int i)) : v = .int i := by cases h; rfl
section
variable {X : Cx} {es : List Expr} {t : TA} {pos : Pos}
def tLstL (t : TA) : TE := fun σ H Q => t σ H fun xs H1 => xs.length ≤ sizeLine ∧ ∀ p, H1 p = none → sysModules < p → Q (.ref p) (upd H1 p (.lst xs))
theorem pe_lstL (h : PA X es t) : PE X (.List es pos) (tLstL t) := by
  refine ⟨fun pins s σ H Q I hq => ?_⟩
  refine wpAny_List_spliced (thn (h.run pos pins s σ H _ I hq) fun us s1 ⟨xs, H1, I1, r, z, q⟩ => ⟨by rw [← r.length]; exact z, ?_⟩)
  have hf : H1 s1.heap.objs.size = none := I1.hok.fresh (Nat.le_refl _)
  refine ⟨.ref s1.heap.objs.size, upd H1 s1.heap.objs.size (.lst xs), I1.laid (t' := s1.toks) (fun b u e => Heap.get?_push_of_some _ e) (Nat.le_refl _) ?_, rfl, q _ hf I1.big⟩
  exact ⟨z, us, 0, r, Heap.get?_push_size _ rfl⟩
theorem i_lstL {σ : L2.St} {H : Hp} {Q : VK} (h : t σ H fun xs H1 => xs.length ≤ sizeLine ∧ ∀ p, H1 p = none → sysModules < p → Q (.ref p) (upd H1 p (.lst xs))) : tLstL t σ H Q := h
def rListL (K : PySem.W.Frag) : List V → Hp → VK → Prop := fun xs H Q => ∃ p ys, xs = [.ref p] ∧ (SqL K H p ys ∨ SqT K H p ys) ∧ ∀ l, H l = none → sysModules < l → Q (.ref l) (upd H l (.lst ys))
theorem call_listL : CallR X (.type "list") (rListL X.K) := by
  intro pins s σ H xs us Q I r h
  obtain ⟨p, ys, rfl, hq, q⟩ := h
  obtain ⟨u, rfl, rx⟩ := vals1 r
  cases rx
  have fin : ∀ (its : List Value), Vals ys its → ys.length ≤ sizeLine → ∀ (h' : Heap) (c' : Nat), (∀ b o', s.heap.get? b = some o' → h'.get? b = some o') →
      h'.get? s.heap.objs.size = some { cls := .type "list", dict := none, data := .seq its.toArray c', slots := #[] } → EP X pins σ Q (.ref s.heap.objs.size) { s with heap := h' } := fun its r' hz h' c' kp e =>
    ⟨.ref s.heap.objs.size, _, I.laid (t' := s.toks) kp (Nat.le_refl _) (show ObjOk X.prog X.w _ h' _ (.lst ys) from ⟨hz, its, c', r', e⟩), rfl, q _ (I.hok.fresh (Nat.le_refl _)) I.big⟩
  rcases hq with hq | hq
  · obtain ⟨its, r', pl, hz⟩ := I.list hq
    have hlen := r'.length
    obtain ⟨o, ho, hc, n, hd⟩ := pl.isList
    exact call_list_seq p (.inl rfl) ho hc hd (fun h' c' kp e => fin its r' hz h' c' kp e) (by simp only [List.size_toArray] <;> omega)
  · obtain ⟨its, r', pl, hz⟩ := I.tuple hq
    have hlen := r'.length
    obtain ⟨o, ho, hc, n, hd⟩ := pl
    exact call_list_seq p (.inr rfl) ho hc hd (fun h' c' kp e => fin its r' hz h' c' kp e) (by simp only [List.size_toArray] <;> omega)
theorem i_listL {K : PySem.W.Frag} {p : Addr} {ys : List V} {H : Hp} {Q : VK} (h : SqL K H p ys ∨ SqT K H p ys) (k : ∀ l, H l = none → sysModules < l → Q (.ref l) (upd H l (.lst ys))) : rListL K [.ref p] H Q := ⟨p, ys, rfl, h, k⟩
end
end Sw
namespace PySem.SeqAt
open MeetsSeq PySem
theorem dict_eq_declines_str (l : Addr) (es : Array DictEntry) (n : Nat) (dd : Option Addr) (sl : Array (Option Value)) (b : Str) (u : Tok) :
    Meets (Builtin.«dict.__eq__» ⟨[.ref l, .str b u], []⟩) (fun _ R s => s.heap.get? l = some { cls := .type "dict", dict := dd, data := .dict es n, slots := sl } ∧ R (.ok (.ret .notImplemented)) s) :=
  .of_wp fun prog w A R s h => by obtain ⟨hp, g, d, tk, os⟩ := s; obtain ⟨hl, h⟩ := h; have f1 := F.sub_str_dict; wp_walk using wpAny_loadPart' hl, wpAny_load hl; exact ⟨_, rfl, h⟩
theorem str_eq_declines_dict (b : Str) (u : Tok) (l : Addr) (c : Value) (es : Array DictEntry) (n : Nat) (dd : Option Addr) (sl : Array (Option Value)) :
    Meets (Builtin.«str.__eq__» ⟨[.str b u, .ref l], []⟩) (fun _ R s => s.heap.get? l = some { cls := c, dict := dd, data := .dict es n, slots := sl } ∧ R (.ok (.ret .notImplemented)) s) :=
  .of_wp fun prog w A R s h => by obtain ⟨hp, g, d, tk, os⟩ := s; obtain ⟨hl, h⟩ := h; wp_walk using wpAny_loadPart' hl, wpAny_load hl; exact ⟨_, rfl, h⟩
theorem dict_ne_declines_str (l : Addr) (es : Array DictEntry) (n : Nat) (dd : Option Addr) (sl : Array (Option Value)) (b : Str) (u : Tok) :
    Meets (Builtin.«dict.__ne__» ⟨[.ref l, .str b u], []⟩) (fun _ R s => s.heap.get? l = some { cls := .type "dict", dict := dd, data := .dict es n, slots := sl } ∧ R (.ok (.ret .notImplemented)) s) :=
  .of_wp fun prog w A R s h => by obtain ⟨hp, g, d, tk, os⟩ := s; obtain ⟨hl, h⟩ := h; have f1 := F.sub_str_dict; wp_walk using wpAny_loadPart' hl, wpAny_load hl; exact ⟨_, rfl, h⟩
theorem str_ne_declines_dict (b : Str) (u : Tok) (l : Addr) (c : Value) (es : Array DictEntry) (n : Nat) (dd : Option Addr) (sl : Array (Option Value)) :
    Meets (Builtin.«str.__ne__» ⟨[.str b u, .ref l], []⟩) (fun _ R s => s.heap.get? l = some { cls := c, dict := dd, data := .dict es n, slots := sl } ∧ R (.ok (.ret .notImplemented)) s) :=
  .of_wp fun prog w A R s h => by obtain ⟨hp, g, d, tk, os⟩ := s; obtain ⟨hl, h⟩ := h; wp_walk using wpAny_loadPart' hl, wpAny_load hl; exact ⟨_, rfl, h⟩
section
variable {A : Around} {s : Shared}
theorem RcAt.dict_str {l : Addr} {es : Array DictEntry} {n : Nat} {o : Obj} (b : Str) (u : Tok) (ho : s.heap.get? l = some o) (hc : o.cls = .type "dict") (hd : o.data = .dict es n) (hu : A.units < cLine) : RcAt A s (.ref l) (.str b u) false := fun prog w E Q h => by
  obtain ⟨cls, dd, data, sl⟩ := o
  simp only at hc hd
  subst hc hd
  exact rc_eq_decline_or (k := false) ⟨_, ho, rfl⟩ (typeIs_str s b u) (by decide) F.sub_str_dict F.slot_dict_eq F.slot_str_eq_refl
    (fun _ hq => call_meets F.slot_dict_eq ⟨_, ho, rfl⟩ F.entry_dict_eq (F.args_dict_eq_2 _ _) (dict_eq_declines_str l es n dd sl b u) ⟨ho, hq⟩)
    (fun _ hq => call_meets F.slot_str_eq_refl (typeIs_str s b u) F.entry_str_eq (F.args_str_eq_2 _ _) (str_eq_declines_dict b u l (.type "dict") es n dd sl) ⟨ho, hq⟩)
    (fun _ hq => wpAny_of_eq (rfl : isSame (.ref l) (.str b u) = pure false) hq) (.inr hu) h
theorem RcNeAt.dict_str {l : Addr} {es : Array DictEntry} {n : Nat} {o : Obj} (b : Str) (u : Tok) (ho : s.heap.get? l = some o) (hc : o.cls = .type "dict") (hd : o.data = .dict es n) (hu : A.units < cLine) : RcNeAt A s (.ref l) (.str b u) true := fun prog w E Q h => by
  obtain ⟨cls, dd, data, sl⟩ := o
  simp only at hc hd
  subst hc hd
  exact rc_ne_decline_or (k := false) ⟨_, ho, rfl⟩ (typeIs_str s b u) (by decide) F.sub_str_dict F.slot_dict_ne F.slot_str_ne_refl
    (fun _ hq => call_meets F.slot_dict_ne ⟨_, ho, rfl⟩ F.entry_dict_ne (F.args_dict_ne_2 _ _) (dict_ne_declines_str l es n dd sl b u) ⟨ho, hq⟩)
    (fun _ hq => call_meets F.slot_str_ne_refl (typeIs_str s b u) F.entry_str_ne (F.args_str_ne_2 _ _) (str_ne_declines_dict b u l (.type "dict") es n dd sl) ⟨ho, hq⟩)
    (fun _ hq => wpAny_of_eq (rfl : isSame (.ref l) (.str b u) = pure false) hq) (.inr hu) h
end
end PySem.SeqAt
namespace Sw
open PySem PySem.Spec PyProof.Rows L2
section
variable {X : Cx}
/-- x == y, x data, y data; a dict and a text are unlike -/
def rEqX (K : PySem.W.Frag) : R2 := fun x y H Q => rEqD K x y H Q ∨ ∃ a kvs z, x = .ref a ∧ H a = some (.dK kvs) ∧ y = .str z ∧ Q (.bl false) H
def rNeX (K : PySem.W.Frag) : R2 := fun x y H Q => rNeD K x y H Q ∨ ∃ a kvs z, x = .ref a ∧ H a = some (.dK kvs) ∧ y = .str z ∧ Q (.bl true) H
theorem op_eqX (hu : X.A.units + 64 < cLine) : OpR X (compareOp .Eq) (rEqX X.K) := by
  intro pins s σ H x y v u Q I rx ry h
  rcases h with h | ⟨a, kvs, z, rfl, ha, rfl, q⟩
  · exact op_eqD hu pins s σ H x y v u Q I rx ry h
  · cases rx
    obtain ⟨t, rfl⟩ := ry
    obtain ⟨_, notSys, vs, kv, o, es, ep, ho, ex, hd, _, pr, _⟩ : ObjOk X.prog X.w H s.heap _ (.dK _) := I.hok _ _ ha
    exact SeqAt.RcAt.dict_str z t ho ex.1 hd (by omega) _ _ _ _ ⟨.bl _, H, I, rfl, q⟩
theorem op_neX (hu : X.A.units + 64 < cLine) : OpR X (compareOp .NotEq) (rNeX X.K) := by
  intro pins s σ H x y v u Q I rx ry h
  rcases h with h | ⟨a, kvs, z, rfl, ha, rfl, q⟩
  · exact op_neD hu pins s σ H x y v u Q I rx ry h
  · cases rx
    obtain ⟨t, rfl⟩ := ry
    obtain ⟨_, notSys, vs, kv, o, es, ep, ho, ex, hd, _, pr, _⟩ : ObjOk X.prog X.w H s.heap _ (.dK _) := I.hok _ _ ha
    exact SeqAt.RcNeAt.dict_str z t ho ex.1 hd (by omega) _ _ _ _ ⟨.bl _, H, I, rfl, q⟩
/-- x in y, y a tuple of data -/
def rInT (K : PySem.W.Frag) : R2 := fun x y H Q => ∃ d ds, Dp K H x d ∧ Dp K H y (.tuple ds) ∧ SeqAt.shaped d = true ∧ SeqAt.shaped (.tuple ds) = true ∧ PyData.depthAll ds ≤ 10 ∧ Q (.bl (ds.any fun z => PyData.eqv z d)) H
theorem op_inT (hu : X.A.units + 64 < cLine) : OpR X (compareOp .In) (rInT X.K) := by
  intro pins s σ H x y v u Q I rx ry h
  obtain ⟨d, ds, hd, he, sd, se, dp, q⟩ := h
  obtain ⟨as, r1⟩ := Dp.reads I d x v hd rx
  obtain ⟨bs, r2⟩ := Dp.reads I (.tuple ds) y u he ry
  exact SeqAt.in_tuple_reads r2 r1 (SeqAt.canLay_of_shaped se) (SeqAt.canLay_of_shaped sd) (by have := Nat.min_le_left (PyData.depthAll ds) d.depth; omega) ⟨.bl _, H, I, rfl, q⟩
end
/-- whether data is the text l -/
def isS (l : List Nat) : PyData → Bool
  | .str z => decide (z = S l)
  | _ => false
theorem eqv_str_r (d : PyData) (l : List Nat) : PyData.eqv d (.str (S l)) = isS l d := by
  cases d <;> simp [PyData.eqv, isS] <;> rfl
theorem eqv_str_l (d : PyData) (l : List Nat) : PyData.eqv (.str (S l)) d = isS l d := by
  cases d with
  | str z =>
    simp only [PyData.eqv, isS]
    by_cases h : z = S l
    · rw [h, decide_eq_true rfl]; exact beq_self_eq_true _
    · rw [decide_eq_false h]; exact beq_eq_false_iff_ne.mpr (Ne.symm h)
  | _ => simp [PyData.eqv, isS]
theorem dp_strs' {K : PySem.W.Frag} {H : Hp} : ∀ ws : List (List Nat), DpAll K H (ws.map fun l => V.str (S l)) (ws.map fun l => PyData.str (S l))
  | [] => .nil
  | l :: ws => .cons (.str _) (dp_strs' ws)
/-- data without a dict inside, or an empty dict -/
def Ok1 (d : PyData) : Prop := d = .dict [] ∨ d.hasDict = false
theorem i_eqS1 {K : PySem.W.Frag} {H : Hp} {x : V} {d : PyData} {l : List Nat} {Q : VK} {n w : Nat} (h : De K H x d) (s : Sd n w d) (o : Ok1 d) (hl : ∀ c ∈ l, c ≤ 1000) (k : Q (.bl (isS l d)) H) (hn : n ≤ 60 := by omega) : rEqX K x (.str (S l)) H Q := by
  rcases o with rfl | z
  · cases h with | dict h1 h2 => exact .inr ⟨_, _, _, rfl, h1, rfl, k⟩
  · refine .inl (i_eqE h (.str _) s (sd_str hl) z (by simp only [PyData.hasDict]) ?_ hn)
    rw [eqv_str_r]
    exact k
theorem i_neS1 {K : PySem.W.Frag} {H : Hp} {x : V} {d : PyData} {l : List Nat} {Q : VK} {n w : Nat} (h : De K H x d) (s : Sd n w d) (o : Ok1 d) (hl : ∀ c ∈ l, c ≤ 1000) (k : Q (.bl (!isS l d)) H) (hn : n ≤ 60 := by omega) : rNeX K x (.str (S l)) H Q := by
  rcases o with rfl | z
  · cases h with | dict h1 h2 => exact .inr ⟨_, _, _, rfl, h1, rfl, k⟩
  · refine .inl (i_neE h (.str _) s (sd_str hl) z (by simp only [PyData.hasDict]) ?_ hn)
    rw [eqv_str_r]
    exact k
theorem i_inT {K : PySem.W.Frag} {H : Hp} {x : V} {d : PyData} {Q : VK} {n w : Nat} {a : Addr} (ls : List (List Nat)) (h : De K H x d) (s : Sd n w d) (z : d.hasDict = false) (hl : ∀ l ∈ ls, ∀ c ∈ l, c ≤ 1000) (ha : H a = some (.tup (ls.map fun l => .str (S l)))) (k : Q (.bl (ls.any fun l => isS l d)) H) (hn : n ≤ 60 := by omega) : rInT K x (.ref a) H Q := by
  refine ⟨d, ls.map fun l => .str (S l), h.dp z, .tup (sqT_of ha) (dp_strs' ls), s.shaped hn z, ?_, ?_, ?_⟩
  · have s2 : Sd 1 _ (.tuple (ls.map fun l => .str (S l))) := sd_tup (n := 0) (w := (ls.map List.length).foldr max 0) fun d hd => by
      obtain ⟨l, hl2, rfl⟩ := List.mem_map.mp hd
      refine (sd_str (hl l hl2)).mono (by omega) ?_
      clear hd hl k ha
      induction ls with
      | nil => cases hl2
      | cons y ys ih =>
        rw [List.map_cons, List.foldr_cons]
        rcases List.mem_cons.mp hl2 with rfl | hl2
        · exact Nat.le_max_left _ _
        · exact Nat.le_trans (ih hl2) (Nat.le_max_right _ _)
    refine s2.shaped (by omega) ?_
    simp only [PyData.hasDict]
    clear s2 hl k ha
    induction ls with
    | nil => rfl
    | cons y ys ih => simp only [List.map_cons, PyData.hasDictAll, PyData.hasDict, ih, Bool.or_self]
  · have : ∀ ks : List (List Nat), PyData.depthAll (ks.map fun l => PyData.str (S l)) = 0 := by
      intro ks
      induction ks with
      | nil => simp only [List.map_nil, PyData.depthAll]
      | cons y ys ih => simp only [List.map_cons, PyData.depthAll, PyData.depth, ih]; omega
    rw [this]; omega
  · rw [List.any_map]
    simp only [Function.comp_def, eqv_str_l]
    exact k
end Sw
namespace Sw
open PySem PySem.Spec PyProof.Rows L2
/-! ### kinds and passings as data -/
abbrev tLost : List Nat := [108, 111, 115, 116]
abbrev tPut : List Nat := [112, 117, 116]
abbrev tTurned : List Nat := [116, 117, 114, 110, 101, 100]
abbrev tSame : List Nat := [115, 97, 109, 101]
def isI : PyData → Bool
  | .int _ => true
  | _ => false
def isX (m : Int) : PyData → Bool
  | .int i => decide (0 ≤ i) && decide (i < m)
  | _ => false
def isG : PyData → Bool
  | .int i => decide (1 ≤ i) && decide (i ≤ 5)
  | _ => false
def kindB (m : Int) : PyData → Bool
  | .tuple [a, b] => isX m b && (isS tLost a || isS tPut a)
  | .tuple [a, b, c] => isX m b && isX m c && (isS tTurned a && !PyData.eqv b c)
  | _ => false
def sameB (m : Int) : PyData → Bool
  | .tuple [a, b] => isS tSame a && isX m b
  | _ => false
def passB (m : Int) : PyData → Bool
  | .tuple ds => ds.all fun s => sameB m s || kindB m s
  | _ => false
/-- the number of signs, if the data is one -/
def sgn (e : PyData) : Option Int := match e with
  | .int m => if 1 ≤ m ∧ m ≤ 5 then some m else none
  | _ => none
def onG (e : PyData) (b : Int → Bool) : Bool := match sgn e with
  | some m => b m
  | none => false
theorem sgn_some {e : PyData} {m : Int} (h : sgn e = some m) : e = .int m ∧ 1 ≤ m ∧ m ≤ 5 := by
  unfold sgn at h
  split at h
  · split at h
    · cases h; exact ⟨rfl, by assumption⟩
    · cases h
  · cases h
theorem isG_sgn (e : PyData) : isG e = (sgn e).isSome := by
  cases e <;> simp only [isG, sgn, Option.isSome]
  rename_i i
  by_cases h : 1 ≤ i ∧ i ≤ 5
  · rw [if_pos h, decide_eq_true h.1, decide_eq_true h.2]; rfl
  · rw [if_neg h, Bool.and_eq_false_iff]
    by_cases h1 : 1 ≤ i
    · exact .inr (decide_eq_false fun q => h ⟨h1, q⟩)
    · exact .inl (decide_eq_false h1)
/-- a step or what is told in its place: each part is without a dict, or is an empty one; a word ahead of one number has no dict -/
structure StOk (d : PyData) : Prop where
  parts : ∀ ds, d = .tuple ds → ∀ y ∈ ds, Ok1 y
  two : ∀ a b, d = .tuple [a, b] → isI b = true → a.hasDict = false
structure PsOk (d : PyData) : Prop where
  st : StOk d
  all : ∀ ds, d = .tuple ds → ∀ y ∈ ds, StOk y
theorem StOk.flat {d : PyData} (h : d.hasDict = false) : StOk d := by
  have p : ∀ ds, d = .tuple ds → ∀ y ∈ ds, y.hasDict = false := by
    rintro ds rfl y hy
    simp only [PyData.hasDict] at h
    induction ds with
    | nil => cases hy
    | cons z zs ih =>
      simp only [PyData.hasDictAll, Bool.or_eq_false_iff] at h
      rcases List.mem_cons.mp hy with rfl | hy
      · exact h.1
      · exact ih h.2 hy
  exact ⟨fun ds e y hy => .inr (p ds e y hy), fun a b e _ => p _ e _ List.mem_cons_self⟩
theorem hasDict_tup {ds : List PyData} : (PyData.tuple ds).hasDict = false ↔ ∀ y ∈ ds, y.hasDict = false := by
  simp only [PyData.hasDict]
  induction ds with
  | nil => simp [PyData.hasDictAll]
  | cons z zs ih => simp only [PyData.hasDictAll, Bool.or_eq_false_iff, ih, List.mem_cons, forall_eq_or_imp]
theorem PsOk.flat {d : PyData} (h : d.hasDict = false) : PsOk d := by
  refine ⟨.flat h, ?_⟩
  rintro ds rfl y hy
  exact .flat (hasDict_tup.mp h y hy)
theorem StOk.emp : StOk (.dict []) := ⟨fun ds e => by (cases e), fun a b e => by (cases e)⟩
theorem PsOk.emp : PsOk (.dict []) := ⟨.emp, fun ds e => by (cases e)⟩
end Sw
namespace Sw
open PySem PySem.Spec PyProof.Rows L2
theorem Sd.tupI' {n w : Nat} {ds : List PyData} (s : Sd n w (.tuple ds)) : SdAll n w ds := (Sd.tupI (n := n) (s.mono (by omega) (Nat.le_refl _)))
theorem Sd.lstI' {n w : Nat} {ds : List PyData} (s : Sd n w (.list ds)) : SdAll n w ds := (Sd.lstI (n := n) (s.mono (by omega) (Nat.le_refl _)))
theorem i_yes {σ : L2.St} {H : Hp} {R : Bool → Hp → Prop} (h : R true H) : tYes σ H R := h
/-! ### parts of tuples -/
theorem i_slTF {K : PySem.W.Frag} {a : Addr} {xs : List V} {k : Nat} {H : Hp} {Q : VK} (h : SqT K H a xs) (q : ∀ b H', Same H H' → SqT K H' b (xs.drop k) → Q (.ref b) H') : rSlA K (.ref a) (some (k : Int)) none H Q := by
  refine ⟨a, xs, rfl, h, fun e => ?_, fun e p np => ?_⟩
  · rw [HT.sIx_nat] at e
    refine q _ _ (Same.refl _) ?_
    by_cases hk : k = 0
    · rw [hk, List.drop_zero]; exact h
    · have : xs = [] := List.eq_nil_of_length_eq_zero (by omega)
      rw [this, List.drop_nil]; rw [this] at h; exact h
  · have : cutV xs (some (k : Int)) none = xs.drop k := by
      unfold cutV
      rw [HT.sIx_nat, HT.sIx_none]
      by_cases hk : k ≤ xs.length
      · rw [Nat.min_eq_left hk, List.take_of_length_le (by rw [List.length_drop]; omega)]
      · rw [Nat.min_eq_right (by omega), List.drop_of_length_le (by omega), List.drop_of_length_le (by omega), List.take_nil]
    rw [this]
    exact q _ _ (same_upd np) (sqT_of upd_same)
theorem i_slTT {K : PySem.W.Frag} {a : Addr} {xs : List V} {k : Nat} {H : Hp} {Q : VK} (h : SqT K H a xs) (q : ∀ b H', Same H H' → SqT K H' b (xs.take k) → Q (.ref b) H') : rSlA K (.ref a) none (some (k : Int)) H Q := by
  refine ⟨a, xs, rfl, h, fun e => ?_, fun e p np => ?_⟩
  · rw [HT.sIx_nat, HT.sIx_none] at e
    refine q _ _ (Same.refl _) ?_
    rw [List.take_of_length_le (by omega)]; exact h
  · have : cutV xs none (some (k : Int)) = xs.take k := by
      unfold cutV
      rw [HT.sIx_nat, HT.sIx_none, List.drop_zero, Nat.sub_zero]
      by_cases hk : k ≤ xs.length
      · rw [Nat.min_eq_left hk]
      · rw [Nat.min_eq_right (by omega), List.take_length, List.take_of_length_le (by omega)]
    rw [this]
    exact q _ _ (same_upd np) (sqT_of upd_same)
theorem i_catT {K : PySem.W.Frag} {a b : Addr} {xs ys : List V} {H : Hp} {Q : VK} (h : SqT K H a xs) (h2 : SqT K H b ys) (l : xs.length + ys.length ≤ sizeLine) (q : ∀ c H', Same H H' → SqT K H' c (xs ++ ys) → Q (.ref c) H') : rCatA K (.ref a) (.ref b) H Q := by
  refine ⟨a, b, xs, ys, rfl, rfl, h, h2, l, fun e => ?_, fun e1 e2 => ?_, fun e1 e2 p np => ?_⟩
  · rw [e] at q; exact q _ _ (Same.refl _) h2
  · rw [e2, List.append_nil] at q; exact q _ _ (Same.refl _) h
  · exact q _ _ (same_upd np) (sqT_of upd_same)
theorem inV_two (n i j : Int) : inV (.int n) [.int i, .int j] = (decide (n = i) || decide (n = j)) := by
  show (i == n || (j == n || false)) = _
  rw [Bool.or_false]
  congr 1
  · by_cases h : n = i
    · rw [h, decide_eq_true rfl]; exact beq_self_eq_true _
    · rw [decide_eq_false h]; exact beq_eq_false_iff_ne.mpr (Ne.symm h)
  · by_cases h : n = j
    · rw [h, decide_eq_true rfl]; exact beq_self_eq_true _
    · rw [decide_eq_false h]; exact beq_eq_false_iff_ne.mpr (Ne.symm h)
theorem i_ixTn {K : PySem.W.Frag} {p : Addr} {xs : List V} {k : Nat} {v : V} {H : Hp} {Q : VK} (h1 : SqT K H p xs) (h2 : xs[k]? = some v) (h : Q v H) : rIxT K (.ref p) (.int (k : Int)) H Q := by
  refine i_ixT h1 ?_ h
  have : k < xs.length := by
    rcases Nat.lt_or_ge k xs.length with q | q
    · exact q
    · rw [List.getElem?_eq_none q] at h2; cases h2
  unfold atI ixN
  rw [if_pos (by omega), if_pos (by omega), Int.toNat_natCast]
  exact h2
theorem i_lenSqT {K : PySem.W.Frag} {p : Addr} {xs : List V} {H : Hp} {Q : VK} (h1 : SqT K H p xs) (h : Q (.int xs.length) H) : rLenQ K [.ref p] H Q := ⟨p, xs, rfl, .inr h1, h⟩
theorem DeAll.getD {K : PySem.W.Frag} {H : Hp} {vs : List V} {ds : List PyData} {i : Nat} {v : V} (h : DeAll K H vs ds) (e : vs[i]? = some v) : De K H v (ds.getD i .none) := by
  obtain ⟨d, h1, h2⟩ := h.get e
  rw [List.getD_eq_getElem?_getD, h1]; exact h2
theorem map_getD {α : Type} (ds : List PyData) (g : PyData → α) : (List.range ds.length).map (fun i => g (ds.getD i .none)) = ds.map g := range_map_get ds _ g fun i x hx => by rw [List.getD_eq_getElem?_getD, hx]; rfl
end Sw
namespace Sw
open PySem PySem.Spec PyProof.Rows L2 PySem.SwE
/-- an own exception class with the one attribute given, named x, as it stands behind the top -/
structure XQ (x : Str) (P : Program) (w : World) (K : PySem.W.Frag) (mg : Str → Option Value) (base : Heap) (C : Addr) : Prop where
  T : OexE K C
  xf : XfC K C
  no : PySem.W.findIn K (.ref C) "given" = some none
  hm : mg x = some (.ref C)
  me : PySem.W.exmOne K (.ref C) (.ref C) = some true
  ini : ∃ (fI : Addr) (fd : FuncData), PySem.W.findIn K (.ref C) "__init__" = some (some (.ref fI)) ∧ PySem.W.typeIn K (.ref fI) = some (.type "function") ∧ FnOk P w K mg base CX0 1 fI fd ["self", "given"] (spInit K) ∧ Binds K fd ["self", "given"] []
theorem pmk_Q {X : Cx} {x : Str} {C : Addr} {n : Nat} {e : Expr} {te : TE} {p pos : Pos} (xt : XQ x X.prog X.w X.K X.mg X.base C) (hr : Room n X.A) (he : PE X e te) (hn : 2 ≤ n := by decide) (hg : Gl X x := by rfl)
    (hdb : (x == ("__debug__" : Str)) = false := by decide) (he2 : starEach [e] X.env = (false, eval e X.env) :: starEach [] X.env := by rfl) : PMk X (.Call (.Name x p) [e] [] pos) (tMkO C (spInit X.K) [] (tCons te tNil)) := by
  obtain ⟨fI, fd, h1, h2, h3, h4⟩ := xt.ini
  exact pmk_E xt.T h1 h2 h3 (hr.mono hn) h4 pass0 xt.hm (pa_cons he pa_nil he2) hg hdb he2 (by rfl)
theorem names_Q {x : Str} {P : Program} {w : World} {K : PySem.W.Frag} {mg : Str → Option Value} {base : Heap} {X : Cx} {C : Addr} (xt : XQ x P w K mg base C) (hm : X.mg = mg := by rfl) (hg : Gl X x := by rfl) (hd : (x == ("__debug__" : Str)) = false := by decide) : Names X x (.ref C) := ⟨hg, hd, .inl (by rw [hm]; exact xt.hm)⟩
end Sw
namespace Sw
open PySem PySem.Spec PyProof.Rows L2
/-! ### dicts whose keys are tuples: a store, a display of one pair, a comprehension -/
section
variable {X : Cx}
/-- the store of a display and of a comprehension -/
theorem put_tup {pins : List (Addr × Obj)} {σ : L2.St} {H : Hp} {s : Shared} {E : Value → Shared → Prop} {d b : Addr} {kvs : List (List Key × V)} {ks : List Key} {z : V} {r : Value} {Q : Unit → Shared → Prop}
    (room : X.A.units + 1 < cLine) (I : Inv X pins σ H s) (ed : H d = some (.dT kvs)) (eb : H b = some (.tup (ks.map kV))) (few : kvs.length < sizeLine) (rz : RelV z r)
    (go : ∀ s', Inv X pins σ (upd H d (.dT (putK kvs ks z))) s' → Q () s') : wpAny (model X.prog X.w) X.A (dictSet d (.ref b) r) Q E s := by
  have facts := dt_of I.hok ed
  obtain ⟨small, plain, xs, paired, laid⟩ := facts
  have lx : xs.length ≤ sizeLine := Nat.le_trans (Nat.le_of_eq (Paired.length paired).symm) small
  have lp : (putK kvs ks z).length ≤ sizeLine := Nat.le_trans (length_putK kvs ks z) few
  apply wpAny_dictSet_heap (knd := tupleKind (mixKind X.prog X.w)) (hsz := lx) (show X.A.units < cLine from Nat.lt_of_succ_lt room) (key_of I.hok eb) laid
  rintro h2 ⟨o, es, ep, ho, g1, g2, g3, _, g4⟩ only
  have stays : ∀ c ys, H c = some (.tup ys) → upd H d (.dT (putK kvs ks z)) c = some (.tup ys) := by
    intro c ys ec
    have : c ≠ d := fun q => by rw [q, ed] at ec; cases ec
    rw [upd_ne this]; exact ec
  apply go
  exact d_write I (by rw [ed]; trivial) only ⟨o, ho⟩ ⟨lp, plain, _, (paired.put ks eb rz).keeps stays, o, es, ep, ho, g1, g2, g3, g4⟩
/-- {k: v}, k a tuple of ints and texts -/
def tDisp1T (tk tv : TE) : TE := fun σ H Q => ∀ p, H p = none → tk σ (upd H p (.dT [])) fun x H1 => tv σ H1 fun y H2 => ∃ b ks, x = .ref b ∧ H2 p = some (.dT []) ∧ H2 b = some (.tup (ks.map kV)) ∧ Q (.ref p) (upd H2 p (.dT [(ks, y)]))
theorem pe_disp1T {k v : Expr} {pos : Pos} {tk tv : TE} (room : X.A.units + 1 < cLine) (hk : PE X k tk) (hv : PE X v tv) : PE X (.Dict [some k] [v] pos) (tDisp1T tk tv) := by
  constructor
  intro pins s σ H Q I h
  have new := I.hok.fresh (Nat.le_refl s.heap.objs.size)
  have I1 := I.laid (a := s.heap.objs.size) (o := .dT []) (t' := s.toks) (h' := s.heap.push { cls := .type "dict", data := .dict #[] }) (fun _ _ q => Heap.get?_push_of_some _ q) (Nat.le_refl _) (dt_empty s.heap I.big)
  apply wpAny_Dict_any rfl rfl (by simp) (by simp)
  let R : List (V × V) → Hp → Prop := fun ps H2 => match ps with
    | [(x, y)] => ∃ b ks, x = .ref b ∧ H2 s.heap.objs.size = some (.dT []) ∧ H2 b = some (.tup (ks.map kV)) ∧ Q (.ref s.heap.objs.size) (upd H2 s.heap.objs.size (.dT [(ks, y)]))
    | _ => False
  apply thn ((pps_cons (pos := pos) hk hv pps_nil).run pins _ σ _ R I1 (h _ new))
  rintro vs s1 ⟨ps, H2, I2, rel, q⟩
  obtain ⟨x, y, rfl⟩ : ∃ x y, ps = [(x, y)] := by
    rcases ps with _ | ⟨⟨x, y⟩, _ | ⟨_, _⟩⟩
    · exact q.elim
    · exact ⟨x, y, rfl⟩
    · exact q.elim
  obtain ⟨b, ks, rfl, ed, eb, q⟩ : ∃ b ks, x = .ref b ∧ H2 s.heap.objs.size = some (.dT []) ∧ H2 b = some (.tup (ks.map kV)) ∧ Q (.ref s.heap.objs.size) (upd H2 s.heap.objs.size (.dT [(ks, y)])) := q
  obtain ⟨u, r, rfl, ru, rr⟩ : ∃ u r, vs = [(u, r)] ∧ RelV (.ref b) u ∧ RelV y r := by
    cases rel with
    | cons h t =>
      cases t
      exact ⟨_, _, rfl, h.1, h.2⟩
  cases (show u = Value.ref b from ru)
  show wpAny _ _ (forIn [(Value.ref b, r)] PUnit.unit _) _ _ _
  rw [List.forIn_cons]
  refine wpAny_bind (wpAny_bind (put_tup room I2 ed eb (Nat.lt_of_lt_of_le (by decide : 0 < 100000) (Nat.le_of_ble_eq_true rfl)) rr fun s2 I3 => wpAny_pure ?_))
  show wpAny _ _ (forIn [] PUnit.unit _) _ _ _
  rw [List.forIn_nil]
  exact wpAny_pure ⟨.ref s.heap.objs.size, _, I3, rfl, q⟩
/-- {k: v for target in iter}, the keys tuples; D the new dict -/
def tDcT (wi : TI) (g : TG) (tk tv : TE) (vs : List Nat) : TE := fun σ H Q => wi σ H fun J H1 => ∀ D, H1 D = none → ∃ W : Nat → Nat → Hp → Prop, (∃ m, W 0 m (upd H1 D (.dT []))) ∧ ∀ i m H, W i m H →
  (J.stop i H ∧ Q (.ref D) H) ∨ (J.go i H ∧ ∃ Nx : Hp → Prop, (∀ H', Nx H' → ∃ m', m' < m ∧ W (i + 1) m' H') ∧ ∀ x H', J.yld i H x H' → g x (wipe σ vs) H' fun σ2 H2 => wipe σ2 vs = wipe σ vs ∧
    tk σ2 H2 fun y H4 => tv σ2 H4 fun z H5 => ∃ kvs ks b, y = .ref b ∧ H5 b = some (.tup (ks.map kV)) ∧ H5 D = some (.dT kvs) ∧ kvs.length < sizeLine ∧ Nx (upd H5 D (.dT (putK kvs ks z))))
theorem pe_dcT {kx vx tg iter : Expr} {scope : Scope} {own : List (Str × Nat)} {pos : Pos} {wi : TI} {g : TG} {tk tv : TE} (room : X.A.units + 1 < cLine) (calm : X.calm = true) (nd : X.N.Nodup) (src : PI X tg iter wi) (ok : BlkOk X.N X.env.scope scope own)
    (pg : ∀ (s : Shared) (H : Hp) (C : Addr) (cl : List (Str × Addr)) (fp : List Addr), PG (X.blk s H scope (compEnvC scope cl C X.env) fp) tg g)
    (pk : ∀ (s : Shared) (H : Hp) (C : Addr) (cl : List (Str × Addr)) (fp : List Addr), PE (X.blk s H scope (compEnvC scope cl C X.env) fp) kx tk)
    (pv : ∀ (s : Shared) (H : Hp) (C : Addr) (cl : List (Str × Addr)) (fp : List Addr), PE (X.blk s H scope (compEnvC scope cl C X.env) fp) vx tv) (plain : ∀ x, foldedSetIterable iter X.env x = pure x := by intro _; rfl) :
    PE X (.DictComp kx vx [⟨tg, iter, [], 0⟩] scope pos) (tDcT wi g tk tv (own.map (·.2))) := by
  constructor
  intro pins s σ H Q I h
  rw [arm_eval_DictComp]
  have cells : ∀ y ∈ scope.names, y.2 = .free → ∃ c, X.env.cells.lookup y.1 = some c := by
    intro y hy e
    apply I.ok.has
    rcases ok.free y hy e with q | q
    · exact .inl q
    · exact .inr q
  apply wpAny_comprehension_free rfl plain (closure_ok cells) ok.kind (fun y hy e => by rw [ok.uniq y hy, e])
  apply thn (src.run pins s σ H _ I h)
  intro xv s1 hx
  apply thn hx
  rintro itv s2 ⟨it, fp, tn, J, H2, rfl, I2, T, st2, f2, q⟩
  refine wpAny_newObj_type (newEnv_comp ?_)
  obtain ⟨D, eD⟩ : ∃ D, D = s2.heap.objs.size := ⟨_, rfl⟩
  rw [← eD]
  have noD : H2 D = none := I2.hok.fresh (Nat.le_of_eq eD.symm)
  obtain ⟨W, ⟨m0, w0⟩, turn⟩ := q D noD
  obtain ⟨H3, eH3⟩ : ∃ H3, H3 = upd H2 D (.dT []) := ⟨_, rfl⟩
  obtain ⟨s3, e3⟩ : ∃ s3 : Shared, s3 = { s2 with heap := s2.heap.push { cls := .type "dict", data := .dict #[] } } := ⟨_, rfl⟩
  rw [← eH3] at w0
  have heap3 : s3.heap = s2.heap.push { cls := .type "dict", data := .dict #[] } := by rw [e3]
  have I3 : Inv X pins σ H3 s3 := by
    rw [e3, eH3, eD]
    exact I2.laid (t' := s2.toks) (fun b o e => Heap.get?_push_of_some _ e) (Nat.le_refl _) (dt_empty s2.heap I2.big)
  have fp3 : ∀ b ∈ fp, FpOk X pins H3 b ∧ b < s3.heap.objs.size := by
    intro b hb
    obtain ⟨o, e, _⟩ := T.obj _ _ st2 b hb
    have lt := Heap.lt_size e
    constructor
    · refine ⟨?_, (f2 b hb).2⟩
      rw [eH3, upd_ne (by rw [eD]; exact Nat.ne_of_lt lt)]
      exact (f2 b hb).1
    · rw [heap3, Heap.size_push]; exact Nat.lt_succ_of_lt lt
  have out3 : ∀ b ∈ fp, H3 b = none := fun b hb => (fp3 b hb).1.1
  have I4 := block_start I3 ok nd fp3
  have pg := pg s3 H3 s3.heap.objs.size (cellsFrom (s3.heap.objs.size + 1) scope.names (cloFrom X.env.cells scope.names [])) fp
  have pk := pk s3 H3 s3.heap.objs.size (cellsFrom (s3.heap.objs.size + 1) scope.names (cloFrom X.env.cells scope.names [])) fp
  have pv := pv s3 H3 s3.heap.objs.size (cellsFrom (s3.heap.objs.size + 1) scope.names (cloFrom X.env.cells scope.names [])) fp
  obtain ⟨ce, ece⟩ : ∃ ce, ce = compEnvC scope (cellsFrom (s3.heap.objs.size + 1) scope.names (cloFrom X.env.cells scope.names [])) s3.heap.objs.size X.env := ⟨_, rfl⟩
  obtain ⟨s4, e4⟩ : ∃ s4 : Shared, s4 = { s3 with heap := pushCells (s3.heap.push { cls := .type "dict", data := .dict #[] }) scope.names } := ⟨_, rfl⟩
  rw [← ece] at I4 pg pk pv
  rw [← e4] at I4
  have ceL : ce.locals = s3.heap.objs.size := by rw [ece]; rfl
  have st4 : tn 0 s4.heap := by
    apply T.keep _ _ _ st2
    intro b _ o e
    rw [e4]
    refine pushCells_keeps _ _ _ _ (Heap.get?_push_of_some _ ?_)
    rw [heap3]
    exact Heap.get?_push_of_some _ e
  have gate : ∀ {σ' : L2.St} {H' : Hp} {s' : Shared}, Inv (X.blk s3 H3 scope ce fp) [] σ' H' s' → (∀ b ∈ fp, H' b = none) → ∀ b ∈ fp, FpOk (X.blk s3 H3 scope ce fp) [] H' b := by
    intro σ' H' s' I' out b hb
    have z := I'.ok.exf b hb
    exact ⟨out b hb, z.1, I'.ok.exfs b hb, .inl hb, fun x c e => z.2 x c e, fun p hp => absurd (show p ∈ ([] : List (Addr × Obj)) ++ [] from hp) (by simp)⟩
  have key : codeAny (model X.prog X.w) X.A (.compLoop (.DictComp kx vx [⟨tg, iter, [], 0⟩] scope pos) 0 (.ref it) (.ref D) ce) (compPost (model X.prog X.w) X.A X.xe none (EP X pins σ Q) (.ref D) s3.heap.objs.size) s4 := by
    apply compLoop_anyD (fun n s' => ∃ i H', Inv (X.blk s3 H3 scope ce fp) [] (wipe σ (own.map (·.2))) H' s' ∧ tn i s'.heap ∧ (∀ b ∈ fp, H' b = none) ∧ W i n H') ?_ m0 ⟨0, H3, I4, st4, out3, w0⟩
    rintro n s5 ⟨i, H5, I5, st5, out5, w5⟩
    rcases turn i n H5 w5 with ⟨stop, done⟩ | ⟨go, Nx, nxt, step⟩
    · apply thnF (T.done (X.blk s3 H3 scope ce fp) rfl rfl rfl calm i [] s5 _ H5 (fun _ _ => False) I5 (gate I5 out5) st5 stop)
      rintro r s6 ⟨rfl, I6⟩
      have I7 : Inv X pins σ H5 s6 := by
        apply I3.call' (ch := fp) I6.os I6.base I6.hok I6.bare
        intro b hb
        have z := (fp3 b hb).1.2
        exact ⟨z.2.2.1, z.1, z.2.2.2.1, z.2.2.2.2⟩
      have noC : H5 s3.heap.objs.size = none := by
        have z : H5 ce.locals = none := I6.free
        rwa [ceL] at z
      obtain ⟨m, ns, _⟩ := I6.loc
      have ns : s6.heap.Ns ce.locals m := ns
      rw [ceL] at ns
      refine ⟨m, ns, fun h'' sb => ?_⟩
      obtain ⟨f0, f1, _, f3, f4, f5⟩ := I3.fpOk (Nat.le_refl _) noC
      exact ⟨.ref D, H5, I7.turned (t' := s6.toks) (fun b o hb e => (sb.2 b hb).trans e) f0 f1 f3 f4 f5, rfl, done⟩
    · apply thnF (T.item (X.blk s3 H3 scope ce fp) rfl rfl rfl calm i [] s5 _ H5 (fun _ _ => False) I5 (gate I5 out5) st5 go)
      rintro r s6 ⟨u, rfl, h6⟩
      apply thnF h6
      rintro _ s7 ⟨x, H7, I7, r7, y7, st7, out7⟩
      have I7p := I7.pinned (gate I7 out7) (T.obj _ _ st7)
      apply thnF (pg.run _ s7 _ H7 x u _ I7p r7 (step x H7 y7))
      rintro _ s8 ⟨σ8, H8, I8, same8, q8⟩
      refine wpAny_pure ?_
      rw [if_pos rfl]
      apply thnF (pk.run _ s8 σ8 H8 _ I8 q8)
      rintro z s10 ⟨yk, H10, I10, r10, q10⟩
      apply thnF (pv.run _ s10 σ8 H10 _ I10 q10)
      rintro z2 s11 ⟨yv, H11, I11, r11, kvs, ks, b, rfl, eb, eD11, few, nx⟩
      cases (show z = Value.ref b from r10)
      apply put_tup (X := X.blk s3 H3 scope ce fp) room I11 eD11 eb few r11
      intro s12 I12
      obtain ⟨m', lt, w'⟩ := nxt _ nx
      have pin : ∀ c ∈ fp, ∀ o, s7.heap.get? c = some o → s12.heap.get? c = some o ∧ upd H11 D (.dT (putK kvs ks yv)) c = none := by
        intro c hc o e
        have z := I12.pin (c, o) (List.mem_append_right _ (List.mem_append_right _ (mem_pinsAt hc e)))
        exact ⟨z.1, z.2.1⟩
      have len8 : (wipe σ (own.map (·.2))).length = σ8.length := by rw [← same8, wipe_length]
      refine ⟨m', lt, i + 1, _, (I12.unpinned (pins := [])).weak len8 ?_, T.keep _ _ _ st7 fun c hc o e => (pin c hc o e).1, ?_, w'⟩
      · intro j v e
        rw [← same8] at e
        exact (wipe_some e).1
      · intro c hc
        obtain ⟨o, e, _⟩ := T.obj _ _ st7 c hc
        exact (pin c hc o e).2
  have all := codeAny_compStart_dict key (T.self X.A 0 _ _ _ st4 key)
  rw [e4, ece, e3, eD] at all
  rw [eD]
  exact all
end
end Sw
namespace Sw
open PySem PySem.Spec PyProof.Rows L2
/-! ### data without lists stays while a list changes -/
mutual
def noL : PyData → Bool
  | .list _ => false
  | .tuple xs => noLAll xs
  | .dict [] => true
  | .dict _ => false
  | _ => true
def noLAll : List PyData → Bool
  | [] => true
  | x :: xs => noL x && noLAll xs
end
/-- all is kept but the list at p -/
def KeepP (p : Addr) (H H' : Hp) : Prop := ∀ a o, (a ≠ p ∨ ∀ xs, o ≠ .lst xs) → H a = some o → H' a = some o
theorem keepP_upd {H : Hp} {p : Addr} {xs ys : List V} (h : H p = some (.lst xs)) : KeepP p H (upd H p (.lst ys)) := fun a o q e => by
  by_cases c : a = p
  · subst c
    rw [h] at e
    cases e
    exact (q.elim (fun q => q rfl) fun q => q _ rfl).elim
  · rw [L2.upd_ne c]; exact e
theorem Same.keepP {H H' : Hp} {p : Addr} (s : Same H H') : KeepP p H H' := fun a o _ e => s a o e
theorem KeepP.trans {H1 H2 H3 : Hp} {p : Addr} (s : KeepP p H1 H2) (t : KeepP p H2 H3) : KeepP p H1 H3 := fun a o q e => t a o q (s a o q e)
theorem KeepP.sqT {K : PySem.W.Frag} {H H' : Hp} {p a : Addr} {xs : List V} (k : KeepP p H H') (h : SqT K H a xs) : SqT K H' a xs := by
  rcases h with (h | ⟨o, h⟩) | h
  · exact .inl (.inl (k _ _ (.inr fun _ => HO.noConfusion) h))
  · exact .inl (.inr ⟨o, k _ _ (.inr fun _ => HO.noConfusion) h⟩)
  · exact .inr h
mutual
theorem De.keep {K : PySem.W.Frag} {H H' : Hp} {p : Addr} (s : KeepP p H H') : ∀ {v : V} {d : PyData}, De K H v d → noL d = true → De K H' v d
  | _, _, .non, _ => .non
  | _, _, .bl b, _ => .bl b
  | _, _, .int i, _ => .int i
  | _, _, .str x, _ => .str x
  | _, _, .lst h1 h0 h2, n => by simp [noL] at n
  | _, _, .tup h1 h2, n => .tup (s.sqT h1) (DeAll.keep s h2 (by simpa only [noL] using n))
  | _, _, .dict h1 (.nil), n => .dict (s _ _ (.inr fun _ => HO.noConfusion) h1) .nil
  | _, _, .dict h1 (.cons _ _), n => by simp [noL] at n
theorem DeAll.keep {K : PySem.W.Frag} {H H' : Hp} {p : Addr} (s : KeepP p H H') : ∀ {vs : List V} {ds : List PyData}, DeAll K H vs ds → noLAll ds = true → DeAll K H' vs ds
  | _, _, .nil, _ => .nil
  | _, _, .cons h1 h2, n => by
    simp only [noLAll, Bool.and_eq_true] at n
    exact .cons (De.keep s h1 n.1) (DeAll.keep s h2 n.2)
end
theorem noLAll_iff {ds : List PyData} : noLAll ds = true ↔ ∀ d ∈ ds, noL d = true := by
  induction ds with
  | nil => simp [noLAll]
  | cons d ds ih => simp only [noLAll, Bool.and_eq_true, ih, List.mem_cons, forall_eq_or_imp]
theorem push_de {K : PySem.W.Frag} {H : Hp} {t p : Addr} {vs : List V} {ds : List PyData} {o : HO} {d : PyData} (hp : H p = some (.lst vs)) (hd : DeAll K H vs ds) (nl : noLAll ds = true) (nt : H t = none) (new : De K (upd H t o) (.ref t) d) (nd : noL d = true) :
    DeAll K (upd (upd H t o) p (.lst (vs ++ [.ref t]))) (vs ++ [.ref t]) (ds ++ [d]) := by
  have hp2 := upd_old (o := o) nt hp
  have k := keepP_upd (ys := vs ++ [.ref t]) hp2
  exact ((hd.same (same_upd nt)).keep k nl).app (.cons (new.keep k nd) .nil)
theorem push_val {K : PySem.W.Frag} {H : Hp} {p : Addr} {vs : List V} {ds : List PyData} {v : V} {d : PyData} (hp : H p = some (.lst vs)) (hd : DeAll K H vs ds) (nl : noLAll ds = true) (new : De K H v d) (nd : noL d = true) :
    DeAll K (upd H p (.lst (vs ++ [v]))) (vs ++ [v]) (ds ++ [d]) := by
  have k := keepP_upd (ys := vs ++ [v]) hp
  exact (hd.keep k nl).app (.cons (new.keep k nd) .nil)
end Sw
namespace Sw
open PySem PySem.Spec PyProof.Rows L2
/-! ### answers for dicts keyed by tuples, for a list or a tuple walked by its name -/
theorem room1 {u c : Nat} (h : u + 64 < c) : u + 1 < c := by omega
def rDGet : V → V → Hp → VK → Prop := fun x y H Q => ∃ a v, x = .ref a ∧ DGet H a y (some v) ∧ Q v H
theorem i_dget {td ty : TE} {σ : L2.St} {H : Hp} {Q : VK} (h : td σ H fun x H1 => ty σ H1 fun y H2 => rDGet x y H2 Q) : tDGet td ty σ H Q := h
theorem i_dgetT {a b : Addr} {kvs : List (List Key × V)} {ks : List Key} {v : V} {H : Hp} {Q : VK} (e : H a = some (.dT kvs)) (eb : H b = some (.tup (ks.map kV))) (ev : valV kvs ks = some v) (q : Q v H) : rDGet (.ref a) (.ref b) H Q :=
  ⟨a, v, rfl, by rw [← ev]; exact DGet.t e eb, q⟩
def rInDt : R2 := fun x y H Q => ∃ a o, y = .ref a ∧ DGet H a x o ∧ Q (.bl o.isSome) H
theorem op_inDt {X : Cx} (hu : X.A.units + 64 < cLine) : OpR X (compareOp .In) rInDt := by
  intro pins s σ H x y v u Q I rx ry h
  obtain ⟨a, o, rfl, g, q⟩ := h
  cases (show u = Value.ref a from ry)
  exact d_in (room1 hu) I g rx fun s' I' => ⟨.bl o.isSome, H, I', rfl, q⟩
theorem i_inDt {a b : Addr} {kvs : List (List Key × V)} {ks : List Key} {H : Hp} {Q : VK} (e : H a = some (.dT kvs)) (eb : H b = some (.tup (ks.map kV))) (q : Q (.bl (valV kvs ks).isSome) H) : rInDt (.ref b) (.ref a) H Q := ⟨a, _, rfl, DGet.t e eb, q⟩
theorem i_setD {a b : Addr} {kvs : List (List Key × V)} {ks : List Key} {v : V} {H : Hp} {Q : Hp → Prop} (e : H a = some (.dT kvs)) (eb : H b = some (.tup (ks.map kV))) (l : kvs.length < sizeLine) (q : Q (upd H a (.dT (putK kvs ks v)))) : rSetD (.ref a) (.ref b) v H Q :=
  ⟨a, _, rfl, DPut.t e eb l, q⟩
def NewE (H : Hp) (R : Addr → Hp → Prop) : Prop := ∀ p, H p = none → R p (upd H p (.dT []))
theorem i_dnewT {σ : L2.St} {H : Hp} {Q : VK} (h : NewE H fun p H1 => Q (.ref p) H1) : tDNewT σ H Q := h
theorem i_disp1T {tk tv : TE} {σ : L2.St} {H : Hp} {Q : VK} (h : NewE H fun p H0 => tk σ H0 fun x H1 => tv σ H1 fun y H2 => ∃ b ks, x = .ref b ∧ H2 p = some (.dT []) ∧ H2 b = some (.tup (ks.map kV)) ∧ Q (.ref p) (upd H2 p (.dT [(ks, y)]))) : tDisp1T tk tv σ H Q := h
/-! a list or a tuple, by its name -/
def iSeqV (K : PySem.W.Frag) (i : Nat) : TI := fun σ H R => ∃ a xs J, σ[i]? = some (some (.ref a)) ∧ ((SqL K H a xs ∧ J = Itl K a) ∨ (SqT K H a xs ∧ J = Itt K a)) ∧ R J H
theorem pi_seqV {X : Cx} {tg l : Expr} {i : Nat} (h : PE X l (tVar i)) : PI X tg l (iSeqV X.K i) := by
  refine ⟨fun pins s σ H R I q => ?_⟩
  obtain ⟨a, xs, J, e, ⟨hs, rfl⟩ | ⟨hs, rfl⟩, r⟩ := q
  · exact (pi_list (tg := tg) h).run pins s σ H R I ⟨_, e, a, rfl, ⟨xs, hs⟩, r⟩
  · exact (pi_tup (tg := tg) h).run pins s σ H R I ⟨_, e, a, rfl, ⟨xs, hs⟩, r⟩
theorem walk_seqV {K : PySem.W.Frag} {a : Addr} {xs : List V} {J : It} {H : Hp} (h : (SqL K H a xs ∧ J = Itl K a) ∨ (SqT K H a xs ∧ J = Itt K a)) : Walk J xs.length (fun H' => Same H H') (YAt xs) := by
  rcases h with ⟨h, rfl⟩ | ⟨h, rfl⟩
  · exact walk_list.mono (fun H' s => Same.sqL s h) fun _ _ _ _ _ _ y => y
  · exact walk_tup.mono (fun H' s => Same.sqT s h) fun _ _ _ _ _ _ y => y
theorem i_seqV {K : PySem.W.Frag} {a : Addr} {xs : List V} {i : Nat} {σ : L2.St} {H : Hp} {R : It → Hp → Prop} (e : σ[i]? = some (some (.ref a))) (h : SqL K H a xs ∨ SqT K H a xs) (r : ∀ J, Walk J xs.length (fun H' => Same H H') (YAt xs) → R J H) : iSeqV K i σ H R := by
  rcases h with h | h
  · exact ⟨a, xs, _, e, .inl ⟨h, rfl⟩, r _ (walk_seqV (.inl ⟨h, rfl⟩))⟩
  · exact ⟨a, xs, _, e, .inr ⟨h, rfl⟩, r _ (walk_seqV (.inr ⟨h, rfl⟩))⟩
def DcGo (J : It) (g : TG) (tk tv : TE) (vs : List Nat) (σ : L2.St) (H1 : Hp) (Q : VK) : Prop := ∀ D, H1 D = none → ∃ W : Nat → Nat → Hp → Prop, (∃ m, W 0 m (upd H1 D (.dT []))) ∧ ∀ i m H, W i m H →
  (J.stop i H ∧ Q (.ref D) H) ∨ (J.go i H ∧ ∃ Nx : Hp → Prop, (∀ H', Nx H' → ∃ m', m' < m ∧ W (i + 1) m' H') ∧ ∀ x H', J.yld i H x H' → g x (wipe σ vs) H' fun σ2 H2 => wipe σ2 vs = wipe σ vs ∧
    tk σ2 H2 fun y H4 => tv σ2 H4 fun z H5 => ∃ kvs ks b, y = .ref b ∧ H5 b = some (.tup (ks.map kV)) ∧ H5 D = some (.dT kvs) ∧ kvs.length < sizeLine ∧ Nx (upd H5 D (.dT (putK kvs ks z))))
theorem i_dcT {wi : TI} {g : TG} {tk tv : TE} {vs : List Nat} {σ : L2.St} {H : Hp} {Q : VK} (h : wi σ H fun J H1 => DcGo J g tk tv vs σ H1 Q) : tDcT wi g tk tv vs σ H Q := h
theorem go_dcT {J : It} {n : Nat} {G : Hp → Prop} {Y : Nat → Hp → V → Hp → Prop} {g : TG} {tk tv : TE} {vs : List Nat} {σ : L2.St} {H1 : Hp} {Q : VK} (w : Walk J n G Y) (Pv : Addr → Nat → Hp → Prop) (h0 : ∀ p, H1 p = none → Pv p 0 (upd H1 p (.dT []))) (hG : ∀ p i H, H1 p = none → i ≤ n → Pv p i H → G H)
    (hs : ∀ p, H1 p = none → ∀ i x H H', i < n → Pv p i H → Y i H x H' → g x (wipe σ vs) H' fun σ2 H2 => wipe σ2 vs = wipe σ vs ∧
      tk σ2 H2 fun y H4 => tv σ2 H4 fun z H5 => ∃ kvs ks b, y = .ref b ∧ H5 b = some (.tup (ks.map kV)) ∧ H5 p = some (.dT kvs) ∧ kvs.length < sizeLine ∧ Pv p (i + 1) (upd H5 p (.dT (putK kvs ks z))))
    (hd : ∀ p H, H1 p = none → Pv p n H → Q (.ref p) H) : DcGo J g tk tv vs σ H1 Q := by
  intro p np
  refine ⟨fun i m H => i + m = n ∧ Pv p i H, ⟨n, by omega, h0 p np⟩, ?_⟩
  rintro i m H ⟨le, pv⟩
  have ok := hG p i H np (by omega) pv
  rcases m with _ | m
  · obtain rfl : i = n := by omega
    exact .inl ⟨w.stops H ok, hd p H np pv⟩
  · exact .inr ⟨w.goes i H (by omega) ok, Pv p (i + 1), fun H' q => ⟨m, Nat.lt_succ_self m, by omega, q⟩, fun x H' y => hs p np i x H H' (by omega) pv (w.yields i H x H' (by omega) ok y)⟩
/-- isinstance(x, (list, tuple)) -/
theorem kit_two {K : PySem.W.Frag} {t u1 u2 : Value} {b1 b2 : Bool} (h1 : PySem.W.kitOne K t u1 = some b1) (h2 : PySem.W.kitOne K t u2 = some b2) : PySem.W.kitAny K t [u1, u2] = some (b1 || b2) := by
  cases b1 <;> cases b2 <;> simp [PySem.W.kitAny, h1, h2]
theorem isiLT {K : PySem.W.Frag} {H : Hp} {v : V} {t : Value} {b1 b2 : Bool} {Q : VK} {p : Addr} (ty : TyX K H v t) (e : H p = some (.tup [.ty "list", .ty "tuple"])) (h1 : PySem.W.kitOne K t (.type "list") = some b1) (h2 : PySem.W.kitOne K t (.type "tuple") = some b2) (k : Q (.bl (b1 || b2)) H) : rIsiT K [v, .ref p] H Q :=
  ⟨v, p, _, t, _, _, rfl, e, .cons (.ty _) (.cons (.ty _) .nil), ty, kit_two h1 h2, k⟩
theorem De.isiLT {K : PySem.W.Frag} {H : Hp} {v : V} {d : PyData} {Q : VK} {p : Addr} (h : De K H v d) (e : H p = some (.tup [.ty "list", .ty "tuple"])) (k : Q (.bl (tyB "list" d || tyB "tuple" d)) H) : rIsiT K [v, .ref p] H Q := by
  have a : ∀ {n m : String} {b : Bool}, PySem.W.kitOne K (.type n) (.type m) = some b → PySem.W.kitOne K (.type n) (.type m) = some b := fun q => q
  cases h with
  | non => exact Sw.isiLT (.base .non) e (kit_ty (show _ = some false by decide +kernel)) (kit_ty (show _ = some false by decide +kernel)) k
  | bl b => exact Sw.isiLT (.base (.bl _)) e (kit_ty (show _ = some false by decide +kernel)) (kit_ty (show _ = some false by decide +kernel)) k
  | int i => exact Sw.isiLT (.base (.int _)) e (kit_ty (show _ = some false by decide +kernel)) (kit_ty (show _ = some false by decide +kernel)) k
  | str x => exact Sw.isiLT (.base (.str _)) e (kit_ty (show _ = some false by decide +kernel)) (kit_ty (show _ = some false by decide +kernel)) k
  | lst h1 _ h2 => exact Sw.isiLT (.base (.lst h1)) e (kit_ty (show _ = some true by decide +kernel)) (kit_ty (show _ = some false by decide +kernel)) k
  | tup h1 h2 => exact Sw.isiLT (tyx_tup h1) e (kit_ty (show _ = some false by decide +kernel)) (kit_ty (show _ = some true by decide +kernel)) k
  | dict h1 h2 => exact Sw.isiLT (.base (.dK h1)) e (kit_ty (show _ = some false by decide +kernel)) (kit_ty (show _ = some false by decide +kernel)) k
end Sw
namespace Sw
open PySem PySem.Spec PyProof.Rows L2
/-! ### heaps beside the box of draws -/
theorem del_sb {b : Addr} {H H' : Hp} (s : SB b H H') : Same (L2.del H b) (L2.del H' b) := fun a o e => by
  by_cases c : a = b
  · subst c; rw [L2.del_same] at e; cases e
  · rw [L2.del_ne c] at e ⊢; exact s a o c e
theorem del_sub {b : Addr} {H : Hp} : Same (L2.del H b) H := fun a o e => by
  by_cases c : a = b
  · subst c; rw [L2.del_same] at e; cases e
  · rw [L2.del_ne c] at e; exact e
theorem box_some {H : Hp} {b : Addr} {d : Int} (B : BoxAt H b d) : ∃ o, H b = some o := by obtain ⟨_, _, _, _, e, _⟩ := B.ex; exact ⟨_, e⟩
theorem box_ne {H : Hp} {b p : Addr} {d : Int} (B : BoxAt H b d) (n : H p = none) : p ≠ b := by
  rintro rfl
  obtain ⟨o, e⟩ := box_some B
  rw [n] at e; cases e
theorem del_new {H : Hp} {b p : Addr} {d : Int} {o : HO} (B : BoxAt H b d) (n : H p = none) : L2.del (upd H p o) b p = some o := by rw [L2.del_ne (box_ne B n)]; exact upd_same
theorem BoxAt.upd_ne' {H : Hp} {b p : Addr} {d : Int} {o : HO} (B : BoxAt H b d) (h : p ≠ b) : BoxAt (upd H p o) b d := by
  obtain ⟨n, g, c, e, hb, hr⟩ := B.ex
  exact ⟨n, g, c, e, by rw [L2.upd_ne (Ne.symm h)]; exact hb, hr⟩
/-- a new thing is made and told -/
def NewT (xs : List V) (H : Hp) (Q : VK) : Prop := xs.length ≤ sizeLine ∧ ∀ p, H p = none → Q (.ref p) (upd H p (.tup xs))
def NewL (xs : List V) (H : Hp) (Q : VK) : Prop := xs.length ≤ sizeLine ∧ ∀ p, H p = none → Q (.ref p) (upd H p (.lst xs))
def NewLL (xs : List V) (H : Hp) (Q : VK) : Prop := xs.length ≤ sizeLine ∧ ∀ p, H p = none → sysModules < p → Q (.ref p) (upd H p (.lst xs))
def NewD (H : Hp) (Q : VK) : Prop := ∀ p, H p = none → Q (.ref p) (upd H p (.dK []))
section
variable {σ : L2.St} {H : Hp} {Q : VK} {b : Addr} {d : Int} {t : TA} {xs : List V}
theorem i_tupM (h : t σ H fun xs H1 => NewT xs H1 Q) : tTup t σ H Q := h
theorem i_lstM (h : t σ H fun xs H1 => NewL xs H1 Q) : tLst t σ H Q := h
theorem i_lstLM (h : t σ H fun xs H1 => NewLL xs H1 Q) : tLstL t σ H Q := h
theorem i_dnewM (h : NewD H Q) : tDNewK σ H Q := h
theorem newT (B : BoxAt H b d) (l : xs.length ≤ sizeLine) (k : ∀ p H', BoxAt H' b d → Same (L2.del H b) (L2.del H' b) → L2.del H' b p = some (.tup xs) → Same H H' → Q (.ref p) H') : NewT xs H Q :=
  ⟨l, fun p n => k p _ (B.same (same_upd n)) (del_sb (SB.of (same_upd n))) (del_new B n) (same_upd n)⟩
theorem newL (B : BoxAt H b d) (l : xs.length ≤ sizeLine) (k : ∀ p H', BoxAt H' b d → Same (L2.del H b) (L2.del H' b) → L2.del H' b p = some (.lst xs) → Same H H' → Q (.ref p) H') : NewL xs H Q :=
  ⟨l, fun p n => k p _ (B.same (same_upd n)) (del_sb (SB.of (same_upd n))) (del_new B n) (same_upd n)⟩
theorem newLL (B : BoxAt H b d) (l : xs.length ≤ sizeLine) (k : ∀ p H', sysModules < p → H p = none → BoxAt H' b d → Same (L2.del H b) (L2.del H' b) → L2.del H' b p = some (.lst xs) → Same H H' → Q (.ref p) H') : NewLL xs H Q :=
  ⟨l, fun p n lt => k p _ lt n (B.same (same_upd n)) (del_sb (SB.of (same_upd n))) (del_new B n) (same_upd n)⟩
theorem newD (B : BoxAt H b d) (k : ∀ p H', BoxAt H' b d → Same (L2.del H b) (L2.del H' b) → L2.del H' b p = some (.dK []) → Same H H' → Q (.ref p) H') : NewD H Q :=
  fun p n => k p _ (B.same (same_upd n)) (del_sb (SB.of (same_upd n))) (del_new B n) (same_upd n)
/-- without a box -/
theorem newT0 (l : xs.length ≤ sizeLine) (k : ∀ p H', H p = none → Same H H' → H' p = some (.tup xs) → Q (.ref p) H') : NewT xs H Q := ⟨l, fun p n => k p _ n (same_upd n) upd_same⟩
theorem newL0 (l : xs.length ≤ sizeLine) (k : ∀ p H', H p = none → Same H H' → H' p = some (.lst xs) → Q (.ref p) H') : NewL xs H Q := ⟨l, fun p n => k p _ n (same_upd n) upd_same⟩
theorem newLL0 (l : xs.length ≤ sizeLine) (k : ∀ p H', H p = none → sysModules < p → Same H H' → H' p = some (.lst xs) → Q (.ref p) H') : NewLL xs H Q := ⟨l, fun p n lt => k p _ n lt (same_upd n) upd_same⟩
theorem newD0 (k : ∀ p H', H p = none → Same H H' → H' p = some (.dK []) → Q (.ref p) H') : NewD H Q := fun p n => k p _ n (same_upd n) upd_same
end
/-! ### odd values -/
/-- H' has all of G but the lists that lie in H0 -/
def Kept (H0 G H' : Hp) : Prop := ∀ a o, G a = some o → ((∀ xs, o ≠ .lst xs) ∨ H0 a = none) → H' a = some o
theorem Kept.refl (H0 G : Hp) : Kept H0 G G := fun _ _ e _ => e
theorem Kept.same {H0 G G' H' : Hp} (k : Kept H0 G' H') (s : Same G G') : Kept H0 G H' := fun a o e q => k a o (s a o e) q
theorem Kept.sqT {K : PySem.W.Frag} {H0 H H' : Hp} {a : Addr} {xs : List V} (k : Kept H0 H H') (h : SqT K H a xs) : SqT K H' a xs := by
  rcases h with (h | ⟨o, h⟩) | h
  · exact .inl (.inl (k _ _ h (.inl fun _ => HO.noConfusion)))
  · exact .inl (.inr ⟨o, k _ _ h (.inl fun _ => HO.noConfusion)⟩)
  · exact .inr h
mutual
theorem De.kept {K : PySem.W.Frag} {H0 H H' : Hp} (s : Kept H0 H H') : ∀ {v : V} {d : PyData}, De K H v d → noL d = true → De K H' v d
  | _, _, .non, _ => .non
  | _, _, .bl b, _ => .bl b
  | _, _, .int i, _ => .int i
  | _, _, .str x, _ => .str x
  | _, _, .lst h1 h0 h2, n => by simp [noL] at n
  | _, _, .tup h1 h2, n => .tup (s.sqT h1) (DeAll.kept s h2 (by simpa only [noL] using n))
  | _, _, .dict h1 (.nil), n => .dict (s _ _ h1 (.inl fun _ => HO.noConfusion)) .nil
  | _, _, .dict h1 (.cons _ _), n => by simp [noL] at n
theorem DeAll.kept {K : PySem.W.Frag} {H0 H H' : Hp} (s : Kept H0 H H') : ∀ {vs : List V} {ds : List PyData}, DeAll K H vs ds → noLAll ds = true → DeAll K H' vs ds
  | _, _, .nil, _ => .nil
  | _, _, .cons h1 h2, n => by
    simp only [noLAll, Bool.and_eq_true] at n
    exact .cons (De.kept s h1 n.1) (DeAll.kept s h2 n.2)
end
section
variable {K : PySem.W.Frag} {H0 G G' : Hp} {v x : V} {p : Addr} {xs : List V}
/-- what may lie in a told tuple: data of little size without a dict, its lists not in H0 -/
def AtomV (K : PySem.W.Frag) (H0 G : Hp) (v : V) : Prop := ∃ d, (∀ H', Kept H0 G H' → De K H' v d) ∧ d.hasDict = false ∧ Sd 3 170 d
/-- the same without lists -/
def AtomN (K : PySem.W.Frag) (H0 G : Hp) (v : V) : Prop := ∃ d, (∀ H', Kept H0 G H' → De K H' v d) ∧ d.hasDict = false ∧ Sd 3 170 d ∧ noL d = true
def AllA (K : PySem.W.Frag) (H0 G : Hp) : List V → Prop
  | [] => True
  | x :: xs => AtomV K H0 G x ∧ AllA K H0 G xs
def AllN (K : PySem.W.Frag) (H0 G : Hp) : List V → Prop
  | [] => True
  | x :: xs => AtomN K H0 G x ∧ AllN K H0 G xs
theorem AtomV.same (h : AtomV K H0 G v) (s : Same G G') : AtomV K H0 G' v := by
  obtain ⟨d, h1, h2, h3⟩ := h
  exact ⟨d, fun H' k => h1 H' (k.same s), h2, h3⟩
theorem AtomN.same (h : AtomN K H0 G v) (s : Same G G') : AtomN K H0 G' v := by
  obtain ⟨d, h1, h2, h3, h4⟩ := h
  exact ⟨d, fun H' k => h1 H' (k.same s), h2, h3, h4⟩
theorem AtomN.va (h : AtomN K H0 G v) : AtomV K H0 G v := by
  obtain ⟨d, h1, h2, h3, _⟩ := h
  exact ⟨d, h1, h2, h3⟩
theorem AllN.va : ∀ {vs : List V}, AllN K H0 G vs → AllA K H0 G vs
  | [], _ => trivial
  | _ :: _, h => ⟨h.1.va, AllN.va h.2⟩
theorem AllN.same (s : Same G G') : ∀ {vs : List V}, AllN K H0 G vs → AllN K H0 G' vs
  | [], _ => trivial
  | _ :: _, h => ⟨h.1.same s, AllN.same s h.2⟩
theorem AtomV.str {l : List Nat} (h : ∀ c ∈ l, c ≤ 1000) (n : l.length ≤ 20) : AtomV K H0 G (.str (S l)) := ⟨_, fun _ _ => .str _, by simp only [PyData.hasDict], (sd_str h).mono (by omega) (by omega)⟩
theorem AtomV.int {i : Int} (h : i.natAbs < 10 ^ 40) : AtomV K H0 G (.int i) := ⟨_, fun _ _ => .int _, by simp only [PyData.hasDict], (sd_int h).mono (by omega) (by omega)⟩
theorem AtomV.bl (c : Bool) : AtomV K H0 G (.bl c) := ⟨_, fun _ _ => .bl _, by simp only [PyData.hasDict], (sd_bl c).mono (by omega) (by omega)⟩
theorem AtomV.non : AtomV K H0 G .non := ⟨_, fun _ _ => .non, by simp only [PyData.hasDict], sd_non.mono (by omega) (by omega)⟩
theorem AtomN.str {l : List Nat} (h : ∀ c ∈ l, c ≤ 1000) (n : l.length ≤ 20) : AtomN K H0 G (.str (S l)) := ⟨_, fun _ _ => .str _, by simp only [PyData.hasDict], (sd_str h).mono (by omega) (by omega), rfl⟩
theorem AtomN.int {i : Int} (h : i.natAbs < 10 ^ 40) : AtomN K H0 G (.int i) := ⟨_, fun _ _ => .int _, by simp only [PyData.hasDict], (sd_int h).mono (by omega) (by omega), rfl⟩
theorem AtomN.deD {d : PyData} (h : De K G v d) (z : d.hasDict = false) (s : Sd 3 170 d) (n : noL d = true) : AtomN K H0 G v := ⟨d, fun _ k => h.kept k n, z, s, n⟩
theorem AtomN.tupD {ds : List PyData} (h : G p = some (.tup xs)) (a : DeAll K G xs ds) (z : (PyData.tuple ds).hasDict = false) (s : Sd 3 170 (.tuple ds)) (n : noLAll ds = true) : AtomN K H0 G (.ref p) := .deD (.tup (sqT_of h) a) z s (by simpa only [noL] using n)
theorem AtomV.lst {i : Int} (h : G p = some (.lst [.int i])) (lt : sysModules < p) (n : H0 p = none) (hi : i.natAbs < 10 ^ 20) : AtomV K H0 G (.ref p) := by
  have si : Sd 2 140 (.int i) := (sd_int (Nat.lt_of_lt_of_le hi (by decide))).mono (by omega) (by omega)
  exact ⟨.list [.int i], fun H' k => .lst (k _ _ h (.inr n)) lt (.cons (.int _) .nil), by simp only [PyData.hasDict, PyData.hasDictAll, Bool.or_self], (sd_lst' (.cons si .nil)).mono (by omega) (by omega)⟩
theorem AtomV.tup {i : Int} (h : G p = some (.tup [.int i])) (hi : i.natAbs < 10 ^ 20) : AtomV K H0 G (.ref p) := by
  have si : Sd 2 140 (.int i) := (sd_int (Nat.lt_of_lt_of_le hi (by decide))).mono (by omega) (by omega)
  exact (AtomN.tupD h (.cons (.int _) .nil) (by simp only [PyData.hasDict, PyData.hasDictAll, Bool.or_self]) ((sd_tup' (.cons si .nil)).mono (by omega) (by omega)) rfl).va
theorem AtomV.tupS {l : List Nat} (h : G p = some (.tup [.str (S l)])) (h1 : ∀ c ∈ l, c ≤ 1000) (h2 : l.length ≤ 20) : AtomV K H0 G (.ref p) :=
  (AtomN.tupD h (.cons (.str _) .nil) (by simp only [PyData.hasDict, PyData.hasDictAll, Bool.or_self]) ((sd_tup' (n := 2) (.cons ((sd_str h1).mono (by omega) (Nat.le_refl _)) .nil)).mono (by omega) (by omega)) rfl).va
theorem AllA.data : ∀ {vs : List V}, AllA K H0 G vs → ∃ ds, (∀ H', Kept H0 G H' → DeAll K H' vs ds) ∧ ds.length = vs.length ∧ (∀ d ∈ ds, d.hasDict = false ∧ Sd 3 170 d)
  | [], _ => ⟨[], fun _ _ => .nil, rfl, fun d h => by cases h⟩
  | v :: vs, h => by
    obtain ⟨d, h1, h2, h3⟩ := h.1
    obtain ⟨ds, k1, kl, k2⟩ := AllA.data h.2
    exact ⟨d :: ds, fun H' k => .cons (h1 H' k) (k1 H' k), by rw [List.length_cons, List.length_cons, kl], fun x hx => (List.mem_cons.mp hx).elim (fun e => e ▸ ⟨h2, h3⟩) (k2 x)⟩
theorem AllN.data : ∀ {vs : List V}, AllN K H0 G vs → ∃ ds, (∀ H', Kept H0 G H' → DeAll K H' vs ds) ∧ ds.length = vs.length ∧ (∀ d ∈ ds, d.hasDict = false ∧ Sd 3 170 d ∧ noL d = true)
  | [], _ => ⟨[], fun _ _ => .nil, rfl, fun d h => by cases h⟩
  | v :: vs, h => by
    obtain ⟨d, h1, h2, h3, h4⟩ := h.1
    obtain ⟨ds, k1, kl, k2⟩ := AllN.data h.2
    exact ⟨d :: ds, fun H' k => .cons (h1 H' k) (k1 H' k), by rw [List.length_cons, List.length_cons, kl], fun x hx => (List.mem_cons.mp hx).elim (fun e => e ▸ ⟨h2, h3, h4⟩) (k2 x)⟩
/-- what may lie in a told list -/
def LsOk (d : PyData) : Prop := ∀ ds, d = .list ds → noLAll ds = true
/-- a value that may be told for a step -/
def OddV (K : PySem.W.Frag) (H0 G : Hp) (v : V) : Prop := ∃ d, (∀ H', Kept H0 G H' → De K H' v d) ∧ Ok1 d ∧ Sd 4 1000 d ∧ LsOk d
theorem OddV.same (h : OddV K H0 G v) (s : Same G G') : OddV K H0 G' v := by
  obtain ⟨d, h1, h2, h3, h4⟩ := h
  exact ⟨d, fun H' k => h1 H' (k.same s), h2, h3, h4⟩
theorem OddV.atom (h : AtomN K H0 G v) : OddV K H0 G v := by
  obtain ⟨d, h1, h2, h3, h4⟩ := h
  exact ⟨d, h1, .inr h2, h3.mono (by omega) (by omega), fun ds e => by rw [e] at h4; simp [noL] at h4⟩
theorem OddV.non : OddV K H0 G .non := ⟨_, fun _ _ => .non, .inr (by simp only [PyData.hasDict]), sd_non.mono (by omega) (by omega), fun ds e => by cases e⟩
theorem OddV.bl (c : Bool) : OddV K H0 G (.bl c) := ⟨_, fun _ _ => .bl c, .inr (by simp only [PyData.hasDict]), (sd_bl c).mono (by omega) (by omega), fun ds e => by cases e⟩
theorem OddV.emp (h : G p = some (.dK [])) : OddV K H0 G (.ref p) := ⟨_, fun _ k => .dict (k _ _ h (.inl fun _ => HO.noConfusion)) .nil, .inl rfl, sd_emp.mono (by omega) (by omega), fun ds e => by cases e⟩
theorem OddV.tupS (h : SqT K G p xs) (l : xs.length ≤ 5) (a : AllA K H0 G xs) : OddV K H0 G (.ref p) := by
  obtain ⟨ds, h1, hl, h2⟩ := a.data
  refine ⟨_, fun H' k => .tup (k.sqT h) (h1 H' k), .inr (hasDict_tup.mpr fun y hy => (h2 y hy).1), (sd_tup fun d hd => (h2 d hd).2).mono (by omega) ?_, fun ds e => by cases e⟩
  rw [hl]
  exact Nat.le_trans (Nat.mul_le_mul_right _ l) (by decide)
theorem OddV.tup (h : G p = some (.tup xs)) (l : xs.length ≤ 5) (a : AllA K H0 G xs) : OddV K H0 G (.ref p) := .tupS (sqT_of h) l a
theorem OddV.lst (h : G p = some (.lst xs)) (lt : sysModules < p) (n : H0 p = none) (l : xs.length ≤ 5) (a : AllN K H0 G xs) : OddV K H0 G (.ref p) := by
  obtain ⟨ds, h1, hl, h2⟩ := a.data
  have z : ∀ y ∈ ds, y.hasDict = false := fun y hy => (h2 y hy).1
  refine ⟨_, fun H' k => .lst (k _ _ h (.inr n)) lt (h1 H' k), .inr ?_, (sd_lst fun d hd => (h2 d hd).2.1).mono (by omega) ?_, fun es e => ?_⟩
  · have := hasDict_tup.mpr z
    simpa only [PyData.hasDict] using this
  · rw [hl]
    exact Nat.le_trans (Nat.mul_le_mul_right _ l) (by decide)
  · cases e; exact noLAll_iff.mpr fun y hy => (h2 y hy).2.2
def Odds (K : PySem.W.Frag) (H0 G : Hp) (vs : List V) : Prop := ∀ v ∈ vs, OddV K H0 G v
theorem Odds.nil : Odds K H0 G [] := fun v h => by cases h
theorem Odds.same {vs : List V} (h : Odds K H0 G vs) (s : Same G G') : Odds K H0 G' vs := fun v hv => (h v hv).same s
theorem Odds.snoc {vs : List V} (h : Odds K H0 G vs) (o : OddV K H0 G v) : Odds K H0 G (vs ++ [v]) := fun x hx => (List.mem_append.mp hx).elim (h x) fun q => by rw [List.mem_singleton.mp q]; exact o
theorem Odds.app {vs ws : List V} (h : Odds K H0 G vs) (o : Odds K H0 G ws) : Odds K H0 G (vs ++ ws) := fun x hx => (List.mem_append.mp hx).elim (h x) (o x)
end
theorem fresh0 {b p : Addr} {d : Int} {H0 H : Hp} (s : SB b H0 H) (B : BoxAt H b d) (n : H p = none) : H0 p = none := by
  have npb := box_ne B n
  rcases e : H0 p with _ | o
  · rfl
  · rw [s _ _ npb e] at n; cases n
section
variable {K : PySem.W.Frag} {H : Hp} {Q : VK} {b : Addr} {d : Int}
theorem i_listB {p : Addr} {ys : List V} (B : BoxAt H b d) (h : SqL K H p ys ∨ SqT K H p ys) (k : ∀ l H', sysModules < l → H l = none → BoxAt H' b d → Same (L2.del H b) (L2.del H' b) → L2.del H' b l = some (.lst ys) → Same H H' → Q (.ref l) H') : rListL K [.ref p] H Q :=
  i_listL h fun l n lt => k l _ lt n (B.same (same_upd n)) (del_sb (SB.of (same_upd n))) (del_new B n) (same_upd n)
theorem i_catB {a c : Addr} {xs ys : List V} (B : BoxAt H b d) (h : SqT K (L2.del H b) a xs) (h2 : SqT K (L2.del H b) c ys) (l : xs.length + ys.length ≤ sizeLine) (k : ∀ t H', BoxAt H' b d → Same (L2.del H b) (L2.del H' b) → SqT K (L2.del H' b) t (xs ++ ys) → Same H H' → Q (.ref t) H') : rCatA K (.ref a) (.ref c) H Q := by
  refine ⟨a, c, xs, ys, rfl, rfl, Same.sqT del_sub h, Same.sqT del_sub h2, l, fun e => ?_, fun e1 e2 => ?_, fun e1 e2 p np => ?_⟩
  · rw [e] at k; exact k _ _ B (Same.refl _) h2 (Same.refl _)
  · rw [e2, List.append_nil] at k; exact k _ _ B (Same.refl _) h (Same.refl _)
  · exact k _ _ (B.same (same_upd np)) (del_sb (SB.of (same_upd np))) (sqT_of (del_new B np)) (same_upd np)
theorem i_sl1B {a : Addr} {xs : List V} (B : BoxAt H b d) (h : SqT K H a xs) (l : 2 ≤ xs.length) (k : ∀ t H', BoxAt H' b d → Same (L2.del H b) (L2.del H' b) → L2.del H' b t = some (.tup (xs.take 1)) → Same H H' → Q (.ref t) H') : rSlA K (.ref a) none (some 1) H Q := by
  refine ⟨a, xs, rfl, h, fun e => ?_, fun e p np => ?_⟩
  · rw [show (some (1 : Int)) = some ((1 : Nat) : Int) from rfl, HT.sIx_nat] at e
    omega
  · have : cutV xs none (some 1) = xs.take 1 := by
      unfold cutV
      rw [show (some (1 : Int)) = some ((1 : Nat) : Int) from rfl, HT.sIx_nat, HT.sIx_none, List.drop_zero, Nat.sub_zero, Nat.min_eq_left (by omega)]
    rw [this]
    exact k _ _ (B.same (same_upd np)) (del_sb (SB.of (same_upd np))) (del_new B np) (same_upd np)
theorem i_slTB {a : Addr} {xs : List V} {n : Nat} (B : BoxAt H b d) (h : SqT K (L2.del H b) a xs) (k : ∀ t H', BoxAt H' b d → Same (L2.del H b) (L2.del H' b) → SqT K (L2.del H' b) t (xs.take n) → Same H H' → Q (.ref t) H') : rSlA K (.ref a) none (some (n : Int)) H Q := by
  refine ⟨a, xs, rfl, Same.sqT del_sub h, fun e => ?_, fun e p np => ?_⟩
  · rw [HT.sIx_nat, HT.sIx_none] at e
    refine k _ _ B (Same.refl _) ?_ (Same.refl _)
    rw [List.take_of_length_le (by omega)]; exact h
  · have : cutV xs none (some (n : Int)) = xs.take n := by
      unfold cutV
      rw [HT.sIx_nat, HT.sIx_none, List.drop_zero, Nat.sub_zero]
      by_cases hk : n ≤ xs.length
      · rw [Nat.min_eq_left hk]
      · rw [Nat.min_eq_right (by omega), List.take_length, List.take_of_length_le (by omega)]
    rw [this]
    exact k _ _ (B.same (same_upd np)) (del_sb (SB.of (same_upd np))) (sqT_of (del_new B np)) (same_upd np)
theorem i_slFB {a : Addr} {xs : List V} {n : Nat} (B : BoxAt H b d) (h : SqT K (L2.del H b) a xs) (k : ∀ t H', BoxAt H' b d → Same (L2.del H b) (L2.del H' b) → SqT K (L2.del H' b) t (xs.drop n) → Same H H' → Q (.ref t) H') : rSlA K (.ref a) (some (n : Int)) none H Q := by
  refine ⟨a, xs, rfl, Same.sqT del_sub h, fun e => ?_, fun e p np => ?_⟩
  · rw [HT.sIx_nat] at e
    refine k _ _ B (Same.refl _) ?_ (Same.refl _)
    by_cases hk : n = 0
    · rw [hk, List.drop_zero]; exact h
    · have : xs = [] := List.eq_nil_of_length_eq_zero (by omega)
      rw [this, List.drop_nil]; rw [this] at h; exact h
  · have : cutV xs (some (n : Int)) none = xs.drop n := by
      unfold cutV
      rw [HT.sIx_nat, HT.sIx_none]
      by_cases hk : n ≤ xs.length
      · rw [Nat.min_eq_left hk, List.take_of_length_le (by rw [List.length_drop]; omega)]
      · rw [Nat.min_eq_right (by omega), List.drop_of_length_le (by omega), List.drop_of_length_le (by omega), List.take_nil]
    rw [this]
    exact k _ _ (B.same (same_upd np)) (del_sb (SB.of (same_upd np))) (sqT_of (del_new B np)) (same_upd np)
theorem i_catLB {a c : Addr} {xs ys : List V} (B : BoxAt H b d) (h : L2.del H b a = some (.lst xs)) (h2 : L2.del H b c = some (.lst ys)) (l : xs.length + ys.length ≤ sizeLine) (k : ∀ t H', BoxAt H' b d → Same (L2.del H b) (L2.del H' b) → L2.del H' b t = some (.lst (xs ++ ys)) → Same H H' → Q (.ref t) H') : rCat (.ref a) (.ref c) H Q :=
  ⟨a, c, xs, ys, rfl, rfl, del_sub _ _ h, del_sub _ _ h2, l, fun p np => k _ _ (B.same (same_upd np)) (del_sb (SB.of (same_upd np))) (del_new B np) (same_upd np)⟩
end
end Sw
namespace Sw
open PySem PySem.Spec PyProof.Rows L2
/-! ### calls by names -/
def rev2 {α : Type} : List α → List α → List α
  | [], [b, a] => [a, b]
  | _, _ => []
theorem rev2_inv {α : Type} {us ws : List α} (h : (rev2 us ws).length = 2) : us = [] ∧ ∃ b a, ws = [b, a] := by
  unfold rev2 at h
  split at h
  · exact ⟨rfl, _, _, rfl⟩
  · cases h
theorem rev2_rel {vs : List V} {us : List Value} {zs : List V} {ws : List Value} (r : Vals vs us) (r2 : Vals zs ws) : Vals (rev2 vs zs) (rev2 us ws) := by
  unfold rev2
  cases r with
  | cons _ _ => exact .nil
  | nil =>
    cases r2 with
    | nil => exact .nil
    | cons a r2 =>
      cases r2 with
      | nil => exact .nil
      | cons b r2 =>
        cases r2 with
        | nil => exact .cons b (.cons a .nil)
        | cons _ _ => exact .nil
def one1 {α : Type} : List α → List α → List α
  | [], [a] => [a]
  | _, _ => []
theorem one1_inv {α : Type} {us ws : List α} (h : (one1 us ws).length = 1) : us = [] ∧ ∃ a, ws = [a] := by
  unfold one1 at h
  split at h
  · exact ⟨rfl, _, rfl⟩
  · cases h
theorem one1_rel {vs : List V} {us : List Value} {zs : List V} {ws : List Value} (r : Vals vs us) (r2 : Vals zs ws) : Vals (one1 vs zs) (one1 us ws) := by
  unfold one1
  cases r with
  | cons _ _ => exact .nil
  | nil =>
    cases r2 with
    | nil => exact .nil
    | cons a r2 =>
      cases r2 with
      | nil => exact .cons a .nil
      | cons _ _ => exact .nil
end Sw
namespace Sw
open PySem PySem.Spec PyProof.Rows L2
theorem Fun.okG0 {P : Program} {w : World} {K : PySem.W.Frag} {mg : Str → Option Value} {base : Heap} {k : Nat} {f : Addr} {fd : FuncData} {ps : List Str} {sp : Sp} {x qual : Str} {st : Stmt} {N : List Str} (F : Fun K x qual st f fd) (S : FnScope N ps (defScope st)) (len : ∀ xs M R X, sp xs M R X → xs.length = ps.length)
    (body : ∀ (cdv : Value) (A : Around) (out : List Env) (t : Shared) (M : Hp) (xs : List V) (R : VK) (X : XK), Room k (A.deeper (envOfC qual (defScope st) t.heap.objs.size f cdv)) → A.guards = some [] → sp xs M R X →
      ∃ r, PSs (cxOf CX0 P w K mg base N qual (defScope st) f cdv A out t M X).nox (defBody st) r ∧ r { nx := fun _ M' => R .non M', rt := R } (start N xs) M) : FnG P w K mg base CX0 (k + 1) f fd ps sp :=
  Sw.Fun.okG F S len fun cdv A out t M xs R X room quiet prom => by
    obtain ⟨r, h, q⟩ := body cdv A out t M xs R X room quiet prom
    exact ⟨r, h.nox, q⟩
end Sw
namespace Sw
open PySem PySem.Spec PyProof.Rows L2
/-! ### a tuple once, or more often -/
theorem tuple_mul1 (l : Addr) (items : Array Value) (n : Nat) (dd : Option Addr) (sl : Array (Option Value)) (u : Tok) :
    Meets (Builtin.«tuple.__mul__» ⟨[.ref l, .int 1 u], []⟩) (fun _ R s => s.heap.get? l = some { cls := .type "tuple", dict := dd, data := .seq items n, slots := sl } ∧
      R (.ok (.ret (Value.ref l))) s) :=
  .of_wp fun prog w A R s h => by
    obtain ⟨hp, g, d, tk, os⟩ := s
    obtain ⟨hl, h⟩ := h
    have f1 := AutoSeq1.idx_int
    have c1 : (items.isEmpty || ((1 : Int) == 1)) = true := by rw [show ((1 : Int) == 1) = true from rfl, Bool.or_true]
    wp_walk using wpAny_loadPart' hl, wpAny_load hl
    repeat (first
      | (refine wpAny_ite_true c1 ?_; wp_walk using wpAny_loadPart' hl, wpAny_load hl)
      | (refine wpAny_ite_true (decide_eq_true c1) ?_; wp_walk using wpAny_loadPart' hl, wpAny_load hl))
    exact ⟨_, rfl, h⟩
/-- a tuple once is itself -/
def rRepU (K : PySem.W.Frag) : R2 := fun x y H Q => (∃ l xs, x = .ref l ∧ y = .int 1 ∧ SqT K H l xs ∧ Q (.ref l) H) ∨ rRepT K x y H Q
theorem op_repU {X : Cx} : OpR X (binaryOp .Mult) (rRepU X.K) := by
  intro pins s σ H x y v u Q I rx ry h
  rcases h with ⟨l, xs, rfl, rfl, hT, q⟩ | h
  · cases rx
    obtain ⟨t, rfl⟩ := ry
    obtain ⟨its, r, ⟨⟨cls, dd, data, sl⟩, ho, hc, n, hd⟩, hs⟩ := I.tuple hT
    simp only at hc hd
    subst hc hd
    refine wpAny_binaryOp_repeat_ref (T := "tuple") (U := "int") (by decide) ⟨_, ho, rfl⟩ (fun s' => typeIs_int s' 1 t) noFill_tuple_mul F.fills_int_mul F.slot_int_rmul repeat_tuple F.slot_int_index.lookup
      (call_meets F.slot_int_rmul (typeIs_int s 1 t) F.entry_int_rmul (F.args_int_rmul_2 _ _) (int_rmul_tuple 1 t l its.toArray n dd sl)
        ⟨ho, rfl, ⟨_, ho, rfl⟩, call_meets F.slot_tuple_mul ⟨_, ho, rfl⟩ F.entry_tuple_mul (F.args_tuple_mul_2 _ _) (tuple_mul1 l its.toArray n dd sl t) ⟨ho, ?_⟩⟩)
    exact ⟨.ref l, H, I, rfl, q⟩
  · exact op_repT pins s σ H x y v u Q I rx ry h
theorem i_rep1 {K : PySem.W.Frag} {l : Addr} {xs : List V} {H : Hp} {Q : VK} (h : SqT K H l xs) (q : Q (.ref l) H) : rRepU K (.ref l) (.int 1) H Q := .inl ⟨l, xs, rfl, rfl, h, q⟩
theorem i_repN {K : PySem.W.Frag} {l : Addr} {xs : List V} {k : Nat} {H : Hp} {Q : VK} (h : SqT K H l xs) (ne : xs ≠ []) (h2 : 2 ≤ k) (h3 : k ≤ 1000) (h4 : xs.length ≤ 1000) (q : ∀ p H', H p = none → Same H H' → H' p = some (.tup (List.replicate k xs).flatten) → Q (.ref p) H') : rRepU K (.ref l) (.int (k : Int)) H Q :=
  .inr ⟨l, k, xs, rfl, rfl, h, ne, by omega, by omega, h4, fun p n => by
    rw [Int.toNat_natCast]; exact q p _ n (same_upd n) upd_same⟩
end Sw
namespace Sw
open PySem PySem.Spec PyProof.Rows L2
/-! ### [e for a in xs for b in ys if c] -/
def Lc2Go (J : It) (g : TG) (tt : TT) (wi1 : TI) (g1 : TG) (tt1 : TT) (te : TE) (vs vs1 : List Nat) (σ : L2.St) (H1 : Hp) (Q : VK) : Prop := ∀ D, H1 D = none → ∃ W : Nat → Nat → Hp → Prop, (∃ m, W 0 m (upd H1 D (.lst []))) ∧ ∀ i m H, W i m H →
  (J.stop i H ∧ Q (.ref D) H) ∨ (J.go i H ∧ ∃ Nx : Hp → Prop, (∀ H', Nx H' → ∃ m', m' < m ∧ W (i + 1) m' H') ∧ ∀ x H', J.yld i H x H' → g x (wipe σ vs) H' fun σ2 H2 => wipe σ2 vs = wipe σ vs ∧ tt σ2 H2 fun b H3 =>
    if b = true then wi1 σ2 H3 fun J1 H4 => ∃ W1 : Nat → Nat → Hp → Prop, (∃ m, W1 0 m H4) ∧ ∀ j k H, W1 j k H →
      (J1.stop j H ∧ Nx H) ∨ (J1.go j H ∧ ∃ Nx1 : Hp → Prop, (∀ H', Nx1 H' → ∃ k', k' < k ∧ W1 (j + 1) k' H') ∧ ∀ x H', J1.yld j H x H' → g1 x (wipe σ2 vs1) H' fun σ3 H5 => wipe σ3 vs1 = wipe σ2 vs1 ∧ tt1 σ3 H5 fun b H6 =>
        if b = true then te σ3 H6 fun y H7 => ∃ acc, H7 D = some (.lst acc) ∧ acc.length < sizeLine ∧ Nx1 (upd H7 D (.lst (acc ++ [y]))) else Nx1 H6)
    else Nx H3)
theorem i_lc2 {wi wi1 : TI} {g g1 : TG} {tt tt1 : TT} {te : TE} {vs vs1 : List Nat} {σ : L2.St} {H : Hp} {Q : VK} (h : wi σ H fun J H1 => Lc2Go J g tt wi1 g1 tt1 te vs vs1 σ H1 Q) : tLc2 wi g tt wi1 g1 tt1 te vs vs1 σ H Q := h
/-- the inner walk -/
structure In2Go (J1 : It) (n1 : Nat) (G1 : Hp → Prop) (Y1 : Nat → Hp → V → Hp → Prop) (g1 : TG) (tt1 : TT) (te : TE) (vs1 : List Nat) (σ2 : L2.St) (p : Addr) (H4 : Hp) (Pw : Nat → Hp → Prop) (Nx : Hp → Prop) : Prop where
  w : Walk J1 n1 G1 Y1
  h0 : Pw 0 H4
  hG : ∀ j H, j ≤ n1 → Pw j H → G1 H
  hs : ∀ j x H H', j < n1 → Pw j H → Y1 j H x H' → g1 x (wipe σ2 vs1) H' fun σ3 H5 => wipe σ3 vs1 = wipe σ2 vs1 ∧ tt1 σ3 H5 fun b H6 =>
    if b = true then te σ3 H6 fun y H7 => ∃ acc, H7 p = some (.lst acc) ∧ acc.length < sizeLine ∧ Pw (j + 1) (upd H7 p (.lst (acc ++ [y]))) else Pw (j + 1) H6
  hd : ∀ H, Pw n1 H → Nx H
theorem go_lc2 {J : It} {n : Nat} {G : Hp → Prop} {Y : Nat → Hp → V → Hp → Prop} {g : TG} {tt : TT} {wi1 : TI} {g1 : TG} {tt1 : TT} {te : TE} {vs vs1 : List Nat} {σ : L2.St} {H1 : Hp} {Q : VK} (w : Walk J n G Y) (Pv : Addr → Nat → Hp → Prop) (h0 : ∀ p, H1 p = none → Pv p 0 (upd H1 p (.lst []))) (hG : ∀ p i H, i ≤ n → Pv p i H → G H)
    (hs : ∀ p, H1 p = none → ∀ i x H H', i < n → Pv p i H → Y i H x H' → g x (wipe σ vs) H' fun σ2 H2 => wipe σ2 vs = wipe σ vs ∧ tt σ2 H2 fun b H3 =>
      if b = true then wi1 σ2 H3 fun J1 H4 => ∃ n1 G1 Y1 Pw, In2Go J1 n1 G1 Y1 g1 tt1 te vs1 σ2 p H4 Pw (Pv p (i + 1)) else Pv p (i + 1) H3)
    (hd : ∀ p H, H1 p = none → Pv p n H → Q (.ref p) H) (monoI : ∀ σ2 H3 (R R' : It → Hp → Prop), (∀ J1 H4, R J1 H4 → R' J1 H4) → wi1 σ2 H3 R → wi1 σ2 H3 R')
    (mono1 : ∀ x σ H (R R' : L2.St → Hp → Prop), (∀ σ' H', R σ' H' → R' σ' H') → g x σ H R → g x σ H R') (mono2 : ∀ σ H (R R' : Bool → Hp → Prop), (∀ b H', R b H' → R' b H') → tt σ H R → tt σ H R') : Lc2Go J g tt wi1 g1 tt1 te vs vs1 σ H1 Q := by
  intro p np
  refine ⟨fun i m H => m = n - i ∧ i ≤ n ∧ Pv p i H, ⟨n, by simp, Nat.zero_le _, h0 p np⟩, ?_⟩
  rintro i m H ⟨rfl, hi, pv⟩
  have q := hG p i H hi pv
  by_cases hlt : i < n
  · refine .inr ⟨w.goes i H hlt q, Pv p (i + 1), fun H' p' => ⟨n - (i + 1), by omega, rfl, hlt, p'⟩, fun x H' y => ?_⟩
    refine mono1 _ _ _ _ _ (fun σ2 H2 h => ⟨h.1, mono2 _ _ _ _ (fun b H3 h => ?_) h.2⟩) (hs p np i x H H' hlt pv (w.yields i H x H' hlt q y))
    by_cases hb : b = true
    · rw [if_pos hb] at h ⊢
      refine monoI _ _ _ _ (fun J1 H4 h => ?_) h
      obtain ⟨n1, G1, Y1, Pw, I⟩ := h
      refine ⟨fun j m H => m = n1 - j ∧ j ≤ n1 ∧ Pw j H, ⟨n1, by simp, Nat.zero_le _, I.h0⟩, ?_⟩
      rintro j m H ⟨rfl, hj, pw⟩
      have q := I.hG j H hj pw
      by_cases hlt : j < n1
      · exact .inr ⟨I.w.goes j H hlt q, Pw (j + 1), fun H' p' => ⟨n1 - (j + 1), by omega, rfl, hlt, p'⟩, fun x H' y => I.hs j x H H' hlt pw (I.w.yields j H x H' hlt q y)⟩
      · have e : j = n1 := by omega
        subst e
        exact .inl ⟨I.w.stops H q, I.hd H pw⟩
    · rw [if_neg hb] at h ⊢
      exact h
  · have e : i = n := by omega
    subst e
    exact .inl ⟨w.stops H q, hd p H np pv⟩
theorem mono_yes (σ : L2.St) (H : Hp) (R R' : Bool → Hp → Prop) (h : ∀ b H', R b H' → R' b H') (q : tYes σ H R) : tYes σ H R' := h _ _ q
end Sw
namespace Sw
open PySem PySem.Spec PyProof.Rows L2 PySem.SwE
/-- X.__init__(self, v): self.f = v -/
def spInitF (K : PySem.W.Frag) (f : Str) : Sp := fun vs H Q _ => ∃ (a C : Addr) (v : V), vs = [.ref a, v] ∧ H a = some (exo a C none) ∧ OexE K C ∧ PySem.W.findIn K (.ref C) f = some none ∧
  ∀ dx, H dx = none → dx ≠ a → Q .non (upd (upd H dx (exd dx [(f, v)])) a (exo a C (some dx)))
/-- an own exception class with the one attribute f, named x -/
structure XF (x f : Str) (P : Program) (w : World) (K : PySem.W.Frag) (mg : Str → Option Value) (base : Heap) (C : Addr) : Prop where
  T : OexE K C
  xf : XfC K C
  no : PySem.W.findIn K (.ref C) f = some none
  hm : mg x = some (.ref C)
  me : PySem.W.exmOne K (.ref C) (.ref C) = some true
  ini : ∃ (fI : Addr) (fd : FuncData), PySem.W.findIn K (.ref C) "__init__" = some (some (.ref fI)) ∧ PySem.W.typeIn K (.ref fI) = some (.type "function") ∧ FnOk P w K mg base CX0 1 fI fd ["self", f] (spInitF K f) ∧ Binds K fd ["self", f] []
theorem pmk_F {X : Cx} {x f : Str} {C : Addr} {n : Nat} {e : Expr} {te : TE} {p pos : Pos} (xt : XF x f X.prog X.w X.K X.mg X.base C) (hr : Room n X.A) (he : PE X e te) (hn : 2 ≤ n := by decide) (hg : Gl X x := by rfl)
    (hdb : (x == ("__debug__" : Str)) = false := by decide) (he2 : starEach [e] X.env = (false, eval e X.env) :: starEach [] X.env := by rfl) : PMk X (.Call (.Name x p) [e] [] pos) (tMkO C (spInitF X.K f) [] (tCons te tNil)) := by
  obtain ⟨fI, fd, h1, h2, h3, h4⟩ := xt.ini
  exact pmk_E xt.T h1 h2 h3 (hr.mono hn) h4 pass0 xt.hm (pa_cons he pa_nil he2) hg hdb he2 (by rfl)
theorem names_F {x f : Str} {P : Program} {w : World} {K : PySem.W.Frag} {mg : Str → Option Value} {base : Heap} {X : Cx} {C : Addr} (xt : XF x f P w K mg base C) (hm : X.mg = mg := by rfl) (hg : Gl X x := by rfl) (hd : (x == ("__debug__" : Str)) = false := by decide) : Names X x (.ref C) := ⟨hg, hd, .inl (by rw [hm]; exact xt.hm)⟩
def ThrownF (K : PySem.W.Frag) (f : Str) (C : Addr) (vs : List V) (H1 : Hp) (Q : XK) : Prop := vs.length ≤ 1000 ∧ ∀ a, H1 a = none → spInitF K f (.ref a :: (vs ++ [])) (upd H1 a (exo a C none))
  (fun v H2 => v = .non ∧ ∃ (d : Addr) (fs : List (Str × V)), H2 a = some (exo a C (some d)) ∧ H2 d = some (exd d fs) ∧ H1 d = none ∧ Q (.ref C) (some d) (upd (del H2 a) d (.xd fs))) (fun _ _ _ => False)
theorem i_mkF {K : PySem.W.Frag} {f : Str} {C : Addr} {ta : TA} {σ : L2.St} {H : Hp} {Q : XK} (h : ta σ H fun vs H1 => ThrownF K f C vs H1 Q) : tMkO C (spInitF K f) [] ta σ H Q := h
theorem i_thrownF {K : PySem.W.Frag} {f : Str} {C : Addr} {v : V} {H1 : Hp} {Q : XK} (T : OexE K C) (no : PySem.W.findIn K (.ref C) f = some none) (h : ∀ dx, H1 dx = none → Q (.ref C) (some dx) (upd H1 dx (.xd [(f, v)]))) : ThrownF K f C [v] H1 Q := by
  refine ⟨by simp, fun a na => ⟨a, C, v, rfl, upd_same, T, no, fun dx nx ne => ⟨rfl, dx, [(f, v)], upd_same, ?_, ?_, ?_⟩⟩⟩
  · rw [upd_ne ne, upd_same]
  · rw [upd_ne ne] at nx; exact nx
  · rw [upd_ne ne] at nx
    have e : upd (del (upd (upd (upd H1 a (exo a C none)) dx (exd dx [(f, v)])) a (exo a C (some dx))) a) dx (.xd [(f, v)]) = upd H1 dx (.xd [(f, v)]) := by
      funext b
      by_cases c : b = dx
      · rw [c, upd_same, upd_same]
      · rw [upd_ne c, upd_ne c]
        by_cases c2 : b = a
        · rw [c2, del_same, na]
        · rw [del_ne c2, upd_ne c2, upd_ne c, upd_ne c2]
    rw [e]
    exact h dx nx
theorem i_notNr {a : Addr} {H : Hp} {Q : VK} (h : Q (.bl true) H) : (V.non = V.non ∧ Q (.bl (!decide (V.ref a = V.non))) H) := ⟨rfl, by rw [decide_eq_false (show ¬ V.ref a = V.non from fun e => by cases e)]; exact h⟩
theorem i_notNn {H : Hp} {Q : VK} (h : Q (.bl false) H) : (V.non = V.non ∧ Q (.bl (!decide (V.non = V.non))) H) := ⟨rfl, by rw [decide_eq_true rfl]; exact h⟩
def rNotInDt : R2 := fun x y H Q => ∃ a o, y = .ref a ∧ DGet H a x o ∧ Q (.bl (!o.isSome)) H
theorem op_notInDt {X : Cx} (hu : X.A.units + 64 < cLine) : OpR X (compareOp .NotIn) rNotInDt := by
  intro pins s σ H x y v u Q I rx ry h
  obtain ⟨a, o, rfl, g, q⟩ := h
  cases (show u = Value.ref a from ry)
  exact d_notIn (room1 hu) I g rx fun s' I' => ⟨.bl (!o.isSome), H, I', rfl, q⟩
theorem i_notInDt {a b : Addr} {kvs : List (List Key × V)} {ks : List Key} {H : Hp} {Q : VK} (e : H a = some (.dT kvs)) (eb : H b = some (.tup (ks.map kV))) (q : Q (.bl (!(valV kvs ks).isSome)) H) : rNotInDt (.ref b) (.ref a) H Q := ⟨a, _, rfl, DGet.t e eb, q⟩
/-- no built-in kind is of the class at C -/
structure NoC (K : PySem.W.Frag) (C : Addr) : Prop where
  non : PySem.W.kitOne K (.type "NoneType") (.ref C) = some false
  bl : PySem.W.kitOne K (.type "bool") (.ref C) = some false
  int : PySem.W.kitOne K (.type "int") (.ref C) = some false
  str : PySem.W.kitOne K (.type "str") (.ref C) = some false
  lst : PySem.W.kitOne K (.type "list") (.ref C) = some false
  tup : PySem.W.kitOne K (.type "tuple") (.ref C) = some false
  dict : PySem.W.kitOne K (.type "dict") (.ref C) = some false
theorem De.isiC {K : PySem.W.Frag} {C : Addr} {H : Hp} {v : V} {d : PyData} {Q : VK} (nc : NoC K C) (h : De K H v d) (k : Q (.bl false) H) : rIsi K [v, .ref C] H Q := by
  cases h with
  | non => exact ⟨_, _, _, _, _, rfl, .own _, .base .non, nc.non, k⟩
  | bl b => exact ⟨_, _, _, _, _, rfl, .own _, .base (.bl _), nc.bl, k⟩
  | int i => exact ⟨_, _, _, _, _, rfl, .own _, .base (.int _), nc.int, k⟩
  | str x => exact ⟨_, _, _, _, _, rfl, .own _, .base (.str _), nc.str, k⟩
  | lst h1 _ h2 => exact ⟨_, _, _, _, _, rfl, .own _, .base (.lst h1), nc.lst, k⟩
  | tup h1 h2 => exact ⟨_, _, _, _, _, rfl, .own _, tyx_tup h1, nc.tup, k⟩
  | dict h1 h2 => exact ⟨_, _, _, _, _, rfl, .own _, .base (.dK h1), nc.dict, k⟩
theorem i_isC {K : PySem.W.Frag} {C a dx : Addr} {fs : List (Str × V)} {H : Hp} {Q : VK} (c : C8.InsC K C) (ha : H a = some (.ins C dx fs)) (k : Q (.bl true) H) : rIsi K [.ref a, .ref C] H Q :=
  ⟨_, _, _, _, _, rfl, .own _, .base (TyOf.ins ha c.cl c.ha c.hn c.htk c.hm), c.me, k⟩
theorem pe_fldB {X : Cx} {K : PySem.W.Frag} (k : X.K = K) {e : Expr} {f : Str} {pos : Pos} {ta : TE} (he : PE X e ta) (hb : attributeBase e f X.env (eval e X.env) = eval e X.env) : PE X (.Attribute e f pos) (tFld K ta f) := by
  subst k
  exact pe_fld he hb
end Sw
/-! own exceptions made by a call with keywords -/
namespace PySem
namespace SwV
open PySem.W PySem.Calls PyProof.Rows PySem.HandSPX
section
variable {prog : Program} {wd : World} {A : Around} {E : Value → Shared → Prop} {R : Result → Shared → Prop} {hp : Heap} {gs : Array GenState} {dr : Drawn} {tk : Nat} {os : OsState}
variable {nm q : Str} {C N : Addr} {bs mro : List Value} {hdct : Bool} {sn : List Str} {sub : List Value} {ab : Bool} {col : Option Bool} {dd : Option Addr} {k0 k1 k2 k3 k5 : Option Value} {B newId initId : String} {bmB : List Value}
theorem check_kw (F : ExcBaseFacts B newId initId bmB) (hT : ∀ X : String, mro.contains (.type X) = bmB.contains (.type X)) {us : List Value} {kw : List (Str × Value)} {Q : Unit → Shared → Prop}
    (isC : hp.get? C = some (excClassObj nm q C N bs mro hdct sn sub ab col dd k0 k1 k2 k3 k5 newId)) (hq : Q () ⟨hp, gs, dr, tk, os⟩) : wpAny (model prog wd) A (checkBuiltinCall newId ⟨.ref C :: us, kw⟩) Q E ⟨hp, gs, dr, tk, os⟩ := by
  have inB : (Value.ref C :: mro).contains (.type B) = true := by rw [List.contains_cons, hT, F.hasB, Bool.or_true]
  have star := F.noStar
  simp only [checkBuiltinCall, F.newKind, F.newSplit, F.newRow]
  repeat (first | (refine wpAny_loadPart_at isC ?_) | (refine wpAny_isSubtype_exc isC ?_; rw [inB]) | (refine wpAny_staticBase_exc isC ?_) | (refine wpAny_madeBy_exc isC ?_) | (simp only [bne_self_eq_false, Bool.false_eq_true, if_false]) | wp_step)
  exact hq
theorem new_kw (F : ExcBaseFacts B newId initId bmB) (hT : ∀ X : String, mro.contains (.type X) = bmB.contains (.type X)) {us : List Value} {kw : List (Str × Value)}
    (isC : hp.get? C = some (excClassObj nm q C N bs mro hdct sn sub ab col dd k0 k1 k2 k3 k5 newId))
    (hq : R (.ok (.ret (.ref (hp.objs.size + 1)))) ⟨(hp.push { cls := .type "tuple", data := .seq us.toArray }).push
      { cls := .ref C, data := .fields #[.ref hp.objs.size, .none, .none, .none, .bool false, .none] }, gs, dr, tk, os⟩) (few : us.length ≤ sizeLine) :
    codeAny (model prog wd) A (.builtin newId ⟨.ref C :: us, kw⟩) R ⟨hp, gs, dr, tk, os⟩ := by
  have inB : (Value.ref C :: mro).contains (.type B) = true := by rw [List.contains_cons, hT, F.hasB, Bool.or_true]
  have notA : (Value.ref C :: mro).contains (.type "AttributeError") = false := by rw [List.contains_cons, hT, F.noAttr]; rfl
  have notN : (Value.ref C :: mro).contains (.type "NameError") = false := by rw [List.contains_cons, hT, F.noName]; rfl
  have ends := F.ends
  refine codeAny_builtinAt F.entry ?_
  unfold Builtin.«BaseException.__new__»
  refine wpAt_bind ?_
  show wpAt _ _ _ (stack >>= _) _ _ _
  refine wpAt_bind (wpAt_stack fun p below => wpAt_of_wpAny ?_)
  wp_walk
  refine wpAt_of_wpAny ?_
  rw [F.owner]
  repeat (first | (with_reducible refine wpAny_madeHere_exc F.canon isC ?_) | (with_reducible refine wpAny_loadPart_at isC ?_) | (with_reducible refine wpAny_isSubtype_exc isC ?_; first | rw [inB] | rw [notA] | rw [notN]) | wp_step)
  show R _ _
  rw [Heap.size_push]
  exact hq
theorem made_kw (F : ExcBaseFacts B newId initId bmB) (hT : ∀ X : String, mro.contains (.type X) = bmB.contains (.type X)) {us : List Value} {kw : List (Str × Value)} {fI : Addr} {Q : Fin → Shared → Prop}
    (isC : hp.get? C = some (excClassObj nm q C N bs mro hdct sn sub ab col dd k0 k1 k2 k3 k5 newId))
    (ini : W.Looks (model prog wd) hp (typeLookup (.ref C) "__init__") (some (.ref fI))) (bnd : ∀ self, W.Looks (model prog wd) hp (bindSpecial (.ref fI) self) (.ref fI, [self])) (few : us.length ≤ sizeLine)
    (hq : codeAny (model prog wd) A (.call (.ref fI) ⟨.ref (hp.objs.size + 1) :: us, kw⟩)
      (fun r s' => match r with | .ok (.ret v) => v = .none ∧ Q (.done (.ret (.ref (hp.objs.size + 1)))) s' | .ok _ => False | .error e => E e s')
      ⟨(hp.push (W.kdv_tup us)).push (excO C hp.objs.size), gs, dr, tk, os⟩) :
    wpAny (model prog wd) A (Builtin.«type.__call__» ⟨.ref C :: us, kw⟩) Q E ⟨hp, gs, dr, tk, os⟩ := by
  repeat (first | (with_reducible refine wpAny_loadPart_at isC ?_) | (with_reducible refine wpAny_madeBy_exc isC ?_) | wp_step)
  refine codeAny_call_builtin_code (Code.quiet_builtin _ F.quiet) (check_kw F hT isC ?_)
  refine new_kw F hT isC ?_ few
  show wpAny _ _ _ _ _ _
  have kept : ∀ b o, hp.get? b = some o → ((hp.push (W.kdv_tup us)).push (excO C hp.objs.size)).get? b = some o := fun b o e => Heap.get?_push_of_some _ (Heap.get?_push_of_some _ e)
  have isC2 := kept _ _ isC
  have here : ((hp.push (W.kdv_tup us)).push (excO C hp.objs.size)).get? (hp.objs.size + 1) = some (excO C hp.objs.size) := by heap_get
  have inC : (Value.ref C :: mro).contains (.ref C) = true := by simp
  have ini2 := ini.keeps kept
  have bnd2 := (bnd (.ref (hp.objs.size + 1))).keeps kept
  unfold isInstance
  repeat (first | (with_reducible refine wpAny_loadPart_at here ?_) | (with_reducible refine wpAny_isSubtype_exc isC2 ?_; rw [inC]) | wp_step)
  show wpAny _ _ (typeLookup (.ref C) _) _ _ _
  refine ini2.at ?_
  refine wpAny_holding (wpAny_bind (bnd2.at ?_))
  refine wpAny_bind (wpAny_call (codeAny_mono hq fun r s' y => ?_))
  rcases r with e | (v | _ | _ | _) <;> first | exact y | exact y.elim | skip
  obtain ⟨rfl, y⟩ := y
  first
    | exact wpAny_pure (wpAny_pure y)
    | (wp_walk; exact y)
theorem call_kw (F : ExcBaseFacts B newId initId bmB) (hT : ∀ X : String, mro.contains (.type X) = bmB.contains (.type X)) {us : List Value} {kw : List (Str × Value)} {fI : Addr}
    (isC : hp.get? C = some (excClassObj nm q C N bs mro hdct sn sub ab col dd k0 k1 k2 k3 k5 newId))
    (ini : W.Looks (model prog wd) hp (typeLookup (.ref C) "__init__") (some (.ref fI))) (bnd : ∀ self, W.Looks (model prog wd) hp (bindSpecial (.ref fI) self) (.ref fI, [self])) (few : us.length ≤ sizeLine)
    (hq : codeAny (model prog wd) (A.under (.builtin "type.__call__" ⟨.ref C :: us, kw⟩)) (.call (.ref fI) ⟨.ref (hp.objs.size + 1) :: us, kw⟩) (W.InitBack (hp.objs.size + 1) R)
      ⟨(hp.push (W.kdv_tup us)).push (excO C hp.objs.size), gs, dr, tk, os⟩) :
    codeAny (model prog wd) A (.call (.ref C) ⟨us, kw⟩) R ⟨hp, gs, dr, tk, os⟩ := by
  have isTy : (⟨hp, gs, dr, tk, os⟩ : Shared).TypeIs (.ref C) "type" := ⟨_, isC, rfl⟩
  have t1 := tc_lookup
  have t2 := tc_bind (.ref C)
  refine codeAny_of_tree ?_
  show wpAny _ _ (callAny (.ref C) _) _ _ _
  repeat (any_goals (first | assumption | (with_reducible refine wpAny_loadPart_at isC ?_) | wp_step))
  refine ⟨rfl, ?_⟩
  refine codeAny_call_builtin_at (Code.quiet_builtin _ (by decide +kernel)) entry_typeCall (wpAny_check_type_call_sub isC (made_kw F hT isC ini bnd few ?_))
  refine codeAny_mono hq fun r s' y => ?_
  rcases r with e | (v | _ | _ | _) <;> exact y
end
end SwV
end PySem
namespace Sw
open PySem PySem.Spec PyProof.Rows L2 PySem.SwE PySem.SwV
/-! ### own exceptions as values -/
/-- C(..) as a value -/
def tMkV (C : Addr) (sp : Sp) (ta : TA) : TE := fun σ H Q => ta σ H fun vs H1 => vs.length ≤ 1000 ∧ ∀ a, H1 a = none → sp (.ref a :: vs) (upd H1 a (exo a C none)) (fun v H2 => v = .non ∧ Q (.ref a) H2) E0
section
variable {X : Cx} {e : Expr} {es : List Expr} {ta : TA} {p pos : Pos} {CX : CXT} {x : Str} {C fI : Addr} {k : Nat} {fd : FuncData} {ps : List Str} {sp : Sp} {kws : List Keyword}
theorem run_mkV {pins : List (Addr × Obj)} {σ : L2.St} {H1 : Hp} {s1 : Shared} {Q : VK} {us ws : List Value} {vs : List V} {kw : List (Str × Value)} (T : OexE X.K C) (iC : PySem.W.findIn X.K (.ref C) "__init__" = some (some (.ref fI))) (tI : PySem.W.typeIn X.K (.ref fI) = some (.type "function"))
    (F1 : FnOk X.prog X.w X.K X.mg X.base CX k fI fd ps sp) (room : Room (k + 1) X.A) (px : Passes CX X E0) (I1 : Inv X pins σ H1 s1) (few : us.length ≤ sizeLine) (r : Vals vs ws)
    (bound : ∀ (s : Shared) (a : Value), X.K.In s.heap → BindsTo s fd ⟨a :: us, kw⟩ (ps.zip (a :: ws)))
    (h : ∀ a, H1 a = none → sp (.ref a :: vs) (upd H1 a (exo a C none)) (fun v H2 => v = .non ∧ Q (.ref a) H2) E0) : wpAny (model X.prog X.w) X.A (call (.ref C) us kw) (EP X pins σ Q) X.xe s1 := by
  obtain ⟨nm, q, N, bs, rs, sn, sub, ab, col, dd, k0, k1, k2, k3, k5, isC⟩ := T.cls
  obtain ⟨hp, gs, dr, tk, os⟩ := s1
  have le : hp.objs.size ≤ hp.objs.size + 1 := Nat.le_succ _
  have said := h (hp.objs.size + 1) (I1.hok.fresh le)
  have kept : ∀ b o, hp.get? b = some o → ((hp.push (PySem.W.kdv_tup us)).push (PySem.HandSPX.excO C hp.objs.size)).get? b = some o := fun b o y => Heap.get?_push_of_some _ (Heap.get?_push_of_some _ y)
  have here : ((hp.push (PySem.W.kdv_tup us)).push (PySem.HandSPX.excO C hp.objs.size)).get? (hp.objs.size + 1) = some (PySem.HandSPX.excO C hp.objs.size) := by heap_get
  have I2 : Inv X pins σ (upd H1 (hp.objs.size + 1) (exo (hp.objs.size + 1) C none)) ⟨(hp.push (PySem.W.kdv_tup us)).push (PySem.HandSPX.excO C hp.objs.size), gs, dr, tk, os⟩ :=
    I1.laid (t' := tk) (a := hp.objs.size + 1) (o := exo (hp.objs.size + 1) C none) (h' := (hp.push (PySem.W.kdv_tup us)).push (PySem.HandSPX.excO C hp.objs.size)) kept le (exo_ok here)
  have both : Vals (V.ref (hp.objs.size + 1) :: vs) (Value.ref (hp.objs.size + 1) :: ws) := .cons rfl r
  refine wpAny_call (PySem.SwV.call_kw F.excBase_Exception (fun Y => over_has Y rs) (I1.kIn _ _ isC) (PySem.W.looks_findIn I1.kIn iC) (fun self => PySem.W.bind_fn I1.kIn self tI) few (codeAny_mono (F1.run _ X.stack _ _ ⟨Value.ref (hp.objs.size + 1) :: us, kw⟩ (Value.ref (hp.objs.size + 1) :: ws) _ _ E0
    (room.make C us kw) (I2.env0.make C us kw) (bound _ _ I2.kIn) both said) fun r s' y => ?_))
  rcases r with er | fl
  · exact px pins σ _ _ er s' I2 y
  · cases fl with
    | ret u =>
      obtain ⟨v, H2, J, rv, rfl, q⟩ := I2.after y
      exact ⟨rv, ⟨.ref _, H2, J, rfl, q⟩⟩
    | next => exact y.elim
    | brk => exact y.elim
    | cont => exact y.elim
theorem pe_mkV (T : OexE X.K C) (iC : PySem.W.findIn X.K (.ref C) "__init__" = some (some (.ref fI))) (tI : PySem.W.typeIn X.K (.ref fI) = some (.type "function"))
    (F1 : FnOk X.prog X.w X.K X.mg X.base CX k fI fd ps sp) (room : Room (k + 1) X.A) (bd : Binds X.K fd ps []) (px : Passes CX X E0) (hm : X.mg x = some (.ref C)) (ha : PA X (e :: es) ta) (hg : Gl X x := by rfl)
    (hdb : (x == ("__debug__" : Str)) = false := by decide) (he : starEach (e :: es) X.env = (false, eval e X.env) :: starEach es X.env := by rfl) (hpl : (backTo pos (starEach es X.env)).any (·.1) = false := by rfl) :
    PE X (.Call (.Name x p) (e :: es) [] pos) (tMkV C sp ta) := by
  constructor
  intro pins s σ H Q I h
  apply wpAny_Call_Name_kw (ld_glob I hg hm ?_ hdb)
  refine PySem.W.callWith_K (h₀ := X.base) I.ok.mod.kin T.kC (thn (ha.run pos pins s σ H _ I h) fun us s1 ⟨vs, H1, I1, r1, few, q1⟩ => ⟨I1.kIn, ?_⟩) he hpl
  have few' : us.length ≤ sizeLine := by rw [← Paired.length r1, sizeLine_eq]; omega
  have said := q1 (s1.heap.objs.size + 1) (I1.hok.fresh (Nat.le_succ _))
  have count : ∀ a : Value, (a :: us).length = ps.length := fun a => by
    have y := F1.len _ _ _ _ said
    rw [List.length_cons, ← Paired.length r1, ← y]; rfl
  refine run_mkV T iC tI F1 room px I1 few' r1 (fun s2 a hin => ?_) q1
  have b := bd s2 (a :: us) hin (by rw [List.append_nil]; exact count a)
  rw [List.append_nil] at b
  exact b
theorem pe_mkVK {ks : List Str} (T : OexE X.K C) (iC : PySem.W.findIn X.K (.ref C) "__init__" = some (some (.ref fI))) (tI : PySem.W.typeIn X.K (.ref fI) = some (.type "function"))
    (F1 : FnOk X.prog X.w X.K X.mg X.base CX k fI fd ps sp) (room : Room (k + 1) X.A) (bd : ∀ (s : Shared) (a : Value) (ws : List Value), X.K.In s.heap → (a :: ws).length = ps.length → BindsTo s fd ⟨[a], ks.zip ws⟩ (ps.zip (a :: ws))) (px : Passes CX X E0) (hm : X.mg x = some (.ref C)) (hkw : PK X kws ta) (hg : Gl X x := by rfl)
    (hall : (backToKw pos (keywordEach kws X.env)).all (·.1.isSome) = true := by rfl) (hks : (backToKw pos (keywordEach kws X.env)).filterMap (·.1) = ks := by rfl) (hdb : (x == ("__debug__" : Str)) = false := by decide)
    (hpl : ((backTo pos (starEach [] X.env)).any (·.1) || (backToKw pos (keywordEach kws X.env)).any (·.1.isNone)) = false := by rfl) :
    PE X (.Call (.Name x p) [] kws pos) (tMkV C sp ta) := by
  constructor
  intro pins s σ H Q I h
  apply wpAny_Call_Name_kw (ld_glob I hg hm ?_ hdb)
  refine PySem.W.callWith_KW0 (h₀ := X.base) I.ok.mod.kin T.kC hall (thn (hkw.run pos pins s σ H _ I h) fun ws s2 ⟨zs, H2, I2, rz, few, q⟩ => ⟨I2.kIn, ?_⟩) hpl
  rw [hks]
  have said := q (s2.heap.objs.size + 1) (I2.hok.fresh (Nat.le_succ _))
  refine run_mkV T iC tI F1 room px I2 (Nat.zero_le _) rz (fun s3 a hin => bd s3 a ws hin ?_) q
  have y := F1.len _ _ _ _ said
  rw [List.length_cons, ← Paired.length rz, ← y]; rfl
/-- C(k = v), raised -/
theorem pmk_EK {ks : List Str} (T : OexE X.K C) (iC : PySem.W.findIn X.K (.ref C) "__init__" = some (some (.ref fI))) (tI : PySem.W.typeIn X.K (.ref fI) = some (.type "function"))
    (F1 : FnOk X.prog X.w X.K X.mg X.base CX k fI fd ps sp) (room : Room (k + 1) X.A) (bd : ∀ (s : Shared) (a : Value) (ws : List Value), X.K.In s.heap → (a :: ws).length = ps.length → BindsTo s fd ⟨[a], ks.zip ws⟩ (ps.zip (a :: ws))) (px : Passes CX X E0) (hm : X.mg x = some (.ref C)) (hkw : PK X kws ta) (hg : Gl X x := by rfl)
    (hall : (backToKw pos (keywordEach kws X.env)).all (·.1.isSome) = true := by rfl) (hks : (backToKw pos (keywordEach kws X.env)).filterMap (·.1) = ks := by rfl) (hdb : (x == ("__debug__" : Str)) = false := by decide)
    (hpl : ((backTo pos (starEach [] X.env)).any (·.1) || (backToKw pos (keywordEach kws X.env)).any (·.1.isNone)) = false := by rfl) :
    PMk X (.Call (.Name x p) [] kws pos) (tMkO C sp [] ta) := by
  intro pins s σ H Q I h
  obtain ⟨nm, q, N, bs, rs, sn, sub, ab, col, dd, k0, k1, k2, k3, k5, isC⟩ := T.cls
  apply wpAny_Call_Name_kw (ld_glob I hg hm ?_ hdb)
  refine PySem.W.callWith_KW0 (h₀ := X.base) I.ok.mod.kin T.kC hall (thn (hkw.run pos pins s σ H _ I h) fun ws s1 ⟨vs, H1, I1, r1, few, q1⟩ => ⟨I1.kIn, ?_⟩) hpl
  rw [hks]
  obtain ⟨hp, gs, dr, tk, os⟩ := s1
  have le : hp.objs.size ≤ hp.objs.size + 1 := Nat.le_succ _
  have said := q1 (hp.objs.size + 1) (I1.hok.fresh le)
  have kept : ∀ b o, hp.get? b = some o → ((hp.push (PySem.W.kdv_tup [])).push (PySem.HandSPX.excO C hp.objs.size)).get? b = some o := fun b o y => Heap.get?_push_of_some _ (Heap.get?_push_of_some _ y)
  have here : ((hp.push (PySem.W.kdv_tup [])).push (PySem.HandSPX.excO C hp.objs.size)).get? (hp.objs.size + 1) = some (PySem.HandSPX.excO C hp.objs.size) := by heap_get
  have I2 : Inv X pins σ (upd H1 (hp.objs.size + 1) (exo (hp.objs.size + 1) C none)) ⟨(hp.push (PySem.W.kdv_tup [])).push (PySem.HandSPX.excO C hp.objs.size), gs, dr, tk, os⟩ :=
    I1.laid (t' := tk) (a := hp.objs.size + 1) (o := exo (hp.objs.size + 1) C none) (h' := (hp.push (PySem.W.kdv_tup [])).push (PySem.HandSPX.excO C hp.objs.size)) kept le (exo_ok here)
  have both : Vals (V.ref (hp.objs.size + 1) :: (vs ++ [])) (Value.ref (hp.objs.size + 1) :: ws) := by rw [List.append_nil]; exact .cons rfl r1
  have count : (Value.ref (hp.objs.size + 1) :: ws).length = ps.length := by
    have y := both.length
    rw [F1.len _ _ _ _ said] at y
    exact y.symm
  show wpAny _ _ (call (.ref C) [] (ks.zip ws)) _ _ _
  refine wpAny_call (PySem.SwV.call_kw F.excBase_Exception (fun Y => over_has Y rs) (I1.kIn _ _ isC) (PySem.W.looks_findIn I1.kIn iC) (fun self => PySem.W.bind_fn I1.kIn self tI) (Nat.zero_le _) (codeAny_mono (F1.run _ X.stack _ _ ⟨[Value.ref (hp.objs.size + 1)], ks.zip ws⟩ (Value.ref (hp.objs.size + 1) :: ws) _ _ E0
    (room.make C [] (ks.zip ws)) (I2.env0.make C [] (ks.zip ws)) (bd _ _ ws I2.kIn count) both said) fun r s' y => ?_))
  rcases r with er | fl
  · exact px pins σ _ _ er s' I2 y
  · cases fl with
    | next => exact y.elim
    | brk => exact y.elim
    | cont => exact y.elim
    | ret u =>
      obtain ⟨v, H2, os2, bare, un, ok, rv, ev, d, fs, ea, ed, hd1, q2⟩ := y
      subst ev
      obtain ⟨h2, g2, d2, t2, os'⟩ := s'
      exact ⟨rv, mk_end (raises_own T.exC T.tyC) I1 le kept un ok os2 bare ea ed hd1 q2⟩
end
end Sw
namespace Sw
open PySem PySem.Spec PyProof.Rows L2 PySem.SwE PySem.SwV
/-! ### what an own exception class says -/
def vB (K : PySem.W.Frag) (C : Addr) : Bool := decide (PySem.W.findIn K (.ref C) "__setattr__" = some (some (.builtin "object.__setattr__"))) && (decide (PySem.W.subIn K (.ref C) (.type "BaseException") = some true) && (decide (PySem.W.typeIn K (.ref C) = some (.type "type")) && (PySem.W.keepIn K (.ref C) && (xfB K C &&
  (decide (PySem.W.findIn K (.ref C) "__class__" = some (some (.builtin "object.__class__"))) && (decide (PySem.W.findIn K (.ref C) "given" = some none) && (decide (PySem.W.findIn K (.ref C) "count" = some none) && decide (PySem.W.findIn K (.ref C) "errors" = some none))))))))
/-- an own exception class over the own class at B -/
structure OV (K : PySem.W.Frag) (B C : Addr) : Prop where
  cls : ∃ nm q N bs sn sub ab col dd k0 k1 k2 k3 k5, K.lookup C = some (excClassObj nm q C N bs [.ref B, .type "Exception", .type "BaseException", .type "object"] true sn sub ab col dd k0 k1 k2 k3 k5 "Exception.__new__")
  ok : vB K C = true
/-- what is asked once -/
structure OVB (K : PySem.W.Frag) (B : Addr) : Prop where
  gn : PySem.W.specialIn K (.builtin "object.__class__") "__get__" = some (some (.builtin "getset_descriptor.__get__"))
  tn : PySem.W.takesIn K (.builtin "object.__class__") = some true
  cB : (PySem.W.clsIn K B).isSome = true
  tB : PySem.W.typeIn K (.ref B) = some (.type "type")
section
variable {K : PySem.W.Frag} {B C D : Addr}
structure OVF (K : PySem.W.Frag) (C : Addr) : Prop where
  sa : PySem.W.findIn K (.ref C) "__setattr__" = some (some (.builtin "object.__setattr__"))
  sb : PySem.W.subIn K (.ref C) (.type "BaseException") = some true
  ty : PySem.W.typeIn K (.ref C) = some (.type "type")
  kp : PySem.W.keepIn K (.ref C) = true
  xf : XfC K C
  ac : PySem.W.findIn K (.ref C) "__class__" = some (some (.builtin "object.__class__"))
  n1 : PySem.W.findIn K (.ref C) "given" = some none
  n2 : PySem.W.findIn K (.ref C) "count" = some none
  n3 : PySem.W.findIn K (.ref C) "errors" = some none
theorem OV.f (o : OV K B C) : OVF K C := by
  have e := o.ok
  unfold vB at e
  simp only [Bool.and_eq_true] at e
  obtain ⟨h1, h2, h3, h4, h5, h6, h7, h8, h9⟩ := e
  exact ⟨of_decide_eq_true h1, of_decide_eq_true h2, of_decide_eq_true h3, h4, xfB_ok h5, of_decide_eq_true h6, of_decide_eq_true h7, of_decide_eq_true h8, of_decide_eq_true h9⟩
theorem OV.oex (o : OV K B C) : OexE K C := by
  obtain ⟨nm, q, N, bs, sn, sub, ab, col, dd, k0, k1, k2, k3, k5, h⟩ := o.cls
  have f := o.f
  exact ⟨⟨nm, q, N, bs, [B], sn, sub, ab, col, dd, k0, k1, k2, k3, k5, h⟩, f.sa, f.sb, f.ty, f.kp⟩
theorem OV.mro (o : OV K B C) : ∃ cd, PySem.W.clsIn K C = some cd ∧ cd.mro = [.ref C, .ref B, .type "Exception", .type "BaseException", .type "object"] := by
  obtain ⟨nm, q, N, bs, sn, sub, ab, col, dd, k0, k1, k2, k3, k5, h⟩ := o.cls
  have e : PySem.W.clsIn K C = some { name := nm, bases := bs, mro := [.ref C, .ref B, .type "Exception", .type "BaseException", .type "object"], ns := N, qualname := q, hasDict := true, slotNames := sn, subclasses := sub, abstract := ab, collection := col, hasDel := false } := by unfold PySem.W.clsIn; rw [h] <;> rfl
  exact ⟨_, e, rfl⟩
theorem OV.sub (o : OV K B C) (v : Value) : PySem.W.subIn K (.ref C) v = some (([.ref C, .ref B, .type "Exception", .type "BaseException", .type "object"] : List Value).contains v) := by
  obtain ⟨cd, h1, h2⟩ := o.mro
  show PySem.W.mroIn K C v = _
  unfold PySem.W.mroIn
  rw [h1, Option.bind_some, h2]
  rfl
theorem OV.kit (o : OV K B C) (d : OV K B D) (h : D ≠ B) : PySem.W.kitOne K (.ref C) (.ref D) = some (decide (C = D)) := by
  obtain ⟨cd, h1, _⟩ := d.mro
  unfold PySem.W.kitOne
  by_cases e : C = D
  · subst e
    rw [if_pos (by simp), decide_eq_true rfl]
  · have ne : ((Value.ref C == Value.ref D) = true) = False := by
      simp only [beq_iff_eq, Value.ref.injEq, e]
    rw [if_neg (by rw [ne]; exact id), decide_eq_false e]
    show (if ((PySem.W.clsIn K D).isSome && PySem.W.typeIn K (.ref D) == some (.type "type")) = true then PySem.W.subIn K (.ref C) (.ref D) else none) = _
    rw [h1, d.f.ty, if_pos (by simp), o.sub]
    have e' : ¬ D = C := fun z => e z.symm
    simp [e', h]
theorem OV.kitB (o : OV K B C) (b : OVB K B) : PySem.W.kitOne K (.ref C) (.ref B) = some true := by
  unfold PySem.W.kitOne
  by_cases e : C = B
  · subst e
    rw [if_pos (by simp)]
  · have ne : ((Value.ref C == Value.ref B) = true) = False := by
      simp only [beq_iff_eq, Value.ref.injEq, e]
    rw [if_neg (by rw [ne]; exact id)]
    show (if ((PySem.W.clsIn K B).isSome && PySem.W.typeIn K (.ref B) == some (.type "type")) = true then PySem.W.subIn K (.ref C) (.ref B) else none) = _
    rw [b.cB, b.tB, if_pos (by simp), o.sub]
    simp
theorem OV.kitE (o : OV K B C) : PySem.W.kitOne K (.ref C) (.type "Exception") = some true := by
  unfold PySem.W.kitOne
  have ne : ((Value.ref C == Value.type "Exception") = true) = False := by
    simp
  rw [if_neg (by rw [ne]; exact id)]
  show (if PySem.W.kitMeta "Exception" = true then PySem.W.subIn K (.ref C) (.type "Exception") else none) = _
  rw [if_pos (by decide +kernel), o.sub]
  simp
theorem OV.exm (o : OV K B C) (d : OV K B D) (h : D ≠ B) : PySem.W.exmOne K (.ref C) (.ref D) = some (decide (C = D)) := by
  obtain ⟨cd, h1, _⟩ := d.mro
  unfold PySem.W.exmOne
  rw [d.f.sb, if_pos (by decide)]
  show (if ((PySem.W.clsIn K D).isSome && PySem.W.typeIn K (.ref D) == some (.type "type")) = true then PySem.W.subIn K (.ref C) (.ref D) else none) = _
  rw [h1, d.f.ty, if_pos (by simp), o.sub]
  by_cases e : C = D
  · subst e; simp
  · have e' : ¬ D = C := fun z => e z.symm
    simp [e, e', h]
theorem OV.exmB (o : OV K B C) (b : OVB K B) (sB : PySem.W.subIn K (.ref B) (.type "BaseException") = some true) : PySem.W.exmOne K (.ref C) (.ref B) = some true := by
  unfold PySem.W.exmOne
  rw [sB, if_pos (by decide)]
  show (if ((PySem.W.clsIn K B).isSome && PySem.W.typeIn K (.ref B) == some (.type "type")) = true then PySem.W.subIn K (.ref C) (.ref B) else none) = _
  rw [b.cB, b.tB, if_pos (by simp), o.sub]
  simp
end
end Sw
namespace Sw
open PySem PySem.Spec PyProof.Rows L2 PySem.SwE PySem.SwV
/-! ### exceptions as values: what is known of one -/
def FsAt (H : Hp) (d : Option Addr) (fs : List (Str × V)) : Prop := (d = none ∧ fs = []) ∨ ∃ dd, d = some dd ∧ (H dd = some (.xd fs) ∨ H dd = some (exd dd fs))
/-- at a: an exception of the class at C with the fields fs; its own object, or one that is held -/
def EvAt (H : Hp) (a C : Addr) (fs : List (Str × V)) : Prop := ∃ d, FsAt H d fs ∧ (H a = some (exo a C d) ∨ ∃ oe u, H a = some (.frz oe u) ∧ Zc (.ref C) d oe ∧ ∃ vs, oe.data = .fields vs)
theorem FsAt.same {H H' : Hp} (s : Same H H') {d : Option Addr} {fs : List (Str × V)} (h : FsAt H d fs) : FsAt H' d fs := by
  rcases h with h | ⟨dd, e, h | h⟩
  · exact .inl h
  · exact .inr ⟨dd, e, .inl (s _ _ h)⟩
  · exact .inr ⟨dd, e, .inr (s _ _ h)⟩
theorem EvAt.same {H H' : Hp} (s : Same H H') {a C : Addr} {fs : List (Str × V)} (h : EvAt H a C fs) : EvAt H' a C fs := by
  obtain ⟨d, h1, h2 | ⟨oe, u, h2, h3⟩⟩ := h
  · exact ⟨d, h1.same s, .inl (s _ _ h2)⟩
  · exact ⟨d, h1.same s, .inr ⟨oe, u, s _ _ h2, h3⟩⟩
section
variable {X : Cx} {pins : List (Addr × Obj)} {σ : L2.St} {H : Hp} {s : Shared} {a C : Addr} {fs : List (Str × V)}
theorem EvAt.inst (I : Inv X pins σ H s) (h : EvAt H a C fs) : ∃ (oe : Obj) (od : Option Obj), PySem.W.InstAt s.heap a oe C od ∧ ∀ n v, fs.lookup n = some v → ∃ o u, od = some o ∧ PySem.W.lookIn n o = some (some u) ∧ L2.RelV v u := by
  obtain ⟨d, hf, ho⟩ := h
  obtain ⟨oe, ha, hz, vs, hd⟩ : ∃ oe, s.heap.get? a = some oe ∧ Zc (.ref C) d oe ∧ ∃ vs, oe.data = .fields vs := by
    rcases ho with ho | ⟨oe, u, ho, hz, hd⟩
    · obtain ⟨t1, q⟩ := exo_at I.hok ho
      exact ⟨_, q, ⟨rfl, rfl⟩, _, rfl⟩
    · have x : ObjOk X.prog X.w H s.heap a (.frz oe u) := I.hok a _ ho
      exact ⟨oe, x.1, hz, hd⟩
  rcases hf with ⟨rfl, rfl⟩ | ⟨dd, rfl, hx⟩
  · obtain ⟨oc, od, oda, osl⟩ := oe
    obtain ⟨h1, h2⟩ := hz
    dsimp only at h1 h2 hd
    subst h1 h2 hd
    exact ⟨_, none, ⟨ha, rfl, rfl, trivial⟩, fun n v e => by cases e⟩
  · obtain ⟨mA, hns, hr⟩ : ∃ mA, s.heap.Ns1 dd mA ∧ ∀ f, RelO (fs.lookup f) (mA f) := by
      rcases hx with hx | hx
      · have x : ObjOk X.prog X.w H s.heap dd (.xd fs) := I.hok dd _ hx
        exact x
      · exact exd_at I.hok hx
    obtain ⟨od, ho, hl⟩ := lookIn_ns hns
    refine ⟨oe, some od, ⟨ha, hz.1, by unfold PySem.W.notCls; rw [hd] <;> rfl, by rw [hz.2]; exact ho⟩, fun n v e => ?_⟩
    obtain ⟨u, hu, ru⟩ := RelO.some_of (v := v) (o := mA n) (by rw [← e]; exact hr n)
    exact ⟨od, u, rfl, by rw [hl, hu], ru⟩
/-- isinstance(e, c) of such a value -/
def rIsV (K : PySem.W.Frag) : List V → Hp → VK → Prop := fun xs H Q => ∃ (a D B : Addr) (c : V) (u : Value) (fs : List (Str × V)) (b : Bool), xs = [.ref a, c] ∧ ClsV c u ∧ EvAt H a D fs ∧ OV K B D ∧ OVB K B ∧ PySem.W.kitOne K (.ref D) u = some b ∧ Q (.bl b) H
theorem call_isV {X : Cx} : CallR X (.builtin "isinstance") (rIsV X.K) := by
  intro pins s σ H xs us Q I r h
  obtain ⟨a, D, B, c, cv, fs, b, rfl, hcv, ev, ov, ob, e, q⟩ := h
  obtain ⟨u1, u2, rfl, r1, r2⟩ := vals2 r
  cases r1
  have ec := hcv.eq r2
  subst ec
  obtain ⟨oe, od, J, _⟩ := ev.inst I
  have f := ov.f
  exact PySem.W.kia_one (PySem.W.kitx_exc (by obtain ⟨cd, hc, _⟩ := ov.mro; rw [hc]; rfl) f.xf.ga f.xf.gg f.sb f.ac ob.gn ob.tn (by rw [show PySem.W.mroIn X.K D (.type "object") = PySem.W.subIn X.K (.ref D) (.type "object") from rfl, ov.sub]; simp)) I.kIn J e (fun z => nomatch z) fun tk => ⟨.bl b, H, I.kept (t' := tk) fun _ _ z => z, rfl, q⟩
/-- e.f of such a value -/
def tXv (K : PySem.W.Frag) (n : Str) (te : TE) : TE := fun σ H Q => te σ H fun x H1 => ∃ (a C : Addr) (fs : List (Str × V)) (v : V), x = .ref a ∧ EvAt H1 a C fs ∧ XfC K C ∧ PySem.W.findIn K (.ref C) n = some none ∧ fs.lookup n = some v ∧ Q v H1
theorem pe_xv {X : Cx} {e : Expr} {te : TE} {pos : Pos} {n : Str} (he : PE X e te) (hb : attributeBase e n X.env (eval e X.env) = eval e X.env := by rfl) : PE X (.Attribute e n pos) (tXv X.K n te) := by
  refine ⟨fun pins s σ H Q I h => ?_⟩
  refine attr_of hb (thn (he.run pins s σ H _ I h) fun u s1 ⟨x, H1, I1, rx, a, C, fs, v, ex, ev, T, no, l, q⟩ => ?_)
  subst ex
  obtain rfl : u = Value.ref a := rx
  obtain ⟨oe, od, J, g⟩ := ev.inst I1
  obtain ⟨o, y, rfl, hl, ru⟩ := g n v l
  exact HandSPX.exc_get I1.kIn J T.ga T.gg T.exC (PySem.W.findObj_own T.hdC no rfl hl) (handed_of ru) ⟨v, H1, I1.tok _, ru, q⟩
end
end Sw
namespace Sw
open PySem PySem.Spec PyProof.Rows L2
/-! ### the same, with more told of the error's object -/
inductive AsOkB (X : Cx) (Wo : WX) : List ExceptHandler → (Ends → WX) → Prop
  | nil : AsOkB X Wo [] fun _ => Wo
  | cons {x n : Str} {c : Value} {i : Nat} {ts : Addr → Value → Option Addr → TS} {st : Stmt} {more : List Stmt} {p1 p2 : Pos} {hds : List ExceptHandler} {W : Ends → WX}
      (hi : X.N[i]? = some n) (hl : X.env.kindOf n = some .local) (hc : Names X x c)
      (su : ∀ (a : Addr) (o : Obj) (cls : Value) (d : Option Addr) (pn : List (Addr × Obj)), Zc cls d o → (∃ vs, o.data = .fields vs) → X.base.get? a = none → a ∉ frs X.stack → PSs (X.suite a ((a, o) :: pn)) (st :: more) (ts a cls d))
      (rest : AsOkB X Wo hds W) : AsOkB X Wo (.ExceptHandler (some (.Name x p1)) (some n) (st :: more) p2 :: hds) fun D => wAs X.K c i ts (W D) D
theorem ps_triesB {X : Cx} {Wo : WX} {W : Ends → WX} {body : List Stmt} {h₀ : ExceptHandler} {hds : List ExceptHandler} {pos : Pos} {tb : WX → TS} (hs : X.stack = X.env :: X.outer) (hf : X.env.frame = some X.env.locals) (nd : X.N.Nodup) (tk : Takes X Wo)
    (hb : ∀ (V : WX) (pn : List (Addr × Obj)) (xe : Value → Shared → Prop), Takes (X.tr pn xe) V → PassesOwn (model X.prog X.w) X.A X.env xe → PSs (X.tr pn xe) body (tb V))
    (hh : AsOkB X Wo (h₀ :: hds) W) : PS X (.Try body (h₀ :: hds) [] [] pos) fun D σ H => tb (W D) D σ H := by
  constructor
  intro pins s σ H D I h
  have ok := I.ok
  have fr : X.A.frames = some (X.env :: X.outer) := by rw [← hs]; exact ok.frames
  let after : Value → Shared → Prop := fun e s₁ => wpAny (model X.prog X.w) X.A (noteFrame e X.env) (fun _ s₂ => wpAny (model X.prog X.w) X.A (setFlight e none) (fun _ s₃ => wpAny (model X.prog X.w) X.A (handleBy e X.env (h₀ :: hds)) (SP X pins D) X.xe s₃) X.xe s₂) X.xe s₁
  have run := (hb (W D) (X.pn ++ pins) after (fun u s' air => ?_) PassesOwn.looking).run [] s σ H D (I.toTry _) h
  · refine wpAny_Try_except (wpAny_mono run (fun f s1 z => ?_) fun _ _ z => z)
    cases f <;> obtain ⟨_, _, z⟩ := z
    · exact wpAny_execs_nil ⟨_, _, z.1.ofTry ok, z.2⟩
    · exact ⟨_, _, z.1.ofTry ok, z.2⟩
    · exact ⟨_, _, z.1.ofTry ok, z.2⟩
    · obtain ⟨H', J, r, q⟩ := z
      exact ⟨_, _, _, J.ofTry ok, r, q⟩
  · obtain ⟨a, B, sI, pins', σ', H', cls, d, rfl, J0, nb, up, sky, na, os, ag, w⟩ := air
    have J := J0.ofTry ok
    show wpAny (model X.prog X.w) X.A (noteFrame (.ref a) X.env) _ _ _
    refine Sky.land Zc.steady fr hf (by rw [← hs]; exact sky) fun h3 fl3 up3 => ?_
    have J3 : Inv X pins σ' H' { s' with heap := h3 } := J.landed nb fl3.1 (up.trans up3) os ag
    obtain ⟨o3, vs3, ho3, z3, d3⟩ := fl3.there
    have out : a ∉ frs (X.env :: X.outer) := fun hm => by
      obtain ⟨_, o', e', hn⟩ := fl3.2.2.1.mem hm
      cases ho3.symm.trans e'
      exact hn _ d3
    have outS : a ∉ frs X.stack := by rw [hs]; exact out
    have offB : X.base.get? a = none := by
      cases y : X.base.get? a with
      | none => rfl
      | some o =>
        have q1 := nb a o (J0.bk a o y) outS
        rw [fl3.2.1] at q1
        cases q1
    have nL : a ≠ X.env.locals := fun z => out (List.mem_filterMap.mpr ⟨_, List.mem_cons_self, by rw [hf, z]⟩)
    have nF : a ∉ X.fs := fun hm => by
      obtain ⟨e, he, q⟩ := List.mem_filterMap.mp hm
      exact out (List.mem_filterMap.mpr ⟨e, List.mem_cons_of_mem _ he, q⟩)
    have S3 := J3.suite ho3 d3 na nL nF
    clear h
    revert w
    generalize h₀ :: hds = all at hh
    intro w
    induction hh with
    | nil =>
      refine wpAny_handleBy_nil ?_
      obtain ⟨_, _, _, o, vs, T, _, _, g1, _, g2, g3, _⟩ := id fl3
      unfold PySem.passOn
      refine wpAny_bind (wpAny_field g1 g2 g3 ?_)
      rw [if_neg (by simp : ¬ (Value.ref T == Value.none) = true)]
      have away : wpAny (model X.prog X.w) X.A (setFlight (.ref a) X.env.frame) (fun _ s4 => wpAny (model X.prog X.w) X.A (throw (.ref a) : Sem Flow) (SP X pins D) X.xe s4) X.xe { s' with heap := h3 } := by
        rw [hf]
        exact HandSPX.setFlight_upZ fl3 fun h4 hh4 up4 => wpAny_throw (tk _ _ ⟨a, B, sI, pins, σ', H', cls, d, rfl, J, nb, (up.trans up3).trans up4, .inr (.inr (by rw [hs]; exact hh4)), na, os, ag, w⟩)
      first | exact wpAny_bind (wpAny_pure (wpAny_bind away)) | exact wpAny_bind away
    | @cons x n c i ts st more p1 p2 hds W hi hl hc su rest ih =>
      obtain ⟨b, hb1, yes, no⟩ := w
      refine wpAny_handleBy_cons (codeAny_handlers_test ?_) (by intro q; cases q)
      have ty : PySem.W.Looks (model X.prog X.w) h3 (typeOf (.ref a)) cls := fun _ _ _ s k q => wpAny_typeOf_ref (k _ _ ho3) (by rw [z3.1]; exact q)
      have hit := PySem.W.exm_one (M := model X.prog X.w) J3.kIn ty hb1
      have name : ∀ {Q E : Value → Shared → Prop}, Q c { s' with heap := h3 } → wpAny (model X.prog X.w) (X.A.mark (some (.ref a))) (eval (.Name x p1) X.env) Q E { s' with heap := h3 } := fun q => by
        obtain ⟨hg, hd, ⟨hm⟩ | ⟨hm, hv, hn⟩⟩ := hc
        · exact ld_glob (X := X.suite a ((a, o3) :: (X.pn ++ pins))) S3 hg (by assumption) q hd
        · exact ld_blt (X := X.suite a ((a, o3) :: (X.pn ++ pins))) S3 hg hm hv q hn hd
      refine name (hit.here ?_)
      cases b with
      | false => exact ih (no rfl)
      | true =>
        refine codeAny_handlers_suite_as (HandSPX.lands_againZ fl3 fun h4 fl4 up4 => ?_)
        obtain ⟨o4, vs4, ho4, z4, d4⟩ := fl4.there
        have J4 : Inv X pins σ' H' { s' with heap := h4 } := J.landed nb fl4.1 ((up.trans up3).trans up4) os ag
        refine store_ok (X := X.suite a ((a, o4) :: (X.pn ++ pins))) (v := .ref a) (J4.suite ho4 d4 na nL nF) nd hi (.inl hl) rfl (fun s5 S5 => ?_) (.inr hl)
        refine wpAny_mono ((su a o4 cls d (X.pn ++ pins) z4 ⟨_, d4⟩ offB outS).run [] s5 _ H' _ S5 (yes rfl a na)) (fun f s6 z => ?_) fun _ _ z => z.elim
        have bye : ∀ {σ6 : L2.St} {H6 : Hp} {Q : Shared → Prop}, Inv (X.suite a ((a, o4) :: (X.pn ++ pins))) [] σ6 H6 s6 → (∀ s7, Inv X pins (σ6.set i none) H6 s7 → Q s7) →
            wpAny (model X.prog X.w) X.A (do bindName X.env n .none; unbindBehindTheSuite X.env n p2) (fun _ s7 => Q s7) X.xe s6 := fun S6 hq => gone_ok (S6.unsuite ok) nd hi hl hq
        cases f <;> obtain ⟨_, _, z⟩ := z
        · exact bye z.1 fun s7 J7 => ⟨_, _, J7, z.2⟩
        · exact bye z.1 fun s7 J7 => ⟨_, _, J7, z.2⟩
        · exact bye z.1 fun s7 J7 => ⟨_, _, J7, z.2⟩
        · obtain ⟨H6, S6, r6, q6⟩ := z
          exact bye S6 fun s7 J7 => ⟨_, _, _, J7, r6, q6⟩
open PySem.SwE PySem.SwV
/-! ### a call in a suite that hands the held exception over -/
def anyO (a : Addr) : HO := .ext fun h => ∃ o, h.get? a = some o
def tCallF (a : Addr) (cls : Value) (d : Option Addr) (sp : Sp) (t : TA) : TE := fun σ H Q => t σ H fun vs H1 => ∀ oe, Zc cls d oe → (∃ vs, oe.data = .fields vs) → H1 a = none → sp vs (upd H1 a (.frz oe (anyO a))) (fun v H2 => Q v (del H2 a)) E0
section
variable {X : Cx} {a : Addr} {oe : Obj} {pn : List (Addr × Obj)} {cls : Value} {d : Option Addr} {x : Str} {ps : List Str} {k n : Nat} {sp : Sp} {e : Expr} {es : List Expr} {t : TA} {p pos : Pos}
theorem ce_held {stk : List Env} {P : Program} {w : World} {H : Hp} {s s' : Shared} {Q : VK} {u : Value} (hok : HOk P w H s.heap) (ga : s.heap.get? a = some oe) (na : H a = none) (out : a ∉ frs stk) (h : CE stk P w (upd H a (.frz oe (anyO a))) s (fun v H2 => Q v (del H2 a)) u s') : CE stk P w H s Q u s' := by
  obtain ⟨v, H', os, bare, un, ok, rv, q⟩ := h
  have fz : H' a = some (.frz oe (anyO a)) := un.frzs a oe (anyO a) upd_same
  have hx : ObjOk P w H' s'.heap a (.frz oe (anyO a)) := ok a _ fz
  have ne : ∀ {b o}, H b = some o → b ≠ a := fun e z => by rw [z, na] at e; cases e
  have up : ∀ {b}, b ≠ a → upd H a (.frz oe (anyO a)) b = H b := fun h => upd_ne h
  refine ⟨v, del H' a, os, bare, ⟨fun b o e1 n1 nf nx => ?_, fun b o e1 n1 hf nx => ?_, fun b o e1 n1 nx => ?_, fun b o e1 nx => un.there b o e1 nx, fun b xs e1 => ?_, fun b o u e1 => ?_, fun b ps e1 => ?_⟩, fun b o e1 => ?_, rv, q⟩
  · by_cases c : b = a
    · subst c; rw [ga] at e1; cases e1; exact hx.1
    · exact un.keep b o e1 (by rw [up c]; exact n1) nf nx
  · have c : b ≠ a := fun z => out (z ▸ hf)
    exact un.slot b o e1 (by rw [up c]; exact n1) hf nx
  · by_cases c : b = a
    · rw [c]; exact del_same
    · rw [del_ne c]; exact un.free b o e1 (by rw [up c]; exact n1) nx
  · rw [del_ne (ne e1)]; exact un.tups b xs (by rw [up (ne e1)]; exact e1)
  · rw [del_ne (ne e1)]; exact un.frzs b o u (by rw [up (ne e1)]; exact e1)
  · rw [del_ne (ne e1)]; exact un.tbls b ps (by rw [up (ne e1)]; exact e1)
  · have c : b ≠ a := fun z => by rw [z, del_same] at e1; cases e1
    rw [del_ne c] at e1
    exact (ok b o e1).stay (fun _ _ _ y => y) (fun c' y => by rw [del_ne fun z => by rw [z, fz] at y; cases y]; exact y) (fun c' xs y => by rw [del_ne fun z => by rw [z, fz] at y; cases y]; exact y)
theorem pe_calF (hz : Zc cls d oe) (hf : ∃ vs, oe.data = .fields vs) (off : X.base.get? a = none) (out : a ∉ frs X.stack) (c : Cal X.prog X.w X.K X.mg X.base x ps k sp) (hr : Room n (X.suite a ((a, oe) :: pn)).A) (ha : PA (X.suite a ((a, oe) :: pn)) (e :: es) t) (hg : Gl (X.suite a ((a, oe) :: pn)) x := by rfl) (hk : k ≤ n := by decide)
    (hdb : (x == ("__debug__" : Str)) = false := by decide) (he : starEach (e :: es) X.env = (false, eval e X.env) :: starEach es X.env := by rfl) (hpl : (backTo pos (starEach es X.env)).any (·.1) = false := by rfl) :
    PE (X.suite a ((a, oe) :: pn)) (.Call (.Name x p) (e :: es) [] pos) (tCallF a cls d sp t) := by
  obtain ⟨f, fd, F, m, kp, b⟩ := c
  constructor
  intro pins s σ H Q I h
  apply wpAny_Call_Name_kw (ld_glob I hg m ?_ hdb)
  refine PySem.W.callWith_K (h₀ := X.base) I.ok.mod.kin kp (thn (ha.run pos pins s σ H _ I h) fun us s1 ⟨vs, H1, I1, r, q⟩ => ⟨I1.kIn, ?_⟩) he hpl
  obtain ⟨ga, na, _⟩ := I1.pin (a, oe) (List.mem_append.mpr (.inl List.mem_cons_self))
  have q := q oe hz hf na
  have e1 := I1.env0
  have fresh : ∀ {b o}, H1 b = some o → b ≠ a := fun e z => by rw [z, na] at e; cases e
  have e0 : Env0 X.prog X.w X.K X.mg X.base (X.suite a ((a, oe) :: pn)).A X.stack s1 (upd H1 a (.frz oe (anyO a))) := by
    refine ⟨e1.frames, e1.mod, fun b o y => ⟨(e1.bs b o y).1, ?_⟩, e1.bsz, e1.funs, fun b y => ?_, fun b o y => ?_, e1.bare⟩
    · rw [upd_ne fun z => by rw [z, off] at y; cases y]; exact (e1.bs b o y).2
    · rw [upd_ne (show b ≠ a from fun z => out (by rw [← z]; exact y))]; exact e1.frf b y
    · by_cases c : b = a
      · subst c
        rw [upd_same] at y
        cases y
        exact ⟨ga, ⟨_, ga⟩, ⟨_, ga⟩, fun h1 h2 ⟨o, y⟩ st => ⟨o, st _ y⟩⟩
      · rw [upd_ne c] at y
        exact (I1.hok b o y).stay (fun _ _ _ y => y) (fun c' y => by rw [upd_ne (fresh y)]; exact y) fun c' xs y => by rw [upd_ne (fresh y)]; exact y
  have count : (us ++ []).length = ps.length := by rw [List.append_nil, ← Paired.length r]; exact F.len _ _ _ _ q
  have bound := b s1 us I1.kIn count
  rw [List.append_nil] at bound
  apply wpAny_call
  apply codeAny_mono (F.run _ X.stack s1 _ ⟨us, []⟩ us vs _ E0 (hr.mono hk) e0 bound r q)
  intro o s' y
  rcases o with er | fl
  · exact pass0 pins σ H1 s1 er s' I1 y
  · cases fl with
    | ret u => exact I1.after (ce_held I1.hok ga na out y)
    | next => exact y.elim
    | brk => exact y.elim
    | cont => exact y.elim
end
end Sw
namespace Sw
open PySem PySem.Spec PyProof.Rows L2 PySem.SwE PySem.SwV
/-- X.__init__(self) -/
def spInit0 (K : PySem.W.Frag) : Sp := fun vs H Q _ => ∃ (a C : Addr), vs = [.ref a] ∧ H a = some (exo a C none) ∧ OexE K C ∧ Q .non H
/-- the own exception class x over B with the one field f -/
structure XV (x f : Str) (P : Program) (w : World) (K : PySem.W.Frag) (mg : Str → Option Value) (base : Heap) (B C : Addr) : Prop where
  ov : OV K B C
  nB : C ≠ B
  no : PySem.W.findIn K (.ref C) f = some none
  hm : mg x = some (.ref C)
  ini : ∃ (fI : Addr) (fd : FuncData), PySem.W.findIn K (.ref C) "__init__" = some (some (.ref fI)) ∧ PySem.W.typeIn K (.ref fI) = some (.type "function") ∧ FnOk P w K mg base CX0 1 fI fd ["self", f] (spInitF K f) ∧ Binds K fd ["self", f] [] ∧
    ∀ (s : Shared) (a : Value) (ws : List Value), K.In s.heap → (a :: ws).length = 2 → BindsTo s fd ⟨[a], [f].zip ws⟩ ((["self", f] : List Str).zip (a :: ws))
/-- the same without a field -/
structure XV0 (x : Str) (P : Program) (w : World) (K : PySem.W.Frag) (mg : Str → Option Value) (base : Heap) (B C : Addr) : Prop where
  ov : OV K B C
  nB : C ≠ B
  hm : mg x = some (.ref C)
  ini : ∃ (fI : Addr) (fd : FuncData), PySem.W.findIn K (.ref C) "__init__" = some (some (.ref fI)) ∧ PySem.W.typeIn K (.ref fI) = some (.type "function") ∧ FnOk P w K mg base CX0 1 fI fd ["self"] (spInit0 K) ∧ Binds K fd ["self"] [] ∧
    ∀ (s : Shared) (a : Value) (ws : List Value), K.In s.heap → (a :: ws).length = 1 → BindsTo s fd ⟨[a], ([] : List Str).zip ws⟩ ((["self"] : List Str).zip (a :: ws))
section
variable {X : Cx} {x f : Str} {B C : Addr} {n : Nat} {e : Expr} {te : TE} {p pos kpos : Pos}
theorem pe_V (xt : XV x f X.prog X.w X.K X.mg X.base B C) (hr : Room n X.A) (he : PE X e te) (hn : 2 ≤ n := by decide) (hg : Gl X x := by rfl)
    (hdb : (x == ("__debug__" : Str)) = false := by decide) (he2 : starEach [e] X.env = (false, eval e X.env) :: starEach [] X.env := by rfl) : PE X (.Call (.Name x p) [e] [] pos) (tMkV C (spInitF X.K f) (tCons te tNil)) := by
  obtain ⟨fI, fd, h1, h2, h3, h4, h5⟩ := xt.ini
  exact pe_mkV xt.ov.oex h1 h2 h3 (hr.mono hn) h4 pass0 xt.hm (pa_cons he pa_nil he2) hg hdb he2 (by rfl)
theorem pe_VK {nm : Option Str} (xt : XV x f X.prog X.w X.K X.mg X.base B C) (hr : Room n X.A) (he : PE X e te) (hn : 2 ≤ n := by decide) (hg : Gl X x := by rfl)
    (hall : (backToKw pos (keywordEach [⟨nm, e, kpos⟩] X.env)).all (·.1.isSome) = true := by rfl) (hks : (backToKw pos (keywordEach [⟨nm, e, kpos⟩] X.env)).filterMap (·.1) = [f] := by rfl) (hdb : (x == ("__debug__" : Str)) = false := by decide)
    (hpl : ((backTo pos (starEach [] X.env)).any (·.1) || (backToKw pos (keywordEach [⟨nm, e, kpos⟩] X.env)).any (·.1.isNone)) = false := by rfl) : PE X (.Call (.Name x p) [] [⟨nm, e, kpos⟩] pos) (tMkV C (spInitF X.K f) (tCons te tNil)) := by
  obtain ⟨fI, fd, h1, h2, h3, h4, h5⟩ := xt.ini
  exact pe_mkVK (ks := [f]) xt.ov.oex h1 h2 h3 (hr.mono hn) h5 pass0 xt.hm (pk_cons he pk_nil) hg hall hks hdb hpl
theorem pe_V0 (xt : XV0 x X.prog X.w X.K X.mg X.base B C) (hr : Room n X.A) (hn : 2 ≤ n := by decide) (hg : Gl X x := by rfl) (hdb : (x == ("__debug__" : Str)) = false := by decide) : PE X (.Call (.Name x p) [] [] pos) (tMkV C (spInit0 X.K) tNil) := by
  obtain ⟨fI, fd, h1, h2, h3, h4, h5⟩ := xt.ini
  exact pe_mkVK (ks := []) xt.ov.oex h1 h2 h3 (hr.mono hn) h5 pass0 xt.hm pk_nil hg (by rfl) (by rfl) hdb (by rfl)
theorem pmk_V (xt : XV x f X.prog X.w X.K X.mg X.base B C) (hr : Room n X.A) (he : PE X e te) (hn : 2 ≤ n := by decide) (hg : Gl X x := by rfl)
    (hdb : (x == ("__debug__" : Str)) = false := by decide) (he2 : starEach [e] X.env = (false, eval e X.env) :: starEach [] X.env := by rfl) : PMk X (.Call (.Name x p) [e] [] pos) (tMkO C (spInitF X.K f) [] (tCons te tNil)) := by
  obtain ⟨fI, fd, h1, h2, h3, h4, h5⟩ := xt.ini
  exact pmk_E xt.ov.oex h1 h2 h3 (hr.mono hn) h4 pass0 xt.hm (pa_cons he pa_nil he2) hg hdb he2 (by rfl)
theorem pmk_VK {nm : Option Str} (xt : XV x f X.prog X.w X.K X.mg X.base B C) (hr : Room n X.A) (he : PE X e te) (hn : 2 ≤ n := by decide) (hg : Gl X x := by rfl)
    (hall : (backToKw pos (keywordEach [⟨nm, e, kpos⟩] X.env)).all (·.1.isSome) = true := by rfl) (hks : (backToKw pos (keywordEach [⟨nm, e, kpos⟩] X.env)).filterMap (·.1) = [f] := by rfl) (hdb : (x == ("__debug__" : Str)) = false := by decide)
    (hpl : ((backTo pos (starEach [] X.env)).any (·.1) || (backToKw pos (keywordEach [⟨nm, e, kpos⟩] X.env)).any (·.1.isNone)) = false := by rfl) : PMk X (.Call (.Name x p) [] [⟨nm, e, kpos⟩] pos) (tMkO C (spInitF X.K f) [] (tCons te tNil)) := by
  obtain ⟨fI, fd, h1, h2, h3, h4, h5⟩ := xt.ini
  exact pmk_EK (ks := [f]) xt.ov.oex h1 h2 h3 (hr.mono hn) h5 pass0 xt.hm (pk_cons he pk_nil) hg hall hks hdb hpl
theorem ps_rsV {W : WX} {pos2 : Pos} (hc : X.calm = true) (tk : Takes X W) (xt : XV x f X.prog X.w X.K X.mg X.base B C) (hr : Room n X.A) (he : PE X e te) (hn : 2 ≤ n := by decide) (hg : Gl X x := by rfl)
    (hdb : (x == ("__debug__" : Str)) = false := by decide) (he2 : starEach [e] X.env = (false, eval e X.env) :: starEach [] X.env := by rfl) : PS X (.Raise (some (.Call (.Name x p) [e] [] pos)) none pos2) (tRs (tMkO C (spInitF X.K f) [] (tCons te tNil)) W) :=
  ps_rs hc tk (pmk_V xt hr he hn hg hdb he2)
theorem ps_rsVK {W : WX} {pos2 : Pos} {nm : Option Str} (hc : X.calm = true) (tk : Takes X W) (xt : XV x f X.prog X.w X.K X.mg X.base B C) (hr : Room n X.A) (he : PE X e te) (hn : 2 ≤ n := by decide) (hg : Gl X x := by rfl)
    (hall : (backToKw pos (keywordEach [⟨nm, e, kpos⟩] X.env)).all (·.1.isSome) = true := by rfl) (hks : (backToKw pos (keywordEach [⟨nm, e, kpos⟩] X.env)).filterMap (·.1) = [f] := by rfl) (hdb : (x == ("__debug__" : Str)) = false := by decide)
    (hpl : ((backTo pos (starEach [] X.env)).any (·.1) || (backToKw pos (keywordEach [⟨nm, e, kpos⟩] X.env)).any (·.1.isNone)) = false := by rfl) : PS X (.Raise (some (.Call (.Name x p) [] [⟨nm, e, kpos⟩] pos)) none pos2) (tRs (tMkO C (spInitF X.K f) [] (tCons te tNil)) W) :=
  ps_rs hc tk (pmk_VK xt hr he hn hg hall hks hdb hpl)
end
theorem names_V {x f : Str} {P : Program} {w : World} {K : PySem.W.Frag} {mg : Str → Option Value} {base : Heap} {X : Cx} {B C : Addr} (xt : XV x f P w K mg base B C) (hm : X.mg = mg := by rfl) (hg : Gl X x := by rfl) (hd : (x == ("__debug__" : Str)) = false := by decide) : Names X x (.ref C) := ⟨hg, hd, .inl (by rw [hm]; exact xt.hm)⟩
theorem names_B {x : Str} {mg : Str → Option Value} {X : Cx} {B : Addr} (h : mg x = some (.ref B)) (hm : X.mg = mg := by rfl) (hg : Gl X x := by rfl) (hd : (x == ("__debug__" : Str)) = false := by decide) : Names X x (.ref B) := ⟨hg, hd, .inl (by rw [hm]; exact h)⟩
/-- what is asked of C(v) -/
def MadeV (C : Addr) (sp : Sp) (vs : List V) (H : Hp) (Q : VK) : Prop := vs.length ≤ 1000 ∧ ∀ a, H a = none → sp (.ref a :: vs) (upd H a (exo a C none)) (fun v H2 => v = .non ∧ Q (.ref a) H2) E0
theorem i_mkVt {C : Addr} {sp : Sp} {ta : TA} {σ : L2.St} {H : Hp} {Q : VK} (h : ta σ H fun vs H1 => MadeV C sp vs H1 Q) : tMkV C sp ta σ H Q := h
theorem i_mkV {K : PySem.W.Frag} {f : Str} {B C : Addr} {v : V} {H : Hp} {Q : VK} (o : OV K B C) (no : PySem.W.findIn K (.ref C) f = some none) (h : ∀ a H', H a = none → Same H H' → EvAt H' a C [(f, v)] → Q (.ref a) H') : MadeV C (spInitF K f) [v] H Q := by
  refine ⟨by simp, fun a na => ⟨a, C, v, rfl, upd_same, o.oex, no, fun dx nx ne => ⟨rfl, ?_⟩⟩⟩
  rw [upd_ne ne] at nx
  refine h a _ na (fun b u e => ?_) ⟨some dx, .inr ⟨dx, rfl, .inr ?_⟩, .inl upd_same⟩
  · rw [upd_ne (ne_of_none e na), upd_ne (ne_of_none e nx), upd_ne (ne_of_none e na)]; exact e
  · rw [upd_ne ne, upd_same]
theorem i_mkV0 {K : PySem.W.Frag} {B C : Addr} {H : Hp} {Q : VK} (o : OV K B C) (h : ∀ a H', H a = none → Same H H' → EvAt H' a C [] → Q (.ref a) H') : MadeV C (spInit0 K) [] H Q :=
  ⟨by simp, fun a na => ⟨a, C, rfl, upd_same, o.oex, rfl, h a _ na (same_upd na) ⟨none, .inl ⟨rfl, rfl⟩, .inl upd_same⟩⟩⟩
theorem i_isV {K : PySem.W.Frag} {B C D a : Addr} {fs : List (Str × V)} {H : Hp} {Q : VK} (ev : EvAt H a C fs) (c : OV K B C) (ob : OVB K B) (d : OV K B D) (nB : D ≠ B) (k : Q (.bl (decide (C = D))) H) : rIsV K [.ref a, .ref D] H Q :=
  ⟨a, C, B, _, _, fs, _, rfl, .own _, ev, c, ob, c.kit d nB, k⟩
theorem i_isVB {K : PySem.W.Frag} {B C a : Addr} {fs : List (Str × V)} {H : Hp} {Q : VK} (ev : EvAt H a C fs) (c : OV K B C) (ob : OVB K B) (k : Q (.bl true) H) : rIsV K [.ref a, .ref B] H Q :=
  ⟨a, C, B, _, _, fs, _, rfl, .own _, ev, c, ob, c.kitB ob, k⟩
theorem i_isVE {K : PySem.W.Frag} {B C a : Addr} {fs : List (Str × V)} {H : Hp} {Q : VK} (ev : EvAt H a C fs) (c : OV K B C) (ob : OVB K B) (k : Q (.bl true) H) : rIsV K [.ref a, .ty "Exception"] H Q :=
  ⟨a, C, B, _, _, fs, _, rfl, .ty _, ev, c, ob, c.kitE, k⟩
theorem i_xvt {K : PySem.W.Frag} {n : Str} {te : TE} {σ : L2.St} {H : Hp} {Q : VK} (h : te σ H fun x H1 => ∃ (a C : Addr) (fs : List (Str × V)) (v : V), x = .ref a ∧ EvAt H1 a C fs ∧ XfC K C ∧ PySem.W.findIn K (.ref C) n = some none ∧ fs.lookup n = some v ∧ Q v H1) : tXv K n te σ H Q := h
theorem i_calF {a : Addr} {cls : Value} {d : Option Addr} {sp : Sp} {t : TA} {σ : L2.St} {H : Hp} {Q : VK} (h : t σ H fun vs H1 => ∀ oe, Zc cls d oe → (∃ vs, oe.data = .fields vs) → H1 a = none → sp vs (upd H1 a (.frz oe (anyO a))) (fun v H2 => Q v (del H2 a)) E0) : tCallF a cls d sp t σ H Q := h
/-- held, it is known -/
theorem evF {H : Hp} {a C dd : Addr} {oe : Obj} {fs : List (Str × V)} (na : H a = none) (hz : Zc (.ref C) (some dd) oe) (hf : ∃ vs, oe.data = .fields vs) (e : H dd = some (.xd fs)) : EvAt (upd H a (.frz oe (anyO a))) a C fs :=
  ⟨some dd, .inr ⟨dd, rfl, .inl (by rw [upd_ne (ne_of_none e na)]; exact e)⟩, .inr ⟨oe, anyO a, upd_same, hz, hf⟩⟩
theorem sameF {H H2 : Hp} {a : Addr} {oe : Obj} {u : HO} (na : H a = none) (s : Same (upd H a (.frz oe u)) H2) : Same H (del H2 a) := fun b o e => by
  have c := ne_of_none e na
  rw [del_ne c]
  exact s _ _ (by rw [upd_ne c]; exact e)
end Sw
namespace Sw
open PySem PySem.Spec PyProof.Rows L2
local macro_rules | `(tactic| walk_at "hp") => `(tactic| first
  | (with_reducible assumption) | (with_reducible exact upd_same)
  | ((with_reducible refine' upd_old ?q1 ?q2); (case q1 => (with_reducible assumption)); (case q2 => walk_at "hp"))
  | ((with_reducible refine' Same.at ?q1 ?q2); (case q1 => (with_reducible assumption)); (case q2 => walk_at "hp"))
  | ((with_reducible refine' upd_skip ?q1 ?q2); (case q1 => walk_at "ne"); (case q2 => walk_at "hp"))
  | fail)
local macro_rules | `(tactic| walk_at "ne") => `(tactic| first
  | (with_reducible assumption) | (with_reducible exact Ne.symm (by assumption))
  | ((with_reducible refine' ne_of_none ?q1 ?q2); (case q2 => (with_reducible assumption)); (case q1 => walk_at "hp"))
  | fail)
local macro_rules | `(tactic| walk_at "ci") => `(tactic| first | assumption | (show (0 : Int) < _; first | decide | (with_reducible omega)) | exact ⟨by decide, by decide⟩ | exact .inl ⟨by decide, by decide⟩ | exact .inr ⟨by decide, by decide⟩)
local macro_rules | `(tactic| walk_at "ln") => `(tactic| first | (with_reducible assumption) | (with_reducible omega) | (simp only [List.length_append, List.length_take, List.length_drop, List.length_reverse, List.length_cons, List.length_nil]; with_reducible omega))
local macro_rules | `(tactic| walk_at "rd1") => `(tactic| first
  | (with_reducible refine i_seq ?_) | (with_reducible refine i_asg ?_) | (with_reducible refine i_ret ?_) | (with_reducible refine i_name ?_) | ((with_reducible refine' i_var ?q1 ?_); (case q1 => exact rfl)) | (with_reducible refine i_c ?_) | (with_reducible refine i_op ?_) | (with_reducible refine i_un ?_)
  | (with_reducible refine i_rI0 ?_) | (with_reducible refine i_cb ?_) | (with_reducible refine i_cons ?_) | (with_reducible refine i_nil ?_) | (with_reducible refine i_call ?_) | (with_reducible refine i_if ?_) | (with_reducible refine i_ifE ?_) | (with_reducible refine i_test ?_) | (with_reducible refine i_bl ?_)
  | (with_reducible refine i_and ?_) | (with_reducible refine i_or ?_) | (with_reducible refine i_not ?_) | (with_reducible refine i_lst ?_) | (with_reducible refine i_tup ?_) | (with_reducible refine i_next ?_) | (with_reducible refine i_drop ?_) | (with_reducible refine i_sub ?_)
  | (with_reducible refine i_bm ?_) | (with_reducible refine i_sl ?_) | (with_reducible refine i_part ?_) | (with_reducible refine i_nopart ?_) | (with_reducible refine i_exI ?_) | (with_reducible refine i_chain ?_) | ((with_reducible refine' i_aug ?q1 ?_); (case q1 => exact rfl)) | (with_reducible refine i_ip ?_)
  | (with_reducible refine i_par ?_) | (with_reducible refine i_pair ?_) | (with_reducible refine i_andV ?_) | (with_reducible refine i_orV ?_) | (with_reducible refine i_notV ?_) | (with_reducible refine i_m1 ?_) | (with_reducible refine i_str ?_)
  | (with_reducible refine iteF ?_) | (with_reducible refine iteT ?_) | (with_reducible refine iteNT ?_) | (with_reducible refine iteNF ?_) | (with_reducible refine i_tyS ?_) | (with_reducible refine i_tB ?_) | (with_reducible refine i_retN ?_) | (with_reducible refine i_par3 ?_) | (with_reducible refine i_trip ?_) | (with_reducible refine i_gCons ?_) | (with_reducible refine i_gNil ?_) | (with_reducible refine i_lstRg ?_) | (with_reducible refine i_rg1 ?_)
  | (with_reducible refine i_lc ?_) | (with_reducible refine i_for ?_) | (with_reducible refine i_iList ?_) | (with_reducible refine i_iTup ?_) | (with_reducible refine i_iStr ?_) | (with_reducible refine i_iRng1 ?_) | (with_reducible refine i_iEnS ?_)
  | ((with_reducible refine' i_ixTH ?q1 ?q2 ?_); (case q1 => walk_at "hp"); (case q2 => exact rfl))
  | ((with_reducible refine' i_ixLH ?q1 ?q2 ?_); (case q1 => walk_at "hp"); (case q2 => exact rfl))
  | ((with_reducible refine i_addS ?q1 ?_); (case q1 => walk_at "ln")) | ((with_reducible refine i_lenSS ?q1 ?_); (case q1 => walk_at "ln")) | ((with_reducible refine i_slFrom ?q1 ?q2 ?_); (case q1 => walk_at "ln"); (case q2 => walk_at "ln")) | ((with_reducible refine i_slTo ?q1 ?q2 ?_); (case q1 => walk_at "ln"); (case q2 => walk_at "ln"))
  | ((with_reducible refine' i_tyL ?q1 ?_); (case q1 => walk_at "hp"))
  | ((with_reducible refine' i_gTupH ?q1 ?q2 ?_); (case q1 => walk_at "hp"); (case q2 => exact rfl))
  | (with_reducible refine i_dnew ?_) | (with_reducible refine i_init ?_) | (with_reducible refine i_fst ?_) | (with_reducible refine i_mk ?_) | (with_reducible refine i_mkF ?_) | (with_reducible refine i_raise ?_) | (with_reducible refine i_callS ?_) | (with_reducible refine i_kwS ?_)
  | (with_reducible refine i_revT ?_) | (with_reducible refine i_kw ?_) | ((with_reducible refine' ⟨_, _, rfl, sqT_of ?q1, ?_⟩); (case q1 => walk_at "hp"))
  | (with_reducible refine i_revS ?_) | ((with_reducible refine i_revSS ?q1 ?_); (case q1 => walk_at "ln"))
  | (with_reducible refine i_startS ?_) | (with_reducible refine i_inSg ?_) | (with_reducible refine i_absN ?_) | (with_reducible refine i_min2 ?_) | (with_reducible refine i_max2 ?_) | (with_reducible refine i_min3 ?_) | (with_reducible refine i_intN ?_) | (with_reducible refine i_intNB ?_)
  | ((with_reducible refine' i_lenL ?q1 ?_); (case q1 => walk_at "hp")) | ((with_reducible refine' i_lenT ?q1 ?_); (case q1 => walk_at "hp"))
  | (with_reducible refine i_eqI ?_) | (with_reducible refine i_neI ?_) | (with_reducible refine i_eqS ?_) | (with_reducible refine i_neS ?_) | (with_reducible refine i_isNoI ?_) | (with_reducible refine i_isNoN ?_) | (with_reducible refine i_isNoR ?_)
  | ((with_reducible refine i_pow ?q1 ?q2 ?q3 ?_); (case q1 => decide); (case q2 => decide); (case q3 => (with_reducible omega)))
  | ((with_reducible refine i_rI ?q1 ?_); (case q1 => walk_at "ci"))
  | (with_reducible refine Or.inl ⟨_, rfl, ?_⟩) | (with_reducible refine Or.inr ⟨_, rfl, ?_⟩) | (with_reducible refine ⟨_, rfl, ?_⟩) | (with_reducible refine ⟨_, _, rfl, ?_⟩) | (with_reducible refine ⟨_, _, rfl, rfl, ?_⟩)
  | ((with_reducible refine' ⟨_, _, rfl, Or.inl (sqL_of ?q1), ?_⟩); (case q1 => walk_at "hp")) | ((with_reducible refine' ⟨_, _, rfl, Or.inr (sqT_of ?q1), ?_⟩); (case q1 => walk_at "hp")) | (with_reducible refine i_dget ?_) | (with_reducible refine i_disp1T ?_) | (with_reducible refine i_dcT ?_) | (with_reducible refine i_dnewT ?_) | (with_reducible refine i_fld ?_) | (with_reducible refine i_sFld ?_) | (with_reducible refine i_make ?_) | (with_reducible refine i_meth ?_) | (with_reducible refine i_star ?_) | (with_reducible refine i_isNoS ?_) | (with_reducible refine i_lc2 ?_) | (with_reducible refine i_iEnT ?_) | fail)
local macro_rules | `(tactic| walk_at "rd") => `(tactic| repeat' walk_at "rd1")

def topS (i : Nat) : Stmt := PySem.Challenge.pw_spoiltways_k00_errors.main.body.getD i (.Pass ⟨0, 0, 0, 0⟩)
abbrev s__law_cell : Stmt := topS 25
abbrev n__law_cell : List Str := ["script", "k"]
theorem sc__law_cell : FnScope n__law_cell ["script", "k"] (defScope s__law_cell) := ⟨rfl, rfl, rfl, by decide +kernel, rfl, by decide +kernel, by decide +kernel⟩
abbrev s__law_box : Stmt := topS 26
abbrev n__law_box : List Str := ["great"]
theorem sc__law_box : FnScope n__law_box ["great"] (defScope s__law_box) := ⟨rfl, rfl, rfl, by decide +kernel, rfl, by decide +kernel, by decide +kernel⟩
abbrev s__law_take : Stmt := topS 27
abbrev n__law_take : List Str := ["box", "many", "digit", "mixed"]
theorem sc__law_take : FnScope n__law_take ["box", "many"] (defScope s__law_take) := ⟨rfl, rfl, rfl, by decide +kernel, rfl, by decide +kernel, by decide +kernel⟩
abbrev s__law_by_place : Stmt := topS 28
abbrev n__law_by_place : List Str := ["thing", "found"]
theorem sc__law_by_place : FnScope n__law_by_place ["thing"] (defScope s__law_by_place) := ⟨rfl, rfl, rfl, by decide +kernel, rfl, by decide +kernel, by decide +kernel⟩
abbrev s__law_by_name : Stmt := topS 29
abbrev n__law_by_name : List Str := ["thing", "found"]
theorem sc__law_by_name : FnScope n__law_by_name ["thing"] (defScope s__law_by_name) := ⟨rfl, rfl, rfl, by decide +kernel, rfl, by decide +kernel, by decide +kernel⟩
abbrev s__law_sorts : Stmt := topS 30
abbrev n__law_sorts : List Str := ["e", "found"]
theorem sc__law_sorts : FnScope n__law_sorts ["e"] (defScope s__law_sorts) := ⟨rfl, rfl, rfl, by decide +kernel, rfl, by decide +kernel, by decide +kernel⟩
abbrev s__law_kept : Stmt := topS 31
abbrev n__law_kept : List Str := ["e"]
theorem sc__law_kept : FnScope n__law_kept ["e"] (defScope s__law_kept) := ⟨rfl, rfl, rfl, by decide +kernel, rfl, by decide +kernel, by decide +kernel⟩
abbrev s__law_is : Stmt := topS 32
abbrev n__law_is : List Str := ["e", "spot", "sorts", "k"]
theorem sc__law_is : FnScope n__law_is ["e", "spot"] (defScope s__law_is) := ⟨rfl, rfl, rfl, by decide +kernel, rfl, by decide +kernel, by decide +kernel⟩
abbrev s__law_thing : Stmt := topS 33
abbrev n__law_thing : List Str := ["box", "menu"]
theorem sc__law_thing : FnScope n__law_thing ["box"] (defScope s__law_thing) := ⟨rfl, rfl, rfl, by decide +kernel, rfl, by decide +kernel, by decide +kernel⟩
abbrev s__law_caught : Stmt := topS 34
abbrev n__law_caught : List Str := ["box", "thing", "way", "e"]
theorem sc__law_caught : FnScope n__law_caught ["box", "thing"] (defScope s__law_caught) := ⟨rfl, rfl, rfl, by decide +kernel, rfl, by decide +kernel, by decide +kernel⟩
abbrev s_law : Stmt := topS 35
abbrev n_law : List Str := ["script", "bare", "k", "box", "first", "last", "lists", "turn", "spot", "e", "grown", "kept", "thing"]
theorem sc_law : FnScope n_law ["script"] (defScope s_law) := ⟨rfl, rfl, rfl, by decide +kernel, rfl, by decide +kernel, by decide +kernel⟩
/-- names that stay the built-in ones -/
structure Z (mg : Str → Option Value) : Prop where
  Exception : mg "Exception" = none
  abs : mg "abs" = none
  dict : mg "dict" = none
  int : mg "int" = none
  isinstance : mg "isinstance" = none
  len : mg "len" = none
  list : mg "list" = none
  max_ : mg "max" = none
  min_ : mg "min" = none
  range : mg "range" = none
  repr : mg "repr" = none
  sum : mg "sum" = none
end Sw
namespace Sw
open PySem PySem.Spec PyProof.Rows L2
local macro_rules | `(tactic| walk_at "hp") => `(tactic| first
  | (with_reducible assumption) | (with_reducible exact upd_same)
  | ((with_reducible refine' upd_old ?q1 ?q2); (case q1 => (with_reducible assumption)); (case q2 => walk_at "hp"))
  | ((with_reducible refine' Same.at ?q1 ?q2); (case q1 => (with_reducible assumption)); (case q2 => walk_at "hp"))
  | ((with_reducible refine' upd_skip ?q1 ?q2); (case q1 => walk_at "ne"); (case q2 => walk_at "hp"))
  | fail)
local macro_rules | `(tactic| walk_at "ne") => `(tactic| first
  | (with_reducible assumption) | (with_reducible exact Ne.symm (by assumption))
  | ((with_reducible refine' ne_of_none ?q1 ?q2); (case q2 => (with_reducible assumption)); (case q1 => walk_at "hp"))
  | fail)
local macro_rules | `(tactic| walk_at "ci") => `(tactic| first | assumption | (show (0 : Int) < _; first | decide | (with_reducible omega)) | exact ⟨by decide, by decide⟩ | exact .inl ⟨by decide, by decide⟩ | exact .inr ⟨by decide, by decide⟩)
local macro_rules | `(tactic| walk_at "ln") => `(tactic| first | (with_reducible assumption) | (with_reducible omega) | (simp only [List.length_append, List.length_take, List.length_drop, List.length_reverse, List.length_cons, List.length_nil]; with_reducible omega))
local macro_rules | `(tactic| walk_at "rd1") => `(tactic| first
  | (with_reducible refine i_seq ?_) | (with_reducible refine i_asg ?_) | (with_reducible refine i_ret ?_) | (with_reducible refine i_name ?_) | ((with_reducible refine' i_var ?q1 ?_); (case q1 => exact rfl)) | (with_reducible refine i_c ?_) | (with_reducible refine i_op ?_) | (with_reducible refine i_un ?_)
  | (with_reducible refine i_rI0 ?_) | (with_reducible refine i_cb ?_) | (with_reducible refine i_cons ?_) | (with_reducible refine i_nil ?_) | (with_reducible refine i_call ?_) | (with_reducible refine i_if ?_) | (with_reducible refine i_ifE ?_) | (with_reducible refine i_test ?_) | (with_reducible refine i_bl ?_)
  | (with_reducible refine i_and ?_) | (with_reducible refine i_or ?_) | (with_reducible refine i_not ?_) | (with_reducible refine i_lst ?_) | (with_reducible refine i_tup ?_) | (with_reducible refine i_next ?_) | (with_reducible refine i_drop ?_) | (with_reducible refine i_sub ?_)
  | (with_reducible refine i_bm ?_) | (with_reducible refine i_sl ?_) | (with_reducible refine i_part ?_) | (with_reducible refine i_nopart ?_) | (with_reducible refine i_exI ?_) | (with_reducible refine i_chain ?_) | ((with_reducible refine' i_aug ?q1 ?_); (case q1 => exact rfl)) | (with_reducible refine i_ip ?_)
  | (with_reducible refine i_par ?_) | (with_reducible refine i_pair ?_) | (with_reducible refine i_andV ?_) | (with_reducible refine i_orV ?_) | (with_reducible refine i_notV ?_) | (with_reducible refine i_m1 ?_) | (with_reducible refine i_str ?_)
  | (with_reducible refine iteF ?_) | (with_reducible refine iteT ?_) | (with_reducible refine iteNT ?_) | (with_reducible refine iteNF ?_) | (with_reducible refine i_tyS ?_) | (with_reducible refine i_tB ?_) | (with_reducible refine i_retN ?_) | (with_reducible refine i_par3 ?_) | (with_reducible refine i_trip ?_) | (with_reducible refine i_gCons ?_) | (with_reducible refine i_gNil ?_) | (with_reducible refine i_lstRg ?_) | (with_reducible refine i_rg1 ?_)
  | (with_reducible refine i_lc ?_) | (with_reducible refine i_for ?_) | (with_reducible refine i_iList ?_) | (with_reducible refine i_iTup ?_) | (with_reducible refine i_iStr ?_) | (with_reducible refine i_iRng1 ?_) | (with_reducible refine i_iEnS ?_)
  | ((with_reducible refine' i_ixTH ?q1 ?q2 ?_); (case q1 => walk_at "hp"); (case q2 => exact rfl))
  | ((with_reducible refine' i_ixLH ?q1 ?q2 ?_); (case q1 => walk_at "hp"); (case q2 => exact rfl))
  | ((with_reducible refine i_addS ?q1 ?_); (case q1 => walk_at "ln")) | ((with_reducible refine i_lenSS ?q1 ?_); (case q1 => walk_at "ln")) | ((with_reducible refine i_slFrom ?q1 ?q2 ?_); (case q1 => walk_at "ln"); (case q2 => walk_at "ln")) | ((with_reducible refine i_slTo ?q1 ?q2 ?_); (case q1 => walk_at "ln"); (case q2 => walk_at "ln"))
  | ((with_reducible refine' i_tyL ?q1 ?_); (case q1 => walk_at "hp"))
  | ((with_reducible refine' i_gTupH ?q1 ?q2 ?_); (case q1 => walk_at "hp"); (case q2 => exact rfl))
  | (with_reducible refine i_dnew ?_) | (with_reducible refine i_init ?_) | (with_reducible refine i_fst ?_) | (with_reducible refine i_mk ?_) | (with_reducible refine i_mkF ?_) | (with_reducible refine i_raise ?_) | (with_reducible refine i_callS ?_) | (with_reducible refine i_kwS ?_)
  | (with_reducible refine i_revT ?_) | (with_reducible refine i_kw ?_) | ((with_reducible refine' ⟨_, _, rfl, sqT_of ?q1, ?_⟩); (case q1 => walk_at "hp"))
  | (with_reducible refine i_revS ?_) | ((with_reducible refine i_revSS ?q1 ?_); (case q1 => walk_at "ln"))
  | (with_reducible refine i_startS ?_) | (with_reducible refine i_inSg ?_) | (with_reducible refine i_absN ?_) | (with_reducible refine i_min2 ?_) | (with_reducible refine i_max2 ?_) | (with_reducible refine i_min3 ?_) | (with_reducible refine i_intN ?_) | (with_reducible refine i_intNB ?_)
  | ((with_reducible refine' i_lenL ?q1 ?_); (case q1 => walk_at "hp")) | ((with_reducible refine' i_lenT ?q1 ?_); (case q1 => walk_at "hp"))
  | (with_reducible refine i_eqI ?_) | (with_reducible refine i_neI ?_) | (with_reducible refine i_eqS ?_) | (with_reducible refine i_neS ?_) | (with_reducible refine i_isNoI ?_) | (with_reducible refine i_isNoN ?_) | (with_reducible refine i_isNoR ?_)
  | ((with_reducible refine i_pow ?q1 ?q2 ?q3 ?_); (case q1 => decide); (case q2 => decide); (case q3 => (with_reducible omega)))
  | ((with_reducible refine i_rI ?q1 ?_); (case q1 => walk_at "ci"))
  | (with_reducible refine Or.inl ⟨_, rfl, ?_⟩) | (with_reducible refine Or.inr ⟨_, rfl, ?_⟩) | (with_reducible refine ⟨_, rfl, ?_⟩) | (with_reducible refine ⟨_, _, rfl, ?_⟩) | (with_reducible refine ⟨_, _, rfl, rfl, ?_⟩)
  | ((with_reducible refine' ⟨_, _, rfl, Or.inl (sqL_of ?q1), ?_⟩); (case q1 => walk_at "hp")) | ((with_reducible refine' ⟨_, _, rfl, Or.inr (sqT_of ?q1), ?_⟩); (case q1 => walk_at "hp")) | (with_reducible refine i_dget ?_) | (with_reducible refine i_disp1T ?_) | (with_reducible refine i_dcT ?_) | (with_reducible refine i_dnewT ?_) | (with_reducible refine i_fld ?_) | (with_reducible refine i_sFld ?_) | (with_reducible refine i_make ?_) | (with_reducible refine i_meth ?_) | (with_reducible refine i_star ?_) | (with_reducible refine i_isNoS ?_) | (with_reducible refine i_lc2 ?_) | (with_reducible refine i_iEnT ?_) | fail)
local macro_rules | `(tactic| walk_at "rd") => `(tactic| repeat' walk_at "rd1")

section
variable {P : Program} {w : World} {K : PySem.W.Frag} {mg : Str → Option Value} {base : Heap} {f : Addr} {fd : FuncData}
theorem ok__law_take (F : Fun K "_law_take" "_law_take" s__law_take f fd) (z : Z mg) : FnOk P w K mg base CX0 1 f fd ["box", "many"] spTake := by
  refine F.ok sc__law_take (fun vs H Q E h => ?_) (fun cdv A outer s H vs Q E hr h => ?_)
  · obtain ⟨b, m, d, rfl, _⟩ := h; rfl
  · obtain ⟨b, m, d, rfl, B, hd, hm, hm2, k⟩ := h
    obtain ⟨n, g, c, e, hb, hn, hc0, hc1, he0, he1⟩ := B.ex
    have L : SqL K H b [.int n, .bl g, .int c, .int e] := .inl (.inl hb)
    refine ⟨_, (pss_cons (ps_if (PW.pt (pw_and (pt_val (pe_ix ix_list (pv 0) pe_int (fun _ _ => rfl))) (pw_and1 (pt_cmpR op_gt (pe_ix ix_list (pv 0) pe_int (fun _ _ => rfl)) pe_int (nomark _)))))
        (pss_cons (ps_set (i := 2) sc__law_take.nd rfl (.inl rfl) (pe_op op_mod (pe_callTy call_intN (by rfl) z.int (by decide +kernel) (pa_cons (pe_ix ix_list (pv 0) pe_int (fun _ _ => rfl)) pa_nil)) (pv 1)))
        (pss_cons (ps_asg (pe_op op_fdivW (pe_ix ix_list (pv 0) pe_int (fun _ _ => rfl)) (pv 1)) (pg_sub (pv 0) pe_int set_list))
        (pss_one (ps_ret (pv 2)))))
        pss_nil)
      (pss_cons (ps_asg (pe_op op_add (pe_ix ix_list (pv 0) pe_int (fun _ _ => rfl)) pe_int) (pg_sub (pv 0) pe_int set_list))
      (pss_cons (ps_set (i := 3) sc__law_take.nd rfl (.inl rfl) (pe_op op_mod (pe_callTy call_intN (by rfl) z.int (by decide +kernel) (pa_cons (pe_op op_pow (pe_op op_add (pe_op op_add (pe_ix ix_list (pv 0) pe_int (fun _ _ => rfl)) (pe_op op_mul pe_int (pe_ix ix_list (pv 0) pe_int (fun _ _ => rfl)))) pe_int) pe_int) pa_nil)) pe_int))
      (pss_one (ps_ret (pe_op op_mod (pe_op op_fdiv (pe_op op_mod (pe_callTy call_intN (by rfl) z.int (by decide +kernel) (pa_cons (pe_op op_pow (pe_op op_add (pe_op op_mul (pv 3) pe_int) (pe_op op_mul pe_int (pe_ix ix_list (pv 0) pe_int (fun _ _ => rfl)))) pe_int) pa_nil)) pe_int) pe_int) (pv 1))))))), ?_⟩
    walk_at "rd"
    refine iteC (fun hg => ?_) (fun hg => ?_)
    · walk_at "rd"
      refine iteB (fun h0 => ?_) (fun h0 => ?_)
      · walk_at "rd"
        refine i_rI (wide_div hm (by omega : m.natAbs < 2 ^ 64) (by decide) (by decide)) ?_
        walk_at "rd"
        refine i_setL hb rfl ?_
        walk_at "rd"
        refine k _ _ (Int.emod_nonneg _ (by omega)) (Int.emod_lt_of_pos _ hm) ⟨n / m, g, c, e, upd_same, Int.ediv_nonneg hn (by omega), hc0, hc1, he0, by omega⟩ SB.upd
      · walk_at "rd"
        refine i_setL hb rfl ?_
        walk_at "rd"
        exact k _ _ (Int.emod_nonneg _ (by omega)) (Int.emod_lt_of_pos _ hm) ⟨n, g, c, e + 1, upd_same, hn, hc0, hc1, by omega, by omega⟩ SB.upd
    · walk_at "rd"
      refine i_setL hb rfl ?_
      walk_at "rd"
      exact k _ _ (Int.emod_nonneg _ (by omega)) (Int.emod_lt_of_pos _ hm) ⟨n, g, c, e + 1, upd_same, hn, hc0, hc1, by omega, by omega⟩ SB.upd
theorem ok__law_box (F : Fun K "_law_box" "_law_box" s__law_box f fd) (z : Z mg) : FnOk P w K mg base CX0 1 f fd ["great"] spBox := by
  refine F.ok sc__law_box (fun vs H Q E h => ?_) (fun cdv A outer s H vs Q E hr h => ?_)
  · obtain ⟨n, rfl, _⟩ := h; rfl
  · obtain ⟨n, rfl, k⟩ := h
    refine ⟨_, (pss_one (ps_ret (pe_lst (pa_cons (pe_callB call_absN (by rfl) z.abs (by decide +kernel) (pa_cons (pv 0) pa_nil)) (pa_cons (pe_cmpR op_ge (pe_callB call_absN (by rfl) z.abs (by decide +kernel) (pa_cons (pv 0) pa_nil)) (pe_op op_pow pe_int pe_int) (nomark _)) (pa_cons (pe_op op_mod (pe_callTy call_intN (by rfl) z.int (by decide +kernel) (pa_cons (pe_callB call_absN (by rfl) z.abs (by decide +kernel) (pa_cons (pv 0) pa_nil)) pa_nil)) pe_int) (pa_cons pe_int pa_nil))))))), ?_⟩
    walk_at "rd"
    have q0 := Int.emod_nonneg (if n < 0 then -n else n) (show (2147483629 : Int) ≠ 0 by decide)
    have q1 := Int.emod_lt_of_pos (if n < 0 then -n else n) (show (0 : Int) < 2147483629 by decide)
    refine ⟨Nat.le_of_ble_eq_true rfl, fun p np => ?_⟩
    refine k p _ np (same_upd np) ⟨_, _, _, _, upd_same, by split <;> omega, q0, q1, by omega, by omega⟩
theorem ok__law_cell (F : Fun K "_law_cell" "_law_cell" s__law_cell f fd) (z : Z mg) : FnOk P w K mg base CX0 1 f fd ["script", "k"] (spCell K) := by
  refine F.ok sc__law_cell (fun vs H Q E h => ?_) (fun cdv A outer s H vs Q E hr h => ?_)
  · obtain ⟨a, ns, j, rfl, _⟩ := h; rfl
  · obtain ⟨a, ns, j, rfl, L, h0, h1, k⟩ := h
    refine ⟨_, (pss_one (ps_ret (pe_ifExp (pt_cmpR op_lt (pv 1) (pe_callB call_lenQ (by rfl) z.len PySem.boot_len (pa_cons (pv 0) pa_nil)) (nomark _)) (pe_ix ix_list (pv 0) (pv 1) (fun _ _ => rfl)) (pe_op op_add (pe_op op_mul pe_int (pv 1)) (pe_op op_mod (pe_callB (cr_sum rfl) (by rfl) z.sum (by decide +kernel) (pa_cons (pe_slice sl_list (pv 0) po_none (po_some pe_int)) pa_nil)) pe_int))))), ?_⟩
    walk_at "rd"
    refine i_lenK L ?_
    walk_at "rd"
    rw [List.length_map]
    refine iteB (fun hlt => ?_) (fun hlt => ?_)
    · walk_at "rd"
      refine i_ixL L (atI_ints h0 hlt) ?_
      exact k _ _ (Same.refl _)
    · walk_at "rd"
      refine ⟨a, _, rfl, L, fun p np => ?_⟩
      walk_at "rd"
      have e : cutV (ns.map V.int) none (some 1) = (ns.take 1).map V.int := by
        unfold cutV
        rw [show HT.sIx (ns.map V.int).length (ns.map V.int).length (some 1) = min 1 (ns.map V.int).length from HT.sIx_nat _ _ 1, HT.sIx_none, List.drop_zero, Nat.sub_zero, List.map_take]
        rcases Nat.le_total 1 (ns.map V.int).length with q | q
        · rw [Nat.min_eq_left q]
        · rw [Nat.min_eq_right q, List.take_length, List.take_of_length_le q]
      rw [e]
      refine ⟨p, ns.take 1, rfl, sqL_of upd_same, ?_⟩
      walk_at "rd"
      exact k _ _ (same_upd np)
end
end Sw
namespace Sw
open PySem PySem.Spec PyProof.Rows L2
local macro_rules | `(tactic| walk_at "hp") => `(tactic| first
  | (with_reducible assumption) | (with_reducible exact upd_same)
  | ((with_reducible refine' upd_old ?q1 ?q2); (case q1 => (with_reducible assumption)); (case q2 => walk_at "hp"))
  | ((with_reducible refine' Same.at ?q1 ?q2); (case q1 => (with_reducible assumption)); (case q2 => walk_at "hp"))
  | ((with_reducible refine' upd_skip ?q1 ?q2); (case q1 => walk_at "ne"); (case q2 => walk_at "hp"))
  | fail)
local macro_rules | `(tactic| walk_at "ne") => `(tactic| first
  | (with_reducible assumption) | (with_reducible exact Ne.symm (by assumption))
  | ((with_reducible refine' ne_of_none ?q1 ?q2); (case q2 => (with_reducible assumption)); (case q1 => walk_at "hp"))
  | fail)
local macro_rules | `(tactic| walk_at "ci") => `(tactic| first | assumption | (show (0 : Int) < _; first | decide | (with_reducible omega)) | exact ⟨by decide, by decide⟩ | exact .inl ⟨by decide, by decide⟩ | exact .inr ⟨by decide, by decide⟩)
local macro_rules | `(tactic| walk_at "ln") => `(tactic| first | (with_reducible assumption) | (with_reducible omega) | (simp only [List.length_append, List.length_take, List.length_drop, List.length_reverse, List.length_cons, List.length_nil]; with_reducible omega))
local macro_rules | `(tactic| walk_at "rd1") => `(tactic| first
  | (with_reducible refine i_seq ?_) | (with_reducible refine i_asg ?_) | (with_reducible refine i_ret ?_) | (with_reducible refine i_name ?_) | ((with_reducible refine' i_var ?q1 ?_); (case q1 => exact rfl)) | (with_reducible refine i_c ?_) | (with_reducible refine i_op ?_) | (with_reducible refine i_un ?_)
  | (with_reducible refine i_rI0 ?_) | (with_reducible refine i_cb ?_) | (with_reducible refine i_cons ?_) | (with_reducible refine i_nil ?_) | (with_reducible refine i_call ?_) | (with_reducible refine i_if ?_) | (with_reducible refine i_ifE ?_) | (with_reducible refine i_test ?_) | (with_reducible refine i_bl ?_)
  | (with_reducible refine i_and ?_) | (with_reducible refine i_or ?_) | (with_reducible refine i_not ?_) | (with_reducible refine i_lst ?_) | (with_reducible refine i_tup ?_) | (with_reducible refine i_next ?_) | (with_reducible refine i_drop ?_) | (with_reducible refine i_sub ?_)
  | (with_reducible refine i_bm ?_) | (with_reducible refine i_sl ?_) | (with_reducible refine i_part ?_) | (with_reducible refine i_nopart ?_) | (with_reducible refine i_exI ?_) | (with_reducible refine i_chain ?_) | ((with_reducible refine' i_aug ?q1 ?_); (case q1 => exact rfl)) | (with_reducible refine i_ip ?_)
  | (with_reducible refine i_par ?_) | (with_reducible refine i_pair ?_) | (with_reducible refine i_andV ?_) | (with_reducible refine i_orV ?_) | (with_reducible refine i_notV ?_) | (with_reducible refine i_m1 ?_) | (with_reducible refine i_str ?_)
  | (with_reducible refine iteF ?_) | (with_reducible refine iteT ?_) | (with_reducible refine iteNT ?_) | (with_reducible refine iteNF ?_) | (with_reducible refine i_tyS ?_) | (with_reducible refine i_tB ?_) | (with_reducible refine i_retN ?_) | (with_reducible refine i_par3 ?_) | (with_reducible refine i_trip ?_) | (with_reducible refine i_gCons ?_) | (with_reducible refine i_gNil ?_) | (with_reducible refine i_lstRg ?_) | (with_reducible refine i_rg1 ?_)
  | (with_reducible refine i_lc ?_) | (with_reducible refine i_for ?_) | (with_reducible refine i_iList ?_) | (with_reducible refine i_iTup ?_) | (with_reducible refine i_iStr ?_) | (with_reducible refine i_iRng1 ?_) | (with_reducible refine i_iEnS ?_)
  | ((with_reducible refine' i_ixTH ?q1 ?q2 ?_); (case q1 => walk_at "hp"); (case q2 => exact rfl))
  | ((with_reducible refine' i_ixLH ?q1 ?q2 ?_); (case q1 => walk_at "hp"); (case q2 => exact rfl))
  | ((with_reducible refine i_addS ?q1 ?_); (case q1 => walk_at "ln")) | ((with_reducible refine i_lenSS ?q1 ?_); (case q1 => walk_at "ln")) | ((with_reducible refine i_slFrom ?q1 ?q2 ?_); (case q1 => walk_at "ln"); (case q2 => walk_at "ln")) | ((with_reducible refine i_slTo ?q1 ?q2 ?_); (case q1 => walk_at "ln"); (case q2 => walk_at "ln"))
  | ((with_reducible refine' i_tyL ?q1 ?_); (case q1 => walk_at "hp"))
  | ((with_reducible refine' i_gTupH ?q1 ?q2 ?_); (case q1 => walk_at "hp"); (case q2 => exact rfl))
  | (with_reducible refine i_dnew ?_) | (with_reducible refine i_init ?_) | (with_reducible refine i_fst ?_) | (with_reducible refine i_mk ?_) | (with_reducible refine i_mkF ?_) | (with_reducible refine i_raise ?_) | (with_reducible refine i_callS ?_) | (with_reducible refine i_kwS ?_)
  | (with_reducible refine i_revT ?_) | (with_reducible refine i_kw ?_) | ((with_reducible refine' ⟨_, _, rfl, sqT_of ?q1, ?_⟩); (case q1 => walk_at "hp"))
  | (with_reducible refine i_revS ?_) | ((with_reducible refine i_revSS ?q1 ?_); (case q1 => walk_at "ln"))
  | (with_reducible refine i_startS ?_) | (with_reducible refine i_inSg ?_) | (with_reducible refine i_absN ?_) | (with_reducible refine i_min2 ?_) | (with_reducible refine i_max2 ?_) | (with_reducible refine i_min3 ?_) | (with_reducible refine i_intN ?_) | (with_reducible refine i_intNB ?_)
  | ((with_reducible refine' i_lenL ?q1 ?_); (case q1 => walk_at "hp")) | ((with_reducible refine' i_lenT ?q1 ?_); (case q1 => walk_at "hp"))
  | (with_reducible refine i_eqI ?_) | (with_reducible refine i_neI ?_) | (with_reducible refine i_eqS ?_) | (with_reducible refine i_neS ?_) | (with_reducible refine i_isNoI ?_) | (with_reducible refine i_isNoN ?_) | (with_reducible refine i_isNoR ?_)
  | ((with_reducible refine i_pow ?q1 ?q2 ?q3 ?_); (case q1 => decide); (case q2 => decide); (case q3 => (with_reducible omega)))
  | ((with_reducible refine i_rI ?q1 ?_); (case q1 => walk_at "ci"))
  | (with_reducible refine Or.inl ⟨_, rfl, ?_⟩) | (with_reducible refine Or.inr ⟨_, rfl, ?_⟩) | (with_reducible refine ⟨_, rfl, ?_⟩) | (with_reducible refine ⟨_, _, rfl, ?_⟩) | (with_reducible refine ⟨_, _, rfl, rfl, ?_⟩)
  | ((with_reducible refine' ⟨_, _, rfl, Or.inl (sqL_of ?q1), ?_⟩); (case q1 => walk_at "hp")) | ((with_reducible refine' ⟨_, _, rfl, Or.inr (sqT_of ?q1), ?_⟩); (case q1 => walk_at "hp")) | (with_reducible refine i_dget ?_) | (with_reducible refine i_disp1T ?_) | (with_reducible refine i_dcT ?_) | (with_reducible refine i_dnewT ?_) | (with_reducible refine i_fld ?_) | (with_reducible refine i_sFld ?_) | (with_reducible refine i_make ?_) | (with_reducible refine i_meth ?_) | (with_reducible refine i_star ?_) | (with_reducible refine i_isNoS ?_) | (with_reducible refine i_lc2 ?_) | (with_reducible refine i_iEnT ?_) | fail)
local macro_rules | `(tactic| walk_at "rd") => `(tactic| repeat' walk_at "rd1")

/-! ### the exceptions of the program -/
abbrev s_i0 : Stmt := inClass (topS 2) 0
abbrev s_i1 : Stmt := inClass (topS 3) 0
abbrev s_i2 : Stmt := inClass (topS 4) 0
abbrev s_i3 : Stmt := inClass (topS 5) 0
abbrev s_i4 : Stmt := inClass (topS 6) 0
abbrev s_i5 : Stmt := inClass (topS 7) 0
abbrev s_i6 : Stmt := inClass (topS 8) 0
abbrev s_i7 : Stmt := inClass (topS 9) 0
abbrev s_i8 : Stmt := inClass (topS 10) 0
abbrev s_i9 : Stmt := inClass (topS 11) 0
abbrev s_i10 : Stmt := inClass (topS 12) 0
abbrev s_i11 : Stmt := inClass (topS 13) 0
abbrev s_i12 : Stmt := inClass (topS 14) 0
abbrev s_i13 : Stmt := inClass (topS 15) 0
abbrev s_i14 : Stmt := inClass (topS 16) 0
abbrev s_i15 : Stmt := inClass (topS 17) 0
abbrev s_i16 : Stmt := inClass (topS 18) 0
abbrev s_i17 : Stmt := inClass (topS 19) 0
abbrev s_i18 : Stmt := inClass (topS 20) 0
abbrev s_i19 : Stmt := inClass (topS 21) 0
abbrev s_i20 : Stmt := inClass (topS 22) 0
abbrev s_i21 : Stmt := inClass (topS 23) 0
abbrev n_ig : List Str := ["self", "given"]
abbrev n_ic : List Str := ["self", "count"]
abbrev n_ie : List Str := ["self", "errors"]
abbrev n_i0 : List Str := ["self"]
theorem sc_i0 : FnScope n_ig ["self", "given"] (defScope s_i0) := ⟨rfl, rfl, rfl, by decide +kernel, rfl, by decide +kernel, by decide +kernel⟩
theorem sc_i1 : FnScope n_ig ["self", "given"] (defScope s_i1) := ⟨rfl, rfl, rfl, by decide +kernel, rfl, by decide +kernel, by decide +kernel⟩
theorem sc_i2 : FnScope n_ig ["self", "given"] (defScope s_i2) := ⟨rfl, rfl, rfl, by decide +kernel, rfl, by decide +kernel, by decide +kernel⟩
theorem sc_i3 : FnScope n_ig ["self", "given"] (defScope s_i3) := ⟨rfl, rfl, rfl, by decide +kernel, rfl, by decide +kernel, by decide +kernel⟩
theorem sc_i4 : FnScope n_ig ["self", "given"] (defScope s_i4) := ⟨rfl, rfl, rfl, by decide +kernel, rfl, by decide +kernel, by decide +kernel⟩
theorem sc_i5 : FnScope n_ig ["self", "given"] (defScope s_i5) := ⟨rfl, rfl, rfl, by decide +kernel, rfl, by decide +kernel, by decide +kernel⟩
theorem sc_i6 : FnScope n_ig ["self", "given"] (defScope s_i6) := ⟨rfl, rfl, rfl, by decide +kernel, rfl, by decide +kernel, by decide +kernel⟩
theorem sc_i7 : FnScope n_ig ["self", "given"] (defScope s_i7) := ⟨rfl, rfl, rfl, by decide +kernel, rfl, by decide +kernel, by decide +kernel⟩
theorem sc_i8 : FnScope n_ig ["self", "given"] (defScope s_i8) := ⟨rfl, rfl, rfl, by decide +kernel, rfl, by decide +kernel, by decide +kernel⟩
theorem sc_i9 : FnScope n_ig ["self", "given"] (defScope s_i9) := ⟨rfl, rfl, rfl, by decide +kernel, rfl, by decide +kernel, by decide +kernel⟩
theorem sc_i10 : FnScope n_ig ["self", "given"] (defScope s_i10) := ⟨rfl, rfl, rfl, by decide +kernel, rfl, by decide +kernel, by decide +kernel⟩
theorem sc_i11 : FnScope n_ig ["self", "given"] (defScope s_i11) := ⟨rfl, rfl, rfl, by decide +kernel, rfl, by decide +kernel, by decide +kernel⟩
theorem sc_i12 : FnScope n_ig ["self", "given"] (defScope s_i12) := ⟨rfl, rfl, rfl, by decide +kernel, rfl, by decide +kernel, by decide +kernel⟩
theorem sc_i13 : FnScope n_ig ["self", "given"] (defScope s_i13) := ⟨rfl, rfl, rfl, by decide +kernel, rfl, by decide +kernel, by decide +kernel⟩
theorem sc_i14 : FnScope n_ig ["self", "given"] (defScope s_i14) := ⟨rfl, rfl, rfl, by decide +kernel, rfl, by decide +kernel, by decide +kernel⟩
theorem sc_i15 : FnScope n_ic ["self", "count"] (defScope s_i15) := ⟨rfl, rfl, rfl, by decide +kernel, rfl, by decide +kernel, by decide +kernel⟩
theorem sc_i16 : FnScope n_ie ["self", "errors"] (defScope s_i16) := ⟨rfl, rfl, rfl, by decide +kernel, rfl, by decide +kernel, by decide +kernel⟩
theorem sc_i17 : FnScope n_i0 ["self"] (defScope s_i17) := ⟨rfl, rfl, rfl, by decide +kernel, rfl, by decide +kernel, by decide +kernel⟩
theorem sc_i18 : FnScope n_i0 ["self"] (defScope s_i18) := ⟨rfl, rfl, rfl, by decide +kernel, rfl, by decide +kernel, by decide +kernel⟩
theorem sc_i19 : FnScope n_i0 ["self"] (defScope s_i19) := ⟨rfl, rfl, rfl, by decide +kernel, rfl, by decide +kernel, by decide +kernel⟩
theorem sc_i20 : FnScope n_i0 ["self"] (defScope s_i20) := ⟨rfl, rfl, rfl, by decide +kernel, rfl, by decide +kernel, by decide +kernel⟩
theorem sc_i21 : FnScope n_i0 ["self"] (defScope s_i21) := ⟨rfl, rfl, rfl, by decide +kernel, rfl, by decide +kernel, by decide +kernel⟩
section
variable {P : Program} {w : World} {K : PySem.W.Frag} {mg : Str → Option Value} {base : Heap} {f : Addr} {fd : FuncData}
theorem ok_i0 {B : Addr} (F : Fun K "__init__" "InvalidCode.__init__" s_i0 f fd) (o : Over K mg B) : FnOk P w K mg base CX0 1 f fd ["self", "given"] (spInitF K "given") := by
  refine F.ok sc_i0 (fun vs H Q E h => ?_) (fun cdv A outer s H vs Q E hr h => ?_)
  · obtain ⟨a, C, v, rfl, _⟩ := h; rfl
  · obtain ⟨a, C, v, rfl, ha, T, no, k⟩ := h
    refine ⟨_, (pss_cons (ps_expr (ps_init (by rfl) o.hm o.ga o.ty o.rd o.fi (pa_cons (pv 0) (pa_cons pe_str pa_nil))))
      (pss_one (ps_fst (pv 0) (pv 1)))), ?_⟩
    walk_at "rd"
    refine ⟨a, C, _, rfl, by simp, T, ha, ?_⟩
    walk_at "rd"
    exact ⟨a, C, rfl, T, no, ha, fun dx n ne => k dx n ne⟩
theorem ok_i1 {B : Addr} (F : Fun K "__init__" "InvalidCount.__init__" s_i1 f fd) (o : Over K mg B) : FnOk P w K mg base CX0 1 f fd ["self", "given"] (spInitF K "given") := by
  refine F.ok sc_i1 (fun vs H Q E h => ?_) (fun cdv A outer s H vs Q E hr h => ?_)
  · obtain ⟨a, C, v, rfl, _⟩ := h; rfl
  · obtain ⟨a, C, v, rfl, ha, T, no, k⟩ := h
    refine ⟨_, (pss_cons (ps_expr (ps_init (by rfl) o.hm o.ga o.ty o.rd o.fi (pa_cons (pv 0) (pa_cons pe_str pa_nil))))
      (pss_one (ps_fst (pv 0) (pv 1)))), ?_⟩
    walk_at "rd"
    refine ⟨a, C, _, rfl, by simp, T, ha, ?_⟩
    walk_at "rd"
    exact ⟨a, C, rfl, T, no, ha, fun dx n ne => k dx n ne⟩
theorem ok_i2 {B : Addr} (F : Fun K "__init__" "InvalidDecoder.__init__" s_i2 f fd) (o : Over K mg B) : FnOk P w K mg base CX0 1 f fd ["self", "given"] (spInitF K "given") := by
  refine F.ok sc_i2 (fun vs H Q E h => ?_) (fun cdv A outer s H vs Q E hr h => ?_)
  · obtain ⟨a, C, v, rfl, _⟩ := h; rfl
  · obtain ⟨a, C, v, rfl, ha, T, no, k⟩ := h
    refine ⟨_, (pss_cons (ps_expr (ps_init (by rfl) o.hm o.ga o.ty o.rd o.fi (pa_cons (pv 0) (pa_cons pe_str pa_nil))))
      (pss_one (ps_fst (pv 0) (pv 1)))), ?_⟩
    walk_at "rd"
    refine ⟨a, C, _, rfl, by simp, T, ha, ?_⟩
    walk_at "rd"
    exact ⟨a, C, rfl, T, no, ha, fun dx n ne => k dx n ne⟩
theorem ok_i3 {B : Addr} (F : Fun K "__init__" "InvalidEnds.__init__" s_i3 f fd) (o : Over K mg B) : FnOk P w K mg base CX0 1 f fd ["self", "given"] (spInitF K "given") := by
  refine F.ok sc_i3 (fun vs H Q E h => ?_) (fun cdv A outer s H vs Q E hr h => ?_)
  · obtain ⟨a, C, v, rfl, _⟩ := h; rfl
  · obtain ⟨a, C, v, rfl, ha, T, no, k⟩ := h
    refine ⟨_, (pss_cons (ps_expr (ps_init (by rfl) o.hm o.ga o.ty o.rd o.fi (pa_cons (pv 0) (pa_cons pe_str pa_nil))))
      (pss_one (ps_fst (pv 0) (pv 1)))), ?_⟩
    walk_at "rd"
    refine ⟨a, C, _, rfl, by simp, T, ha, ?_⟩
    walk_at "rd"
    exact ⟨a, C, rfl, T, no, ha, fun dx n ne => k dx n ne⟩
theorem ok_i4 {B : Addr} (F : Fun K "__init__" "InvalidKinds.__init__" s_i4 f fd) (o : Over K mg B) : FnOk P w K mg base CX0 1 f fd ["self", "given"] (spInitF K "given") := by
  refine F.ok sc_i4 (fun vs H Q E h => ?_) (fun cdv A outer s H vs Q E hr h => ?_)
  · obtain ⟨a, C, v, rfl, _⟩ := h; rfl
  · obtain ⟨a, C, v, rfl, ha, T, no, k⟩ := h
    refine ⟨_, (pss_cons (ps_expr (ps_init (by rfl) o.hm o.ga o.ty o.rd o.fi (pa_cons (pv 0) (pa_cons pe_str pa_nil))))
      (pss_one (ps_fst (pv 0) (pv 1)))), ?_⟩
    walk_at "rd"
    refine ⟨a, C, _, rfl, by simp, T, ha, ?_⟩
    walk_at "rd"
    exact ⟨a, C, rfl, T, no, ha, fun dx n ne => k dx n ne⟩
theorem ok_i5 {B : Addr} (F : Fun K "__init__" "InvalidKnot.__init__" s_i5 f fd) (o : Over K mg B) : FnOk P w K mg base CX0 1 f fd ["self", "given"] (spInitF K "given") := by
  refine F.ok sc_i5 (fun vs H Q E h => ?_) (fun cdv A outer s H vs Q E hr h => ?_)
  · obtain ⟨a, C, v, rfl, _⟩ := h; rfl
  · obtain ⟨a, C, v, rfl, ha, T, no, k⟩ := h
    refine ⟨_, (pss_cons (ps_expr (ps_init (by rfl) o.hm o.ga o.ty o.rd o.fi (pa_cons (pv 0) (pa_cons pe_str pa_nil))))
      (pss_one (ps_fst (pv 0) (pv 1)))), ?_⟩
    walk_at "rd"
    refine ⟨a, C, _, rfl, by simp, T, ha, ?_⟩
    walk_at "rd"
    exact ⟨a, C, rfl, T, no, ha, fun dx n ne => k dx n ne⟩
theorem ok_i6 {B : Addr} (F : Fun K "__init__" "InvalidLine.__init__" s_i6 f fd) (o : Over K mg B) : FnOk P w K mg base CX0 1 f fd ["self", "given"] (spInitF K "given") := by
  refine F.ok sc_i6 (fun vs H Q E h => ?_) (fun cdv A outer s H vs Q E hr h => ?_)
  · obtain ⟨a, C, v, rfl, _⟩ := h; rfl
  · obtain ⟨a, C, v, rfl, ha, T, no, k⟩ := h
    refine ⟨_, (pss_cons (ps_expr (ps_init (by rfl) o.hm o.ga o.ty o.rd o.fi (pa_cons (pv 0) (pa_cons pe_str pa_nil))))
      (pss_one (ps_fst (pv 0) (pv 1)))), ?_⟩
    walk_at "rd"
    refine ⟨a, C, _, rfl, by simp, T, ha, ?_⟩
    walk_at "rd"
    exact ⟨a, C, rfl, T, no, ha, fun dx n ne => k dx n ne⟩
theorem ok_i7 {B : Addr} (F : Fun K "__init__" "InvalidPair.__init__" s_i7 f fd) (o : Over K mg B) : FnOk P w K mg base CX0 1 f fd ["self", "given"] (spInitF K "given") := by
  refine F.ok sc_i7 (fun vs H Q E h => ?_) (fun cdv A outer s H vs Q E hr h => ?_)
  · obtain ⟨a, C, v, rfl, _⟩ := h; rfl
  · obtain ⟨a, C, v, rfl, ha, T, no, k⟩ := h
    refine ⟨_, (pss_cons (ps_expr (ps_init (by rfl) o.hm o.ga o.ty o.rd o.fi (pa_cons (pv 0) (pa_cons pe_str pa_nil))))
      (pss_one (ps_fst (pv 0) (pv 1)))), ?_⟩
    walk_at "rd"
    refine ⟨a, C, _, rfl, by simp, T, ha, ?_⟩
    walk_at "rd"
    exact ⟨a, C, rfl, T, no, ha, fun dx n ne => k dx n ne⟩
theorem ok_i8 {B : Addr} (F : Fun K "__init__" "InvalidPassing.__init__" s_i8 f fd) (o : Over K mg B) : FnOk P w K mg base CX0 1 f fd ["self", "given"] (spInitF K "given") := by
  refine F.ok sc_i8 (fun vs H Q E h => ?_) (fun cdv A outer s H vs Q E hr h => ?_)
  · obtain ⟨a, C, v, rfl, _⟩ := h; rfl
  · obtain ⟨a, C, v, rfl, ha, T, no, k⟩ := h
    refine ⟨_, (pss_cons (ps_expr (ps_init (by rfl) o.hm o.ga o.ty o.rd o.fi (pa_cons (pv 0) (pa_cons pe_str pa_nil))))
      (pss_one (ps_fst (pv 0) (pv 1)))), ?_⟩
    walk_at "rd"
    refine ⟨a, C, _, rfl, by simp, T, ha, ?_⟩
    walk_at "rd"
    exact ⟨a, C, rfl, T, no, ha, fun dx n ne => k dx n ne⟩
theorem ok_i9 {B : Addr} (F : Fun K "__init__" "InvalidPeriod.__init__" s_i9 f fd) (o : Over K mg B) : FnOk P w K mg base CX0 1 f fd ["self", "given"] (spInitF K "given") := by
  refine F.ok sc_i9 (fun vs H Q E h => ?_) (fun cdv A outer s H vs Q E hr h => ?_)
  · obtain ⟨a, C, v, rfl, _⟩ := h; rfl
  · obtain ⟨a, C, v, rfl, ha, T, no, k⟩ := h
    refine ⟨_, (pss_cons (ps_expr (ps_init (by rfl) o.hm o.ga o.ty o.rd o.fi (pa_cons (pv 0) (pa_cons pe_str pa_nil))))
      (pss_one (ps_fst (pv 0) (pv 1)))), ?_⟩
    walk_at "rd"
    refine ⟨a, C, _, rfl, by simp, T, ha, ?_⟩
    walk_at "rd"
    exact ⟨a, C, rfl, T, no, ha, fun dx n ne => k dx n ne⟩
theorem ok_i10 {B : Addr} (F : Fun K "__init__" "InvalidRow.__init__" s_i10 f fd) (o : Over K mg B) : FnOk P w K mg base CX0 1 f fd ["self", "given"] (spInitF K "given") := by
  refine F.ok sc_i10 (fun vs H Q E h => ?_) (fun cdv A outer s H vs Q E hr h => ?_)
  · obtain ⟨a, C, v, rfl, _⟩ := h; rfl
  · obtain ⟨a, C, v, rfl, ha, T, no, k⟩ := h
    refine ⟨_, (pss_cons (ps_expr (ps_init (by rfl) o.hm o.ga o.ty o.rd o.fi (pa_cons (pv 0) (pa_cons pe_str pa_nil))))
      (pss_one (ps_fst (pv 0) (pv 1)))), ?_⟩
    walk_at "rd"
    refine ⟨a, C, _, rfl, by simp, T, ha, ?_⟩
    walk_at "rd"
    exact ⟨a, C, rfl, T, no, ha, fun dx n ne => k dx n ne⟩
theorem ok_i11 {B : Addr} (F : Fun K "__init__" "InvalidSign.__init__" s_i11 f fd) (o : Over K mg B) : FnOk P w K mg base CX0 1 f fd ["self", "given"] (spInitF K "given") := by
  refine F.ok sc_i11 (fun vs H Q E h => ?_) (fun cdv A outer s H vs Q E hr h => ?_)
  · obtain ⟨a, C, v, rfl, _⟩ := h; rfl
  · obtain ⟨a, C, v, rfl, ha, T, no, k⟩ := h
    refine ⟨_, (pss_cons (ps_expr (ps_init (by rfl) o.hm o.ga o.ty o.rd o.fi (pa_cons (pv 0) (pa_cons pe_str pa_nil))))
      (pss_one (ps_fst (pv 0) (pv 1)))), ?_⟩
    walk_at "rd"
    refine ⟨a, C, _, rfl, by simp, T, ha, ?_⟩
    walk_at "rd"
    exact ⟨a, C, rfl, T, no, ha, fun dx n ne => k dx n ne⟩
theorem ok_i12 {B : Addr} (F : Fun K "__init__" "InvalidSigns.__init__" s_i12 f fd) (o : Over K mg B) : FnOk P w K mg base CX0 1 f fd ["self", "given"] (spInitF K "given") := by
  refine F.ok sc_i12 (fun vs H Q E h => ?_) (fun cdv A outer s H vs Q E hr h => ?_)
  · obtain ⟨a, C, v, rfl, _⟩ := h; rfl
  · obtain ⟨a, C, v, rfl, ha, T, no, k⟩ := h
    refine ⟨_, (pss_cons (ps_expr (ps_init (by rfl) o.hm o.ga o.ty o.rd o.fi (pa_cons (pv 0) (pa_cons pe_str pa_nil))))
      (pss_one (ps_fst (pv 0) (pv 1)))), ?_⟩
    walk_at "rd"
    refine ⟨a, C, _, rfl, by simp, T, ha, ?_⟩
    walk_at "rd"
    exact ⟨a, C, rfl, T, no, ha, fun dx n ne => k dx n ne⟩
theorem ok_i13 {B : Addr} (F : Fun K "__init__" "InvalidSteps.__init__" s_i13 f fd) (o : Over K mg B) : FnOk P w K mg base CX0 1 f fd ["self", "given"] (spInitF K "given") := by
  refine F.ok sc_i13 (fun vs H Q E h => ?_) (fun cdv A outer s H vs Q E hr h => ?_)
  · obtain ⟨a, C, v, rfl, _⟩ := h; rfl
  · obtain ⟨a, C, v, rfl, ha, T, no, k⟩ := h
    refine ⟨_, (pss_cons (ps_expr (ps_init (by rfl) o.hm o.ga o.ty o.rd o.fi (pa_cons (pv 0) (pa_cons pe_str pa_nil))))
      (pss_one (ps_fst (pv 0) (pv 1)))), ?_⟩
    walk_at "rd"
    refine ⟨a, C, _, rfl, by simp, T, ha, ?_⟩
    walk_at "rd"
    exact ⟨a, C, rfl, T, no, ha, fun dx n ne => k dx n ne⟩
theorem ok_i14 {B : Addr} (F : Fun K "__init__" "InvalidText.__init__" s_i14 f fd) (o : Over K mg B) : FnOk P w K mg base CX0 1 f fd ["self", "given"] (spInitF K "given") := by
  refine F.ok sc_i14 (fun vs H Q E h => ?_) (fun cdv A outer s H vs Q E hr h => ?_)
  · obtain ⟨a, C, v, rfl, _⟩ := h; rfl
  · obtain ⟨a, C, v, rfl, ha, T, no, k⟩ := h
    refine ⟨_, (pss_cons (ps_expr (ps_init (by rfl) o.hm o.ga o.ty o.rd o.fi (pa_cons (pv 0) (pa_cons pe_str pa_nil))))
      (pss_one (ps_fst (pv 0) (pv 1)))), ?_⟩
    walk_at "rd"
    refine ⟨a, C, _, rfl, by simp, T, ha, ?_⟩
    walk_at "rd"
    exact ⟨a, C, rfl, T, no, ha, fun dx n ne => k dx n ne⟩
theorem ok_i15 {B : Addr} (F : Fun K "__init__" "TooMany.__init__" s_i15 f fd) (o : Over K mg B) : FnOk P w K mg base CX0 1 f fd ["self", "count"] (spInitF K "count") := by
  refine F.ok sc_i15 (fun vs H Q E h => ?_) (fun cdv A outer s H vs Q E hr h => ?_)
  · obtain ⟨a, C, v, rfl, _⟩ := h; rfl
  · obtain ⟨a, C, v, rfl, ha, T, no, k⟩ := h
    refine ⟨_, (pss_cons (ps_expr (ps_init (by rfl) o.hm o.ga o.ty o.rd o.fi (pa_cons (pv 0) (pa_cons pe_str pa_nil))))
      (pss_one (ps_fst (pv 0) (pv 1)))), ?_⟩
    walk_at "rd"
    refine ⟨a, C, _, rfl, by simp, T, ha, ?_⟩
    walk_at "rd"
    exact ⟨a, C, rfl, T, no, ha, fun dx n ne => k dx n ne⟩
theorem ok_i16 {B : Addr} (F : Fun K "__init__" "Endless.__init__" s_i16 f fd) (o : Over K mg B) : FnOk P w K mg base CX0 1 f fd ["self", "errors"] (spInitF K "errors") := by
  refine F.ok sc_i16 (fun vs H Q E h => ?_) (fun cdv A outer s H vs Q E hr h => ?_)
  · obtain ⟨a, C, v, rfl, _⟩ := h; rfl
  · obtain ⟨a, C, v, rfl, ha, T, no, k⟩ := h
    refine ⟨_, (pss_cons (ps_expr (ps_init (by rfl) o.hm o.ga o.ty o.rd o.fi (pa_cons (pv 0) (pa_cons pe_str pa_nil))))
      (pss_one (ps_fst (pv 0) (pv 1)))), ?_⟩
    walk_at "rd"
    refine ⟨a, C, _, rfl, by simp, T, ha, ?_⟩
    walk_at "rd"
    exact ⟨a, C, rfl, T, no, ha, fun dx n ne => k dx n ne⟩
theorem ok_i17 {B : Addr} (F : Fun K "__init__" "NotPinned.__init__" s_i17 f fd) (o : Over K mg B) : FnOk P w K mg base CX0 1 f fd ["self"] (spInit0 K) := by
  refine F.ok sc_i17 (fun vs H Q E h => ?_) (fun cdv A outer s H vs Q E hr h => ?_)
  · obtain ⟨a, C, rfl, _⟩ := h; rfl
  · obtain ⟨a, C, rfl, ha, T, k⟩ := h
    refine ⟨_, pss_one (ps_expr (ps_init (by rfl) o.hm o.ga o.ty o.rd o.fi (pa_cons (pv 0) (pa_cons pe_str pa_nil)))), ?_⟩
    walk_at "rd"
    refine ⟨a, C, _, rfl, by simp, T, ha, ?_⟩
    walk_at "rd"
    exact k
theorem ok_i18 {B : Addr} (F : Fun K "__init__" "NotSteady.__init__" s_i18 f fd) (o : Over K mg B) : FnOk P w K mg base CX0 1 f fd ["self"] (spInit0 K) := by
  refine F.ok sc_i18 (fun vs H Q E h => ?_) (fun cdv A outer s H vs Q E hr h => ?_)
  · obtain ⟨a, C, rfl, _⟩ := h; rfl
  · obtain ⟨a, C, rfl, ha, T, k⟩ := h
    refine ⟨_, pss_one (ps_expr (ps_init (by rfl) o.hm o.ga o.ty o.rd o.fi (pa_cons (pv 0) (pa_cons pe_str pa_nil)))), ?_⟩
    walk_at "rd"
    refine ⟨a, C, _, rfl, by simp, T, ha, ?_⟩
    walk_at "rd"
    exact k
theorem ok_i19 {B : Addr} (F : Fun K "__init__" "NotReturning.__init__" s_i19 f fd) (o : Over K mg B) : FnOk P w K mg base CX0 1 f fd ["self"] (spInit0 K) := by
  refine F.ok sc_i19 (fun vs H Q E h => ?_) (fun cdv A outer s H vs Q E hr h => ?_)
  · obtain ⟨a, C, rfl, _⟩ := h; rfl
  · obtain ⟨a, C, rfl, ha, T, k⟩ := h
    refine ⟨_, pss_one (ps_expr (ps_init (by rfl) o.hm o.ga o.ty o.rd o.fi (pa_cons (pv 0) (pa_cons pe_str pa_nil)))), ?_⟩
    walk_at "rd"
    refine ⟨a, C, _, rfl, by simp, T, ha, ?_⟩
    walk_at "rd"
    exact k
theorem ok_i20 {B : Addr} (F : Fun K "__init__" "OneWord.__init__" s_i20 f fd) (o : Over K mg B) : FnOk P w K mg base CX0 1 f fd ["self"] (spInit0 K) := by
  refine F.ok sc_i20 (fun vs H Q E h => ?_) (fun cdv A outer s H vs Q E hr h => ?_)
  · obtain ⟨a, C, rfl, _⟩ := h; rfl
  · obtain ⟨a, C, rfl, ha, T, k⟩ := h
    refine ⟨_, pss_one (ps_expr (ps_init (by rfl) o.hm o.ga o.ty o.rd o.fi (pa_cons (pv 0) (pa_cons pe_str pa_nil)))), ?_⟩
    walk_at "rd"
    refine ⟨a, C, _, rfl, by simp, T, ha, ?_⟩
    walk_at "rd"
    exact k
theorem ok_i21 {B : Addr} (F : Fun K "__init__" "NoLag.__init__" s_i21 f fd) (o : Over K mg B) : FnOk P w K mg base CX0 1 f fd ["self"] (spInit0 K) := by
  refine F.ok sc_i21 (fun vs H Q E h => ?_) (fun cdv A outer s H vs Q E hr h => ?_)
  · obtain ⟨a, C, rfl, _⟩ := h; rfl
  · obtain ⟨a, C, rfl, ha, T, k⟩ := h
    refine ⟨_, pss_one (ps_expr (ps_init (by rfl) o.hm o.ga o.ty o.rd o.fi (pa_cons (pv 0) (pa_cons pe_str pa_nil)))), ?_⟩
    walk_at "rd"
    refine ⟨a, C, _, rfl, by simp, T, ha, ?_⟩
    walk_at "rd"
    exact k
end
abbrev csL (C0 C1 C2 C3 C4 C5 C6 C7 C8 C9 C10 C11 C12 C13 C14 C15 C16 C17 C18 C19 C20 C21 : Addr) : List Addr := [C0, C1, C2, C3, C4, C5, C6, C7, C8, C9, C10, C11, C12, C13, C14, C15, C16, C17, C18, C19, C20, C21]
abbrev fl17 : List Str := ["given", "given", "given", "given", "given", "given", "given", "given", "given", "given", "given", "given", "given", "given", "given", "count", "errors"]
/-- the classes, all different -/
structure XS (P : Program) (w : World) (K : PySem.W.Frag) (mg : Str → Option Value) (base : Heap) (B C0 C1 C2 C3 C4 C5 C6 C7 C8 C9 C10 C11 C12 C13 C14 C15 C16 C17 C18 C19 C20 C21 : Addr) : Prop where
  x0 : XV "InvalidCode" "given" P w K mg base B C0
  x1 : XV "InvalidCount" "given" P w K mg base B C1
  x2 : XV "InvalidDecoder" "given" P w K mg base B C2
  x3 : XV "InvalidEnds" "given" P w K mg base B C3
  x4 : XV "InvalidKinds" "given" P w K mg base B C4
  x5 : XV "InvalidKnot" "given" P w K mg base B C5
  x6 : XV "InvalidLine" "given" P w K mg base B C6
  x7 : XV "InvalidPair" "given" P w K mg base B C7
  x8 : XV "InvalidPassing" "given" P w K mg base B C8
  x9 : XV "InvalidPeriod" "given" P w K mg base B C9
  x10 : XV "InvalidRow" "given" P w K mg base B C10
  x11 : XV "InvalidSign" "given" P w K mg base B C11
  x12 : XV "InvalidSigns" "given" P w K mg base B C12
  x13 : XV "InvalidSteps" "given" P w K mg base B C13
  x14 : XV "InvalidText" "given" P w K mg base B C14
  x15 : XV "TooMany" "count" P w K mg base B C15
  x16 : XV "Endless" "errors" P w K mg base B C16
  x17 : XV0 "NotPinned" P w K mg base B C17
  x18 : XV0 "NotSteady" P w K mg base B C18
  x19 : XV0 "NotReturning" P w K mg base B C19
  x20 : XV0 "OneWord" P w K mg base B C20
  x21 : XV0 "NoLag" P w K mg base B C21
  nd : (csL C0 C1 C2 C3 C4 C5 C6 C7 C8 C9 C10 C11 C12 C13 C14 C15 C16 C17 C18 C19 C20 C21).Nodup
  ob : OVB K B
  hB : mg "CodecError" = some (.ref B)
  sB : PySem.W.subIn K (.ref B) (.type "BaseException") = some true
theorem XV.xf {x f : Str} {P : Program} {w : World} {K : PySem.W.Frag} {mg : Str → Option Value} {base : Heap} {B C : Addr} (x : XV x f P w K mg base B C) : XfC K C := x.ov.f.xf
theorem XS.ov {P : Program} {w : World} {K : PySem.W.Frag} {mg : Str → Option Value} {base : Heap} {B C0 C1 C2 C3 C4 C5 C6 C7 C8 C9 C10 C11 C12 C13 C14 C15 C16 C17 C18 C19 C20 C21 : Addr} (xs : XS P w K mg base B C0 C1 C2 C3 C4 C5 C6 C7 C8 C9 C10 C11 C12 C13 C14 C15 C16 C17 C18 C19 C20 C21) : ∀ C ∈ csL C0 C1 C2 C3 C4 C5 C6 C7 C8 C9 C10 C11 C12 C13 C14 C15 C16 C17 C18 C19 C20 C21, OV K B C := fun C h => by
  simp only [List.mem_cons, List.not_mem_nil, or_false] at h
  rcases h with rfl | rfl | rfl | rfl | rfl | rfl | rfl | rfl | rfl | rfl | rfl | rfl | rfl | rfl | rfl | rfl | rfl | rfl | rfl | rfl | rfl | rfl
  · exact xs.x0.ov
  · exact xs.x1.ov
  · exact xs.x2.ov
  · exact xs.x3.ov
  · exact xs.x4.ov
  · exact xs.x5.ov
  · exact xs.x6.ov
  · exact xs.x7.ov
  · exact xs.x8.ov
  · exact xs.x9.ov
  · exact xs.x10.ov
  · exact xs.x11.ov
  · exact xs.x12.ov
  · exact xs.x13.ov
  · exact xs.x14.ov
  · exact xs.x15.ov
  · exact xs.x16.ov
  · exact xs.x17.ov
  · exact xs.x18.ov
  · exact xs.x19.ov
  · exact xs.x20.ov
  · exact xs.x21.ov
end Sw
namespace Sw
open PySem PySem.Spec PyProof.Rows L2
local macro_rules | `(tactic| walk_at "hp") => `(tactic| first
  | (with_reducible assumption) | (with_reducible exact upd_same)
  | ((with_reducible refine' upd_old ?q1 ?q2); (case q1 => (with_reducible assumption)); (case q2 => walk_at "hp"))
  | ((with_reducible refine' Same.at ?q1 ?q2); (case q1 => (with_reducible assumption)); (case q2 => walk_at "hp"))
  | ((with_reducible refine' upd_skip ?q1 ?q2); (case q1 => walk_at "ne"); (case q2 => walk_at "hp"))
  | fail)
local macro_rules | `(tactic| walk_at "ne") => `(tactic| first
  | (with_reducible assumption) | (with_reducible exact Ne.symm (by assumption))
  | ((with_reducible refine' ne_of_none ?q1 ?q2); (case q2 => (with_reducible assumption)); (case q1 => walk_at "hp"))
  | fail)
local macro_rules | `(tactic| walk_at "ci") => `(tactic| first | assumption | (show (0 : Int) < _; first | decide | (with_reducible omega)) | exact ⟨by decide, by decide⟩ | exact .inl ⟨by decide, by decide⟩ | exact .inr ⟨by decide, by decide⟩)
local macro_rules | `(tactic| walk_at "ln") => `(tactic| first | (with_reducible assumption) | (with_reducible omega) | (simp only [List.length_append, List.length_take, List.length_drop, List.length_reverse, List.length_cons, List.length_nil]; with_reducible omega))
local macro_rules | `(tactic| walk_at "rd1") => `(tactic| first
  | (with_reducible refine i_seq ?_) | (with_reducible refine i_asg ?_) | (with_reducible refine i_ret ?_) | (with_reducible refine i_name ?_) | ((with_reducible refine' i_var ?q1 ?_); (case q1 => exact rfl)) | (with_reducible refine i_c ?_) | (with_reducible refine i_op ?_) | (with_reducible refine i_un ?_)
  | (with_reducible refine i_rI0 ?_) | (with_reducible refine i_cb ?_) | (with_reducible refine i_cons ?_) | (with_reducible refine i_nil ?_) | (with_reducible refine i_call ?_) | (with_reducible refine i_if ?_) | (with_reducible refine i_ifE ?_) | (with_reducible refine i_test ?_) | (with_reducible refine i_bl ?_)
  | (with_reducible refine i_and ?_) | (with_reducible refine i_or ?_) | (with_reducible refine i_not ?_) | (with_reducible refine i_lstM ?_) | (with_reducible refine i_lstLM ?_) | (with_reducible refine i_tupM ?_) | (with_reducible refine i_next ?_) | (with_reducible refine i_drop ?_) | (with_reducible refine i_sub ?_)
  | (with_reducible refine i_bm ?_) | (with_reducible refine i_sl ?_) | (with_reducible refine i_part ?_) | (with_reducible refine i_nopart ?_) | (with_reducible refine i_exI ?_) | (with_reducible refine i_chain ?_) | ((with_reducible refine' i_aug ?q1 ?_); (case q1 => exact rfl)) | (with_reducible refine i_ip ?_)
  | (with_reducible refine i_par ?_) | (with_reducible refine i_pair ?_) | (with_reducible refine i_andV ?_) | (with_reducible refine i_orV ?_) | (with_reducible refine i_notV ?_) | (with_reducible refine i_m1 ?_) | (with_reducible refine i_str ?_)
  | (with_reducible refine iteF ?_) | (with_reducible refine iteT ?_) | (with_reducible refine iteNT ?_) | (with_reducible refine iteNF ?_) | (with_reducible refine i_tyS ?_) | (with_reducible refine i_tB ?_) | (with_reducible refine i_retN ?_) | (with_reducible refine i_par3 ?_) | (with_reducible refine i_trip ?_) | (with_reducible refine i_gCons ?_) | (with_reducible refine i_gNil ?_) | (with_reducible refine i_lstRg ?_) | (with_reducible refine i_rg1 ?_)
  | (with_reducible refine i_lc ?_) | (with_reducible refine i_for ?_) | (with_reducible refine i_iList ?_) | (with_reducible refine i_iTup ?_) | (with_reducible refine i_iStr ?_) | (with_reducible refine i_iRng1 ?_) | (with_reducible refine i_iEnS ?_)
  | ((with_reducible refine' i_ixTH ?q1 ?q2 ?_); (case q1 => walk_at "hp"); (case q2 => exact rfl))
  | ((with_reducible refine' i_ixLH ?q1 ?q2 ?_); (case q1 => walk_at "hp"); (case q2 => exact rfl))
  | ((with_reducible refine i_addS ?q1 ?_); (case q1 => walk_at "ln")) | ((with_reducible refine i_lenSS ?q1 ?_); (case q1 => walk_at "ln")) | ((with_reducible refine i_slFrom ?q1 ?q2 ?_); (case q1 => walk_at "ln"); (case q2 => walk_at "ln")) | ((with_reducible refine i_slTo ?q1 ?q2 ?_); (case q1 => walk_at "ln"); (case q2 => walk_at "ln"))
  | ((with_reducible refine' i_tyL ?q1 ?_); (case q1 => walk_at "hp"))
  | ((with_reducible refine' i_gTupH ?q1 ?q2 ?_); (case q1 => walk_at "hp"); (case q2 => exact rfl))
  | (with_reducible refine i_dnewM ?_) | (with_reducible refine i_init ?_) | (with_reducible refine i_fst ?_) | (with_reducible refine i_mk ?_) | (with_reducible refine i_mkF ?_) | (with_reducible refine i_raise ?_) | (with_reducible refine i_callS ?_) | (with_reducible refine i_kwS ?_)
  | (with_reducible refine i_revT ?_) | (with_reducible refine i_kw ?_) | ((with_reducible refine' ⟨_, _, rfl, sqT_of ?q1, ?_⟩); (case q1 => walk_at "hp"))
  | (with_reducible refine i_revS ?_) | ((with_reducible refine i_revSS ?q1 ?_); (case q1 => walk_at "ln"))
  | (with_reducible refine i_startS ?_) | (with_reducible refine i_inSg ?_) | (with_reducible refine i_absN ?_) | (with_reducible refine i_min2 ?_) | (with_reducible refine i_max2 ?_) | (with_reducible refine i_min3 ?_) | (with_reducible refine i_intN ?_) | (with_reducible refine i_intNB ?_)
  | ((with_reducible refine' i_lenL ?q1 ?_); (case q1 => walk_at "hp")) | ((with_reducible refine' i_lenT ?q1 ?_); (case q1 => walk_at "hp"))
  | (with_reducible refine i_eqI ?_) | (with_reducible refine i_neI ?_) | (with_reducible refine i_eqS ?_) | (with_reducible refine i_neS ?_) | (with_reducible refine i_isNoI ?_) | (with_reducible refine i_isNoN ?_) | (with_reducible refine i_isNoR ?_)
  | ((with_reducible refine i_pow ?q1 ?q2 ?q3 ?_); (case q1 => decide); (case q2 => decide); (case q3 => (with_reducible omega)))
  | ((with_reducible refine i_rI ?q1 ?_); (case q1 => walk_at "ci"))
  | (with_reducible refine Or.inl ⟨_, rfl, ?_⟩) | (with_reducible refine Or.inr ⟨_, rfl, ?_⟩) | (with_reducible refine ⟨_, rfl, ?_⟩) | (with_reducible refine ⟨_, _, rfl, ?_⟩) | (with_reducible refine ⟨_, _, rfl, rfl, ?_⟩)
  | ((with_reducible refine' ⟨_, _, rfl, Or.inl (sqL_of ?q1), ?_⟩); (case q1 => walk_at "hp")) | ((with_reducible refine' ⟨_, _, rfl, Or.inr (sqT_of ?q1), ?_⟩); (case q1 => walk_at "hp")) | (with_reducible refine i_dget ?_) | (with_reducible refine i_disp1T ?_) | (with_reducible refine i_dcT ?_) | (with_reducible refine i_dnewT ?_) | (with_reducible refine i_fld ?_) | (with_reducible refine i_sFld ?_) | (with_reducible refine i_make ?_) | (with_reducible refine i_meth ?_) | (with_reducible refine i_star ?_) | (with_reducible refine i_isNoS ?_) | (with_reducible refine i_lc2 ?_) | (with_reducible refine i_iEnT ?_) | (with_reducible refine i_iZipT ?_) | fail)
local macro_rules | `(tactic| walk_at "rd") => `(tactic| repeat' walk_at "rd1")

local macro_rules | `(tactic| walk_at "rd1") => `(tactic| first | (with_reducible refine i_mkVt ?_) | (with_reducible refine i_xvt ?_))
theorem i_catN {a c : Addr} {xs ys : List V} {H : Hp} {Q : VK} (h : H a = some (.lst xs)) (h2 : H c = some (.lst ys)) (l : xs.length + ys.length ≤ 1000) (k : ∀ t H', H t = none → Same H H' → H' t = some (.lst (xs ++ ys)) → Q (.ref t) H') : rCat (.ref a) (.ref c) H Q :=
  ⟨a, c, xs, ys, rfl, rfl, h, h2, Nat.le_trans l (Nat.le_of_ble_eq_true rfl), fun p np => k p _ np (same_upd np) upd_same⟩
theorem i_eqOne {K : PySem.W.Frag} {H : Hp} {a b : Addr} {x : V} {d : PyData} {n w : Nat} {Q : VK} (h1 : H a = some (.lst [x])) (h2 : H b = some (.lst [x])) (hx : De K H x d) (s : Sd n w d) (z : d.hasDict = false) (hn : n ≤ 40) (e : PyData.eqv d d = true) (k : Q (.bl true) H) : rEqD K (.ref a) (.ref b) H Q := by
  have sl : Sd (n + 1) (0 + (w + 1)) (.list [d]) := (sd_lst' (.cons s .nil)).mono (by omega) (by omega)
  have fl : (PyData.list [d]).hasDict = false := by simp [PyData.hasDict, PyData.hasDictAll, z]
  refine ⟨.list [d], .list [d], .lst (sqL_of h1) (.cons (hx.dp z) .nil), .lst (sqL_of h2) (.cons (hx.dp z) .nil), sl.shaped (by omega) fl, sl.shaped (by omega) fl, ?_⟩
  rw [show PyData.eqv (.list [d]) (.list [d]) = true by simp only [PyData.eqv, PyData.eqvAll, e, Bool.and_self]]
  exact k
theorem sm100 {n : Nat} (h : n ≤ 1000) : n < sizeLine := Nat.lt_of_le_of_lt h (Nat.lt_of_lt_of_le (by decide : 1000 < 100000) (Nat.le_of_ble_eq_true rfl))
abbrev iV (n : Nat) : V := .int (n : Int)
/-- exceptions of the classes cs with the fields fs, v in each -/
inductive EvL (H : Hp) (v : V) : List Addr → List Addr → List Str → Prop
  | nil {cs : List Addr} : EvL H v [] cs []
  | cons {a C : Addr} {f : Str} {as cs : List Addr} {fs : List Str} : EvAt H a C [(f, v)] → EvL H v as cs fs → EvL H v (a :: as) (C :: cs) (f :: fs)
theorem EvL.same {H H' : Hp} (s : Same H H') {v : V} : ∀ {as cs : List Addr} {fs : List Str}, EvL H v as cs fs → EvL H' v as cs fs
  | _, _, _, .nil => .nil
  | _, _, _, .cons h t => .cons (h.same s) (EvL.same s t)
theorem EvL.len {H : Hp} {v : V} : ∀ {as cs : List Addr} {fs : List Str}, EvL H v as cs fs → as.length = fs.length
  | _, _, _, .nil => rfl
  | _, _, _, .cons _ t => by rw [List.length_cons, List.length_cons, EvL.len t]
theorem EvL.get {H : Hp} {v : V} : ∀ {as cs : List Addr} {fs : List Str} {i : Nat}, EvL H v as cs fs → i < fs.length → ∃ a C f, as[i]? = some a ∧ cs[i]? = some C ∧ fs[i]? = some f ∧ EvAt H a C [(f, v)]
  | _, _, _, _, .nil, h => absurd h (Nat.not_lt_zero _)
  | _, _, _, 0, .cons h _, _ => ⟨_, _, _, rfl, rfl, rfl, h⟩
  | _, _, _, _ + 1, .cons _ t, h => by
    obtain ⟨a, C, f, h1, h2, h3, h4⟩ := EvL.get t (Nat.lt_of_succ_lt_succ h)
    exact ⟨a, C, f, h1, h2, h3, h4⟩
theorem nd_ne {l : List Addr} (nd : l.Nodup) {i j : Nat} {x y : Addr} (hi : l[i]? = some x) (hj : l[j]? = some y) (h : i ≠ j) : x ≠ y := fun e => by
  subst e
  obtain ⟨h1, e1⟩ := List.getElem?_eq_some_iff.mp hi
  obtain ⟨h2, e2⟩ := List.getElem?_eq_some_iff.mp hj
  have q := List.pairwise_iff_getElem.mp nd
  rcases Nat.lt_or_gt_of_ne h with c | c
  · exact q i j h1 h2 c (e1.trans e2.symm)
  · exact q j i h2 h1 c (e2.trans e1.symm)
theorem filt_one : ∀ {n i : Nat}, i < n → (List.range n).filter (fun k => decide (k = i)) = [i]
  | n + 1, i, h => by
    rw [List.range_succ, List.filter_append]
    by_cases c : i = n
    · subst c
      rw [List.filter_cons_of_pos (by simp), List.filter_nil, List.filter_eq_nil_iff.mpr (fun x hx => by have := List.mem_range.mp hx; simp; omega)]; rfl
    · rw [filt_one (by omega), List.filter_cons_of_neg (by simp; omega), List.filter_nil, List.append_nil]
def spPl (CS : List Addr) : Sp := fun vs H Q _ => ∃ v, vs = [v] ∧ ∀ q as H', H q = none → Same H H' → H' q = some (.lst (as.map V.ref)) → EvL H' v as CS fl17 → Q (.ref q) H'
def spSorts (CS : List Addr) : Sp := fun vs H Q _ => ∃ (a C : Addr) (fs : List (Str × V)), vs = [.ref a] ∧ EvAt H a C fs ∧ C ∈ CS ∧ ∀ q H', H q = none → Same H H' → H' q = some (.lst (CS.map fun D => .bl (decide (C = D)))) → Q (.ref q) H'
def spKept (CS : List Addr) : Sp := fun vs H Q _ => ∃ (a C : Addr) (f : Str) (v : V) (i : Nat), vs = [.ref a] ∧ EvAt H a C [(f, v)] ∧ CS[i]? = some C ∧ fl17[i]? = some f ∧ Q v H
def spIs (CS : List Addr) : Sp := fun vs H Q _ => ∃ (a C : Addr) (fs : List (Str × V)) (i : Nat), vs = [.ref a, .int i] ∧ EvAt H a C fs ∧ CS[i]? = some C ∧ ∀ H', Same H H' → Q (.bl true) H'
section
variable {P : Program} {w : World} {K : PySem.W.Frag} {mg : Str → Option Value} {base : Heap} {f : Addr} {fd : FuncData} {B C0 C1 C2 C3 C4 C5 C6 C7 C8 C9 C10 C11 C12 C13 C14 C15 C16 C17 C18 C19 C20 C21 : Addr}
theorem ok_place (F : Fun K "_law_by_place" "_law_by_place" s__law_by_place f fd) (z : Z mg) (xs : XS P w K mg base B C0 C1 C2 C3 C4 C5 C6 C7 C8 C9 C10 C11 C12 C13 C14 C15 C16 C17 C18 C19 C20 C21) : FnOk P w K mg base CX0 3 f fd ["thing"] (spPl (csL C0 C1 C2 C3 C4 C5 C6 C7 C8 C9 C10 C11 C12 C13 C14 C15 C16 C17 C18 C19 C20 C21)) := by
  refine F.ok sc__law_by_place (fun vs H Q E h => ?_) (fun cdv A outer s H vs Q E hr h => ?_)
  · obtain ⟨v, rfl, _⟩ := h; rfl
  · obtain ⟨v, rfl, k⟩ := h
    refine ⟨_, (pss_cons (ps_set (i := 1) sc__law_by_place.nd rfl (.inl rfl) (pe_lst (pa_cons (pe_V xs.x0 hr (pv 0)) (pa_cons (pe_V xs.x1 hr (pv 0)) (pa_cons (pe_V xs.x2 hr (pv 0)) (pa_cons (pe_V xs.x3 hr (pv 0)) (pa_cons (pe_V xs.x4 hr (pv 0)) pa_nil)))))))
      (pss_cons (ps_set (i := 1) sc__law_by_place.nd rfl (.inl rfl) (pe_op op_cat (pv 1) (pe_lst (pa_cons (pe_V xs.x5 hr (pv 0)) (pa_cons (pe_V xs.x6 hr (pv 0)) (pa_cons (pe_V xs.x7 hr (pv 0)) (pa_cons (pe_V xs.x8 hr (pv 0)) pa_nil)))))))
      (pss_cons (ps_set (i := 1) sc__law_by_place.nd rfl (.inl rfl) (pe_op op_cat (pv 1) (pe_lst (pa_cons (pe_V xs.x9 hr (pv 0)) (pa_cons (pe_V xs.x10 hr (pv 0)) (pa_cons (pe_V xs.x11 hr (pv 0)) (pa_cons (pe_V xs.x12 hr (pv 0)) pa_nil)))))))
      (pss_one (ps_ret (pe_op op_cat (pv 1) (pe_lst (pa_cons (pe_V xs.x13 hr (pv 0)) (pa_cons (pe_V xs.x14 hr (pv 0)) (pa_cons (pe_V xs.x15 hr (pv 0)) (pa_cons (pe_V xs.x16 hr (pv 0)) pa_nil))))))))))), ?_⟩
    have s0 := Same.refl H
    walk_at "rd"
    refine i_mkV xs.x0.ov xs.x0.no fun a0 G0 n0 t0 v0 => ?_
    walk_at "rd"
    refine i_mkV xs.x1.ov xs.x1.no fun a1 G1 n1 t1 v1 => ?_
    walk_at "rd"
    refine i_mkV xs.x2.ov xs.x2.no fun a2 G2 n2 t2 v2 => ?_
    walk_at "rd"
    refine i_mkV xs.x3.ov xs.x3.no fun a3 G3 n3 t3 v3 => ?_
    walk_at "rd"
    refine i_mkV xs.x4.ov xs.x4.no fun a4 G4 n4 t4 v4 => ?_
    walk_at "rd"
    refine newL0 (Nat.le_of_ble_eq_true rfl) fun p0 L0 np0 u0 e0 => ?_
    walk_at "rd"
    refine i_mkV xs.x5.ov xs.x5.no fun a5 G5 n5 t5 v5 => ?_
    walk_at "rd"
    refine i_mkV xs.x6.ov xs.x6.no fun a6 G6 n6 t6 v6 => ?_
    walk_at "rd"
    refine i_mkV xs.x7.ov xs.x7.no fun a7 G7 n7 t7 v7 => ?_
    walk_at "rd"
    refine i_mkV xs.x8.ov xs.x8.no fun a8 G8 n8 t8 v8 => ?_
    walk_at "rd"
    refine newL0 (Nat.le_of_ble_eq_true rfl) fun p1 L1 np1 u1 e1 => ?_
    refine i_catN ((t5.trans (t6.trans (t7.trans (t8.trans u1)))) _ _ e0) e1 (by simp only [List.length_append, List.length_cons, List.length_nil]; omega) fun c1 M1 nc1 w1 f1 => ?_
    walk_at "rd"
    refine i_mkV xs.x9.ov xs.x9.no fun a9 G9 n9 t9 v9 => ?_
    walk_at "rd"
    refine i_mkV xs.x10.ov xs.x10.no fun a10 G10 n10 t10 v10 => ?_
    walk_at "rd"
    refine i_mkV xs.x11.ov xs.x11.no fun a11 G11 n11 t11 v11 => ?_
    walk_at "rd"
    refine i_mkV xs.x12.ov xs.x12.no fun a12 G12 n12 t12 v12 => ?_
    walk_at "rd"
    refine newL0 (Nat.le_of_ble_eq_true rfl) fun p2 L2 np2 u2 e2 => ?_
    refine i_catN ((t9.trans (t10.trans (t11.trans (t12.trans u2)))) _ _ f1) e2 (by simp only [List.length_append, List.length_cons, List.length_nil]; omega) fun c2 M2 nc2 w2 f2 => ?_
    walk_at "rd"
    refine i_mkV xs.x13.ov xs.x13.no fun a13 G13 n13 t13 v13 => ?_
    walk_at "rd"
    refine i_mkV xs.x14.ov xs.x14.no fun a14 G14 n14 t14 v14 => ?_
    walk_at "rd"
    refine i_mkV xs.x15.ov xs.x15.no fun a15 G15 n15 t15 v15 => ?_
    walk_at "rd"
    refine i_mkV xs.x16.ov xs.x16.no fun a16 G16 n16 t16 v16 => ?_
    walk_at "rd"
    refine newL0 (Nat.le_of_ble_eq_true rfl) fun p3 L3 np3 u3 e3 => ?_
    refine i_catN ((t13.trans (t14.trans (t15.trans (t16.trans u3)))) _ _ f2) e3 (by simp only [List.length_append, List.length_cons, List.length_nil]; omega) fun c3 M3 nc3 w3 f3 => ?_
    have y23 := w3
    have y22 := u3.trans y23
    have y21 := t16.trans y22
    have y20 := t15.trans y21
    have y19 := t14.trans y20
    have y18 := t13.trans y19
    have y17 := w2.trans y18
    have y16 := u2.trans y17
    have y15 := t12.trans y16
    have y14 := t11.trans y15
    have y13 := t10.trans y14
    have y12 := t9.trans y13
    have y11 := w1.trans y12
    have y10 := u1.trans y11
    have y9 := t8.trans y10
    have y8 := t7.trans y9
    have y7 := t6.trans y8
    have y6 := t5.trans y7
    have y5 := u0.trans y6
    have y4 := t4.trans y5
    have y3 := t3.trans y4
    have y2 := t2.trans y3
    have y1 := t1.trans y2
    have y0 := t0.trans y1
    exact k c3 [a0, a1, a2, a3, a4, a5, a6, a7, a8, a9, a10, a11, a12, a13, a14, a15, a16] _ (Same.free (t0.trans (t1.trans (t2.trans (t3.trans (t4.trans (u0.trans (t5.trans (t6.trans (t7.trans (t8.trans (u1.trans (w1.trans (t9.trans (t10.trans (t11.trans (t12.trans (u2.trans (w2.trans (t13.trans (t14.trans (t15.trans (t16.trans u3)))))))))))))))))))))) nc3) y0 f3 (.cons (v0.same y1) (.cons (v1.same y2) (.cons (v2.same y3) (.cons (v3.same y4) (.cons (v4.same y5) (.cons (v5.same y7) (.cons (v6.same y8) (.cons (v7.same y9) (.cons (v8.same y10) (.cons (v9.same y13) (.cons (v10.same y14) (.cons (v11.same y15) (.cons (v12.same y16) (.cons (v13.same y19) (.cons (v14.same y20) (.cons (v15.same y21) (.cons (v16.same y22) .nil)))))))))))))))))
theorem ok_name (F : Fun K "_law_by_name" "_law_by_name" s__law_by_name f fd) (z : Z mg) (xs : XS P w K mg base B C0 C1 C2 C3 C4 C5 C6 C7 C8 C9 C10 C11 C12 C13 C14 C15 C16 C17 C18 C19 C20 C21) : FnOk P w K mg base CX0 3 f fd ["thing"] (spPl (csL C0 C1 C2 C3 C4 C5 C6 C7 C8 C9 C10 C11 C12 C13 C14 C15 C16 C17 C18 C19 C20 C21)) := by
  refine F.ok sc__law_by_name (fun vs H Q E h => ?_) (fun cdv A outer s H vs Q E hr h => ?_)
  · obtain ⟨v, rfl, _⟩ := h; rfl
  · obtain ⟨v, rfl, k⟩ := h
    refine ⟨_, (pss_cons (ps_set (i := 1) sc__law_by_name.nd rfl (.inl rfl) (pe_lst (pa_cons (pe_VK xs.x0 hr (pv 0)) (pa_cons (pe_VK xs.x1 hr (pv 0)) (pa_cons (pe_VK xs.x2 hr (pv 0)) pa_nil)))))
      (pss_cons (ps_set (i := 1) sc__law_by_name.nd rfl (.inl rfl) (pe_op op_cat (pv 1) (pe_lst (pa_cons (pe_VK xs.x3 hr (pv 0)) (pa_cons (pe_VK xs.x4 hr (pv 0)) (pa_cons (pe_VK xs.x5 hr (pv 0)) pa_nil))))))
      (pss_cons (ps_set (i := 1) sc__law_by_name.nd rfl (.inl rfl) (pe_op op_cat (pv 1) (pe_lst (pa_cons (pe_VK xs.x6 hr (pv 0)) (pa_cons (pe_VK xs.x7 hr (pv 0)) (pa_cons (pe_VK xs.x8 hr (pv 0)) pa_nil))))))
      (pss_cons (ps_set (i := 1) sc__law_by_name.nd rfl (.inl rfl) (pe_op op_cat (pv 1) (pe_lst (pa_cons (pe_VK xs.x9 hr (pv 0)) (pa_cons (pe_VK xs.x10 hr (pv 0)) (pa_cons (pe_VK xs.x11 hr (pv 0)) pa_nil))))))
      (pss_cons (ps_set (i := 1) sc__law_by_name.nd rfl (.inl rfl) (pe_op op_cat (pv 1) (pe_lst (pa_cons (pe_VK xs.x12 hr (pv 0)) (pa_cons (pe_VK xs.x13 hr (pv 0)) (pa_cons (pe_VK xs.x14 hr (pv 0)) pa_nil))))))
      (pss_one (ps_ret (pe_op op_cat (pv 1) (pe_lst (pa_cons (pe_VK xs.x15 hr (pv 0)) (pa_cons (pe_VK xs.x16 hr (pv 0)) pa_nil))))))))))), ?_⟩
    have s0 := Same.refl H
    walk_at "rd"
    refine i_mkV xs.x0.ov xs.x0.no fun a0 G0 n0 t0 v0 => ?_
    walk_at "rd"
    refine i_mkV xs.x1.ov xs.x1.no fun a1 G1 n1 t1 v1 => ?_
    walk_at "rd"
    refine i_mkV xs.x2.ov xs.x2.no fun a2 G2 n2 t2 v2 => ?_
    walk_at "rd"
    refine newL0 (Nat.le_of_ble_eq_true rfl) fun p0 L0 np0 u0 e0 => ?_
    walk_at "rd"
    refine i_mkV xs.x3.ov xs.x3.no fun a3 G3 n3 t3 v3 => ?_
    walk_at "rd"
    refine i_mkV xs.x4.ov xs.x4.no fun a4 G4 n4 t4 v4 => ?_
    walk_at "rd"
    refine i_mkV xs.x5.ov xs.x5.no fun a5 G5 n5 t5 v5 => ?_
    walk_at "rd"
    refine newL0 (Nat.le_of_ble_eq_true rfl) fun p1 L1 np1 u1 e1 => ?_
    refine i_catN ((t3.trans (t4.trans (t5.trans u1))) _ _ e0) e1 (by simp only [List.length_append, List.length_cons, List.length_nil]; omega) fun c1 M1 nc1 w1 f1 => ?_
    walk_at "rd"
    refine i_mkV xs.x6.ov xs.x6.no fun a6 G6 n6 t6 v6 => ?_
    walk_at "rd"
    refine i_mkV xs.x7.ov xs.x7.no fun a7 G7 n7 t7 v7 => ?_
    walk_at "rd"
    refine i_mkV xs.x8.ov xs.x8.no fun a8 G8 n8 t8 v8 => ?_
    walk_at "rd"
    refine newL0 (Nat.le_of_ble_eq_true rfl) fun p2 L2 np2 u2 e2 => ?_
    refine i_catN ((t6.trans (t7.trans (t8.trans u2))) _ _ f1) e2 (by simp only [List.length_append, List.length_cons, List.length_nil]; omega) fun c2 M2 nc2 w2 f2 => ?_
    walk_at "rd"
    refine i_mkV xs.x9.ov xs.x9.no fun a9 G9 n9 t9 v9 => ?_
    walk_at "rd"
    refine i_mkV xs.x10.ov xs.x10.no fun a10 G10 n10 t10 v10 => ?_
    walk_at "rd"
    refine i_mkV xs.x11.ov xs.x11.no fun a11 G11 n11 t11 v11 => ?_
    walk_at "rd"
    refine newL0 (Nat.le_of_ble_eq_true rfl) fun p3 L3 np3 u3 e3 => ?_
    refine i_catN ((t9.trans (t10.trans (t11.trans u3))) _ _ f2) e3 (by simp only [List.length_append, List.length_cons, List.length_nil]; omega) fun c3 M3 nc3 w3 f3 => ?_
    walk_at "rd"
    refine i_mkV xs.x12.ov xs.x12.no fun a12 G12 n12 t12 v12 => ?_
    walk_at "rd"
    refine i_mkV xs.x13.ov xs.x13.no fun a13 G13 n13 t13 v13 => ?_
    walk_at "rd"
    refine i_mkV xs.x14.ov xs.x14.no fun a14 G14 n14 t14 v14 => ?_
    walk_at "rd"
    refine newL0 (Nat.le_of_ble_eq_true rfl) fun p4 L4 np4 u4 e4 => ?_
    refine i_catN ((t12.trans (t13.trans (t14.trans u4))) _ _ f3) e4 (by simp only [List.length_append, List.length_cons, List.length_nil]; omega) fun c4 M4 nc4 w4 f4 => ?_
    walk_at "rd"
    refine i_mkV xs.x15.ov xs.x15.no fun a15 G15 n15 t15 v15 => ?_
    walk_at "rd"
    refine i_mkV xs.x16.ov xs.x16.no fun a16 G16 n16 t16 v16 => ?_
    walk_at "rd"
    refine newL0 (Nat.le_of_ble_eq_true rfl) fun p5 L5 np5 u5 e5 => ?_
    refine i_catN ((t15.trans (t16.trans u5)) _ _ f4) e5 (by simp only [List.length_append, List.length_cons, List.length_nil]; omega) fun c5 M5 nc5 w5 f5 => ?_
    have y27 := w5
    have y26 := u5.trans y27
    have y25 := t16.trans y26
    have y24 := t15.trans y25
    have y23 := w4.trans y24
    have y22 := u4.trans y23
    have y21 := t14.trans y22
    have y20 := t13.trans y21
    have y19 := t12.trans y20
    have y18 := w3.trans y19
    have y17 := u3.trans y18
    have y16 := t11.trans y17
    have y15 := t10.trans y16
    have y14 := t9.trans y15
    have y13 := w2.trans y14
    have y12 := u2.trans y13
    have y11 := t8.trans y12
    have y10 := t7.trans y11
    have y9 := t6.trans y10
    have y8 := w1.trans y9
    have y7 := u1.trans y8
    have y6 := t5.trans y7
    have y5 := t4.trans y6
    have y4 := t3.trans y5
    have y3 := u0.trans y4
    have y2 := t2.trans y3
    have y1 := t1.trans y2
    have y0 := t0.trans y1
    exact k c5 [a0, a1, a2, a3, a4, a5, a6, a7, a8, a9, a10, a11, a12, a13, a14, a15, a16] _ (Same.free (t0.trans (t1.trans (t2.trans (u0.trans (t3.trans (t4.trans (t5.trans (u1.trans (w1.trans (t6.trans (t7.trans (t8.trans (u2.trans (w2.trans (t9.trans (t10.trans (t11.trans (u3.trans (w3.trans (t12.trans (t13.trans (t14.trans (u4.trans (w4.trans (t15.trans (t16.trans u5)))))))))))))))))))))))))) nc5) y0 f5 (.cons (v0.same y1) (.cons (v1.same y2) (.cons (v2.same y3) (.cons (v3.same y5) (.cons (v4.same y6) (.cons (v5.same y7) (.cons (v6.same y10) (.cons (v7.same y11) (.cons (v8.same y12) (.cons (v9.same y15) (.cons (v10.same y16) (.cons (v11.same y17) (.cons (v12.same y20) (.cons (v13.same y21) (.cons (v14.same y22) (.cons (v15.same y25) (.cons (v16.same y26) .nil)))))))))))))))))
theorem ok_sorts (F : Fun K "_law_sorts" "_law_sorts" s__law_sorts f fd) (z : Z mg) (xs : XS P w K mg base B C0 C1 C2 C3 C4 C5 C6 C7 C8 C9 C10 C11 C12 C13 C14 C15 C16 C17 C18 C19 C20 C21) : FnOk P w K mg base CX0 1 f fd ["e"] (spSorts (csL C0 C1 C2 C3 C4 C5 C6 C7 C8 C9 C10 C11 C12 C13 C14 C15 C16 C17 C18 C19 C20 C21)) := by
  refine F.ok sc__law_sorts (fun vs H Q E h => ?_) (fun cdv A outer s H vs Q E hr h => ?_)
  · obtain ⟨a, C, fs, rfl, _⟩ := h; rfl
  · obtain ⟨a, C, fs, rfl, ev, hC, k⟩ := h
    refine ⟨_, (pss_cons (ps_set (i := 1) sc__law_sorts.nd rfl (.inl rfl) (pe_lst (pa_cons (pe_callB call_isV (by rfl) z.isinstance (by decide +kernel) (pa_cons (pv 0) (pa_cons (pe_glob (v := .ref C0) rfl xs.x0.hm rfl) pa_nil))) (pa_cons (pe_callB call_isV (by rfl) z.isinstance (by decide +kernel) (pa_cons (pv 0) (pa_cons (pe_glob (v := .ref C1) rfl xs.x1.hm rfl) pa_nil))) (pa_cons (pe_callB call_isV (by rfl) z.isinstance (by decide +kernel) (pa_cons (pv 0) (pa_cons (pe_glob (v := .ref C2) rfl xs.x2.hm rfl) pa_nil))) pa_nil)))))
      (pss_cons (ps_set (i := 1) sc__law_sorts.nd rfl (.inl rfl) (pe_op op_cat (pv 1) (pe_lst (pa_cons (pe_callB call_isV (by rfl) z.isinstance (by decide +kernel) (pa_cons (pv 0) (pa_cons (pe_glob (v := .ref C3) rfl xs.x3.hm rfl) pa_nil))) (pa_cons (pe_callB call_isV (by rfl) z.isinstance (by decide +kernel) (pa_cons (pv 0) (pa_cons (pe_glob (v := .ref C4) rfl xs.x4.hm rfl) pa_nil))) (pa_cons (pe_callB call_isV (by rfl) z.isinstance (by decide +kernel) (pa_cons (pv 0) (pa_cons (pe_glob (v := .ref C5) rfl xs.x5.hm rfl) pa_nil))) pa_nil))))))
      (pss_cons (ps_set (i := 1) sc__law_sorts.nd rfl (.inl rfl) (pe_op op_cat (pv 1) (pe_lst (pa_cons (pe_callB call_isV (by rfl) z.isinstance (by decide +kernel) (pa_cons (pv 0) (pa_cons (pe_glob (v := .ref C6) rfl xs.x6.hm rfl) pa_nil))) (pa_cons (pe_callB call_isV (by rfl) z.isinstance (by decide +kernel) (pa_cons (pv 0) (pa_cons (pe_glob (v := .ref C7) rfl xs.x7.hm rfl) pa_nil))) (pa_cons (pe_callB call_isV (by rfl) z.isinstance (by decide +kernel) (pa_cons (pv 0) (pa_cons (pe_glob (v := .ref C8) rfl xs.x8.hm rfl) pa_nil))) pa_nil))))))
      (pss_cons (ps_set (i := 1) sc__law_sorts.nd rfl (.inl rfl) (pe_op op_cat (pv 1) (pe_lst (pa_cons (pe_callB call_isV (by rfl) z.isinstance (by decide +kernel) (pa_cons (pv 0) (pa_cons (pe_glob (v := .ref C9) rfl xs.x9.hm rfl) pa_nil))) (pa_cons (pe_callB call_isV (by rfl) z.isinstance (by decide +kernel) (pa_cons (pv 0) (pa_cons (pe_glob (v := .ref C10) rfl xs.x10.hm rfl) pa_nil))) (pa_cons (pe_callB call_isV (by rfl) z.isinstance (by decide +kernel) (pa_cons (pv 0) (pa_cons (pe_glob (v := .ref C11) rfl xs.x11.hm rfl) pa_nil))) pa_nil))))))
      (pss_cons (ps_set (i := 1) sc__law_sorts.nd rfl (.inl rfl) (pe_op op_cat (pv 1) (pe_lst (pa_cons (pe_callB call_isV (by rfl) z.isinstance (by decide +kernel) (pa_cons (pv 0) (pa_cons (pe_glob (v := .ref C12) rfl xs.x12.hm rfl) pa_nil))) (pa_cons (pe_callB call_isV (by rfl) z.isinstance (by decide +kernel) (pa_cons (pv 0) (pa_cons (pe_glob (v := .ref C13) rfl xs.x13.hm rfl) pa_nil))) (pa_cons (pe_callB call_isV (by rfl) z.isinstance (by decide +kernel) (pa_cons (pv 0) (pa_cons (pe_glob (v := .ref C14) rfl xs.x14.hm rfl) pa_nil))) pa_nil))))))
      (pss_cons (ps_set (i := 1) sc__law_sorts.nd rfl (.inl rfl) (pe_op op_cat (pv 1) (pe_lst (pa_cons (pe_callB call_isV (by rfl) z.isinstance (by decide +kernel) (pa_cons (pv 0) (pa_cons (pe_glob (v := .ref C15) rfl xs.x15.hm rfl) pa_nil))) (pa_cons (pe_callB call_isV (by rfl) z.isinstance (by decide +kernel) (pa_cons (pv 0) (pa_cons (pe_glob (v := .ref C16) rfl xs.x16.hm rfl) pa_nil))) (pa_cons (pe_callB call_isV (by rfl) z.isinstance (by decide +kernel) (pa_cons (pv 0) (pa_cons (pe_glob (v := .ref C17) rfl xs.x17.hm rfl) pa_nil))) pa_nil))))))
      (pss_cons (ps_set (i := 1) sc__law_sorts.nd rfl (.inl rfl) (pe_op op_cat (pv 1) (pe_lst (pa_cons (pe_callB call_isV (by rfl) z.isinstance (by decide +kernel) (pa_cons (pv 0) (pa_cons (pe_glob (v := .ref C18) rfl xs.x18.hm rfl) pa_nil))) (pa_cons (pe_callB call_isV (by rfl) z.isinstance (by decide +kernel) (pa_cons (pv 0) (pa_cons (pe_glob (v := .ref C19) rfl xs.x19.hm rfl) pa_nil))) (pa_cons (pe_callB call_isV (by rfl) z.isinstance (by decide +kernel) (pa_cons (pv 0) (pa_cons (pe_glob (v := .ref C20) rfl xs.x20.hm rfl) pa_nil))) pa_nil))))))
      (pss_one (ps_ret (pe_op op_cat (pv 1) (pe_lst (pa_cons (pe_callB call_isV (by rfl) z.isinstance (by decide +kernel) (pa_cons (pv 0) (pa_cons (pe_glob (v := .ref C21) rfl xs.x21.hm rfl) pa_nil))) pa_nil)))))))))))), ?_⟩
    have oC := xs.ov C hC
    have s0 := Same.refl H
    have v0 := ev
    walk_at "rd"
    refine i_isV v0 oC xs.ob xs.x0.ov xs.x0.nB ?_
    walk_at "rd"
    refine i_isV v0 oC xs.ob xs.x1.ov xs.x1.nB ?_
    walk_at "rd"
    refine i_isV v0 oC xs.ob xs.x2.ov xs.x2.nB ?_
    walk_at "rd"
    refine newL0 (Nat.le_of_ble_eq_true rfl) fun p0 L0 np0 u0 e0 => ?_
    have v1 := v0.same u0
    walk_at "rd"
    refine i_isV v1 oC xs.ob xs.x3.ov xs.x3.nB ?_
    walk_at "rd"
    refine i_isV v1 oC xs.ob xs.x4.ov xs.x4.nB ?_
    walk_at "rd"
    refine i_isV v1 oC xs.ob xs.x5.ov xs.x5.nB ?_
    walk_at "rd"
    refine newL0 (Nat.le_of_ble_eq_true rfl) fun p1 L1 np1 u1 e1 => ?_
    refine i_catN (u1 _ _ e0) e1 (by simp only [List.length_append, List.length_cons, List.length_nil]; omega) fun c1 M1 nc1 w1 f1 => ?_
    have v2 := v1.same (u1.trans w1)
    walk_at "rd"
    refine i_isV v2 oC xs.ob xs.x6.ov xs.x6.nB ?_
    walk_at "rd"
    refine i_isV v2 oC xs.ob xs.x7.ov xs.x7.nB ?_
    walk_at "rd"
    refine i_isV v2 oC xs.ob xs.x8.ov xs.x8.nB ?_
    walk_at "rd"
    refine newL0 (Nat.le_of_ble_eq_true rfl) fun p2 L2 np2 u2 e2 => ?_
    refine i_catN (u2 _ _ f1) e2 (by simp only [List.length_append, List.length_cons, List.length_nil]; omega) fun c2 M2 nc2 w2 f2 => ?_
    have v3 := v2.same (u2.trans w2)
    walk_at "rd"
    refine i_isV v3 oC xs.ob xs.x9.ov xs.x9.nB ?_
    walk_at "rd"
    refine i_isV v3 oC xs.ob xs.x10.ov xs.x10.nB ?_
    walk_at "rd"
    refine i_isV v3 oC xs.ob xs.x11.ov xs.x11.nB ?_
    walk_at "rd"
    refine newL0 (Nat.le_of_ble_eq_true rfl) fun p3 L3 np3 u3 e3 => ?_
    refine i_catN (u3 _ _ f2) e3 (by simp only [List.length_append, List.length_cons, List.length_nil]; omega) fun c3 M3 nc3 w3 f3 => ?_
    have v4 := v3.same (u3.trans w3)
    walk_at "rd"
    refine i_isV v4 oC xs.ob xs.x12.ov xs.x12.nB ?_
    walk_at "rd"
    refine i_isV v4 oC xs.ob xs.x13.ov xs.x13.nB ?_
    walk_at "rd"
    refine i_isV v4 oC xs.ob xs.x14.ov xs.x14.nB ?_
    walk_at "rd"
    refine newL0 (Nat.le_of_ble_eq_true rfl) fun p4 L4 np4 u4 e4 => ?_
    refine i_catN (u4 _ _ f3) e4 (by simp only [List.length_append, List.length_cons, List.length_nil]; omega) fun c4 M4 nc4 w4 f4 => ?_
    have v5 := v4.same (u4.trans w4)
    walk_at "rd"
    refine i_isV v5 oC xs.ob xs.x15.ov xs.x15.nB ?_
    walk_at "rd"
    refine i_isV v5 oC xs.ob xs.x16.ov xs.x16.nB ?_
    walk_at "rd"
    refine i_isV v5 oC xs.ob xs.x17.ov xs.x17.nB ?_
    walk_at "rd"
    refine newL0 (Nat.le_of_ble_eq_true rfl) fun p5 L5 np5 u5 e5 => ?_
    refine i_catN (u5 _ _ f4) e5 (by simp only [List.length_append, List.length_cons, List.length_nil]; omega) fun c5 M5 nc5 w5 f5 => ?_
    have v6 := v5.same (u5.trans w5)
    walk_at "rd"
    refine i_isV v6 oC xs.ob xs.x18.ov xs.x18.nB ?_
    walk_at "rd"
    refine i_isV v6 oC xs.ob xs.x19.ov xs.x19.nB ?_
    walk_at "rd"
    refine i_isV v6 oC xs.ob xs.x20.ov xs.x20.nB ?_
    walk_at "rd"
    refine newL0 (Nat.le_of_ble_eq_true rfl) fun p6 L6 np6 u6 e6 => ?_
    refine i_catN (u6 _ _ f5) e6 (by simp only [List.length_append, List.length_cons, List.length_nil]; omega) fun c6 M6 nc6 w6 f6 => ?_
    have v7 := v6.same (u6.trans w6)
    walk_at "rd"
    refine i_isV v7 oC xs.ob xs.x21.ov xs.x21.nB ?_
    walk_at "rd"
    refine newL0 (Nat.le_of_ble_eq_true rfl) fun p7 L7 np7 u7 e7 => ?_
    refine i_catN (u7 _ _ f6) e7 (by simp only [List.length_append, List.length_cons, List.length_nil]; omega) fun c7 M7 nc7 w7 f7 => ?_
    have v8 := v7.same (u7.trans w7)
    exact k c7 _ (Same.free (u0.trans (u1.trans (w1.trans (u2.trans (w2.trans (u3.trans (w3.trans (u4.trans (w4.trans (u5.trans (w5.trans (u6.trans (w6.trans u7))))))))))))) nc7) (u0.trans (u1.trans (w1.trans (u2.trans (w2.trans (u3.trans (w3.trans (u4.trans (w4.trans (u5.trans (w5.trans (u6.trans (w6.trans (u7.trans w7)))))))))))))) f7
theorem ok_kept (F : Fun K "_law_kept" "_law_kept" s__law_kept f fd) (z : Z mg) (xs : XS P w K mg base B C0 C1 C2 C3 C4 C5 C6 C7 C8 C9 C10 C11 C12 C13 C14 C15 C16 C17 C18 C19 C20 C21) : FnOk P w K mg base CX0 1 f fd ["e"] (spKept (csL C0 C1 C2 C3 C4 C5 C6 C7 C8 C9 C10 C11 C12 C13 C14 C15 C16 C17 C18 C19 C20 C21)) := by
  refine F.ok sc__law_kept (fun vs H Q E h => ?_) (fun cdv A outer s H vs Q E hr h => ?_)
  · obtain ⟨a, C, f, v, i, rfl, _⟩ := h; rfl
  · obtain ⟨a, C, fn, v, i, rfl, ev, hi, hf, k⟩ := h
    refine ⟨_, (pss_cons (ps_if (pt_val (pe_callB call_isV (by rfl) z.isinstance (by decide +kernel) (pa_cons (pv 0) (pa_cons (pe_glob (v := .ref C15) rfl xs.x15.hm rfl) pa_nil))))
        (pss_one (ps_ret (pe_xv (pv 0))))
        pss_nil)
      (pss_cons (ps_if (pt_val (pe_callB call_isV (by rfl) z.isinstance (by decide +kernel) (pa_cons (pv 0) (pa_cons (pe_glob (v := .ref C16) rfl xs.x16.hm rfl) pa_nil))))
        (pss_one (ps_ret (pe_xv (pv 0))))
        pss_nil)
      (pss_one (ps_ret (pe_xv (pv 0)))))), ?_⟩
    have oC := xs.ov C (List.mem_of_getElem? hi)
    have lu : ([(fn, v)] : List (Str × V)).lookup fn = some v := by simp [List.lookup]
    walk_at "rd"
    refine i_isV ev oC xs.ob xs.x15.ov xs.x15.nB ?_
    walk_at "rd"
    by_cases c : C = C15
    · have e : i = 15 := Classical.byContradiction fun ne => nd_ne xs.nd hi (j := 15) rfl ne c
      subst e
      cases hf
      rw [decide_eq_true c]
      walk_at "rd"
      exact ⟨a, C, _, v, rfl, ev, oC.f.xf, oC.f.n2, lu, k⟩
    rw [decide_eq_false c]
    walk_at "rd"
    refine i_isV ev oC xs.ob xs.x16.ov xs.x16.nB ?_
    walk_at "rd"
    by_cases c2 : C = C16
    · have e : i = 16 := Classical.byContradiction fun ne => nd_ne xs.nd hi (j := 16) rfl ne c2
      subst e
      cases hf
      rw [decide_eq_true c2]
      walk_at "rd"
      exact ⟨a, C, _, v, rfl, ev, oC.f.xf, oC.f.n3, lu, k⟩
    rw [decide_eq_false c2]
    have e : i < 15 := Classical.byContradiction fun ne => by
      have h17 : i < 17 := (List.getElem?_eq_some_iff.mp hf).1
      have : i = 15 ∨ i = 16 := by omega
      rcases this with rfl | rfl
      · cases hi; exact c rfl
      · cases hi; exact c2 rfl
    have e2 : fn = "given" := Option.some.inj (hf.symm.trans ((show ∀ i, i < 15 → fl17[i]? = some ("given" : Str) from by decide) i e))
    subst e2
    walk_at "rd"
    exact ⟨a, C, _, v, rfl, ev, oC.f.xf, oC.f.n1, lu, k⟩
theorem ok_is (F : Fun K "_law_is" "_law_is" s__law_is f fd) (z : Z mg) (xs : XS P w K mg base B C0 C1 C2 C3 C4 C5 C6 C7 C8 C9 C10 C11 C12 C13 C14 C15 C16 C17 C18 C19 C20 C21) (c__law_sorts : Cal P w K mg base "_law_sorts" ["e"] 1 (spSorts (csL C0 C1 C2 C3 C4 C5 C6 C7 C8 C9 C10 C11 C12 C13 C14 C15 C16 C17 C18 C19 C20 C21))) : FnOk P w K mg base CX0 2 f fd ["e", "spot"] (spIs (csL C0 C1 C2 C3 C4 C5 C6 C7 C8 C9 C10 C11 C12 C13 C14 C15 C16 C17 C18 C19 C20 C21)) := by
  refine F.ok sc__law_is (fun vs H Q E h => ?_) (fun cdv A outer s H vs Q E hr h => ?_)
  · obtain ⟨a, C, fs, i, rfl, _⟩ := h; rfl
  · obtain ⟨a, C, fs, i, rfl, ev, hi, k⟩ := h
    refine ⟨_, (pss_cons (ps_set (i := 2) sc__law_is.nd rfl (.inr rfl) (pe_cal c__law_sorts hr (pa_cons (pv 0) pa_nil)))
      (pss_cons (ps_if (PW.pt (pw_or (pt_not (pt_val (pe_callB call_isV (by rfl) z.isinstance (by decide +kernel) (pa_cons (pv 0) (pa_cons (pe_glob (v := .ref B) rfl xs.hB rfl) pa_nil))))) (pw_or1 (pt_not (pt_val (pe_callB call_isV (by rfl) z.isinstance (by decide +kernel) (pa_cons (pv 0) (pa_cons (pe_bltn (v := .ty "Exception") (by rfl) z.Exception (by decide +kernel) rfl) pa_nil))))))))
        (pss_one (ps_ret pe_bl))
        pss_nil)
      (pss_one (ps_ret (pe_cmpR (op_eqD hr.units) (pe_lc (own := [("k", 3)]) (g := gName 3) (tt := _) rfl sc__law_is.nd (pi_range1 (by rfl) z.range (pa_cons (pe_callB call_lenQ (by rfl) z.len PySem.boot_len (pa_cons (pv 2) pa_nil)) pa_nil)) (blkOk_by (own := [("k", 3)]) (N := n__law_is) (sc := defScope s__law_is) (by decide +kernel)) (fun _ _ _ _ _ => (pg_name (i := 3) sc__law_is.nd rfl (.inl rfl))) (fun _ _ _ _ _ => (pts_one (pt_val (pe_ix (r := rIxL K) ix_list (pv 2) (pv 3) (fun _ _ => rfl))))) (fun _ _ _ _ _ => (pv 3))) (pe_lst (pa_cons (pv 1) pa_nil)) (nomark _)))))), ?_⟩
    have oC := xs.ov C (List.mem_of_getElem? hi)
    have i22 : i < 22 := (List.getElem?_eq_some_iff.mp hi).1
    walk_at "rd"
    refine ⟨a, C, fs, rfl, ev, List.mem_of_getElem? hi, fun q H1 nq s1 eq => ?_⟩
    have ev1 := ev.same s1
    walk_at "rd"
    refine i_isVB ev1 oC xs.ob ?_
    walk_at "rd"
    refine i_isVE ev1 oC xs.ob ?_
    walk_at "rd"
    have nd := xs.nd
    have lC : (csL C0 C1 C2 C3 C4 C5 C6 C7 C8 C9 C10 C11 C12 C13 C14 C15 C16 C17 C18 C19 C20 C21).length = 22 := rfl
    generalize csL C0 C1 C2 C3 C4 C5 C6 C7 C8 C9 C10 C11 C12 C13 C14 C15 C16 C17 C18 C19 C20 C21 = CS at *
    rw [List.length_map, lC]
    refine i_rng (by omega) (by omega) ?_
    refine go_lc walk_rangeZ (fun pk j Hx => Hx pk = some (.lst (((List.range j).filter fun k => decide (k = i)).map iV)) ∧ Same H1 Hx) (fun pk npk => ⟨upd_same, same_upd npk⟩) (fun _ _ _ _ _ => trivial) (fun pk npk j v Hx Hy hj h y => ?_) (fun pk Hx npk h => ?_)
    · obtain ⟨ek, sx⟩ := h
      obtain ⟨rfl, rfl⟩ := y
      have hj : j < 22 := hj
      have eqx := sx _ _ eq
      have gj : (CS.map fun D => V.bl (decide (C = D)))[j]? = some (.bl (decide (j = i))) := by
        rw [List.getElem?_map, List.getElem?_eq_getElem (by omega)]
        have gi := List.getElem?_eq_some_iff.mp hi
        by_cases c : j = i
        · subst c
          simp [gi.2]
        · have : C ≠ CS[j] := nd_ne nd hi (List.getElem?_eq_getElem (by omega)) (fun e => c e.symm)
          simp [c, this]
      walk_at "rd"
      refine ⟨rfl, ?_⟩
      walk_at "rd"
      refine i_ixLv eqx (by omega) (by rw [Int.toNat_natCast]; exact gj) ?_
      walk_at "rd"
      by_cases c : j = i
      · rw [decide_eq_true c]
        walk_at "rd"
        have lf := List.length_filter_le (fun k => decide (k = i)) (List.range j)
        rw [List.length_range] at lf
        refine ⟨_, ek, sm100 (by rw [List.length_map]; omega), ?_, Same.set_new sx npk⟩
        rw [upd_same, List.range_succ, List.filter_append, List.filter_cons_of_pos (by simp [c]), List.filter_nil, List.map_append]; rfl
      · rw [decide_eq_false c]
        walk_at "rd"
        rw [List.range_succ, List.filter_append, List.filter_cons_of_neg (by simp [c]), List.filter_nil, List.append_nil]
        exact ⟨ek, sx⟩
    obtain ⟨ek, sx⟩ := h
    have ek : Hx pk = some (.lst [iV i]) := by rw [ek, show Int.toNat ((22 : Nat) : Int) = 22 from rfl, filt_one i22]; rfl
    walk_at "rd"
    refine newL0 (Nat.le_of_ble_eq_true rfl) fun e0 H5 ne0 s5 e5 => ?_
    have sd : Sd 0 9 (.int (i : Int)) := sd_int9 (by omega)
    refine i_eqOne (s5 _ _ ek) e5 (.int _) sd rfl (by omega) (by simp [PyData.eqv]) ?_
    exact k _ (s1.trans (sx.trans s5))
end
end Sw
namespace Sw
open PySem PySem.Spec PyProof.Rows L2
local macro_rules | `(tactic| walk_at "hp") => `(tactic| first
  | (with_reducible assumption) | (with_reducible exact upd_same)
  | ((with_reducible refine' upd_old ?q1 ?q2); (case q1 => (with_reducible assumption)); (case q2 => walk_at "hp"))
  | ((with_reducible refine' Same.at ?q1 ?q2); (case q1 => (with_reducible assumption)); (case q2 => walk_at "hp"))
  | ((with_reducible refine' upd_skip ?q1 ?q2); (case q1 => walk_at "ne"); (case q2 => walk_at "hp"))
  | fail)
local macro_rules | `(tactic| walk_at "ne") => `(tactic| first
  | (with_reducible assumption) | (with_reducible exact Ne.symm (by assumption))
  | ((with_reducible refine' ne_of_none ?q1 ?q2); (case q2 => (with_reducible assumption)); (case q1 => walk_at "hp"))
  | fail)
local macro_rules | `(tactic| walk_at "ci") => `(tactic| first | assumption | (show (0 : Int) < _; first | decide | (with_reducible omega)) | exact ⟨by decide, by decide⟩ | exact .inl ⟨by decide, by decide⟩ | exact .inr ⟨by decide, by decide⟩)
local macro_rules | `(tactic| walk_at "ln") => `(tactic| first | (with_reducible assumption) | (with_reducible omega) | (simp only [List.length_append, List.length_take, List.length_drop, List.length_reverse, List.length_cons, List.length_nil]; with_reducible omega))
local macro_rules | `(tactic| walk_at "rd1") => `(tactic| first
  | (with_reducible refine i_seq ?_) | (with_reducible refine i_asg ?_) | (with_reducible refine i_ret ?_) | (with_reducible refine i_name ?_) | ((with_reducible refine' i_var ?q1 ?_); (case q1 => exact rfl)) | (with_reducible refine i_c ?_) | (with_reducible refine i_op ?_) | (with_reducible refine i_un ?_)
  | (with_reducible refine i_rI0 ?_) | (with_reducible refine i_cb ?_) | (with_reducible refine i_cons ?_) | (with_reducible refine i_nil ?_) | (with_reducible refine i_call ?_) | (with_reducible refine i_if ?_) | (with_reducible refine i_ifE ?_) | (with_reducible refine i_test ?_) | (with_reducible refine i_bl ?_)
  | (with_reducible refine i_and ?_) | (with_reducible refine i_or ?_) | (with_reducible refine i_not ?_) | (with_reducible refine i_lstM ?_) | (with_reducible refine i_lstLM ?_) | (with_reducible refine i_tupM ?_) | (with_reducible refine i_next ?_) | (with_reducible refine i_drop ?_) | (with_reducible refine i_sub ?_)
  | (with_reducible refine i_bm ?_) | (with_reducible refine i_sl ?_) | (with_reducible refine i_part ?_) | (with_reducible refine i_nopart ?_) | (with_reducible refine i_exI ?_) | (with_reducible refine i_chain ?_) | ((with_reducible refine' i_aug ?q1 ?_); (case q1 => exact rfl)) | (with_reducible refine i_ip ?_)
  | (with_reducible refine i_par ?_) | (with_reducible refine i_pair ?_) | (with_reducible refine i_andV ?_) | (with_reducible refine i_orV ?_) | (with_reducible refine i_notV ?_) | (with_reducible refine i_m1 ?_) | (with_reducible refine i_str ?_)
  | (with_reducible refine iteF ?_) | (with_reducible refine iteT ?_) | (with_reducible refine iteNT ?_) | (with_reducible refine iteNF ?_) | (with_reducible refine i_tyS ?_) | (with_reducible refine i_tB ?_) | (with_reducible refine i_retN ?_) | (with_reducible refine i_par3 ?_) | (with_reducible refine i_trip ?_) | (with_reducible refine i_gCons ?_) | (with_reducible refine i_gNil ?_) | (with_reducible refine i_lstRg ?_) | (with_reducible refine i_rg1 ?_)
  | (with_reducible refine i_lc ?_) | (with_reducible refine i_for ?_) | (with_reducible refine i_iList ?_) | (with_reducible refine i_iTup ?_) | (with_reducible refine i_iStr ?_) | (with_reducible refine i_iRng1 ?_) | (with_reducible refine i_iEnS ?_)
  | ((with_reducible refine' i_ixTH ?q1 ?q2 ?_); (case q1 => walk_at "hp"); (case q2 => exact rfl))
  | ((with_reducible refine' i_ixLH ?q1 ?q2 ?_); (case q1 => walk_at "hp"); (case q2 => exact rfl))
  | ((with_reducible refine i_addS ?q1 ?_); (case q1 => walk_at "ln")) | ((with_reducible refine i_lenSS ?q1 ?_); (case q1 => walk_at "ln")) | ((with_reducible refine i_slFrom ?q1 ?q2 ?_); (case q1 => walk_at "ln"); (case q2 => walk_at "ln")) | ((with_reducible refine i_slTo ?q1 ?q2 ?_); (case q1 => walk_at "ln"); (case q2 => walk_at "ln"))
  | ((with_reducible refine' i_tyL ?q1 ?_); (case q1 => walk_at "hp"))
  | ((with_reducible refine' i_gTupH ?q1 ?q2 ?_); (case q1 => walk_at "hp"); (case q2 => exact rfl))
  | (with_reducible refine i_dnewM ?_) | (with_reducible refine i_init ?_) | (with_reducible refine i_fst ?_) | (with_reducible refine i_mk ?_) | (with_reducible refine i_mkF ?_) | (with_reducible refine i_raise ?_) | (with_reducible refine i_callS ?_) | (with_reducible refine i_kwS ?_)
  | (with_reducible refine i_revT ?_) | (with_reducible refine i_kw ?_) | ((with_reducible refine' ⟨_, _, rfl, sqT_of ?q1, ?_⟩); (case q1 => walk_at "hp"))
  | (with_reducible refine i_revS ?_) | ((with_reducible refine i_revSS ?q1 ?_); (case q1 => walk_at "ln"))
  | (with_reducible refine i_startS ?_) | (with_reducible refine i_inSg ?_) | (with_reducible refine i_absN ?_) | (with_reducible refine i_min2 ?_) | (with_reducible refine i_max2 ?_) | (with_reducible refine i_min3 ?_) | (with_reducible refine i_intN ?_) | (with_reducible refine i_intNB ?_)
  | ((with_reducible refine' i_lenL ?q1 ?_); (case q1 => walk_at "hp")) | ((with_reducible refine' i_lenT ?q1 ?_); (case q1 => walk_at "hp"))
  | (with_reducible refine i_eqI ?_) | (with_reducible refine i_neI ?_) | (with_reducible refine i_eqS ?_) | (with_reducible refine i_neS ?_) | (with_reducible refine i_isNoI ?_) | (with_reducible refine i_isNoN ?_) | (with_reducible refine i_isNoR ?_)
  | ((with_reducible refine i_pow ?q1 ?q2 ?q3 ?_); (case q1 => decide); (case q2 => decide); (case q3 => (with_reducible omega)))
  | ((with_reducible refine i_rI ?q1 ?_); (case q1 => walk_at "ci"))
  | (with_reducible refine Or.inl ⟨_, rfl, ?_⟩) | (with_reducible refine Or.inr ⟨_, rfl, ?_⟩) | (with_reducible refine ⟨_, rfl, ?_⟩) | (with_reducible refine ⟨_, _, rfl, ?_⟩) | (with_reducible refine ⟨_, _, rfl, rfl, ?_⟩)
  | ((with_reducible refine' ⟨_, _, rfl, Or.inl (sqL_of ?q1), ?_⟩); (case q1 => walk_at "hp")) | ((with_reducible refine' ⟨_, _, rfl, Or.inr (sqT_of ?q1), ?_⟩); (case q1 => walk_at "hp")) | (with_reducible refine i_dget ?_) | (with_reducible refine i_disp1T ?_) | (with_reducible refine i_dcT ?_) | (with_reducible refine i_dnewT ?_) | (with_reducible refine i_fld ?_) | (with_reducible refine i_sFld ?_) | (with_reducible refine i_make ?_) | (with_reducible refine i_meth ?_) | (with_reducible refine i_star ?_) | (with_reducible refine i_isNoS ?_) | (with_reducible refine i_lc2 ?_) | (with_reducible refine i_iEnT ?_) | (with_reducible refine i_iZipT ?_) | fail)
local macro_rules | `(tactic| walk_at "rd") => `(tactic| repeat' walk_at "rd1")

theorem sd_da : Sd 3 100 (.dict [(keyD (.inr (S [97])), .list [.int 3])]) := ⟨by simp only [keyD, PyData.depth, PyData.depthKv, PyData.depthAll]; decide, by simp only [keyD, PyData.weight, PyData.weightKv, PyData.weightAll]; decide, by simp only [keyD, PyData.showable, PyData.showableKv, PyData.showableAll]; decide, by simp only [keyD, PyData.leavesShort, PyData.leavesShortKv, PyData.leavesShortAll]; decide, by simp only [sok]⟩
/-- _law_thing(box) -/
def spThing (K : PySem.W.Frag) : Sp := fun vs H Q _ => ∃ (b : Addr) (d : Int), vs = [.ref b] ∧ BoxAt H b d ∧ d + 1 ≤ 1000000 ∧
  ∀ x dd H', De K (L2.del H' b) x dd → Sd 10 3000 dd → BoxAt H' b (d + 1) → SB b H H' → Q x H'
section
variable {P : Program} {w : World} {K : PySem.W.Frag} {mg : Str → Option Value} {base : Heap} {f : Addr} {fd : FuncData}
theorem ok_thing (F : Fun K "_law_thing" "_law_thing" s__law_thing f fd) (z : Z mg) (c__law_take : Cal P w K mg base "_law_take" ["box", "many"] 1 spTake) : FnOk P w K mg base CX0 2 f fd ["box"] (spThing K) := by
  refine F.ok sc__law_thing (fun vs H Q E h => ?_) (fun cdv A outer s H vs Q E hr h => ?_)
  · obtain ⟨b, d, rfl, _⟩ := h; rfl
  · obtain ⟨b, d, rfl, B, hd, k⟩ := h
    refine ⟨_, (pss_cons (ps_set (i := 1) sc__law_thing.nd rfl (.inl rfl) (pe_lstL (pa_cons pe_non (pa_cons pe_bl (pa_cons pe_bl (pa_cons pe_int (pa_cons pe_int (pa_cons (pe_strS (l := []) (by decide +kernel)) (pa_cons (pe_strS (l := [97, 98]) (by decide +kernel)) (pa_cons (pe_lstL pa_nil) (pa_cons (pe_lstL (pa_cons pe_int (pa_cons (pe_strS (l := [97]) (by decide +kernel)) pa_nil))) (pa_cons (pe_tup pa_nil) (pa_cons (pe_tup (pa_cons pe_int (pa_cons pe_bl pa_nil))) (pa_cons pe_dnewK (pa_cons (pe_callTy (call_dictP rfl) (by rfl) z.dict (by decide +kernel) (pa_cons (pe_lstL (pa_cons (pe_tup (pa_cons (pe_strS (l := [97]) (by decide +kernel)) (pa_cons (pe_lstL (pa_cons pe_int pa_nil)) pa_nil))) pa_nil)) pa_nil)) (pa_cons (pe_un un_neg (pe_op op_pow pe_int pe_int)) pa_nil))))))))))))))))
      (pss_one (ps_ret (pe_ix ix_list (pv 1) (pe_cal c__law_take hr (pa_cons (pv 0) (pa_cons pe_int pa_nil))) (fun _ _ => rfl))))), ?_⟩
    walk_at "rd"
    refine newLL B (Nat.le_of_ble_eq_true rfl) fun o1 H1 lt1 n1 B1 s1 e1 u1 => ?_
    walk_at "rd"
    refine newLL B1 (Nat.le_of_ble_eq_true rfl) fun o2 H2 lt2 n2 B2 s2 e2 u2 => ?_
    walk_at "rd"
    refine newT B2 (Nat.le_of_ble_eq_true rfl) fun o3 H3 B3 s3 e3 u3 => ?_
    walk_at "rd"
    refine newT B3 (Nat.le_of_ble_eq_true rfl) fun o4 H4 B4 s4 e4 u4 => ?_
    walk_at "rd"
    refine newD B4 fun o5 H5 B5 s5 e5 u5 => ?_
    walk_at "rd"
    refine newLL B5 (Nat.le_of_ble_eq_true rfl) fun o6 H6 lt6 n6 B6 s6 e6 u6 => ?_
    walk_at "rd"
    refine newT B6 (Nat.le_of_ble_eq_true rfl) fun o7 H7 B7 s7 e7 u7 => ?_
    walk_at "rd"
    refine newLL B7 (Nat.le_of_ble_eq_true rfl) fun o8 H8 lt8 n8 B8 s8 e8 u8 => ?_
    walk_at "rd"
    refine ⟨o8, [o7], [(.inr (S [97]), .ref o6)], rfl, sqL_of (del_sub _ _ e8), .cons (sqT_of (del_sub _ _ (s8 _ _ e7))) .nil, fun o9 n9 => ?_⟩
    rw [show mergeK [] [((.inr (S [97]) : Key), V.ref o6)] = [(.inr (S [97]), .ref o6)] from rfl]
    have u9 := same_upd (o := HO.dK [(.inr (S [97]), V.ref o6)]) n9
    have e9 := del_new B8 n9 (o := HO.dK [(.inr (S [97]), V.ref o6)])
    have B9 := B8.same u9
    have s9 : Same (L2.del H8 b) (L2.del (upd H8 o9 (.dK [(.inr (S [97]), V.ref o6)])) b) := del_sb (SB.of u9)
    generalize upd H8 o9 (.dK [(.inr (S [97]), V.ref o6)]) = H9 at *
    walk_at "rd"
    refine i_rU ?_
    walk_at "rd"
    refine newLL B9 (Nat.le_of_ble_eq_true rfl) fun o H10 lt10 n10 B10 s10 e10 u10 => ?_
    have nob := box_ne B9 n10
    walk_at "rd"
    refine ⟨b, 14, _, rfl, B10, by omega, by omega, by omega, fun r HB r0 r1 BB s11 => ?_⟩
    have z10 := s10.trans (del_sb s11)
    have z9 := s9.trans z10
    have z8 := s8.trans z9
    have z7 := s7.trans z8
    have z6 := s6.trans z7
    have z5 := s5.trans z6
    have z4 := s4.trans z5
    have z3 := s3.trans z4
    have z2 := s2.trans z3
    have sAll : SB b H HB := (SB.of (u1.trans (u2.trans (u3.trans (u4.trans (u5.trans (u6.trans (u7.trans (u8.trans (u9.trans u10)))))))))).trans s11
    have at10 := s11 _ _ nob (del_sub _ _ e10)
    have fin : ∀ x dd, De K (L2.del HB b) x dd → Sd 10 3000 dd → Q x HB := fun x dd h1 h2 => k x dd HB h1 h2 BB sAll
    have hr : r = 0 ∨ r = 1 ∨ r = 2 ∨ r = 3 ∨ r = 4 ∨ r = 5 ∨ r = 6 ∨ r = 7 ∨ r = 8 ∨ r = 9 ∨ r = 10 ∨ r = 11 ∨ r = 12 ∨ r = 13 := by omega
    have sda : Sd 0 60 (.str (S [97])) := (sd_str (l := [97]) (by decide)).mono (by omega) (by decide)
    have sdl : Sd 1 100 (.list [.int 3]) := (sd_lst' (n := 0) (.cons (sd_int9 (i := 3) (by decide)) .nil)).mono (by omega) (by omega)
    rcases hr with rfl | rfl | rfl | rfl | rfl | rfl | rfl | rfl | rfl | rfl | rfl | rfl | rfl | rfl
    · refine i_ixLv (v := .non) at10 r0 rfl ?_
      exact fin _ _ .non (sd_non.mono (by omega) (by omega))
    · refine i_ixLv (v := .bl true) at10 r0 rfl ?_
      exact fin _ _ (.bl _) ((sd_bl _).mono (by omega) (by omega))
    · refine i_ixLv (v := .bl false) at10 r0 rfl ?_
      exact fin _ _ (.bl _) ((sd_bl _).mono (by omega) (by omega))
    · refine i_ixLv (v := .int 0) at10 r0 rfl ?_
      exact fin _ _ (.int _) ((sd_int9 (i := 0) (by decide)).mono (by omega) (by omega))
    · refine i_ixLv (v := .int 7) at10 r0 rfl ?_
      exact fin _ _ (.int _) ((sd_int9 (i := 7) (by decide)).mono (by omega) (by omega))
    · refine i_ixLv (v := .str (S [])) at10 r0 rfl ?_
      exact fin _ _ (.str _) ((sd_str (l := []) (by decide)).mono (by omega) (by decide))
    · refine i_ixLv (v := .str (S [97, 98])) at10 r0 rfl ?_
      exact fin _ _ (.str _) ((sd_str (l := [97, 98]) (by decide)).mono (by omega) (by decide))
    · refine i_ixLv (v := .ref o1) at10 r0 rfl ?_
      exact fin _ (.list []) (.lst (z2 _ _ e1) lt1 .nil) ((sd_lst' (n := 0) (w := 0) .nil).mono (by omega) (by omega))
    · refine i_ixLv (v := .ref o2) at10 r0 rfl ?_
      exact fin _ (.list [.int 1, .str (S [97])]) (.lst (z3 _ _ e2) lt2 (.cons (.int _) (.cons (.str _) .nil))) ((sd_lst' (n := 0) (.cons (sd_int9 (i := 1) (by decide)) (.cons sda .nil))).mono (by omega) (by omega))
    · refine i_ixLv (v := .ref o3) at10 r0 rfl ?_
      exact fin _ (.tuple []) (.tup (sqT_of (z4 _ _ e3)) .nil) ((sd_tup' (n := 0) (w := 0) .nil).mono (by omega) (by omega))
    · refine i_ixLv (v := .ref o4) at10 r0 rfl ?_
      exact fin _ (.tuple [.int 0, .bool true]) (.tup (sqT_of (z5 _ _ e4)) (.cons (.int _) (.cons (.bl _) .nil))) ((sd_tup' (n := 0) (.cons (sd_int9 (i := 0) (by decide)) (.cons (sd_bl true) .nil))).mono (by omega) (by omega))
    · refine i_ixLv (v := .ref o5) at10 r0 rfl ?_
      exact fin _ (.dict []) (.dict (z6 _ _ e5) .nil) (sd_emp.mono (by omega) (by omega))
    · refine i_ixLv (v := .ref o9) at10 r0 rfl ?_
      exact fin _ (.dict [(keyD (.inr (S [97])), .list [.int 3])]) (.dict (z10 _ _ e9) (.cons (.lst (z7 _ _ e6) lt6 (.cons (.int _) .nil)) .nil)) (sd_da.mono (by omega) (by omega))
    · refine i_ixLv at10 r0 rfl ?_
      exact fin _ _ (.int _) ((sd_int (by decide)).mono (by omega) (by omega))
end
end Sw
namespace Sw
open PySem PySem.Spec PyProof.Rows L2
/-! ### try with several clauses; the error's context is None -/
inductive AsOkN (X : Cx) (Wo : WX) : List ExceptHandler → (Ends → WX) → Prop
  | nil : AsOkN X Wo [] fun _ => Wo
  | cons {x n : Str} {c : Value} {i : Nat} {ts : Addr → Value → Option Addr → TS} {st : Stmt} {more : List Stmt} {p1 p2 : Pos} {hds : List ExceptHandler} {W : Ends → WX}
      (hi : X.N[i]? = some n) (hl : X.env.kindOf n = some .local) (hc : Names X x c)
      (su : ∀ (a : Addr) (o : Obj) (cls : Value) (d : Option Addr) (pn : List (Addr × Obj)), L2N.Zn cls d o → (∃ vs, o.data = .fields vs) → X.base.get? a = none → a ∉ frs X.stack → PSs (X.suite a ((a, o) :: pn)) (st :: more) (ts a cls d))
      (rest : AsOkN X Wo hds W) : AsOkN X Wo (.ExceptHandler (some (.Name x p1)) (some n) (st :: more) p2 :: hds) fun D => wAs X.K c i ts (W D) D
theorem ps_triesN {X : Cx} {Wo : WX} {W : Ends → WX} {body : List Stmt} {h₀ : ExceptHandler} {hds : List ExceptHandler} {pos : Pos} {tb : WX → TS} (hs : X.stack = X.env :: X.outer) (hf : X.env.frame = some X.env.locals) (nd : X.N.Nodup) (tk : L2N.Takes X Wo)
    (hb : ∀ (V : WX) (pn : List (Addr × Obj)) (xe : Value → Shared → Prop), L2N.Takes (X.tr pn xe) V → PassesOwn (model X.prog X.w) X.A X.env xe → PSs (X.tr pn xe) body (tb V))
    (hh : AsOkN X Wo (h₀ :: hds) W) : PS X (.Try body (h₀ :: hds) [] [] pos) fun D σ H => tb (W D) D σ H := by
  constructor
  intro pins s σ H D I h
  have ok := I.ok
  have fr : X.A.frames = some (X.env :: X.outer) := by rw [← hs]; exact ok.frames
  let after : Value → Shared → Prop := fun e s₁ => wpAny (model X.prog X.w) X.A (noteFrame e X.env) (fun _ s₂ => wpAny (model X.prog X.w) X.A (setFlight e none) (fun _ s₃ => wpAny (model X.prog X.w) X.A (handleBy e X.env (h₀ :: hds)) (SP X pins D) X.xe s₃) X.xe s₂) X.xe s₁
  have run := (hb (W D) (X.pn ++ pins) after (fun u s' air => ?_) PassesOwn.looking).run [] s σ H D (I.toTry _) h
  · refine wpAny_Try_except (wpAny_mono run (fun f s1 z => ?_) fun _ _ z => z)
    cases f <;> obtain ⟨_, _, z⟩ := z
    · exact wpAny_execs_nil ⟨_, _, z.1.ofTry ok, z.2⟩
    · exact ⟨_, _, z.1.ofTry ok, z.2⟩
    · exact ⟨_, _, z.1.ofTry ok, z.2⟩
    · obtain ⟨H', J, r, q⟩ := z
      exact ⟨_, _, _, J.ofTry ok, r, q⟩
  · obtain ⟨a, B, sI, pins', σ', H', cls, d, rfl, J0, nb, up, sky, na, os, ag, w⟩ := air
    have J := J0.ofTry ok
    show wpAny (model X.prog X.w) X.A (noteFrame (.ref a) X.env) _ _ _
    refine L2N.Sky.land L2N.Zn.steady fr hf (by rw [← hs]; exact sky) fun h3 fl3 up3 => ?_
    have J3 : Inv X pins σ' H' { s' with heap := h3 } := J.landed nb fl3.1 (up.trans up3) os ag
    obtain ⟨o3, vs3, ho3, z3, d3⟩ := fl3.there
    have out : a ∉ frs (X.env :: X.outer) := fun hm => by
      obtain ⟨_, o', e', hn⟩ := fl3.2.2.1.mem hm
      cases ho3.symm.trans e'
      exact hn _ d3
    have outS : a ∉ frs X.stack := by rw [hs]; exact out
    have offB : X.base.get? a = none := by
      cases y : X.base.get? a with
      | none => rfl
      | some o =>
        have q1 := nb a o (J0.bk a o y) outS
        rw [fl3.2.1] at q1
        cases q1
    have nL : a ≠ X.env.locals := fun z => out (List.mem_filterMap.mpr ⟨_, List.mem_cons_self, by rw [hf, z]⟩)
    have nF : a ∉ X.fs := fun hm => by
      obtain ⟨e, he, q⟩ := List.mem_filterMap.mp hm
      exact out (List.mem_filterMap.mpr ⟨e, List.mem_cons_of_mem _ he, q⟩)
    have S3 := J3.suite ho3 d3 na nL nF
    clear h
    revert w
    generalize h₀ :: hds = all at hh
    intro w
    induction hh with
    | nil =>
      refine wpAny_handleBy_nil ?_
      obtain ⟨_, _, _, o, vs, T, _, _, g1, _, g2, g3, _⟩ := id fl3
      unfold PySem.passOn
      refine wpAny_bind (wpAny_field g1 g2 g3 ?_)
      rw [if_neg (by simp : ¬ (Value.ref T == Value.none) = true)]
      have away : wpAny (model X.prog X.w) X.A (setFlight (.ref a) X.env.frame) (fun _ s4 => wpAny (model X.prog X.w) X.A (throw (.ref a) : Sem Flow) (SP X pins D) X.xe s4) X.xe { s' with heap := h3 } := by
        rw [hf]
        exact HandSPX.setFlight_upZ fl3 fun h4 hh4 up4 => wpAny_throw (tk _ _ ⟨a, B, sI, pins, σ', H', cls, d, rfl, J, nb, (up.trans up3).trans up4, .inr (.inr (by rw [hs]; exact hh4)), na, os, ag, w⟩)
      first | exact wpAny_bind (wpAny_pure (wpAny_bind away)) | exact wpAny_bind away
    | @cons x n c i ts st more p1 p2 hds W hi hl hc su rest ih =>
      obtain ⟨b, hb1, yes, no⟩ := w
      refine wpAny_handleBy_cons (codeAny_handlers_test ?_) (by intro q; cases q)
      have ty : PySem.W.Looks (model X.prog X.w) h3 (typeOf (.ref a)) cls := fun _ _ _ s k q => wpAny_typeOf_ref (k _ _ ho3) (by rw [z3.1]; exact q)
      have hit := PySem.W.exm_one (M := model X.prog X.w) J3.kIn ty hb1
      have name : ∀ {Q E : Value → Shared → Prop}, Q c { s' with heap := h3 } → wpAny (model X.prog X.w) (X.A.mark (some (.ref a))) (eval (.Name x p1) X.env) Q E { s' with heap := h3 } := fun q => by
        obtain ⟨hg, hd, ⟨hm⟩ | ⟨hm, hv, hn⟩⟩ := hc
        · exact ld_glob (X := X.suite a ((a, o3) :: (X.pn ++ pins))) S3 hg (by assumption) q hd
        · exact ld_blt (X := X.suite a ((a, o3) :: (X.pn ++ pins))) S3 hg hm hv q hn hd
      refine name (hit.here ?_)
      cases b with
      | false => exact ih (no rfl)
      | true =>
        refine codeAny_handlers_suite_as (HandSPX.lands_againZ fl3 fun h4 fl4 up4 => ?_)
        obtain ⟨o4, vs4, ho4, z4, d4⟩ := fl4.there
        have J4 : Inv X pins σ' H' { s' with heap := h4 } := J.landed nb fl4.1 ((up.trans up3).trans up4) os ag
        refine store_ok (X := X.suite a ((a, o4) :: (X.pn ++ pins))) (v := .ref a) (J4.suite ho4 d4 na nL nF) nd hi (.inl hl) rfl (fun s5 S5 => ?_) (.inr hl)
        refine wpAny_mono ((su a o4 cls d (X.pn ++ pins) z4 ⟨_, d4⟩ offB outS).run [] s5 _ H' _ S5 (yes rfl a na)) (fun f s6 z => ?_) fun _ _ z => z.elim
        have bye : ∀ {σ6 : L2.St} {H6 : Hp} {Q : Shared → Prop}, Inv (X.suite a ((a, o4) :: (X.pn ++ pins))) [] σ6 H6 s6 → (∀ s7, Inv X pins (σ6.set i none) H6 s7 → Q s7) →
            wpAny (model X.prog X.w) X.A (do bindName X.env n .none; unbindBehindTheSuite X.env n p2) (fun _ s7 => Q s7) X.xe s6 := fun S6 hq => gone_ok (S6.unsuite ok) nd hi hl hq
        cases f <;> obtain ⟨_, _, z⟩ := z
        · exact bye z.1 fun s7 J7 => ⟨_, _, J7, z.2⟩
        · exact bye z.1 fun s7 J7 => ⟨_, _, J7, z.2⟩
        · exact bye z.1 fun s7 J7 => ⟨_, _, J7, z.2⟩
        · obtain ⟨H6, S6, r6, q6⟩ := z
          exact bye S6 fun s7 J7 => ⟨_, _, _, J7, r6, q6⟩
open PySem.SwE PySem.SwV
section
variable {X : Cx} {e : Expr} {es : List Expr} {ta : TA} {p pos : Pos} {CX : CXT} {x : Str} {C fI : Addr} {k : Nat} {fd : FuncData} {ps : List Str} {sp : Sp} {kws : List Keyword}
/-- C(..), raised where nothing is handled -/
theorem run_mkN {pins : List (Addr × Obj)} {σ : L2.St} {H1 : Hp} {s1 : Shared} {Q : XK} {us ws : List Value} {vs : List V} {kw : List (Str × Value)} (T : OexE X.K C) (iC : PySem.W.findIn X.K (.ref C) "__init__" = some (some (.ref fI))) (tI : PySem.W.typeIn X.K (.ref fI) = some (.type "function"))
    (F1 : FnOk X.prog X.w X.K X.mg X.base CX k fI fd ps sp) (room : Room (k + 1) X.A) (px : Passes CX X E0) (I1 : Inv X pins σ H1 s1) (few : us.length ≤ sizeLine) (r : Vals vs ws)
    (bound : ∀ (s : Shared) (a : Value), X.K.In s.heap → BindsTo s fd ⟨a :: us, kw⟩ (ps.zip (a :: ws)))
    (h : ∀ a, H1 a = none → sp (.ref a :: vs) (upd H1 a (exo a C none)) (fun v H2 => v = .non ∧ ∃ (d : Addr) (fs : List (Str × V)), H2 a = some (exo a C (some d)) ∧ H2 d = some (exd d fs) ∧ H1 d = none ∧ Q (.ref C) (some d) (upd (del H2 a) d (.xd fs))) E0) : wpAny (model X.prog X.w) X.A (call (.ref C) us kw) (L2N.MkP X pins σ Q) X.xe s1 := by
  obtain ⟨nm, q, N, bs, rs, sn, sub, ab, col, dd, k0, k1, k2, k3, k5, isC⟩ := T.cls
  obtain ⟨hp, gs, dr, tk, os⟩ := s1
  have le : hp.objs.size ≤ hp.objs.size + 1 := Nat.le_succ _
  have said := h (hp.objs.size + 1) (I1.hok.fresh le)
  have kept : ∀ b o, hp.get? b = some o → ((hp.push (PySem.W.kdv_tup us)).push (PySem.HandSPX.excO C hp.objs.size)).get? b = some o := fun b o y => Heap.get?_push_of_some _ (Heap.get?_push_of_some _ y)
  have here : ((hp.push (PySem.W.kdv_tup us)).push (PySem.HandSPX.excO C hp.objs.size)).get? (hp.objs.size + 1) = some (PySem.HandSPX.excO C hp.objs.size) := by heap_get
  have I2 : Inv X pins σ (upd H1 (hp.objs.size + 1) (exo (hp.objs.size + 1) C none)) ⟨(hp.push (PySem.W.kdv_tup us)).push (PySem.HandSPX.excO C hp.objs.size), gs, dr, tk, os⟩ :=
    I1.laid (t' := tk) (a := hp.objs.size + 1) (o := exo (hp.objs.size + 1) C none) (h' := (hp.push (PySem.W.kdv_tup us)).push (PySem.HandSPX.excO C hp.objs.size)) kept le (exo_ok here)
  have both : Vals (V.ref (hp.objs.size + 1) :: vs) (Value.ref (hp.objs.size + 1) :: ws) := .cons rfl r
  refine wpAny_call (PySem.SwV.call_kw F.excBase_Exception (fun Y => over_has Y rs) (I1.kIn _ _ isC) (PySem.W.looks_findIn I1.kIn iC) (fun self => PySem.W.bind_fn I1.kIn self tI) few (codeAny_mono (F1.run _ X.stack _ _ ⟨Value.ref (hp.objs.size + 1) :: us, kw⟩ (Value.ref (hp.objs.size + 1) :: ws) _ _ E0
    (room.make C us kw) (I2.env0.make C us kw) (bound _ _ I2.kIn) both said) fun r s' y => ?_))
  rcases r with er | fl
  · exact px pins σ _ _ er s' I2 y
  · cases fl with
    | ret u =>
      obtain ⟨v, H2, os2, bare, un, ok, rv, ev, d, fs, ea, ed, hd1, q2⟩ := y
      subst ev
      obtain ⟨h2, g2, d2, t2, os'⟩ := s'
      obtain ⟨t0, G, J, kG, ge, hoe, na⟩ := mk_end0 (d2 := d2) (t2 := t2) I1 le kept un ok os2 bare ea ed hd1
      exact ⟨rv, ⟨hp.objs.size + 1, _, _, ⟨G, g2, d2, t2, os'⟩, _, .ref C, some d, rfl, J, kG, ge, hoe, ⟨rfl, rfl, fun vs hv => by cases hv; rfl⟩, rfl, rfl, na, rfl, bare, raises_own T.exC T.tyC, q2⟩⟩
    | next => exact y.elim
    | brk => exact y.elim
    | cont => exact y.elim
theorem pmk_EN (T : OexE X.K C) (iC : PySem.W.findIn X.K (.ref C) "__init__" = some (some (.ref fI))) (tI : PySem.W.typeIn X.K (.ref fI) = some (.type "function"))
    (F1 : FnOk X.prog X.w X.K X.mg X.base CX k fI fd ps sp) (room : Room (k + 1) X.A) (bd : Binds X.K fd ps []) (px : Passes CX X E0) (hm : X.mg x = some (.ref C)) (ha : PA X (e :: es) ta) (hg : Gl X x := by rfl)
    (hdb : (x == ("__debug__" : Str)) = false := by decide) (he : starEach (e :: es) X.env = (false, eval e X.env) :: starEach es X.env := by rfl) (hpl : (backTo pos (starEach es X.env)).any (·.1) = false := by rfl) :
    L2N.PMk X (.Call (.Name x p) (e :: es) [] pos) (tMkO C sp [] ta) := by
  intro pins s σ H Q I h
  apply wpAny_Call_Name_kw (ld_glob I hg hm ?_ hdb)
  refine PySem.W.callWith_K (h₀ := X.base) I.ok.mod.kin T.kC (thn (ha.run pos pins s σ H _ I h) fun us s1 ⟨vs, H1, I1, r1, few, q1⟩ => ⟨I1.kIn, ?_⟩) he hpl
  have few' : us.length ≤ sizeLine := by rw [← Paired.length r1, sizeLine_eq]; omega
  have q2 : ∀ a, H1 a = none → sp (.ref a :: vs) (upd H1 a (exo a C none)) (fun v H2 => v = .non ∧ ∃ (d : Addr) (fs : List (Str × V)), H2 a = some (exo a C (some d)) ∧ H2 d = some (exd d fs) ∧ H1 d = none ∧ Q (.ref C) (some d) (upd (del H2 a) d (.xd fs))) E0 := fun a na => by
    have y := q1 a na
    rw [List.append_nil] at y
    exact y
  have said := q2 (s1.heap.objs.size + 1) (I1.hok.fresh (Nat.le_succ _))
  have count : ∀ a : Value, (a :: us).length = ps.length := fun a => by
    have y := F1.len _ _ _ _ said
    rw [List.length_cons, ← Paired.length r1, ← y]; rfl
  refine run_mkN T iC tI F1 room px I1 few' r1 (fun s2 a hin => ?_) q2
  have b := bd s2 (a :: us) hin (by rw [List.append_nil]; exact count a)
  rw [List.append_nil] at b
  exact b
theorem pmk_EKN {ks : List Str} (T : OexE X.K C) (iC : PySem.W.findIn X.K (.ref C) "__init__" = some (some (.ref fI))) (tI : PySem.W.typeIn X.K (.ref fI) = some (.type "function"))
    (F1 : FnOk X.prog X.w X.K X.mg X.base CX k fI fd ps sp) (room : Room (k + 1) X.A) (bd : ∀ (s : Shared) (a : Value) (ws : List Value), X.K.In s.heap → (a :: ws).length = ps.length → BindsTo s fd ⟨[a], ks.zip ws⟩ (ps.zip (a :: ws))) (px : Passes CX X E0) (hm : X.mg x = some (.ref C)) (hkw : PK X kws ta) (hg : Gl X x := by rfl)
    (hall : (backToKw pos (keywordEach kws X.env)).all (·.1.isSome) = true := by rfl) (hks : (backToKw pos (keywordEach kws X.env)).filterMap (·.1) = ks := by rfl) (hdb : (x == ("__debug__" : Str)) = false := by decide)
    (hpl : ((backTo pos (starEach [] X.env)).any (·.1) || (backToKw pos (keywordEach kws X.env)).any (·.1.isNone)) = false := by rfl) :
    L2N.PMk X (.Call (.Name x p) [] kws pos) (tMkO C sp [] ta) := by
  intro pins s σ H Q I h
  apply wpAny_Call_Name_kw (ld_glob I hg hm ?_ hdb)
  refine PySem.W.callWith_KW0 (h₀ := X.base) I.ok.mod.kin T.kC hall (thn (hkw.run pos pins s σ H _ I h) fun ws s1 ⟨vs, H1, I1, r1, few, q1⟩ => ⟨I1.kIn, ?_⟩) hpl
  rw [hks]
  have q2 : ∀ a, H1 a = none → sp (.ref a :: vs) (upd H1 a (exo a C none)) (fun v H2 => v = .non ∧ ∃ (d : Addr) (fs : List (Str × V)), H2 a = some (exo a C (some d)) ∧ H2 d = some (exd d fs) ∧ H1 d = none ∧ Q (.ref C) (some d) (upd (del H2 a) d (.xd fs))) E0 := fun a na => by
    have y := q1 a na
    rw [List.append_nil] at y
    exact y
  have said := q2 (s1.heap.objs.size + 1) (I1.hok.fresh (Nat.le_succ _))
  refine run_mkN T iC tI F1 room px I1 (Nat.zero_le _) r1 (fun s3 a hin => bd s3 a ws hin ?_) q2
  have y := F1.len _ _ _ _ said
  rw [List.length_cons, ← Paired.length r1, ← y]; rfl
end
section
variable {X : Cx} {x f : Str} {B C : Addr} {n : Nat} {e : Expr} {te : TE} {p pos pos2 kpos : Pos} {W : WX}
theorem ps_rsVN {K : PySem.W.Frag} (kK : X.K = K) (hc : X.calm = true) (tk : L2N.Takes X W) (xt : XV x f X.prog X.w X.K X.mg X.base B C) (hr : Room n X.A) (he : PE X e te) (hn : 2 ≤ n := by decide) (hg : Gl X x := by rfl)
    (hdb : (x == ("__debug__" : Str)) = false := by decide) (he2 : starEach [e] X.env = (false, eval e X.env) :: starEach [] X.env := by rfl) : PS X (.Raise (some (.Call (.Name x p) [e] [] pos)) none pos2) (tRs (tMkO C (spInitF K f) [] (tCons te tNil)) W) := by
  subst kK
  obtain ⟨fI, fd, h1, h2, h3, h4, h5⟩ := xt.ini
  exact L2N.ps_raise hc tk (pmk_EN xt.ov.oex h1 h2 h3 (hr.mono hn) h4 pass0 xt.hm (pa_cons he pa_nil he2) hg hdb he2 (by rfl))
theorem ps_rsVKN {K : PySem.W.Frag} (kK : X.K = K) {nm : Option Str} (hc : X.calm = true) (tk : L2N.Takes X W) (xt : XV x f X.prog X.w X.K X.mg X.base B C) (hr : Room n X.A) (he : PE X e te) (hn : 2 ≤ n := by decide) (hg : Gl X x := by rfl)
    (hall : (backToKw pos (keywordEach [⟨nm, e, kpos⟩] X.env)).all (·.1.isSome) = true := by rfl) (hks : (backToKw pos (keywordEach [⟨nm, e, kpos⟩] X.env)).filterMap (·.1) = [f] := by rfl) (hdb : (x == ("__debug__" : Str)) = false := by decide)
    (hpl : ((backTo pos (starEach [] X.env)).any (·.1) || (backToKw pos (keywordEach [⟨nm, e, kpos⟩] X.env)).any (·.1.isNone)) = false := by rfl) : PS X (.Raise (some (.Call (.Name x p) [] [⟨nm, e, kpos⟩] pos)) none pos2) (tRs (tMkO C (spInitF K f) [] (tCons te tNil)) W) := by
  subst kK
  obtain ⟨fI, fd, h1, h2, h3, h4, h5⟩ := xt.ini
  exact L2N.ps_raise hc tk (pmk_EKN (ks := [f]) xt.ov.oex h1 h2 h3 (hr.mono hn) h5 pass0 xt.hm (pk_cons he pk_nil) hg hall hks hdb hpl)
end
theorem takes_noneN {X : Cx} : L2N.Takes X (fun _ _ _ _ => False) := fun u s' z => by
  obtain ⟨a, B, sI, pins, σ, H, cls, d, e, I, nb, up, sky, na, os, ag, w⟩ := z
  exact w.elim
end Sw
namespace Sw
open PySem PySem.Spec PyProof.Rows L2 PySem.SwE PySem.SwV
/-! ### defs that are called with the held exception, in the suite that holds it -/
/-- the exception that is handled stands in the heap as a frozen object, its context None -/
def HotZ (A : Around) (H : Hp) : Prop := ∃ (a : Addr) (oe : Obj) (u : HO) (vs : Array Value), A.handled = some (.ref a) ∧ H a = some (.frz oe u) ∧ oe.data = .fields vs ∧ vs[2]? = some .none
abbrev HotF (X : Cx) : Prop := HotZ X.A X.H_0
theorem HotZ.now {X : Cx} {pins : List (Addr × Obj)} {σ : L2.St} {H : Hp} {s : Shared} (h : HotF X) (I : Inv X pins σ H s) : HotZ X.A H := by
  obtain ⟨a, oe, u, vs, h1, h2, h3, h4⟩ := h
  exact ⟨a, oe, u, vs, h1, I.base.frzs _ _ _ h2, h3, h4⟩
theorem HotZ.at {X : Cx} {pins : List (Addr × Obj)} {σ : L2.St} {H : Hp} {s : Shared} (h : HotZ X.A H) (I : Inv X pins σ H s) : ∃ x1, HotX.HotAt X.A x1 s.heap := by
  obtain ⟨a, oe, u, vs, h1, h2, h3, h4⟩ := h
  have x : ObjOk X.prog X.w H s.heap a (.frz oe u) := I.hok a _ h2
  exact ⟨a, h1, oe, vs, x.1, h3, h4⟩
structure FnZ (P : Program) (w : World) (K : PySem.W.Frag) (mg : Str → Option Value) (base : Heap) (CX : CXT) (k : Nat) (f : Addr) (fd : FuncData) (ps : List Str) (sp : Sp) : Prop where
  len : ∀ xs M R X, sp xs M R X → xs.length = ps.length
  go : ∀ (A : Around) (out : List Env) (t : Shared) (M : Hp) (args : Args) (us : List Value) (xs : List V) (R : VK) (X : XK), L2H.RoomH k A → HotZ A M → Env0 P w K mg base A out t M → BindsTo t fd args (ps.zip us) → Vals xs us → sp xs M R X →
    codeAny (model P w) A (.call (.ref f) args) (CR CX out P w M t R X) t
/-- the context of such a def's body -/
abbrev cxZ (CX : CXT) (P : Program) (w : World) (K : PySem.W.Frag) (mg : Str → Option Value) (base : Heap) (N : List Str) (qual : Str) (scope : Scope) (f : Addr) (cd : Value) (A : Around) (out : List Env) (t : Shared) (M : Hp) (E : XK) : Cx :=
  { cxOf CX P w K mg base N qual scope f cd A out t M E with calm := false, pn := [] }
theorem inv_startZ {CX : CXT} {P : Program} {w : World} {K : PySem.W.Frag} {mg : Str → Option Value} {base : Heap} {N ps : List Str} {qual : Str} {scope : Scope} {f : Addr} {cd : Value} {A : Around} {out : List Env} {s s1 : Shared} {H : Hp} {E : XK} {us : List Value} {vs : List V} {o : Obj}
    (S : FnScope N ps scope) (lk : K.lookup f = some o) (nc : ∀ v, o.data ≠ .cell v) (e0 : Env0 P w K mg base A out s H) (hl : vs.length = ps.length) (r : Vals vs us)
    (x : InCallC s s.heap.objs.size (bindL (envOfC qual scope s.heap.objs.size f cd).kindOf (ps.zip us) fun _ => none) (cellsFrom (s.heap.objs.size + 1) scope.names []) (bindC (envOfC qual scope s.heap.objs.size f cd).kindOf (ps.zip us) fun _ => none) s1) :
    Inv (cxZ CX P w K mg base N qual scope f cd A out s H E) [] (L2.start N vs) H s1 := by
  have fb : base.get? f = some o := e0.mod.kin _ _ lk
  have off : f ∉ frs out := fun hm => by
    have y := (e0.funs.mem hm).1
    rw [fb] at y
    cases y
  have pin : L2H.PinOk out H s (f, o) := ⟨(e0.bs _ _ fb).1, (e0.bs _ _ fb).2, off, nc⟩
  have I := L2H.inv_startH (CX := CX) (E := E) S pin e0 hl r x
  have ok := I.ok
  exact ⟨⟨ok.mod, ok.kind, ok.glob, ok.blt, ok.above, ok.inj, ok.has, ok.cab, fun z => Bool.noConfusion (show false = true from z), ok.frames, ok.stk, ok.exf, ok.bs, ok.bsz, ok.noex, ok.exfs, ok.funs, ok.frf⟩, I.os, I.bare, I.base, I.loc, I.cell, I.free, I.freeC, fun p hp => absurd (show p ∈ ([] : List (Addr × Obj)) ++ [] from hp) (by simp), I.hok, I.len⟩
theorem Fun.okZ {P : Program} {w : World} {K : PySem.W.Frag} {mg : Str → Option Value} {base : Heap} {CX : CXT} {k : Nat} {f : Addr} {fd : FuncData} {ps : List Str} {sp : Sp} {x qual : Str} {st : Stmt} {N : List Str} (F : Fun K x qual st f fd) (S : FnScope N ps (defScope st)) (len : ∀ xs M R X, sp xs M R X → xs.length = ps.length)
    (body : ∀ (cdv : Value) (A : Around) (out : List Env) (t : Shared) (M : Hp) (xs : List V) (R : VK) (X : XK), L2H.RoomH k (A.deeper (envOfC qual (defScope st) t.heap.objs.size f cdv)) → HotF (cxZ CX P w K mg base N qual (defScope st) f cdv A out t M X) → sp xs M R X →
      ∃ r, PSs (cxZ CX P w K mg base N qual (defScope st) f cdv A out t M X) (defBody st) r ∧ r { nx := fun _ M' => R .non M', rt := R } (start N xs) M) : FnZ P w K mg base CX (k + 1) f fd ps sp := by
  obtain ⟨oc, od, kV, doc, pm, an, cdv, ct, osl, rfl, found, coded⟩ := F.ex
  constructor
  · exact len
  intro A out t M args us xs R X room hot env bind rel prom
  have count := len xs M R X prom
  have inHeap := env.mod.kin.keeps fun b o e => (env.bs b o e).1
  have quota := env.mod.nolimit.keeps fun b o e => (env.bs b o e).1
  have kinds : ∀ z ∈ ps.zip us, (defScope st).names.lookup z.1 = some .local ∨ ((defScope st).names.lookup z.1 = some .cell ∧ ((cellsFrom (t.heap.objs.size + 1) (defScope st).names []).lookup z.1).isSome = true) := by
    rintro ⟨n, v⟩ hz
    have hn := (List.of_mem_zip hz).1
    rcases S.par n hn with l | c
    · left; exact l
    · right; exact ⟨c, PySem.W.cellsFrom_some _ _ _ (.inl c)⟩
  apply codeAny_call_function room.depth (inHeap _ _ found) rfl S.co S.gen rfl (PySem.W.codeRec_of inHeap coded) (bind _ _ _ _ ?_)
  apply wpAny_newFunctionEnv_cells S.kind kinds
  intro env2 e2 t1 entry
  subst e2
  refine ⟨quota.keeps entry.toInCall.keep, codeAny_func ?_⟩
  obtain ⟨r, hr, runs⟩ := body cdv A out t M xs R X (room.deeper _) hot prom
  have I := inv_startZ (CX := CX) (E := X) S found (fun v e => by cases e) env count rel entry
  apply wpAny_mono (hr.run [] t1 (start N xs) M _ I runs)
  · intro fl t' leaves
    cases fl with
    | ret u =>
      obtain ⟨v, σ', M', J, rv, q⟩ := leaves
      exact ⟨v, M', J.os, J.bare, J.base, J.hok, rv, q⟩
    | next =>
      obtain ⟨σ', M', J, q⟩ := leaves
      exact ⟨V.non, M', J.os, J.bare, J.base, J.hok, rfl, q⟩
    | brk => obtain ⟨_, _, _, q⟩ := leaves; exact q.elim
    | cont => obtain ⟨_, _, _, q⟩ := leaves; exact q.elim
  · exact fun _ _ z => z
section
variable (P : Program) (w : World) (K : PySem.W.Frag) (mg : Str → Option Value) (base : Heap)
def CalZ (x : Str) (ps : List Str) (k : Nat) (sp : Sp) : Prop := ∃ (f : Addr) (fd : FuncData), FnZ P w K mg base CX0 k f fd ps sp ∧ mg x = some (.ref f) ∧ PySem.W.keepIn K (.ref f) = true ∧ Binds K fd ps []
end
theorem Def.calZ {P : Program} {w : World} {K : PySem.W.Frag} {mg : Str → Option Value} {base : Heap} {x : Str} {st : Stmt} {ps : List Str} {k : Nat} {sp : Sp} (d : Def K mg x st)
    (b : ∀ (kV doc pm : Value) (an : Option Addr) (cdv ct : Value) (us : List Value), us.length = ps.length → bindArgs (PySem.W.fnOf x x (defArgs st) (defBody st) (defScope st) .none kV doc pm an cdv ct) ⟨us, []⟩ = pure (ps.zip us))
    (ok : ∀ (f : Addr) (fd : FuncData), Fun K x x st f fd → FnZ P w K mg base CX0 k f fd ps sp) : CalZ P w K mg base x ps k sp := by
  obtain ⟨f, fd, F, m⟩ := d
  exact ⟨f, fd, ok f fd F, m, F.kp, F.binds b⟩
section
variable {X : Cx} {x : Str} {ps : List Str} {k n : Nat} {sp : Sp} {e : Expr} {es : List Expr} {t : TA} {p pos : Pos}
theorem pe_calZ (c : CalZ X.prog X.w X.K X.mg X.base x ps k sp) (hr : L2H.RoomH n X.A) (hot : HotF X) (ha : PA X (e :: es) t) (hg : Gl X x := by rfl) (hk : k ≤ n := by decide)
    (hdb : (x == ("__debug__" : Str)) = false := by decide) (he : starEach (e :: es) X.env = (false, eval e X.env) :: starEach es X.env := by rfl) (hpl : (backTo pos (starEach es X.env)).any (·.1) = false := by rfl) :
    PE X (.Call (.Name x p) (e :: es) [] pos) (tCall sp [] E0 t) := by
  obtain ⟨f, fd, F, m, kp, b⟩ := c
  constructor
  intro pins s σ M R I h
  apply wpAny_Call_Name_kw (ld_glob I hg m ?_ hdb)
  refine PySem.W.callWith_K (h₀ := X.base) I.ok.mod.kin kp (thn (ha.run pos pins s σ M _ I h) fun us s1 ⟨xs, M1, I1, r, q⟩ => ⟨I1.kIn, ?_⟩) he hpl
  have q : sp (xs ++ []) M1 R E0 := q
  rw [List.append_nil] at q
  have count : (us ++ []).length = ps.length := by rw [List.append_nil, ← Paired.length r]; exact F.len _ _ _ _ q
  have bound := b s1 us I1.kIn count
  rw [List.append_nil] at bound
  apply wpAny_call
  apply codeAny_mono (F.go X.A X.stack s1 M1 ⟨us, []⟩ us xs R E0 (hr.mono hk) (hot.now I1) I1.env0 bound r q)
  intro o s' y
  rcases o with er | fl
  · exact pass0 pins σ M1 s1 er s' I1 y
  · cases fl with
    | ret u => exact I1.after y
    | next => exact y.elim
    | brk => exact y.elim
    | cont => exact y.elim
variable {a : Addr} {oe : Obj} {pn : List (Addr × Obj)} {cls : Value} {d : Option Addr}
theorem pe_calFZ (hz : L2N.Zn cls d oe) (hf : ∃ vs, oe.data = .fields vs) (off : X.base.get? a = none) (out : a ∉ frs X.stack) (c : CalZ X.prog X.w X.K X.mg X.base x ps k sp) (hr : Room n X.A) (ha : PA (X.suite a ((a, oe) :: pn)) (e :: es) t) (hg : Gl (X.suite a ((a, oe) :: pn)) x := by rfl) (hk : k ≤ n := by decide)
    (hdb : (x == ("__debug__" : Str)) = false := by decide) (he : starEach (e :: es) X.env = (false, eval e X.env) :: starEach es X.env := by rfl) (hpl : (backTo pos (starEach es X.env)).any (·.1) = false := by rfl) :
    PE (X.suite a ((a, oe) :: pn)) (.Call (.Name x p) (e :: es) [] pos) (tCallF a cls d sp t) := by
  obtain ⟨f, fd, F, m, kp, b⟩ := c
  constructor
  intro pins s σ H Q I h
  apply wpAny_Call_Name_kw (ld_glob I hg m ?_ hdb)
  refine PySem.W.callWith_K (h₀ := X.base) I.ok.mod.kin kp (thn (ha.run pos pins s σ H _ I h) fun us s1 ⟨vs, H1, I1, r, q⟩ => ⟨I1.kIn, ?_⟩) he hpl
  obtain ⟨ga, na, _⟩ := I1.pin (a, oe) (List.mem_append.mpr (.inl List.mem_cons_self))
  have q := q oe hz.zc hf na
  have e1 := I1.env0
  have fresh : ∀ {b o}, H1 b = some o → b ≠ a := fun e z => by rw [z, na] at e; cases e
  have e0 : Env0 X.prog X.w X.K X.mg X.base (X.suite a ((a, oe) :: pn)).A X.stack s1 (upd H1 a (.frz oe (anyO a))) := by
    refine ⟨e1.frames, e1.mod, fun b o y => ⟨(e1.bs b o y).1, ?_⟩, e1.bsz, e1.funs, fun b y => ?_, fun b o y => ?_, e1.bare⟩
    · rw [upd_ne fun z => by rw [z, off] at y; cases y]; exact (e1.bs b o y).2
    · rw [upd_ne (show b ≠ a from fun z => out (by rw [← z]; exact y))]; exact e1.frf b y
    · by_cases c : b = a
      · subst c
        rw [upd_same] at y
        cases y
        exact ⟨ga, ⟨_, ga⟩, ⟨_, ga⟩, fun h1 h2 ⟨o, y⟩ st => ⟨o, st _ y⟩⟩
      · rw [upd_ne c] at y
        exact (I1.hok b o y).stay (fun _ _ _ y => y) (fun c' y => by rw [upd_ne (fresh y)]; exact y) fun c' xs y => by rw [upd_ne (fresh y)]; exact y
  obtain ⟨vs0, hd0⟩ := hf
  have hot : HotZ (X.suite a ((a, oe) :: pn)).A (upd H1 a (.frz oe (anyO a))) := ⟨a, oe, anyO a, vs0, rfl, upd_same, hd0, hz.2.2 _ hd0⟩
  have count : (us ++ []).length = ps.length := by rw [List.append_nil, ← Paired.length r]; exact F.len _ _ _ _ q
  have bound := b s1 us I1.kIn count
  rw [List.append_nil] at bound
  apply wpAny_call
  apply codeAny_mono (F.go _ X.stack s1 _ ⟨us, []⟩ us vs _ E0 (L2H.RoomH.mono (L2H.roomH_mark hr _) hk) hot e0 bound r q)
  intro o s' y
  rcases o with er | fl
  · exact pass0 pins σ H1 s1 er s' I1 y
  · cases fl with
    | ret u => exact I1.after (ce_held I1.hok ga na out y)
    | next => exact y.elim
    | brk => exact y.elim
    | cont => exact y.elim
end
end Sw
namespace Sw
open PySem PySem.Spec PyProof.Rows L2 PySem.SwE PySem.SwV
/-! ### a list comprehension over a range, while an exception is handled -/
structure TurnZ (P : Program) (w : World) (K : PySem.W.Frag) (tg : Expr) (J : It) (fp : List Addr) (it : Addr) (st : Nat → Heap → Prop) : Prop where
  inF : it ∈ fp
  objs : ∀ i h, st i h → ∀ b ∈ fp, ∃ o, h.get? b = some o ∧ ∀ v, o.data ≠ .cell v
  stay : ∀ i h h', st i h → (∀ b ∈ fp, ∀ o, h.get? b = some o → h'.get? b = some o) → st i h'
  give : ∀ (X : Cx), X.prog = P → X.w = w → X.K = K → ∀ (i : Nat) (pins : List (Addr × Obj)) (s : Shared) (σ : L2.St) (H : Hp) (E : Value → Shared → Prop), Inv X pins σ H s → (∀ b ∈ fp, FpOk X pins H b) → st i s.heap → J.go i H →
    wpAny (model P w) X.A (pyNext (.ref it)) (fun r s1 => ∃ u, r = some u ∧
      wpAny (model P w) X.A (letOwnedTupleGo tg (.ref it) u) (fun _ s2 => ∃ x H', Inv X pins σ H' s2 ∧ RelV x u ∧ J.yld i H x H' ∧ st (i + 1) s2.heap ∧ ∀ b ∈ fp, H' b = none) E s1) E s
  over : ∀ (X : Cx), X.prog = P → X.w = w → X.K = K → ∀ (i : Nat) (pins : List (Addr × Obj)) (s : Shared) (σ : L2.St) (H : Hp) (E : Value → Shared → Prop), Inv X pins σ H s → HotZ X.A H → (∀ b ∈ fp, FpOk X pins H b) → st i s.heap → J.stop i H →
    wpAny (model P w) X.A (pyNext (.ref it)) (fun r s1 => r = none ∧ Inv X pins σ H s1) E s
  self : ∀ (A : Around) (i : Nat) (s : Shared) (Q : Value → Shared → Prop) (E : Value → Shared → Prop), st i s.heap → Q (.ref it) s → wpAny (model P w) A (pyIter (.ref it)) Q E s
theorem turnZ_range {P : Program} {w : World} {K : PySem.W.Frag} {tg : Expr} (it : Addr) (lo : Int) (n : Nat) : TurnZ P w K tg (Itr lo n) [it] it (fun i h => IsRangeIter h it (lo + (i : Nat) * 1) ((n : Int) - (i : Nat)) 1) where
  inF := List.mem_singleton.mpr rfl
  objs := fun i h y b hb => by
    obtain rfl : b = it := List.mem_singleton.mp hb
    exact ⟨_, y, fun v z => by cases (show Data.fields _ = Data.cell v from z)⟩
  stay := fun i h h' y k => k it (List.mem_singleton.mpr rfl) _ y
  give := by
    intro X hP hw hK i pins s σ H E I hf y hg
    subst hP hw hK
    obtain ⟨f0, f1, f2, f3, f4, f5⟩ := hf it (List.mem_singleton.mpr rfl)
    have lt : i < n := hg
    refine wpAny_pyNext_range_item y (by omega) fun h' y' sb => ?_
    have y2 : IsRangeIter h' it (lo + ((i + 1 : Nat) : Int) * 1) ((n : Int) - ((i + 1 : Nat) : Int)) 1 := by
      rw [show lo + ((i + 1 : Nat) : Int) * 1 = lo + ((i : Nat) : Int) * 1 + 1 by omega, show (n : Int) - ((i + 1 : Nat) : Int) = (n : Int) - ((i : Nat) : Int) - 1 by omega]
      exact y'
    have I1 : Inv X pins σ H { s with heap := h', toks := s.toks + 1 } := I.turned (fun b o hb e => (sb.2 b hb).trans e) f0 f1 f3 f4 f5
    refine ⟨_, rfl, go_of (s := { s with heap := h', toks := s.toks + 1 }) (n := "range_iterator") y2 rfl rfl (by decide) ⟨.int (lo + i), H, I1, ⟨s.toks, ?_⟩, ⟨rfl, rfl⟩, y2, fun b hb => (hf b hb).1⟩⟩
    rw [Int.mul_one]
  over := by
    intro X hP hw hK i pins s σ H E I hot hf y hg
    subst hP hw hK
    obtain ⟨f0, f1, f2, f3, f4, f5⟩ := hf it (List.mem_singleton.mpr rfl)
    obtain ⟨x1, ha⟩ := hot.at I
    exact HotX.pyNext_range_end_hot ha y (by have : n ≤ i := hg; omega) fun h' eb => ⟨rfl, I.turned (t' := s.toks) (fun b o _ e => eb b o e) f0 f1 f3 f4 f5⟩
  self := fun _ _ _ _ _ y h => wpAny_pyIter_rangeiter y h
def PIEZ (X : Cx) (pins : List (Addr × Obj)) (σ : L2.St) (tg : Expr) (R : It → Hp → Prop) (itv : Value) (s2 : Shared) : Prop :=
  ∃ (it : Addr) (fp : List Addr) (st : Nat → Heap → Prop) (J : It) (H' : Hp), itv = .ref it ∧ Inv X pins σ H' s2 ∧ TurnZ X.prog X.w X.K tg J fp it st ∧ st 0 s2.heap ∧ (∀ b ∈ fp, FpOk X pins H' b) ∧ R J H'
structure PIZ (X : Cx) (tg iter : Expr) (wi : TI) : Prop where
  run : ∀ (pins : List (Addr × Obj)) (s : Shared) (σ : L2.St) (H : Hp) (R : It → Hp → Prop), Inv X pins σ H s → wi σ H R →
    wpAny (model X.prog X.w) X.A (eval iter X.env) (fun v s1 => wpAny (model X.prog X.w) X.A (pyIter v) (PIEZ X pins σ tg R) X.xe s1) X.xe s
section
variable {X : Cx} {tg : Expr}
theorem rangeZ_it {pins : List (Addr × Obj)} {σ : L2.St} {H : Hp} {s : Shared} {R : It → Hp → Prop} {E : Value → Shared → Prop} {lo hi : Int} {t u v : Tok} {tk : Nat} (I : Inv X pins σ H s) (b1 : -(2 ^ 62) ≤ lo) (b2 : lo < 2 ^ 62) (b3 : -(2 ^ 62) ≤ hi) (b4 : hi < 2 ^ 62)
    (q : R (Itr lo (hi - lo).toNat) H) : wpAny (model X.prog X.w) X.A (pyIter (.ref s.heap.objs.size)) (PIEZ X pins σ tg R) E { s with heap := s.heap.push { cls := .type "range", data := .fields #[.int lo t, .int hi u, .int 1 v] }, toks := tk } := by
  refine wpAny_pyIter_range (IsRange.new ..) (small_one b1 b2 b3 b4) ?_
  generalize hg : s.heap.push { cls := .type "range", data := .fields #[.int lo t, .int hi u, .int 1 v] } = hp
  have kp : ∀ b o, s.heap.get? b = some o → hp.get? b = some o := fun b o e => by rw [← hg]; exact Heap.get?_push_of_some _ e
  have I1 : Inv X pins σ H { s with heap := hp, toks := tk } := I.kept kp
  refine ⟨hp.objs.size, [hp.objs.size], _, _, H, rfl, I1.kept (t' := tk) fun b o e => Heap.get?_push_of_some _ e, turnZ_range _ lo (hi - lo).toNat, ?_, fun b hb => ?_, q⟩
  · show IsRangeIter _ _ (lo + ((0 : Nat) : Int) * 1) ((((hi - lo).toNat : Nat) : Int) - ((0 : Nat) : Int)) 1
    rw [show lo + ((0 : Nat) : Int) * 1 = lo by simp, show (((hi - lo).toNat : Nat) : Int) - ((0 : Nat) : Int) = Builtin.Range.rangeSize lo hi 1 by rw [rangeSize_one]; split <;> omega]
    exact Heap.get?_push_size _ rfl
  · obtain rfl : b = hp.objs.size := List.mem_singleton.mp hb
    exact I1.fpOk (Nat.le_refl _) (I1.hok.fresh (Nat.le_refl _))
theorem pi_rangeZ {a : Expr} {ta : TA} {p pos : Pos} (hg : Gl X "range") (hm : X.mg "range" = none) (ha : PA X [a] ta) (hs : starEach [a] X.env = [(false, eval a X.env)] := by rfl) : PIZ X tg (.Call (.Name "range" p) [a] [] pos) (iRng1 ta) := by
  constructor
  intro pins s σ H R I h
  refine Call_ (ld_blt I hg hm boot_range (PyProof.Rows.callWith_type1 (thn (ha.run pos pins s σ H _ I h) fun us s1 ⟨vs, H1, I1, r1, j, e, b1, b2, q⟩ => ?_) hs rfl))
  subst e
  cases r1 with
  | cons r rr =>
    cases rr
    obtain ⟨t, rfl⟩ := r
    exact call_range_1 (rangeZ_it I1 (by omega) (by omega) b1 b2 (by simpa using q))
theorem lcZ_core {pins : List (Addr × Obj)} {s : Shared} {σ : L2.St} {H : Hp} {Q : VK} {elt tg iter : Expr} {ifs : List Expr} {scope : Scope} {own : List (Str × Nat)} {pos pos' : Pos} {wi : TI} {g : TG} {tt : TT} {te : TE} {use : Option (Value → Sem Unit)} {Qf : Value → Shared → Prop}
    (hot : HotF X) (nd : X.N.Nodup) (I : Inv X pins σ H s) (hi : PIZ X tg iter wi) (ok : BlkOk X.N X.env.scope scope own)
    (kg : ∀ (s : Shared) (H : Hp) (C : Addr) (cl : List (Str × Addr)) (fp : List Addr), PG (X.blk s H scope (compEnvC scope cl C X.env) fp) tg g) (kt : ∀ (s : Shared) (H : Hp) (C : Addr) (cl : List (Str × Addr)) (fp : List Addr), PTs (X.blk s H scope (compEnvC scope cl C X.env) fp) ifs tt)
    (ke : ∀ (s : Shared) (H : Hp) (C : Addr) (cl : List (Str × Addr)) (fp : List Addr), PE (X.blk s H scope (compEnvC scope cl C X.env) fp) elt te) (hs : ∀ x, foldedSetIterable iter X.env x = pure x)
    (h : tLc wi g tt te (own.map (·.2)) σ H Q)
    (last : ∀ D C s' m H', Inv X pins σ H' s' → Q (.ref D) H' → s'.heap.Ns C m → FpOk X pins H' C → compPost (model X.prog X.w) X.A X.xe use Qf (.ref D) C (.ok .next) s') :
    wpAny (model X.prog X.w) X.A (comprehension (.ListComp elt [⟨tg, iter, ifs, 0⟩] scope pos) scope X.env pos' (newList []) false (eval iter X.env) use) Qf X.xe s := by
  have frees : ∀ z ∈ scope.names, z.2 = .free → ∃ c, X.env.cells.lookup z.1 = some c := fun z hz e => by
    rcases ok.free z hz e with y | y
    · exact I.ok.has _ (.inl y)
    · exact I.ok.has _ (.inr y)
  refine wpAny_comprehension_free (use := use) rfl hs (closure_ok frees) ok.kind (fun z hz e => by rw [ok.uniq z hz, e]) (thn (hi.run pins s σ H _ I h) fun xv s1 hx => thn hx fun itv s2 ⟨it, fp, st, J, H2, e, I2, T, y2, f2, q⟩ => ?_)
  subst e
  refine wpAny_newObj_type (newEnv_comp ?_) (show 0 ≤ sizeLine by decide)
  generalize eD : s2.heap.objs.size = D
  have newD : H2 D = none := I2.hok.fresh (Nat.le_of_eq eD)
  obtain ⟨W, ⟨m0, w0⟩, turn⟩ := q D newD
  generalize es3 : ({ s2 with heap := s2.heap.push { cls := .type "list", data := .seq ([] : List Value).toArray } } : Shared) = s3
  have h3 : s3.heap = s2.heap.push { cls := .type "list", data := .seq ([] : List Value).toArray } := by rw [← es3]
  have I3 : Inv X pins σ (upd H2 D (.lst [])) s3 := by
    rw [← es3]
    refine I2.laid (t' := s2.toks) (fun b o e => Heap.get?_push_of_some _ e) (Nat.le_of_eq eD) ⟨Nat.zero_le _, [], 0, .nil, ?_⟩
    rw [← eD]
    exact Heap.get?_push_size _ rfl
  have below : ∀ b ∈ fp, b < s2.heap.objs.size := fun b hb => (T.objs _ _ y2 b hb).elim fun o y => Heap.lt_size y.1
  have f3 : ∀ b ∈ fp, FpOk X pins (upd H2 D (.lst [])) b ∧ b < s3.heap.objs.size := fun b hb => by
    have lt := below b hb
    refine ⟨⟨?_, (f2 b hb).2⟩, by rw [h3, Heap.size_push]; exact Nat.lt_succ_of_lt lt⟩
    rw [upd_ne (by rw [← eD]; exact Nat.ne_of_lt lt)]
    exact (f2 b hb).1
  have y3 : st 0 s3.heap := T.stay _ _ _ y2 fun b _ o e => by rw [h3]; exact Heap.get?_push_of_some _ e
  have hot3 : HotZ X.A (upd H2 D (.lst [])) := hot.now I3
  have I4 := block_start I3 ok nd f3
  have pg := kg s3 (upd H2 D (.lst [])) s3.heap.objs.size (cellsFrom (s3.heap.objs.size + 1) scope.names (cloFrom X.env.cells scope.names [])) fp
  have pt := kt s3 (upd H2 D (.lst [])) s3.heap.objs.size (cellsFrom (s3.heap.objs.size + 1) scope.names (cloFrom X.env.cells scope.names [])) fp
  have pe := ke s3 (upd H2 D (.lst [])) s3.heap.objs.size (cellsFrom (s3.heap.objs.size + 1) scope.names (cloFrom X.env.cells scope.names [])) fp
  show codeAny _ _ (.compStart (.ListComp elt [⟨tg, iter, ifs, 0⟩] scope pos) 0 (.ref it) (.ref D) (compEnvC scope (cellsFrom (s3.heap.objs.size + 1) scope.names (cloFrom X.env.cells scope.names [])) s3.heap.objs.size X.env)) (compPost (model X.prog X.w) X.A X.xe use Qf (.ref D) s3.heap.objs.size) { s3 with heap := pushCells (s3.heap.push { cls := .type "dict", data := .dict #[] }) scope.names }
  have free3 : ∀ b ∈ fp, (upd H2 D (.lst [])) b = none := fun b hb => (f3 b hb).1.1
  generalize eC : compEnvC scope (cellsFrom (s3.heap.objs.size + 1) scope.names (cloFrom X.env.cells scope.names [])) s3.heap.objs.size X.env = ce at I4 pg pt pe ⊢
  have locC : ce.locals = s3.heap.objs.size := by subst eC; rfl
  generalize eH3 : upd H2 D (.lst []) = H3 at I3 I4 pg pt pe w0 free3 f3 hot3
  generalize es4 : ({ s3 with heap := pushCells (s3.heap.push { cls := .type "dict", data := .dict #[] }) scope.names } : Shared) = s4 at I4 ⊢
  have y4 : st 0 s4.heap := T.stay _ _ _ y3 fun b _ o e => by rw [← es4]; exact pushCells_keeps _ _ _ _ (Heap.get?_push_of_some _ e)
  have fpk : ∀ {σ' : L2.St} {H' : Hp} {s' : Shared}, Inv (X.blk s3 H3 scope ce fp) [] σ' H' s' → (∀ b ∈ fp, H' b = none) → ∀ b ∈ fp, FpOk (X.blk s3 H3 scope ce fp) [] H' b := fun {σ' H' s'} I' hn b hb =>
    ⟨hn b hb, (I'.ok.exf b hb).1, I'.ok.exfs b hb, .inl hb, fun x c e => (I'.ok.exf b hb).2 x c e, fun p hp => absurd (show p ∈ ([] : List (Addr × Obj)) ++ [] from hp) (by simp)⟩
  have loop : codeAny (model X.prog X.w) X.A (.compLoop (.ListComp elt [⟨tg, iter, ifs, 0⟩] scope pos) 0 (.ref it) (.ref D) ce) (compPost (model X.prog X.w) X.A X.xe use Qf (.ref D) s3.heap.objs.size) s4 := by
    refine compLoop_any (fun n s' => ∃ i H', Inv (X.blk s3 H3 scope ce fp) [] (wipe σ (own.map (·.2))) H' s' ∧ st i s'.heap ∧ (∀ b ∈ fp, H' b = none) ∧ W i n H') ?_ m0 ⟨0, H3, I4, y4, free3, w0⟩
    rintro n s5 ⟨i, H5, I5, y5, n5, w5⟩
    have hot5 : HotZ X.A H5 := HotZ.now (X := X.blk s3 H3 scope ce fp) hot3 I5
    rcases turn i n H5 w5 with ⟨stop, qq⟩ | ⟨go, Nx, hNx, step⟩
    · refine thnF (T.over (X.blk s3 H3 scope ce fp) rfl rfl rfl i [] s5 _ H5 (fun _ _ => False) I5 hot5 (fpk I5 n5) y5 stop) fun r s6 ⟨hr, I6⟩ => ?_
      subst hr
      have I7 : Inv X pins σ H5 s6 := I3.call' (ch := fp) I6.os I6.base I6.hok I6.bare fun b hb => ⟨(f3 b hb).1.2.2.2.1, (f3 b hb).1.2.1, (f3 b hb).1.2.2.2.2.1, (f3 b hb).1.2.2.2.2.2⟩
      have freeC : H5 s3.heap.objs.size = none := by
        rw [← locC]
        exact I6.free
      obtain ⟨m, hn, _⟩ := I6.loc
      have hn : s6.heap.Ns s3.heap.objs.size m := by
        rw [← locC]
        exact hn
      exact last D s3.heap.objs.size s6 m H5 I7 qq hn (I3.fpOk (Nat.le_refl _) freeC)
    · refine thnF (T.give (X.blk s3 H3 scope ce fp) rfl rfl rfl i [] s5 _ H5 (fun _ _ => False) I5 (fpk I5 n5) y5 go) fun r s6 ⟨u, hr, h6⟩ => ?_
      subst hr
      refine thnF h6 fun _ s7 ⟨x, H7, I7, r7, v7, y7, n7⟩ => ?_
      have J7 := I7.pinned (fpk I7 n7) (T.objs _ _ y7)
      refine thnF (pg.run _ s7 _ H7 x u _ J7 r7 (step x H7 v7)) fun _ s8 ⟨σ8, H8, I8, w8, q8⟩ => ?_
      refine thnF (pt.run _ s8 σ8 H8 _ I8 q8) fun b s9 ⟨H9, I9, q9⟩ => ?_
      have fin : ∀ {s' : Shared} {H' : Hp}, Inv (X.blk s3 H3 scope ce fp) ([] ++ pinsAt fp s7.heap) σ8 H' s' → Nx H' → ∃ m, m < n ∧ ∃ i H', Inv (X.blk s3 H3 scope ce fp) [] (wipe σ (own.map (·.2))) H' s' ∧ st i s'.heap ∧ (∀ b ∈ fp, H' b = none) ∧ W i m H' := fun {s' H'} I' nx => by
        obtain ⟨m', hm, w'⟩ := hNx H' nx
        have held : ∀ b ∈ fp, ∀ o, s7.heap.get? b = some o → s'.heap.get? b = some o ∧ H' b = none := fun b hb o e => by
          have z := I'.pin (b, o) (List.mem_append_right _ (List.mem_append_right _ (mem_pinsAt hb e)))
          exact ⟨z.1, z.2.1⟩
        refine ⟨m', hm, i + 1, H', (I'.unpinned (pins := [])).weak (by rw [← w8, wipe_length]) (fun j v e => ?_), T.stay _ _ _ y7 fun b hb o e => (held b hb o e).1, fun b hb => ?_, w'⟩
        · rw [← w8] at e
          exact (wipe_some e).1
        · obtain ⟨o, e, _⟩ := T.objs _ _ y7 b hb
          exact (held b hb o e).2
      cases b with
      | false =>
        simp only [Bool.false_eq_true, if_false] at q9 ⊢
        exact fin I9 q9
      | true =>
        simp only [if_true] at q9 ⊢
        exact thnF (pe.run _ s9 σ8 H9 _ I9 q9) fun z s10 ⟨yv, H10, I10, r10, acc, aD, az, nx⟩ => app_ok (X := X.blk s3 H3 scope ce fp) I10 aD az r10 fun s11 I11 => fin I11 nx
  exact codeAny_compStart_list loop (T.self X.A 0 _ _ _ y4 loop)
theorem pe_lcZ {elt iter : Expr} {ifs : List Expr} {scope : Scope} {own : List (Str × Nat)} {pos : Pos} {wi : TI} {g : TG} {tt : TT} {te : TE} (hot : HotF X) (nd : X.N.Nodup) (hi : PIZ X tg iter wi) (ok : BlkOk X.N X.env.scope scope own)
    (kg : ∀ (s : Shared) (H : Hp) (C : Addr) (cl : List (Str × Addr)) (fp : List Addr), PG (X.blk s H scope (compEnvC scope cl C X.env) fp) tg g) (kt : ∀ (s : Shared) (H : Hp) (C : Addr) (cl : List (Str × Addr)) (fp : List Addr), PTs (X.blk s H scope (compEnvC scope cl C X.env) fp) ifs tt)
    (ke : ∀ (s : Shared) (H : Hp) (C : Addr) (cl : List (Str × Addr)) (fp : List Addr), PE (X.blk s H scope (compEnvC scope cl C X.env) fp) elt te) (hs : ∀ x, foldedSetIterable iter X.env x = pure x := by intro _; rfl) :
    PE X (.ListComp elt [⟨tg, iter, ifs, 0⟩] scope pos) (tLc wi g tt te (own.map (·.2))) := by
  constructor
  intro pins s σ H Q I h
  rw [eval_ListComp]
  refine lcZ_core hot nd I hi ok kg kt ke hs h fun D C s' m H' I' q hn f => ⟨m, hn, fun h'' sb => ?_⟩
  obtain ⟨f0, f1, f2, f3, f4, f5⟩ := f
  exact ⟨.ref D, H', I'.turned (t' := s'.toks) (fun b o hb e => (sb.2 b hb).trans e) f0 f1 f3 f4 f5, rfl, q⟩
end
end Sw
namespace Sw
open PySem PySem.Spec PyProof.Rows L2
local macro_rules | `(tactic| walk_at "hp") => `(tactic| first
  | (with_reducible assumption) | (with_reducible exact upd_same)
  | ((with_reducible refine' upd_old ?q1 ?q2); (case q1 => (with_reducible assumption)); (case q2 => walk_at "hp"))
  | ((with_reducible refine' Same.at ?q1 ?q2); (case q1 => (with_reducible assumption)); (case q2 => walk_at "hp"))
  | ((with_reducible refine' upd_skip ?q1 ?q2); (case q1 => walk_at "ne"); (case q2 => walk_at "hp"))
  | fail)
local macro_rules | `(tactic| walk_at "ne") => `(tactic| first
  | (with_reducible assumption) | (with_reducible exact Ne.symm (by assumption))
  | ((with_reducible refine' ne_of_none ?q1 ?q2); (case q2 => (with_reducible assumption)); (case q1 => walk_at "hp"))
  | fail)
local macro_rules | `(tactic| walk_at "ci") => `(tactic| first | assumption | (show (0 : Int) < _; first | decide | (with_reducible omega)) | exact ⟨by decide, by decide⟩ | exact .inl ⟨by decide, by decide⟩ | exact .inr ⟨by decide, by decide⟩)
local macro_rules | `(tactic| walk_at "ln") => `(tactic| first | (with_reducible assumption) | (with_reducible omega) | (simp only [List.length_append, List.length_take, List.length_drop, List.length_reverse, List.length_cons, List.length_nil]; with_reducible omega))
local macro_rules | `(tactic| walk_at "rd1") => `(tactic| first
  | (with_reducible refine i_seq ?_) | (with_reducible refine i_asg ?_) | (with_reducible refine i_ret ?_) | (with_reducible refine i_name ?_) | ((with_reducible refine' i_var ?q1 ?_); (case q1 => exact rfl)) | (with_reducible refine i_c ?_) | (with_reducible refine i_op ?_) | (with_reducible refine i_un ?_)
  | (with_reducible refine i_rI0 ?_) | (with_reducible refine i_cb ?_) | (with_reducible refine i_cons ?_) | (with_reducible refine i_nil ?_) | (with_reducible refine i_call ?_) | (with_reducible refine i_if ?_) | (with_reducible refine i_ifE ?_) | (with_reducible refine i_test ?_) | (with_reducible refine i_bl ?_)
  | (with_reducible refine i_and ?_) | (with_reducible refine i_or ?_) | (with_reducible refine i_not ?_) | (with_reducible refine i_lstM ?_) | (with_reducible refine i_lstLM ?_) | (with_reducible refine i_tupM ?_) | (with_reducible refine i_next ?_) | (with_reducible refine i_drop ?_) | (with_reducible refine i_sub ?_)
  | (with_reducible refine i_bm ?_) | (with_reducible refine i_sl ?_) | (with_reducible refine i_part ?_) | (with_reducible refine i_nopart ?_) | (with_reducible refine i_exI ?_) | (with_reducible refine i_chain ?_) | ((with_reducible refine' i_aug ?q1 ?_); (case q1 => exact rfl)) | (with_reducible refine i_ip ?_)
  | (with_reducible refine i_par ?_) | (with_reducible refine i_pair ?_) | (with_reducible refine i_andV ?_) | (with_reducible refine i_orV ?_) | (with_reducible refine i_notV ?_) | (with_reducible refine i_m1 ?_) | (with_reducible refine i_str ?_)
  | (with_reducible refine iteF ?_) | (with_reducible refine iteT ?_) | (with_reducible refine iteNT ?_) | (with_reducible refine iteNF ?_) | (with_reducible refine i_tyS ?_) | (with_reducible refine i_tB ?_) | (with_reducible refine i_retN ?_) | (with_reducible refine i_par3 ?_) | (with_reducible refine i_trip ?_) | (with_reducible refine i_gCons ?_) | (with_reducible refine i_gNil ?_) | (with_reducible refine i_lstRg ?_) | (with_reducible refine i_rg1 ?_)
  | (with_reducible refine i_lc ?_) | (with_reducible refine i_for ?_) | (with_reducible refine i_iList ?_) | (with_reducible refine i_iTup ?_) | (with_reducible refine i_iStr ?_) | (with_reducible refine i_iRng1 ?_) | (with_reducible refine i_iEnS ?_)
  | ((with_reducible refine' i_ixTH ?q1 ?q2 ?_); (case q1 => walk_at "hp"); (case q2 => exact rfl))
  | ((with_reducible refine' i_ixLH ?q1 ?q2 ?_); (case q1 => walk_at "hp"); (case q2 => exact rfl))
  | ((with_reducible refine i_addS ?q1 ?_); (case q1 => walk_at "ln")) | ((with_reducible refine i_lenSS ?q1 ?_); (case q1 => walk_at "ln")) | ((with_reducible refine i_slFrom ?q1 ?q2 ?_); (case q1 => walk_at "ln"); (case q2 => walk_at "ln")) | ((with_reducible refine i_slTo ?q1 ?q2 ?_); (case q1 => walk_at "ln"); (case q2 => walk_at "ln"))
  | ((with_reducible refine' i_tyL ?q1 ?_); (case q1 => walk_at "hp"))
  | ((with_reducible refine' i_gTupH ?q1 ?q2 ?_); (case q1 => walk_at "hp"); (case q2 => exact rfl))
  | (with_reducible refine i_dnewM ?_) | (with_reducible refine i_init ?_) | (with_reducible refine i_fst ?_) | (with_reducible refine i_mk ?_) | (with_reducible refine i_mkF ?_) | (with_reducible refine i_raise ?_) | (with_reducible refine i_callS ?_) | (with_reducible refine i_kwS ?_)
  | (with_reducible refine i_revT ?_) | (with_reducible refine i_kw ?_) | ((with_reducible refine' ⟨_, _, rfl, sqT_of ?q1, ?_⟩); (case q1 => walk_at "hp"))
  | (with_reducible refine i_revS ?_) | ((with_reducible refine i_revSS ?q1 ?_); (case q1 => walk_at "ln"))
  | (with_reducible refine i_startS ?_) | (with_reducible refine i_inSg ?_) | (with_reducible refine i_absN ?_) | (with_reducible refine i_min2 ?_) | (with_reducible refine i_max2 ?_) | (with_reducible refine i_min3 ?_) | (with_reducible refine i_intN ?_) | (with_reducible refine i_intNB ?_)
  | ((with_reducible refine' i_lenL ?q1 ?_); (case q1 => walk_at "hp")) | ((with_reducible refine' i_lenT ?q1 ?_); (case q1 => walk_at "hp"))
  | (with_reducible refine i_eqI ?_) | (with_reducible refine i_neI ?_) | (with_reducible refine i_eqS ?_) | (with_reducible refine i_neS ?_) | (with_reducible refine i_isNoI ?_) | (with_reducible refine i_isNoN ?_) | (with_reducible refine i_isNoR ?_)
  | ((with_reducible refine i_pow ?q1 ?q2 ?q3 ?_); (case q1 => decide); (case q2 => decide); (case q3 => (with_reducible omega)))
  | ((with_reducible refine i_rI ?q1 ?_); (case q1 => walk_at "ci"))
  | (with_reducible refine Or.inl ⟨_, rfl, ?_⟩) | (with_reducible refine Or.inr ⟨_, rfl, ?_⟩) | (with_reducible refine ⟨_, rfl, ?_⟩) | (with_reducible refine ⟨_, _, rfl, ?_⟩) | (with_reducible refine ⟨_, _, rfl, rfl, ?_⟩)
  | ((with_reducible refine' ⟨_, _, rfl, Or.inl (sqL_of ?q1), ?_⟩); (case q1 => walk_at "hp")) | ((with_reducible refine' ⟨_, _, rfl, Or.inr (sqT_of ?q1), ?_⟩); (case q1 => walk_at "hp")) | (with_reducible refine i_dget ?_) | (with_reducible refine i_disp1T ?_) | (with_reducible refine i_dcT ?_) | (with_reducible refine i_dnewT ?_) | (with_reducible refine i_fld ?_) | (with_reducible refine i_sFld ?_) | (with_reducible refine i_make ?_) | (with_reducible refine i_meth ?_) | (with_reducible refine i_star ?_) | (with_reducible refine i_isNoS ?_) | (with_reducible refine i_lc2 ?_) | (with_reducible refine i_iEnT ?_) | (with_reducible refine i_iZipT ?_) | fail)
local macro_rules | `(tactic| walk_at "rd") => `(tactic| repeat' walk_at "rd1")

local macro_rules | `(tactic| walk_at "rd1") => `(tactic| first | (with_reducible refine i_mkVt ?_) | (with_reducible refine i_xvt ?_))
theorem unitsZ {k : Nat} {A : Around} (r : L2H.RoomH k A) : A.units + 64 < cLine := by have := r.un; omega
section
variable {P : Program} {w : World} {K : PySem.W.Frag} {mg : Str → Option Value} {base : Heap} {f : Addr} {fd : FuncData} {B C0 C1 C2 C3 C4 C5 C6 C7 C8 C9 C10 C11 C12 C13 C14 C15 C16 C17 C18 C19 C20 C21 : Addr}
theorem ok_sortsZ (F : Fun K "_law_sorts" "_law_sorts" s__law_sorts f fd) (z : Z mg) (xs : XS P w K mg base B C0 C1 C2 C3 C4 C5 C6 C7 C8 C9 C10 C11 C12 C13 C14 C15 C16 C17 C18 C19 C20 C21) : FnZ P w K mg base CX0 1 f fd ["e"] (spSorts (csL C0 C1 C2 C3 C4 C5 C6 C7 C8 C9 C10 C11 C12 C13 C14 C15 C16 C17 C18 C19 C20 C21)) := by
  refine Sw.Fun.okZ F sc__law_sorts (fun vs H Q E h => ?_) (fun cdv A outer s H vs Q E hr hot h => ?_)
  · obtain ⟨a, C, fs, rfl, _⟩ := h; rfl
  · obtain ⟨a, C, fs, rfl, ev, hC, k⟩ := h
    refine ⟨_, (pss_cons (ps_set (i := 1) sc__law_sorts.nd rfl (.inl rfl) (pe_lst (pa_cons (pe_callB call_isV (by rfl) z.isinstance (by decide +kernel) (pa_cons (pv 0) (pa_cons (pe_glob (v := .ref C0) rfl xs.x0.hm rfl) pa_nil))) (pa_cons (pe_callB call_isV (by rfl) z.isinstance (by decide +kernel) (pa_cons (pv 0) (pa_cons (pe_glob (v := .ref C1) rfl xs.x1.hm rfl) pa_nil))) (pa_cons (pe_callB call_isV (by rfl) z.isinstance (by decide +kernel) (pa_cons (pv 0) (pa_cons (pe_glob (v := .ref C2) rfl xs.x2.hm rfl) pa_nil))) pa_nil)))))
      (pss_cons (ps_set (i := 1) sc__law_sorts.nd rfl (.inl rfl) (pe_op op_cat (pv 1) (pe_lst (pa_cons (pe_callB call_isV (by rfl) z.isinstance (by decide +kernel) (pa_cons (pv 0) (pa_cons (pe_glob (v := .ref C3) rfl xs.x3.hm rfl) pa_nil))) (pa_cons (pe_callB call_isV (by rfl) z.isinstance (by decide +kernel) (pa_cons (pv 0) (pa_cons (pe_glob (v := .ref C4) rfl xs.x4.hm rfl) pa_nil))) (pa_cons (pe_callB call_isV (by rfl) z.isinstance (by decide +kernel) (pa_cons (pv 0) (pa_cons (pe_glob (v := .ref C5) rfl xs.x5.hm rfl) pa_nil))) pa_nil))))))
      (pss_cons (ps_set (i := 1) sc__law_sorts.nd rfl (.inl rfl) (pe_op op_cat (pv 1) (pe_lst (pa_cons (pe_callB call_isV (by rfl) z.isinstance (by decide +kernel) (pa_cons (pv 0) (pa_cons (pe_glob (v := .ref C6) rfl xs.x6.hm rfl) pa_nil))) (pa_cons (pe_callB call_isV (by rfl) z.isinstance (by decide +kernel) (pa_cons (pv 0) (pa_cons (pe_glob (v := .ref C7) rfl xs.x7.hm rfl) pa_nil))) (pa_cons (pe_callB call_isV (by rfl) z.isinstance (by decide +kernel) (pa_cons (pv 0) (pa_cons (pe_glob (v := .ref C8) rfl xs.x8.hm rfl) pa_nil))) pa_nil))))))
      (pss_cons (ps_set (i := 1) sc__law_sorts.nd rfl (.inl rfl) (pe_op op_cat (pv 1) (pe_lst (pa_cons (pe_callB call_isV (by rfl) z.isinstance (by decide +kernel) (pa_cons (pv 0) (pa_cons (pe_glob (v := .ref C9) rfl xs.x9.hm rfl) pa_nil))) (pa_cons (pe_callB call_isV (by rfl) z.isinstance (by decide +kernel) (pa_cons (pv 0) (pa_cons (pe_glob (v := .ref C10) rfl xs.x10.hm rfl) pa_nil))) (pa_cons (pe_callB call_isV (by rfl) z.isinstance (by decide +kernel) (pa_cons (pv 0) (pa_cons (pe_glob (v := .ref C11) rfl xs.x11.hm rfl) pa_nil))) pa_nil))))))
      (pss_cons (ps_set (i := 1) sc__law_sorts.nd rfl (.inl rfl) (pe_op op_cat (pv 1) (pe_lst (pa_cons (pe_callB call_isV (by rfl) z.isinstance (by decide +kernel) (pa_cons (pv 0) (pa_cons (pe_glob (v := .ref C12) rfl xs.x12.hm rfl) pa_nil))) (pa_cons (pe_callB call_isV (by rfl) z.isinstance (by decide +kernel) (pa_cons (pv 0) (pa_cons (pe_glob (v := .ref C13) rfl xs.x13.hm rfl) pa_nil))) (pa_cons (pe_callB call_isV (by rfl) z.isinstance (by decide +kernel) (pa_cons (pv 0) (pa_cons (pe_glob (v := .ref C14) rfl xs.x14.hm rfl) pa_nil))) pa_nil))))))
      (pss_cons (ps_set (i := 1) sc__law_sorts.nd rfl (.inl rfl) (pe_op op_cat (pv 1) (pe_lst (pa_cons (pe_callB call_isV (by rfl) z.isinstance (by decide +kernel) (pa_cons (pv 0) (pa_cons (pe_glob (v := .ref C15) rfl xs.x15.hm rfl) pa_nil))) (pa_cons (pe_callB call_isV (by rfl) z.isinstance (by decide +kernel) (pa_cons (pv 0) (pa_cons (pe_glob (v := .ref C16) rfl xs.x16.hm rfl) pa_nil))) (pa_cons (pe_callB call_isV (by rfl) z.isinstance (by decide +kernel) (pa_cons (pv 0) (pa_cons (pe_glob (v := .ref C17) rfl xs.x17.hm rfl) pa_nil))) pa_nil))))))
      (pss_cons (ps_set (i := 1) sc__law_sorts.nd rfl (.inl rfl) (pe_op op_cat (pv 1) (pe_lst (pa_cons (pe_callB call_isV (by rfl) z.isinstance (by decide +kernel) (pa_cons (pv 0) (pa_cons (pe_glob (v := .ref C18) rfl xs.x18.hm rfl) pa_nil))) (pa_cons (pe_callB call_isV (by rfl) z.isinstance (by decide +kernel) (pa_cons (pv 0) (pa_cons (pe_glob (v := .ref C19) rfl xs.x19.hm rfl) pa_nil))) (pa_cons (pe_callB call_isV (by rfl) z.isinstance (by decide +kernel) (pa_cons (pv 0) (pa_cons (pe_glob (v := .ref C20) rfl xs.x20.hm rfl) pa_nil))) pa_nil))))))
      (pss_one (ps_ret (pe_op op_cat (pv 1) (pe_lst (pa_cons (pe_callB call_isV (by rfl) z.isinstance (by decide +kernel) (pa_cons (pv 0) (pa_cons (pe_glob (v := .ref C21) rfl xs.x21.hm rfl) pa_nil))) pa_nil)))))))))))), ?_⟩
    have oC := xs.ov C hC
    have s0 := Same.refl H
    have v0 := ev
    walk_at "rd"
    refine i_isV v0 oC xs.ob xs.x0.ov xs.x0.nB ?_
    walk_at "rd"
    refine i_isV v0 oC xs.ob xs.x1.ov xs.x1.nB ?_
    walk_at "rd"
    refine i_isV v0 oC xs.ob xs.x2.ov xs.x2.nB ?_
    walk_at "rd"
    refine newL0 (Nat.le_of_ble_eq_true rfl) fun p0 L0 np0 u0 e0 => ?_
    have v1 := v0.same u0
    walk_at "rd"
    refine i_isV v1 oC xs.ob xs.x3.ov xs.x3.nB ?_
    walk_at "rd"
    refine i_isV v1 oC xs.ob xs.x4.ov xs.x4.nB ?_
    walk_at "rd"
    refine i_isV v1 oC xs.ob xs.x5.ov xs.x5.nB ?_
    walk_at "rd"
    refine newL0 (Nat.le_of_ble_eq_true rfl) fun p1 L1 np1 u1 e1 => ?_
    refine i_catN (u1 _ _ e0) e1 (by simp only [List.length_append, List.length_cons, List.length_nil]; omega) fun c1 M1 nc1 w1 f1 => ?_
    have v2 := v1.same (u1.trans w1)
    walk_at "rd"
    refine i_isV v2 oC xs.ob xs.x6.ov xs.x6.nB ?_
    walk_at "rd"
    refine i_isV v2 oC xs.ob xs.x7.ov xs.x7.nB ?_
    walk_at "rd"
    refine i_isV v2 oC xs.ob xs.x8.ov xs.x8.nB ?_
    walk_at "rd"
    refine newL0 (Nat.le_of_ble_eq_true rfl) fun p2 L2 np2 u2 e2 => ?_
    refine i_catN (u2 _ _ f1) e2 (by simp only [List.length_append, List.length_cons, List.length_nil]; omega) fun c2 M2 nc2 w2 f2 => ?_
    have v3 := v2.same (u2.trans w2)
    walk_at "rd"
    refine i_isV v3 oC xs.ob xs.x9.ov xs.x9.nB ?_
    walk_at "rd"
    refine i_isV v3 oC xs.ob xs.x10.ov xs.x10.nB ?_
    walk_at "rd"
    refine i_isV v3 oC xs.ob xs.x11.ov xs.x11.nB ?_
    walk_at "rd"
    refine newL0 (Nat.le_of_ble_eq_true rfl) fun p3 L3 np3 u3 e3 => ?_
    refine i_catN (u3 _ _ f2) e3 (by simp only [List.length_append, List.length_cons, List.length_nil]; omega) fun c3 M3 nc3 w3 f3 => ?_
    have v4 := v3.same (u3.trans w3)
    walk_at "rd"
    refine i_isV v4 oC xs.ob xs.x12.ov xs.x12.nB ?_
    walk_at "rd"
    refine i_isV v4 oC xs.ob xs.x13.ov xs.x13.nB ?_
    walk_at "rd"
    refine i_isV v4 oC xs.ob xs.x14.ov xs.x14.nB ?_
    walk_at "rd"
    refine newL0 (Nat.le_of_ble_eq_true rfl) fun p4 L4 np4 u4 e4 => ?_
    refine i_catN (u4 _ _ f3) e4 (by simp only [List.length_append, List.length_cons, List.length_nil]; omega) fun c4 M4 nc4 w4 f4 => ?_
    have v5 := v4.same (u4.trans w4)
    walk_at "rd"
    refine i_isV v5 oC xs.ob xs.x15.ov xs.x15.nB ?_
    walk_at "rd"
    refine i_isV v5 oC xs.ob xs.x16.ov xs.x16.nB ?_
    walk_at "rd"
    refine i_isV v5 oC xs.ob xs.x17.ov xs.x17.nB ?_
    walk_at "rd"
    refine newL0 (Nat.le_of_ble_eq_true rfl) fun p5 L5 np5 u5 e5 => ?_
    refine i_catN (u5 _ _ f4) e5 (by simp only [List.length_append, List.length_cons, List.length_nil]; omega) fun c5 M5 nc5 w5 f5 => ?_
    have v6 := v5.same (u5.trans w5)
    walk_at "rd"
    refine i_isV v6 oC xs.ob xs.x18.ov xs.x18.nB ?_
    walk_at "rd"
    refine i_isV v6 oC xs.ob xs.x19.ov xs.x19.nB ?_
    walk_at "rd"
    refine i_isV v6 oC xs.ob xs.x20.ov xs.x20.nB ?_
    walk_at "rd"
    refine newL0 (Nat.le_of_ble_eq_true rfl) fun p6 L6 np6 u6 e6 => ?_
    refine i_catN (u6 _ _ f5) e6 (by simp only [List.length_append, List.length_cons, List.length_nil]; omega) fun c6 M6 nc6 w6 f6 => ?_
    have v7 := v6.same (u6.trans w6)
    walk_at "rd"
    refine i_isV v7 oC xs.ob xs.x21.ov xs.x21.nB ?_
    walk_at "rd"
    refine newL0 (Nat.le_of_ble_eq_true rfl) fun p7 L7 np7 u7 e7 => ?_
    refine i_catN (u7 _ _ f6) e7 (by simp only [List.length_append, List.length_cons, List.length_nil]; omega) fun c7 M7 nc7 w7 f7 => ?_
    have v8 := v7.same (u7.trans w7)
    exact k c7 _ (Same.free (u0.trans (u1.trans (w1.trans (u2.trans (w2.trans (u3.trans (w3.trans (u4.trans (w4.trans (u5.trans (w5.trans (u6.trans (w6.trans u7))))))))))))) nc7) (u0.trans (u1.trans (w1.trans (u2.trans (w2.trans (u3.trans (w3.trans (u4.trans (w4.trans (u5.trans (w5.trans (u6.trans (w6.trans (u7.trans w7)))))))))))))) f7
theorem ok_keptZ (F : Fun K "_law_kept" "_law_kept" s__law_kept f fd) (z : Z mg) (xs : XS P w K mg base B C0 C1 C2 C3 C4 C5 C6 C7 C8 C9 C10 C11 C12 C13 C14 C15 C16 C17 C18 C19 C20 C21) : FnZ P w K mg base CX0 1 f fd ["e"] (spKept (csL C0 C1 C2 C3 C4 C5 C6 C7 C8 C9 C10 C11 C12 C13 C14 C15 C16 C17 C18 C19 C20 C21)) := by
  refine Sw.Fun.okZ F sc__law_kept (fun vs H Q E h => ?_) (fun cdv A outer s H vs Q E hr hot h => ?_)
  · obtain ⟨a, C, f, v, i, rfl, _⟩ := h; rfl
  · obtain ⟨a, C, fn, v, i, rfl, ev, hi, hf, k⟩ := h
    refine ⟨_, (pss_cons (ps_if (pt_val (pe_callB call_isV (by rfl) z.isinstance (by decide +kernel) (pa_cons (pv 0) (pa_cons (pe_glob (v := .ref C15) rfl xs.x15.hm rfl) pa_nil))))
        (pss_one (ps_ret (pe_xv (pv 0))))
        pss_nil)
      (pss_cons (ps_if (pt_val (pe_callB call_isV (by rfl) z.isinstance (by decide +kernel) (pa_cons (pv 0) (pa_cons (pe_glob (v := .ref C16) rfl xs.x16.hm rfl) pa_nil))))
        (pss_one (ps_ret (pe_xv (pv 0))))
        pss_nil)
      (pss_one (ps_ret (pe_xv (pv 0)))))), ?_⟩
    have oC := xs.ov C (List.mem_of_getElem? hi)
    have lu : ([(fn, v)] : List (Str × V)).lookup fn = some v := by simp [List.lookup]
    walk_at "rd"
    refine i_isV ev oC xs.ob xs.x15.ov xs.x15.nB ?_
    walk_at "rd"
    by_cases c : C = C15
    · have e : i = 15 := Classical.byContradiction fun ne => nd_ne xs.nd hi (j := 15) rfl ne c
      subst e
      cases hf
      rw [decide_eq_true c]
      walk_at "rd"
      exact ⟨a, C, _, v, rfl, ev, oC.f.xf, oC.f.n2, lu, k⟩
    rw [decide_eq_false c]
    walk_at "rd"
    refine i_isV ev oC xs.ob xs.x16.ov xs.x16.nB ?_
    walk_at "rd"
    by_cases c2 : C = C16
    · have e : i = 16 := Classical.byContradiction fun ne => nd_ne xs.nd hi (j := 16) rfl ne c2
      subst e
      cases hf
      rw [decide_eq_true c2]
      walk_at "rd"
      exact ⟨a, C, _, v, rfl, ev, oC.f.xf, oC.f.n3, lu, k⟩
    rw [decide_eq_false c2]
    have e : i < 15 := Classical.byContradiction fun ne => by
      have h17 : i < 17 := (List.getElem?_eq_some_iff.mp hf).1
      have : i = 15 ∨ i = 16 := by omega
      rcases this with rfl | rfl
      · cases hi; exact c rfl
      · cases hi; exact c2 rfl
    have e2 : fn = "given" := Option.some.inj (hf.symm.trans ((show ∀ i, i < 15 → fl17[i]? = some ("given" : Str) from by decide) i e))
    subst e2
    walk_at "rd"
    exact ⟨a, C, _, v, rfl, ev, oC.f.xf, oC.f.n1, lu, k⟩
theorem ok_isZ (F : Fun K "_law_is" "_law_is" s__law_is f fd) (z : Z mg) (xs : XS P w K mg base B C0 C1 C2 C3 C4 C5 C6 C7 C8 C9 C10 C11 C12 C13 C14 C15 C16 C17 C18 C19 C20 C21) (z__law_sorts : CalZ P w K mg base "_law_sorts" ["e"] 1 (spSorts (csL C0 C1 C2 C3 C4 C5 C6 C7 C8 C9 C10 C11 C12 C13 C14 C15 C16 C17 C18 C19 C20 C21))) : FnZ P w K mg base CX0 2 f fd ["e", "spot"] (spIs (csL C0 C1 C2 C3 C4 C5 C6 C7 C8 C9 C10 C11 C12 C13 C14 C15 C16 C17 C18 C19 C20 C21)) := by
  refine Sw.Fun.okZ F sc__law_is (fun vs H Q E h => ?_) (fun cdv A outer s H vs Q E hr hot h => ?_)
  · obtain ⟨a, C, fs, i, rfl, _⟩ := h; rfl
  · obtain ⟨a, C, fs, i, rfl, ev, hi, k⟩ := h
    refine ⟨_, (pss_cons (ps_set (i := 2) sc__law_is.nd rfl (.inr rfl) (pe_calZ z__law_sorts hr hot (pa_cons (pv 0) pa_nil)))
      (pss_cons (ps_if (PW.pt (pw_or (pt_not (pt_val (pe_callB call_isV (by rfl) z.isinstance (by decide +kernel) (pa_cons (pv 0) (pa_cons (pe_glob (v := .ref B) rfl xs.hB rfl) pa_nil))))) (pw_or1 (pt_not (pt_val (pe_callB call_isV (by rfl) z.isinstance (by decide +kernel) (pa_cons (pv 0) (pa_cons (pe_bltn (v := .ty "Exception") (by rfl) z.Exception (by decide +kernel) rfl) pa_nil))))))))
        (pss_one (ps_ret pe_bl))
        pss_nil)
      (pss_one (ps_ret (pe_cmpR (op_eqD (unitsZ hr)) (pe_lcZ (own := [("k", 3)]) (g := gName 3) (tt := _) hot sc__law_is.nd (pi_rangeZ (by rfl) z.range (pa_cons (pe_callB call_lenQ (by rfl) z.len PySem.boot_len (pa_cons (pv 2) pa_nil)) pa_nil)) (blkOk_by (own := [("k", 3)]) (N := n__law_is) (sc := defScope s__law_is) (by decide +kernel)) (fun _ _ _ _ _ => (pg_name (i := 3) sc__law_is.nd rfl (.inl rfl))) (fun _ _ _ _ _ => (pts_one (pt_val (pe_ix (r := rIxL K) ix_list (pv 2) (pv 3) (fun _ _ => rfl))))) (fun _ _ _ _ _ => (pv 3))) (pe_lst (pa_cons (pv 1) pa_nil)) (nomark _)))))), ?_⟩
    have oC := xs.ov C (List.mem_of_getElem? hi)
    have i22 : i < 22 := (List.getElem?_eq_some_iff.mp hi).1
    walk_at "rd"
    refine ⟨a, C, fs, rfl, ev, List.mem_of_getElem? hi, fun q H1 nq s1 eq => ?_⟩
    have ev1 := ev.same s1
    walk_at "rd"
    refine i_isVB ev1 oC xs.ob ?_
    walk_at "rd"
    refine i_isVE ev1 oC xs.ob ?_
    walk_at "rd"
    have nd := xs.nd
    have lC : (csL C0 C1 C2 C3 C4 C5 C6 C7 C8 C9 C10 C11 C12 C13 C14 C15 C16 C17 C18 C19 C20 C21).length = 22 := rfl
    generalize csL C0 C1 C2 C3 C4 C5 C6 C7 C8 C9 C10 C11 C12 C13 C14 C15 C16 C17 C18 C19 C20 C21 = CS at *
    rw [List.length_map, lC]
    refine i_rng (by omega) (by omega) ?_
    refine go_lc walk_rangeZ (fun pk j Hx => Hx pk = some (.lst (((List.range j).filter fun k => decide (k = i)).map iV)) ∧ Same H1 Hx) (fun pk npk => ⟨upd_same, same_upd npk⟩) (fun _ _ _ _ _ => trivial) (fun pk npk j v Hx Hy hj h y => ?_) (fun pk Hx npk h => ?_)
    · obtain ⟨ek, sx⟩ := h
      obtain ⟨rfl, rfl⟩ := y
      have hj : j < 22 := hj
      have eqx := sx _ _ eq
      have gj : (CS.map fun D => V.bl (decide (C = D)))[j]? = some (.bl (decide (j = i))) := by
        rw [List.getElem?_map, List.getElem?_eq_getElem (by omega)]
        have gi := List.getElem?_eq_some_iff.mp hi
        by_cases c : j = i
        · subst c
          simp [gi.2]
        · have : C ≠ CS[j] := nd_ne nd hi (List.getElem?_eq_getElem (by omega)) (fun e => c e.symm)
          simp [c, this]
      walk_at "rd"
      refine ⟨rfl, ?_⟩
      walk_at "rd"
      refine i_ixLv eqx (by omega) (by rw [Int.toNat_natCast]; exact gj) ?_
      walk_at "rd"
      by_cases c : j = i
      · rw [decide_eq_true c]
        walk_at "rd"
        have lf := List.length_filter_le (fun k => decide (k = i)) (List.range j)
        rw [List.length_range] at lf
        refine ⟨_, ek, sm100 (by rw [List.length_map]; omega), ?_, Same.set_new sx npk⟩
        rw [upd_same, List.range_succ, List.filter_append, List.filter_cons_of_pos (by simp [c]), List.filter_nil, List.map_append]; rfl
      · rw [decide_eq_false c]
        walk_at "rd"
        rw [List.range_succ, List.filter_append, List.filter_cons_of_neg (by simp [c]), List.filter_nil, List.append_nil]
        exact ⟨ek, sx⟩
    obtain ⟨ek, sx⟩ := h
    have ek : Hx pk = some (.lst [iV i]) := by rw [ek, show Int.toNat ((22 : Nat) : Int) = 22 from rfl, filt_one i22]; rfl
    walk_at "rd"
    refine newL0 (Nat.le_of_ble_eq_true rfl) fun e0 H5 ne0 s5 e5 => ?_
    have sd : Sd 0 9 (.int (i : Int)) := sd_int9 (by omega)
    refine i_eqOne (s5 _ _ ek) e5 (.int _) sd rfl (by omega) (by simp [PyData.eqv]) ?_
    exact k _ (s1.trans (sx.trans s5))
end
end Sw
namespace Sw
open PySem PySem.Spec PyProof.Rows L2
local macro_rules | `(tactic| walk_at "hp") => `(tactic| first
  | (with_reducible assumption) | (with_reducible exact upd_same)
  | ((with_reducible refine' upd_old ?q1 ?q2); (case q1 => (with_reducible assumption)); (case q2 => walk_at "hp"))
  | ((with_reducible refine' Same.at ?q1 ?q2); (case q1 => (with_reducible assumption)); (case q2 => walk_at "hp"))
  | ((with_reducible refine' upd_skip ?q1 ?q2); (case q1 => walk_at "ne"); (case q2 => walk_at "hp"))
  | fail)
local macro_rules | `(tactic| walk_at "ne") => `(tactic| first
  | (with_reducible assumption) | (with_reducible exact Ne.symm (by assumption))
  | ((with_reducible refine' ne_of_none ?q1 ?q2); (case q2 => (with_reducible assumption)); (case q1 => walk_at "hp"))
  | fail)
local macro_rules | `(tactic| walk_at "ci") => `(tactic| first | assumption | (show (0 : Int) < _; first | decide | (with_reducible omega)) | exact ⟨by decide, by decide⟩ | exact .inl ⟨by decide, by decide⟩ | exact .inr ⟨by decide, by decide⟩)
local macro_rules | `(tactic| walk_at "ln") => `(tactic| first | (with_reducible assumption) | (with_reducible omega) | (simp only [List.length_append, List.length_take, List.length_drop, List.length_reverse, List.length_cons, List.length_nil]; with_reducible omega))
local macro_rules | `(tactic| walk_at "rd1") => `(tactic| first
  | (with_reducible refine i_seq ?_) | (with_reducible refine i_asg ?_) | (with_reducible refine i_ret ?_) | (with_reducible refine i_name ?_) | ((with_reducible refine' i_var ?q1 ?_); (case q1 => exact rfl)) | (with_reducible refine i_c ?_) | (with_reducible refine i_op ?_) | (with_reducible refine i_un ?_)
  | (with_reducible refine i_rI0 ?_) | (with_reducible refine i_cb ?_) | (with_reducible refine i_cons ?_) | (with_reducible refine i_nil ?_) | (with_reducible refine i_call ?_) | (with_reducible refine i_if ?_) | (with_reducible refine i_ifE ?_) | (with_reducible refine i_test ?_) | (with_reducible refine i_bl ?_)
  | (with_reducible refine i_and ?_) | (with_reducible refine i_or ?_) | (with_reducible refine i_not ?_) | (with_reducible refine i_lstM ?_) | (with_reducible refine i_lstLM ?_) | (with_reducible refine i_tupM ?_) | (with_reducible refine i_next ?_) | (with_reducible refine i_drop ?_) | (with_reducible refine i_sub ?_)
  | (with_reducible refine i_bm ?_) | (with_reducible refine i_sl ?_) | (with_reducible refine i_part ?_) | (with_reducible refine i_nopart ?_) | (with_reducible refine i_exI ?_) | (with_reducible refine i_chain ?_) | ((with_reducible refine' i_aug ?q1 ?_); (case q1 => exact rfl)) | (with_reducible refine i_ip ?_)
  | (with_reducible refine i_par ?_) | (with_reducible refine i_pair ?_) | (with_reducible refine i_andV ?_) | (with_reducible refine i_orV ?_) | (with_reducible refine i_notV ?_) | (with_reducible refine i_m1 ?_) | (with_reducible refine i_str ?_)
  | (with_reducible refine iteF ?_) | (with_reducible refine iteT ?_) | (with_reducible refine iteNT ?_) | (with_reducible refine iteNF ?_) | (with_reducible refine i_tyS ?_) | (with_reducible refine i_tB ?_) | (with_reducible refine i_retN ?_) | (with_reducible refine i_par3 ?_) | (with_reducible refine i_trip ?_) | (with_reducible refine i_gCons ?_) | (with_reducible refine i_gNil ?_) | (with_reducible refine i_lstRg ?_) | (with_reducible refine i_rg1 ?_)
  | (with_reducible refine i_lc ?_) | (with_reducible refine i_for ?_) | (with_reducible refine i_iList ?_) | (with_reducible refine i_iTup ?_) | (with_reducible refine i_iStr ?_) | (with_reducible refine i_iRng1 ?_) | (with_reducible refine i_iEnS ?_)
  | ((with_reducible refine' i_ixTH ?q1 ?q2 ?_); (case q1 => walk_at "hp"); (case q2 => exact rfl))
  | ((with_reducible refine' i_ixLH ?q1 ?q2 ?_); (case q1 => walk_at "hp"); (case q2 => exact rfl))
  | ((with_reducible refine i_addS ?q1 ?_); (case q1 => walk_at "ln")) | ((with_reducible refine i_lenSS ?q1 ?_); (case q1 => walk_at "ln")) | ((with_reducible refine i_slFrom ?q1 ?q2 ?_); (case q1 => walk_at "ln"); (case q2 => walk_at "ln")) | ((with_reducible refine i_slTo ?q1 ?q2 ?_); (case q1 => walk_at "ln"); (case q2 => walk_at "ln"))
  | ((with_reducible refine' i_tyL ?q1 ?_); (case q1 => walk_at "hp"))
  | ((with_reducible refine' i_gTupH ?q1 ?q2 ?_); (case q1 => walk_at "hp"); (case q2 => exact rfl))
  | (with_reducible refine i_dnewM ?_) | (with_reducible refine i_init ?_) | (with_reducible refine i_fst ?_) | (with_reducible refine i_mk ?_) | (with_reducible refine i_mkF ?_) | (with_reducible refine i_raise ?_) | (with_reducible refine i_callS ?_) | (with_reducible refine i_kwS ?_)
  | (with_reducible refine i_revT ?_) | (with_reducible refine i_kw ?_) | ((with_reducible refine' ⟨_, _, rfl, sqT_of ?q1, ?_⟩); (case q1 => walk_at "hp"))
  | (with_reducible refine i_revS ?_) | ((with_reducible refine i_revSS ?q1 ?_); (case q1 => walk_at "ln"))
  | (with_reducible refine i_startS ?_) | (with_reducible refine i_inSg ?_) | (with_reducible refine i_absN ?_) | (with_reducible refine i_min2 ?_) | (with_reducible refine i_max2 ?_) | (with_reducible refine i_min3 ?_) | (with_reducible refine i_intN ?_) | (with_reducible refine i_intNB ?_)
  | ((with_reducible refine' i_lenL ?q1 ?_); (case q1 => walk_at "hp")) | ((with_reducible refine' i_lenT ?q1 ?_); (case q1 => walk_at "hp"))
  | (with_reducible refine i_eqI ?_) | (with_reducible refine i_neI ?_) | (with_reducible refine i_eqS ?_) | (with_reducible refine i_neS ?_) | (with_reducible refine i_isNoI ?_) | (with_reducible refine i_isNoN ?_) | (with_reducible refine i_isNoR ?_)
  | ((with_reducible refine i_pow ?q1 ?q2 ?q3 ?_); (case q1 => decide); (case q2 => decide); (case q3 => (with_reducible omega)))
  | ((with_reducible refine i_rI ?q1 ?_); (case q1 => walk_at "ci"))
  | (with_reducible refine Or.inl ⟨_, rfl, ?_⟩) | (with_reducible refine Or.inr ⟨_, rfl, ?_⟩) | (with_reducible refine ⟨_, rfl, ?_⟩) | (with_reducible refine ⟨_, _, rfl, ?_⟩) | (with_reducible refine ⟨_, _, rfl, rfl, ?_⟩)
  | ((with_reducible refine' ⟨_, _, rfl, Or.inl (sqL_of ?q1), ?_⟩); (case q1 => walk_at "hp")) | ((with_reducible refine' ⟨_, _, rfl, Or.inr (sqT_of ?q1), ?_⟩); (case q1 => walk_at "hp")) | (with_reducible refine i_dget ?_) | (with_reducible refine i_disp1T ?_) | (with_reducible refine i_dcT ?_) | (with_reducible refine i_dnewT ?_) | (with_reducible refine i_fld ?_) | (with_reducible refine i_sFld ?_) | (with_reducible refine i_make ?_) | (with_reducible refine i_meth ?_) | (with_reducible refine i_star ?_) | (with_reducible refine i_isNoS ?_) | (with_reducible refine i_lc2 ?_) | (with_reducible refine i_iEnT ?_) | (with_reducible refine i_iZipT ?_) | fail)
local macro_rules | `(tactic| walk_at "rd") => `(tactic| repeat' walk_at "rd1")

local macro_rules | `(tactic| walk_at "rd1") => `(tactic| first | (with_reducible refine i_mkVt ?_) | (with_reducible refine i_xvt ?_) | (with_reducible refine i_calF ?_))
theorem del_updN {H : Hp} {a : Addr} {o : HO} (n : H a = none) : L2.del (upd H a o) a = H := by
  funext b
  by_cases c : b = a
  · rw [c, L2.del_same, n]
  · rw [L2.del_ne c, upd_ne c]
/-- _law_caught(box, thing) -/
def spCaught (K : PySem.W.Frag) : Sp := fun vs H Q _ => ∃ (b : Addr) (v : V) (dd : PyData) (d : Int), vs = [.ref b, v] ∧ De K (L2.del H b) v dd ∧ Sd 10 3000 dd ∧ BoxAt H b d ∧ d + 1 ≤ 1000000 ∧ ∀ H', BoxAt H' b (d + 1) → SB b H H' → Q (.bl true) H'
section
variable {P : Program} {w : World} {K : PySem.W.Frag} {mg : Str → Option Value} {base : Heap} {f : Addr} {fd : FuncData} {B C0 C1 C2 C3 C4 C5 C6 C7 C8 C9 C10 C11 C12 C13 C14 C15 C16 C17 C18 C19 C20 C21 : Addr}
theorem ok_caught (F : Fun K "_law_caught" "_law_caught" s__law_caught f fd) (z : Z mg) (xs : XS P w K mg base B C0 C1 C2 C3 C4 C5 C6 C7 C8 C9 C10 C11 C12 C13 C14 C15 C16 C17 C18 C19 C20 C21) (c__law_take : Cal P w K mg base "_law_take" ["box", "many"] 1 spTake) (z__law_is : CalZ P w K mg base "_law_is" ["e", "spot"] 2 (spIs (csL C0 C1 C2 C3 C4 C5 C6 C7 C8 C9 C10 C11 C12 C13 C14 C15 C16 C17 C18 C19 C20 C21))) (z__law_kept : CalZ P w K mg base "_law_kept" ["e"] 1 (spKept (csL C0 C1 C2 C3 C4 C5 C6 C7 C8 C9 C10 C11 C12 C13 C14 C15 C16 C17 C18 C19 C20 C21))) :
    FnG P w K mg base CX0 3 f fd ["box", "thing"] (spCaught K) := by
  refine Sw.Fun.okG0 F sc__law_caught (fun vs H Q E h => ?_) (fun cdv A outer s H vs Q E hr quiet h => ?_)
  · obtain ⟨b, v, dd, d, rfl, _⟩ := h; rfl
  · obtain ⟨b, v, dd, d, rfl, hv, sv, BB, hd, k⟩ := h
    refine ⟨_, (pss_cons (ps_set (i := 2) sc__law_caught.nd rfl (.inl rfl) (pe_cal c__law_take hr (pa_cons (pv 0) (pa_cons pe_int pa_nil))))
      (pss_one (ps_triesN (Wo := fun _ _ _ _ => False) rfl rfl sc__law_caught.nd takes_noneN (fun W pn xe tk po => (pss_cons (ps_if (pt_cmpR op_eq (pv 2) pe_int (nomark _))
          (pss_one (ps_rsVN (K := K) rfl rfl tk xs.x15 hr (pv 1)))
          pss_nil)
        (pss_cons (ps_if (pt_cmpR op_eq (pv 2) pe_int (nomark _))
          (pss_one (ps_rsVKN (K := K) rfl rfl tk xs.x16 hr (pv 1)))
          pss_nil)
        (pss_cons (ps_if (pt_cmpR op_eq (pv 2) pe_int (nomark _))
          (pss_one (ps_rsVKN (K := K) rfl rfl tk xs.x12 hr (pv 1)))
          pss_nil)
        (pss_one (ps_rsVN (K := K) rfl rfl tk xs.x14 hr (pv 1)))))))
      (.cons (i := 3) rfl rfl (names_V xs.x12) (fun a oe cls d pn hz hf hb ho => (pss_one (ps_ret (pe_and (pe_cmpR op_eq (pv 2) pe_int (nomark _)) (pe_and (pe_calFZ hz hf hb ho z__law_is hr (pa_cons (pv 3) (pa_cons pe_int pa_nil))) (pe_one (pe_cmpR op_eq (pe_callB (id := "repr") (r := rRepE K) (call_repE (X := Cx.suite (cxOf CX0 P w K mg base n__law_caught "_law_caught" (defScope s__law_caught) f cdv A outer s H E).nox a ((a, oe) :: pn)) quiet hr.units) (by rfl) z.repr (by decide +kernel) (pa_cons (pe_xf xs.x12.xf xs.x12.no hz.zc hf (pv 3)) pa_nil)) (pe_callB (id := "repr") (r := rRepE K) (call_repE (X := Cx.suite (cxOf CX0 P w K mg base n__law_caught "_law_caught" (defScope s__law_caught) f cdv A outer s H E).nox a ((a, oe) :: pn)) quiet hr.units) (by rfl) z.repr (by decide +kernel) (pa_cons (pv 1) pa_nil)) (nomark _)))))))) (.cons (i := 3) rfl rfl (names_B xs.hB) (fun a oe cls d pn hz hf hb ho => (pss_one (ps_ret (pe_and (pe_cmpR op_ne (pv 2) pe_int (nomark _)) (pe_and (pe_calFZ hz hf hb ho z__law_is hr (pa_cons (pv 3) (pa_cons (pe_ix (r := rIxL K) ix_list (pe_lstL (pa_cons pe_int (pa_cons pe_int (pa_cons pe_int (pa_cons pe_int pa_nil))))) (pv 2) (fun _ _ => rfl)) pa_nil))) (pe_one (pe_cmpR op_eq (pe_callB (id := "repr") (r := rRepE K) (call_repE (X := Cx.suite (cxOf CX0 P w K mg base n__law_caught "_law_caught" (defScope s__law_caught) f cdv A outer s H E).nox a ((a, oe) :: pn)) quiet hr.units) (by rfl) z.repr (by decide +kernel) (pa_cons (pe_calFZ hz hf hb ho z__law_kept hr (pa_cons (pv 3) pa_nil)) pa_nil)) (pe_callB (id := "repr") (r := rRepE K) (call_repE (X := Cx.suite (cxOf CX0 P w K mg base n__law_caught "_law_caught" (defScope s__law_caught) f cdv A outer s H E).nox a ((a, oe) :: pn)) quiet hr.units) (by rfl) z.repr (by decide +kernel) (pa_cons (pv 1) pa_nil)) (nomark _)))))))) .nil))))), ?_⟩
    walk_at "rd"
    refine ⟨b, 4, _, rfl, BB, by omega, by omega, by omega, fun r H1 r0 r1 B1 s1 => ?_⟩
    have f15 : PySem.W.exmOne K (.ref C15) (.ref C12) = some false := by rw [xs.x15.ov.exm xs.x12.ov xs.x12.nB, decide_eq_false (nd_ne xs.nd (i := 15) (j := 12) rfl rfl (by decide))]
    have f16 : PySem.W.exmOne K (.ref C16) (.ref C12) = some false := by rw [xs.x16.ov.exm xs.x12.ov xs.x12.nB, decide_eq_false (nd_ne xs.nd (i := 16) (j := 12) rfl rfl (by decide))]
    have f14 : PySem.W.exmOne K (.ref C14) (.ref C12) = some false := by rw [xs.x14.ov.exm xs.x12.ov xs.x12.nB, decide_eq_false (nd_ne xs.nd (i := 14) (j := 12) rfl rfl (by decide))]
    have f12 : PySem.W.exmOne K (.ref C12) (.ref C12) = some true := by rw [xs.x12.ov.exm xs.x12.ov xs.x12.nB, decide_eq_true rfl]
    have hv1 : De K H1 v dd := (hv.same (del_sb s1)).same del_sub
    walk_at "rd"
    refine iteB (fun c0 => ?_) (fun c0 => ?_)
    · subst c0
      walk_at "rd"
      refine i_thrownF xs.x15.ov.oex xs.x15.no fun dx nx => ?_
      have sx := same_upd (o := HO.xd [("count", v)]) nx
      have ex := upd_same (H := H1) (a := dx) (o := HO.xd [("count", v)])
      generalize upd H1 dx (.xd [("count", v)]) = H2 at *
      have B2 := B1.same sx
      have hv2 := hv1.same sx
      refine ⟨false, f15, (fun z => by cases z), fun _ => ⟨true, xs.x15.ov.exmB xs.ob xs.sB, fun _ a na => ?_, fun z => by cases z⟩⟩
      walk_at "rd"
      rw [decide_eq_false (show ¬ (0 : Int) = 2 by decide)]
      walk_at "rd"
      refine newLL0 (Nat.le_of_ble_eq_true rfl) fun l3 H3 nl3 lt3 s3 e3 => ?_
      walk_at "rd"
      intro oe hz hf na1
      have ex3 := s3 _ _ ex
      refine ⟨a, C15, _, 15, rfl, evF na1 hz hf ex3, rfl, fun H4 s4 => ?_⟩
      have s34 := sameF na1 s4
      dsimp only
      generalize L2.del H4 a = H5 at *
      have ex5 := s34 _ _ ex3
      walk_at "rd"
      intro oe2 hz2 hf2 na2
      refine ⟨a, C15, "count", v, 15, rfl, evF na2 hz2 hf2 ex5, rfl, rfl, ?_⟩
      dsimp only
      rw [del_updN na2]
      have s25 := s3.trans s34
      walk_at "rd"
      refine i_repE (hv2.same s25) sv (by omega) (by omega) ?_
      walk_at "rd"
      refine i_repE (hv2.same s25) sv (by omega) (by omega) ?_
      walk_at "rd"
      refine ⟨rfl, ?_⟩
      rw [decide_eq_true rfl]
      exact k _ (B2.same s25) (s1.trans (SB.of (sx.trans s25)))
    walk_at "rd"
    refine iteB (fun c1 => ?_) (fun c1 => ?_)
    · subst c1
      walk_at "rd"
      refine i_thrownF xs.x16.ov.oex xs.x16.no fun dx nx => ?_
      have sx := same_upd (o := HO.xd [("errors", v)]) nx
      have ex := upd_same (H := H1) (a := dx) (o := HO.xd [("errors", v)])
      generalize upd H1 dx (.xd [("errors", v)]) = H2 at *
      have B2 := B1.same sx
      have hv2 := hv1.same sx
      refine ⟨false, f16, (fun z => by cases z), fun _ => ⟨true, xs.x16.ov.exmB xs.ob xs.sB, fun _ a na => ?_, fun z => by cases z⟩⟩
      walk_at "rd"
      rw [decide_eq_false (show ¬ (1 : Int) = 2 by decide)]
      walk_at "rd"
      refine newLL0 (Nat.le_of_ble_eq_true rfl) fun l3 H3 nl3 lt3 s3 e3 => ?_
      walk_at "rd"
      intro oe hz hf na1
      have ex3 := s3 _ _ ex
      refine ⟨a, C16, _, 16, rfl, evF na1 hz hf ex3, rfl, fun H4 s4 => ?_⟩
      have s34 := sameF na1 s4
      dsimp only
      generalize L2.del H4 a = H5 at *
      have ex5 := s34 _ _ ex3
      walk_at "rd"
      intro oe2 hz2 hf2 na2
      refine ⟨a, C16, "errors", v, 16, rfl, evF na2 hz2 hf2 ex5, rfl, rfl, ?_⟩
      dsimp only
      rw [del_updN na2]
      have s25 := s3.trans s34
      walk_at "rd"
      refine i_repE (hv2.same s25) sv (by omega) (by omega) ?_
      walk_at "rd"
      refine i_repE (hv2.same s25) sv (by omega) (by omega) ?_
      walk_at "rd"
      refine ⟨rfl, ?_⟩
      rw [decide_eq_true rfl]
      exact k _ (B2.same s25) (s1.trans (SB.of (sx.trans s25)))
    walk_at "rd"
    refine iteB (fun c2 => ?_) (fun c2 => ?_)
    · subst c2
      walk_at "rd"
      refine i_thrownF xs.x12.ov.oex xs.x12.no fun dx nx => ?_
      have sx := same_upd (o := HO.xd [("given", v)]) nx
      have ex := upd_same (H := H1) (a := dx) (o := HO.xd [("given", v)])
      generalize upd H1 dx (.xd [("given", v)]) = H2 at *
      have B2 := B1.same sx
      have hv2 := hv1.same sx
      refine ⟨true, f12, fun _ a na => ?_, fun z => by cases z⟩
      walk_at "rd"
      rw [decide_eq_true rfl]
      walk_at "rd"
      intro oe hz hf na1
      refine ⟨a, C12, _, 12, rfl, evF na1 hz hf ex, rfl, fun H3 s3 => ?_⟩
      have s23 := sameF na1 s3
      dsimp only
      generalize L2.del H3 a = H4 at *
      walk_at "rd"
      refine ⟨_, rfl, rfl, rfl, dx, _, _, rfl, s23 _ _ ex, rfl, ?_⟩
      walk_at "rd"
      refine i_repE (hv2.same s23) sv (by omega) (by omega) ?_
      walk_at "rd"
      refine i_repE (hv2.same s23) sv (by omega) (by omega) ?_
      walk_at "rd"
      refine ⟨rfl, ?_⟩
      rw [decide_eq_true rfl]
      exact k _ (B2.same s23) (s1.trans (SB.of (sx.trans s23)))
    have c3 : r = 3 := by omega
    subst c3
    · walk_at "rd"
      refine i_thrownF xs.x14.ov.oex xs.x14.no fun dx nx => ?_
      have sx := same_upd (o := HO.xd [("given", v)]) nx
      have ex := upd_same (H := H1) (a := dx) (o := HO.xd [("given", v)])
      generalize upd H1 dx (.xd [("given", v)]) = H2 at *
      have B2 := B1.same sx
      have hv2 := hv1.same sx
      refine ⟨false, f14, (fun z => by cases z), fun _ => ⟨true, xs.x14.ov.exmB xs.ob xs.sB, fun _ a na => ?_, fun z => by cases z⟩⟩
      walk_at "rd"
      rw [decide_eq_false (show ¬ (3 : Int) = 2 by decide)]
      walk_at "rd"
      refine newLL0 (Nat.le_of_ble_eq_true rfl) fun l3 H3 nl3 lt3 s3 e3 => ?_
      walk_at "rd"
      intro oe hz hf na1
      have ex3 := s3 _ _ ex
      refine ⟨a, C14, _, 14, rfl, evF na1 hz hf ex3, rfl, fun H4 s4 => ?_⟩
      have s34 := sameF na1 s4
      dsimp only
      generalize L2.del H4 a = H5 at *
      have ex5 := s34 _ _ ex3
      walk_at "rd"
      intro oe2 hz2 hf2 na2
      refine ⟨a, C14, "given", v, 14, rfl, evF na2 hz2 hf2 ex5, rfl, rfl, ?_⟩
      dsimp only
      rw [del_updN na2]
      have s25 := s3.trans s34
      walk_at "rd"
      refine i_repE (hv2.same s25) sv (by omega) (by omega) ?_
      walk_at "rd"
      refine i_repE (hv2.same s25) sv (by omega) (by omega) ?_
      walk_at "rd"
      refine ⟨rfl, ?_⟩
      rw [decide_eq_true rfl]
      exact k _ (B2.same s25) (s1.trans (SB.of (sx.trans s25)))
end
end Sw
namespace Sw
open PySem PySem.Spec PyProof.Rows L2
local macro_rules | `(tactic| walk_at "hp") => `(tactic| first
  | (with_reducible assumption) | (with_reducible exact upd_same)
  | ((with_reducible refine' upd_old ?q1 ?q2); (case q1 => (with_reducible assumption)); (case q2 => walk_at "hp"))
  | ((with_reducible refine' Same.at ?q1 ?q2); (case q1 => (with_reducible assumption)); (case q2 => walk_at "hp"))
  | ((with_reducible refine' upd_skip ?q1 ?q2); (case q1 => walk_at "ne"); (case q2 => walk_at "hp"))
  | fail)
local macro_rules | `(tactic| walk_at "ne") => `(tactic| first
  | (with_reducible assumption) | (with_reducible exact Ne.symm (by assumption))
  | ((with_reducible refine' ne_of_none ?q1 ?q2); (case q2 => (with_reducible assumption)); (case q1 => walk_at "hp"))
  | fail)
local macro_rules | `(tactic| walk_at "ci") => `(tactic| first | assumption | (show (0 : Int) < _; first | decide | (with_reducible omega)) | exact ⟨by decide, by decide⟩ | exact .inl ⟨by decide, by decide⟩ | exact .inr ⟨by decide, by decide⟩)
local macro_rules | `(tactic| walk_at "ln") => `(tactic| first | (with_reducible assumption) | (with_reducible omega) | (simp only [List.length_append, List.length_take, List.length_drop, List.length_reverse, List.length_cons, List.length_nil]; with_reducible omega))
local macro_rules | `(tactic| walk_at "rd1") => `(tactic| first
  | (with_reducible refine i_seq ?_) | (with_reducible refine i_asg ?_) | (with_reducible refine i_ret ?_) | (with_reducible refine i_name ?_) | ((with_reducible refine' i_var ?q1 ?_); (case q1 => exact rfl)) | (with_reducible refine i_c ?_) | (with_reducible refine i_op ?_) | (with_reducible refine i_un ?_)
  | (with_reducible refine i_rI0 ?_) | (with_reducible refine i_cb ?_) | (with_reducible refine i_cons ?_) | (with_reducible refine i_nil ?_) | (with_reducible refine i_call ?_) | (with_reducible refine i_if ?_) | (with_reducible refine i_ifE ?_) | (with_reducible refine i_test ?_) | (with_reducible refine i_bl ?_)
  | (with_reducible refine i_and ?_) | (with_reducible refine i_or ?_) | (with_reducible refine i_not ?_) | (with_reducible refine i_lstM ?_) | (with_reducible refine i_lstLM ?_) | (with_reducible refine i_tupM ?_) | (with_reducible refine i_next ?_) | (with_reducible refine i_drop ?_) | (with_reducible refine i_sub ?_)
  | (with_reducible refine i_bm ?_) | (with_reducible refine i_sl ?_) | (with_reducible refine i_part ?_) | (with_reducible refine i_nopart ?_) | (with_reducible refine i_exI ?_) | (with_reducible refine i_chain ?_) | ((with_reducible refine' i_aug ?q1 ?_); (case q1 => exact rfl)) | (with_reducible refine i_ip ?_)
  | (with_reducible refine i_par ?_) | (with_reducible refine i_pair ?_) | (with_reducible refine i_andV ?_) | (with_reducible refine i_orV ?_) | (with_reducible refine i_notV ?_) | (with_reducible refine i_m1 ?_) | (with_reducible refine i_str ?_)
  | (with_reducible refine iteF ?_) | (with_reducible refine iteT ?_) | (with_reducible refine iteNT ?_) | (with_reducible refine iteNF ?_) | (with_reducible refine i_tyS ?_) | (with_reducible refine i_tB ?_) | (with_reducible refine i_retN ?_) | (with_reducible refine i_par3 ?_) | (with_reducible refine i_trip ?_) | (with_reducible refine i_gCons ?_) | (with_reducible refine i_gNil ?_) | (with_reducible refine i_lstRg ?_) | (with_reducible refine i_rg1 ?_)
  | (with_reducible refine i_lc ?_) | (with_reducible refine i_for ?_) | (with_reducible refine i_iList ?_) | (with_reducible refine i_iTup ?_) | (with_reducible refine i_iStr ?_) | (with_reducible refine i_iRng1 ?_) | (with_reducible refine i_iEnS ?_)
  | ((with_reducible refine' i_ixTH ?q1 ?q2 ?_); (case q1 => walk_at "hp"); (case q2 => exact rfl))
  | ((with_reducible refine' i_ixLH ?q1 ?q2 ?_); (case q1 => walk_at "hp"); (case q2 => exact rfl))
  | ((with_reducible refine i_addS ?q1 ?_); (case q1 => walk_at "ln")) | ((with_reducible refine i_lenSS ?q1 ?_); (case q1 => walk_at "ln")) | ((with_reducible refine i_slFrom ?q1 ?q2 ?_); (case q1 => walk_at "ln"); (case q2 => walk_at "ln")) | ((with_reducible refine i_slTo ?q1 ?q2 ?_); (case q1 => walk_at "ln"); (case q2 => walk_at "ln"))
  | ((with_reducible refine' i_tyL ?q1 ?_); (case q1 => walk_at "hp"))
  | ((with_reducible refine' i_gTupH ?q1 ?q2 ?_); (case q1 => walk_at "hp"); (case q2 => exact rfl))
  | (with_reducible refine i_dnewM ?_) | (with_reducible refine i_init ?_) | (with_reducible refine i_fst ?_) | (with_reducible refine i_mk ?_) | (with_reducible refine i_mkF ?_) | (with_reducible refine i_raise ?_) | (with_reducible refine i_callS ?_) | (with_reducible refine i_kwS ?_)
  | (with_reducible refine i_revT ?_) | (with_reducible refine i_kw ?_) | ((with_reducible refine' ⟨_, _, rfl, sqT_of ?q1, ?_⟩); (case q1 => walk_at "hp"))
  | (with_reducible refine i_revS ?_) | ((with_reducible refine i_revSS ?q1 ?_); (case q1 => walk_at "ln"))
  | (with_reducible refine i_startS ?_) | (with_reducible refine i_inSg ?_) | (with_reducible refine i_absN ?_) | (with_reducible refine i_min2 ?_) | (with_reducible refine i_max2 ?_) | (with_reducible refine i_min3 ?_) | (with_reducible refine i_intN ?_) | (with_reducible refine i_intNB ?_)
  | ((with_reducible refine' i_lenL ?q1 ?_); (case q1 => walk_at "hp")) | ((with_reducible refine' i_lenT ?q1 ?_); (case q1 => walk_at "hp"))
  | (with_reducible refine i_eqI ?_) | (with_reducible refine i_neI ?_) | (with_reducible refine i_eqS ?_) | (with_reducible refine i_neS ?_) | (with_reducible refine i_isNoI ?_) | (with_reducible refine i_isNoN ?_) | (with_reducible refine i_isNoR ?_)
  | ((with_reducible refine i_pow ?q1 ?q2 ?q3 ?_); (case q1 => decide); (case q2 => decide); (case q3 => (with_reducible omega)))
  | ((with_reducible refine i_rI ?q1 ?_); (case q1 => walk_at "ci"))
  | (with_reducible refine Or.inl ⟨_, rfl, ?_⟩) | (with_reducible refine Or.inr ⟨_, rfl, ?_⟩) | (with_reducible refine ⟨_, rfl, ?_⟩) | (with_reducible refine ⟨_, _, rfl, ?_⟩) | (with_reducible refine ⟨_, _, rfl, rfl, ?_⟩)
  | ((with_reducible refine' ⟨_, _, rfl, Or.inl (sqL_of ?q1), ?_⟩); (case q1 => walk_at "hp")) | ((with_reducible refine' ⟨_, _, rfl, Or.inr (sqT_of ?q1), ?_⟩); (case q1 => walk_at "hp")) | (with_reducible refine i_dget ?_) | (with_reducible refine i_disp1T ?_) | (with_reducible refine i_dcT ?_) | (with_reducible refine i_dnewT ?_) | (with_reducible refine i_fld ?_) | (with_reducible refine i_sFld ?_) | (with_reducible refine i_make ?_) | (with_reducible refine i_meth ?_) | (with_reducible refine i_star ?_) | (with_reducible refine i_isNoS ?_) | (with_reducible refine i_lc2 ?_) | (with_reducible refine i_iEnT ?_) | (with_reducible refine i_iZipT ?_) | fail)
local macro_rules | `(tactic| walk_at "rd") => `(tactic| repeat' walk_at "rd1")

local macro_rules | `(tactic| walk_at "rd1") => `(tactic| first | (with_reducible refine i_mkVt ?_) | (with_reducible refine i_xvt ?_))
theorem op_neDK {X : Cx} {K : PySem.W.Frag} (kK : X.K = K) (hu : X.A.units + 64 < cLine) : OpR X (compareOp .NotEq) (rNeD K) := by
  subst kK
  exact op_neD hu
theorem one_more_eqv : PyData.eqv (.list [.int 1, .str (S [109, 111, 114, 101])]) (.list [.int 1, .str (S [109, 111, 114, 101])]) = true := by simp [PyData.eqv, PyData.eqvAll]
theorem sd_om : Sd 1 600 (.list [.int 1, .str (S [109, 111, 114, 101])]) := (sd_lst' (n := 0) (.cons (sd_int9 (i := 1) (by decide)) (.cons (sd_str (l := [109, 111, 114, 101]) (by decide)) .nil))).mono (by omega) (by decide)
theorem i_neNil {K : PySem.W.Frag} {H : Hp} {a b : Addr} {Q : VK} (h1 : H a = some (.lst [])) (h2 : H b = some (.lst [])) (k : Q (.bl false) H) : rNeD K (.ref a) (.ref b) H Q := by
  have sl : Sd 1 0 (.list []) := sd_lst' (n := 0) SdAll.nil
  have fl : (PyData.list []).hasDict = false := by simp [PyData.hasDict, PyData.hasDictAll]
  refine ⟨.list [], .list [], .lst (sqL_of h1) .nil, .lst (sqL_of h2) .nil, sl.shaped (by omega) fl, sl.shaped (by omega) fl, ?_⟩
  rw [show PyData.eqv (.list []) (.list []) = true by simp [PyData.eqv, PyData.eqvAll]]
  exact k
theorem i_eqNil {K : PySem.W.Frag} {H : Hp} {a b : Addr} {Q : VK} (h1 : H a = some (.lst [])) (h2 : H b = some (.lst [])) (k : Q (.bl true) H) : rEqD K (.ref a) (.ref b) H Q := by
  have sl : Sd 1 0 (.list []) := sd_lst' (n := 0) SdAll.nil
  have fl : (PyData.list []).hasDict = false := by simp [PyData.hasDict, PyData.hasDictAll]
  refine ⟨.list [], .list [], .lst (sqL_of h1) .nil, .lst (sqL_of h2) .nil, sl.shaped (by omega) fl, sl.shaped (by omega) fl, ?_⟩
  rw [show PyData.eqv (.list []) (.list []) = true by simp [PyData.eqv, PyData.eqvAll]]
  exact k
/-- law(script) -/
def spLaw (K : PySem.W.Frag) : Sp := fun vs H Q _ => ∃ (a : Addr) (ns : List Int), vs = [.ref a] ∧ SqL K H a (ns.map V.int) ∧ ∀ H', Same H H' → Q (.bl true) H'
section
variable {P : Program} {w : World} {K : PySem.W.Frag} {mg : Str → Option Value} {base : Heap} {f : Addr} {fd : FuncData} {B C0 C1 C2 C3 C4 C5 C6 C7 C8 C9 C10 C11 C12 C13 C14 C15 C16 C17 C18 C19 C20 C21 : Addr}
theorem ok_law (F : Fun K "law" "law" s_law f fd) (z : Z mg) (xs : XS P w K mg base B C0 C1 C2 C3 C4 C5 C6 C7 C8 C9 C10 C11 C12 C13 C14 C15 C16 C17 C18 C19 C20 C21) (c__law_box : Cal P w K mg base "_law_box" ["great"] 1 spBox) (c__law_cell : Cal P w K mg base "_law_cell" ["script", "k"] 1 (spCell K)) (c__law_thing : Cal P w K mg base "_law_thing" ["box"] 2 (spThing K)) (c__law_by_place : Cal P w K mg base "_law_by_place" ["thing"] 3 (spPl (csL C0 C1 C2 C3 C4 C5 C6 C7 C8 C9 C10 C11 C12 C13 C14 C15 C16 C17 C18 C19 C20 C21))) (c__law_by_name : Cal P w K mg base "_law_by_name" ["thing"] 3 (spPl (csL C0 C1 C2 C3 C4 C5 C6 C7 C8 C9 C10 C11 C12 C13 C14 C15 C16 C17 C18 C19 C20 C21)))
    (c__law_is : Cal P w K mg base "_law_is" ["e", "spot"] 2 (spIs (csL C0 C1 C2 C3 C4 C5 C6 C7 C8 C9 C10 C11 C12 C13 C14 C15 C16 C17 C18 C19 C20 C21))) (c__law_kept : Cal P w K mg base "_law_kept" ["e"] 1 (spKept (csL C0 C1 C2 C3 C4 C5 C6 C7 C8 C9 C10 C11 C12 C13 C14 C15 C16 C17 C18 C19 C20 C21))) (q__law_caught : CalG P w K mg base "_law_caught" ["box", "thing"] 3 (spCaught K)) : FnG P w K mg base CX0 4 f fd ["script"] (spLaw K) := by
  refine Sw.Fun.okG0 F sc_law (fun vs H Q E h => ?_) (fun cdv A outer s H vs Q E hr quiet h => ?_)
  · obtain ⟨a, ns, rfl, _⟩ := h; rfl
  · obtain ⟨a, ns, rfl, L, k⟩ := h
    refine ⟨_, (pss_cons (ps_set (i := 1) sc_law.nd rfl (.inr rfl) (pe_lstL (pa_cons (pe_V0 xs.x17 hr) (pa_cons (pe_V0 xs.x18 hr) (pa_cons (pe_V0 xs.x19 hr) (pa_cons (pe_V0 xs.x20 hr) (pa_cons (pe_V0 xs.x21 hr) pa_nil)))))))
      (pss_cons (ps_if (pt_cmpR (op_neD hr.units) (pe_lc (own := [("k", 2)]) (g := gName 2) (tt := _) rfl sc_law.nd (pi_range1 (by rfl) z.range (pa_cons pe_int pa_nil)) (blkOk_by (own := [("k", 2)]) (N := n_law) (sc := defScope s_law) (by decide +kernel)) (fun _ _ _ _ _ => (pg_name (i := 2) sc_law.nd rfl (.inl rfl))) (fun _ _ _ _ _ => (pts_one (pt_not (pt_val (pe_cal c__law_is hr (pa_cons (pe_ix (r := rIxL K) ix_list (pv 1) (pv 2) (fun _ _ => rfl)) (pa_cons (pe_op op_add pe_int (pv 2)) pa_nil))))))) (fun _ _ _ _ _ => (pv 2))) (pe_lstL pa_nil) (nomark _))
        (pss_one (ps_ret pe_bl))
        pss_nil)
      (pss_cons (ps_for PassesOwn.never rfl (pi_range1 (by rfl) z.range (pa_cons (pe_callB (call_max2N rfl) (by rfl) z.max_ (by decide +kernel) (pa_cons pe_int (pa_cons (pe_callB (call_min2N rfl) (by rfl) z.min_ (by decide +kernel) (pa_cons pe_int (pa_cons (pe_callB call_lenQ (by rfl) z.len PySem.boot_len (pa_cons (pv 0) pa_nil)) pa_nil))) pa_nil))) pa_nil)) (pg_name (i := 2) sc_law.nd rfl (.inl rfl))
        (pss_cons (ps_set (i := 3) sc_law.nd rfl (.inl rfl) (pe_cal c__law_box hr (pa_cons (pe_cal c__law_cell hr (pa_cons (pv 0) (pa_cons (pv 2) pa_nil))) pa_nil)))
        (pss_cons (ps_par (i := 4) (j := 5) rfl sc_law.nd rfl rfl (by decide) rfl rfl (pa_cons (pe_cal c__law_thing hr (pa_cons (pv 3) pa_nil)) (pa_cons (pe_cal c__law_thing hr (pa_cons (pv 3) pa_nil)) pa_nil)) (by rfl))
        (pss_cons (ps_set (i := 6) sc_law.nd rfl (.inl rfl) (pe_lstL (pa_cons (pe_cal c__law_by_place hr (pa_cons (pv 4) pa_nil)) (pa_cons (pe_cal c__law_by_name hr (pa_cons (pv 5) pa_nil)) (pa_cons (pe_cal c__law_by_name hr (pa_cons (pv 4) pa_nil)) (pa_cons (pe_cal c__law_by_place hr (pa_cons (pv 5) pa_nil)) pa_nil))))))
        (pss_cons (ps_for PassesOwn.never rfl (pi_range1 (by rfl) z.range (pa_cons pe_int pa_nil)) (pg_name (i := 7) sc_law.nd rfl (.inl rfl))
          (pss_one (ps_for PassesOwn.never rfl (pi_range1 (by rfl) z.range (pa_cons pe_int pa_nil)) (pg_name (i := 8) sc_law.nd rfl (.inl rfl))
            (pss_cons (ps_set (i := 9) sc_law.nd rfl (.inl rfl) (pe_ix ix_list (pe_ix ix_list (pv 6) (pv 7) (fun _ _ => rfl)) (pv 8) (fun _ _ => rfl)))
            (pss_one (ps_if (PW.pt (pw_or (pt_not (pt_val (pe_cal c__law_is hr (pa_cons (pv 9) (pa_cons (pv 8) pa_nil))))) (pw_or1 (pt_cmpR op_ne (pe_callB (call_repE quiet hr.units) (by rfl) z.repr (by decide +kernel) (pa_cons (pe_cal c__law_kept hr (pa_cons (pv 9) pa_nil)) pa_nil)) (pe_callB (call_repE quiet hr.units) (by rfl) z.repr (by decide +kernel) (pa_cons (pe_ix ix_list (pe_lstL (pa_cons (pv 4) (pa_cons (pv 5) pa_nil))) (pe_op op_mod (pe_callTy call_intN (by rfl) z.int (by decide +kernel) (pa_cons (pv 7) pa_nil)) pe_int) (fun _ _ => rfl)) pa_nil)) (nomark _)))))
              (pss_one (ps_ret pe_bl))
              pss_nil))))))
        (pss_one (ps_if (PW.pt (pw_or (pt_not (pt_val (pe_calG q__law_caught hr quiet (pa_cons (pv 3) (pa_cons (pv 5) pa_nil))))) (pw_or1 (pt_not (pt_val (pe_calG q__law_caught hr quiet (pa_cons (pv 3) (pa_cons (pv 4) pa_nil))))))))
          (pss_one (ps_ret pe_bl))
          pss_nil)))))))
      (pss_cons (ps_set (i := 10) sc_law.nd rfl (.inl rfl) (pe_lstL (pa_cons pe_int pa_nil)))
      (pss_cons (ps_setLc (i := 11) (own := [("e", 9)]) (g := gName 9) (tt := tYes) rfl sc_law.nd rfl rfl (sw_true rfl rfl rfl (by decide +kernel)) (pi_list (pe_op op_cat (pe_cal c__law_by_place hr (pa_cons (pv 10) pa_nil)) (pe_cal c__law_by_name hr (pa_cons (pv 10) pa_nil)))) (blkOk_by (own := [("e", 9)]) (N := n_law) (sc := defScope s_law) (by decide +kernel)) (fun _ _ _ _ _ => (pg_name (i := 9) sc_law.nd rfl (.inl rfl))) (fun _ _ _ _ _ => pts_nil) (fun _ _ _ _ _ => (pe_cal c__law_kept hr (pa_cons (pv 9) pa_nil))))
      (pss_cons (ps_expr (pe_bm PySem.F.plainAttrs_list PySem.F.slot_list_append PySem.F.type_list_append mt_append (pv 10) (pa_cons (pe_strS (l := [109, 111, 114, 101]) (by decide +kernel)) pa_nil)))
      (pss_one (ps_ret (pe_cmpR (op_eqD hr.units) (pe_lc (own := [("thing", 12)]) (g := gName 12) (tt := _) rfl sc_law.nd (pi_list (pv 11)) (blkOk_by (own := [("thing", 12)]) (N := n_law) (sc := defScope s_law) (by decide +kernel)) (fun _ _ _ _ _ => (pg_name (i := 12) sc_law.nd rfl (.inl rfl))) (fun _ _ _ _ _ => (pts_one (pt_cmpR (op_neDK (K := K) rfl hr.units) (pv 12) (pe_lstL (pa_cons pe_int (pa_cons (pe_strS (l := [109, 111, 114, 101]) (by decide +kernel)) pa_nil))) (nomark _)))) (fun _ _ _ _ _ => (pv 12))) (pe_lstL pa_nil) (nomark _)))))))))), ?_⟩
    walk_at "rd"
    refine i_mkV0 xs.x17.ov fun a0 G0 n0 t0 v0 => ?_
    walk_at "rd"
    refine i_mkV0 xs.x18.ov fun a1 G1 n1 t1 v1 => ?_
    walk_at "rd"
    refine i_mkV0 xs.x19.ov fun a2 G2 n2 t2 v2 => ?_
    walk_at "rd"
    refine i_mkV0 xs.x20.ov fun a3 G3 n3 t3 v3 => ?_
    walk_at "rd"
    refine i_mkV0 xs.x21.ov fun a4 G4 n4 t4 v4 => ?_
    walk_at "rd"
    refine newLL0 (Nat.le_of_ble_eq_true rfl) fun bl HB nbl ltb tb eb => ?_
    have y4 := t4.trans tb
    have y3 := t3.trans y4
    have y2 := t2.trans y3
    have y1 := t1.trans y2
    have s0B := t0.trans y1
    have bare : ∀ j, j < 5 → ∃ a C, ([V.ref a0, .ref a1, .ref a2, .ref a3, .ref a4] : List V)[j]? = some (.ref a) ∧ (csL C0 C1 C2 C3 C4 C5 C6 C7 C8 C9 C10 C11 C12 C13 C14 C15 C16 C17 C18 C19 C20 C21)[17 + j]? = some C ∧ EvAt HB a C [] := fun j hj => by
      have : j = 0 ∨ j = 1 ∨ j = 2 ∨ j = 3 ∨ j = 4 := by omega
      rcases this with rfl | rfl | rfl | rfl | rfl
      · exact ⟨_, _, rfl, rfl, v0.same y1⟩
      · exact ⟨_, _, rfl, rfl, v1.same y2⟩
      · exact ⟨_, _, rfl, rfl, v2.same y3⟩
      · exact ⟨_, _, rfl, rfl, v3.same y4⟩
      · exact ⟨_, _, rfl, rfl, v4.same tb⟩
    walk_at "rd"
    refine i_rng (by omega) (by omega) ?_
    refine go_lc walk_rangeZ (fun pk j Hx => Hx pk = some (.lst []) ∧ Same HB Hx) (fun pk npk => ⟨upd_same, same_upd npk⟩) (fun _ _ _ _ _ => trivial) (fun pk npk j v Hx Hy hj h y => ?_) (fun pk Hx npk h => ?_)
    · obtain ⟨ek, sx⟩ := h
      obtain ⟨rfl, rfl⟩ := y
      have hj : j < 5 := hj
      obtain ⟨a', C, g1, g2, ev⟩ := bare j hj
      walk_at "rd"
      refine ⟨rfl, ?_⟩
      walk_at "rd"
      refine i_ixLv (sx _ _ eb) (by omega) (by rw [Int.toNat_natCast]; exact g1) ?_
      walk_at "rd"
      refine ⟨a', C, [], 17 + j, by show [V.ref a', V.int (17 + (j : Int))] = [V.ref a', V.int ((17 + j : Nat) : Int)]; rw [Int.natCast_add]; rfl, ev.same sx, g2, fun H' s' => ?_⟩
      walk_at "rd"
      exact ⟨s' _ _ ek, sx.trans s'⟩
    obtain ⟨ek, sx⟩ := h
    walk_at "rd"
    refine newLL0 (Nat.le_of_ble_eq_true rfl) fun e0 HC ne0 lt0 sC eC => ?_
    refine i_neNil (sC _ _ ek) eC ?_
    walk_at "rd"
    have s0C := s0B.trans (sx.trans sC)
    have L := Same.sqL s0C L
    refine i_lenK L ?_
    walk_at "rd"
    rw [List.length_map]
    refine i_rng (by omega) (by omega) ?_
    refine go_for walk_rangeZ (fun i σ Hz => ∃ (u2 u3 u4 u5 u6 u7 u8 u9 : Option V), σ = [some (.ref a), some (.ref bl), u2, u3, u4, u5, u6, u7, u8, u9, none, none, none] ∧ Same HC Hz) ⟨_, _, _, _, _, _, _, _, rfl, Same.refl _⟩ (fun _ _ _ _ _ => trivial) (fun i v σ Hz Hw hi h y => ?_) (fun σ Hz h => ?_)
    · obtain ⟨u2, u3, u4, u5, u6, u7, u8, u9, rfl, sz⟩ := h
      obtain ⟨rfl, rfl⟩ := y
      walk_at "rd"
      refine ⟨a, ns, i, rfl, Same.sqL sz L, by omega, by omega, fun v H4 s4 => ?_⟩
      walk_at "rd"
      refine ⟨v, rfl, fun b H5 nb s5 B5 => ?_⟩
      walk_at "rd"
      refine ⟨b, 0, rfl, B5, by omega, fun x1 d1 H6 h1 sd1 B6 s6 => ?_⟩
      walk_at "rd"
      refine ⟨b, _, rfl, B6, by omega, fun x2 d2 H7 h2 sd2 B7 s7 => ?_⟩
      have h1 := h1.same (del_sb s7)
      walk_at "rd"
      refine ⟨x1, rfl, fun q1 as1 H8 nq1 s8 e8 v8 => ?_⟩
      walk_at "rd"
      refine ⟨x2, rfl, fun q2 as2 H9 nq2 s9 e9 v9 => ?_⟩
      walk_at "rd"
      refine ⟨x1, rfl, fun q3 as3 H10 nq3 s10 e10 v10 => ?_⟩
      walk_at "rd"
      refine ⟨x2, rfl, fun q4 as4 H11 nq4 s11 e11 v11 => ?_⟩
      walk_at "rd"
      refine newLL0 (Nat.le_of_ble_eq_true rfl) fun ql HL nql ltl sL eL => ?_
      have w11 := s11.trans sL
      have w10 := s10.trans w11
      have w9 := s9.trans w10
      have s7L := s8.trans w9
      have g1 : De K HL x1 d1 := (h1.same del_sub).same s7L
      have g2 : De K HL x2 d2 := (h2.same del_sub).same s7L
      have rows : ∀ t, t < 4 → ∃ q as xv xd, ([V.ref q1, .ref q2, .ref q3, .ref q4] : List V)[t]? = some (.ref q) ∧ HL q = some (.lst (as.map V.ref)) ∧ EvL HL xv as (csL C0 C1 C2 C3 C4 C5 C6 C7 C8 C9 C10 C11 C12 C13 C14 C15 C16 C17 C18 C19 C20 C21) fl17 ∧ ([x1, x2] : List V)[t % 2]? = some xv ∧ De K HL xv xd ∧ Sd 10 3000 xd := fun t ht => by
        have : t = 0 ∨ t = 1 ∨ t = 2 ∨ t = 3 := by omega
        rcases this with rfl | rfl | rfl | rfl
        · exact ⟨_, _, _, _, rfl, w9 _ _ e8, v8.same w9, rfl, g1, sd1⟩
        · exact ⟨_, _, _, _, rfl, w10 _ _ e9, v9.same w10, rfl, g2, sd2⟩
        · exact ⟨_, _, _, _, rfl, w11 _ _ e10, v10.same w11, rfl, g1, sd1⟩
        · exact ⟨_, _, _, _, rfl, sL _ _ e11, v11.same sL, rfl, g2, sd2⟩
      walk_at "rd"
      refine i_rng (by omega) (by omega) ?_
      refine go_for walk_rangeZ (fun t σ Hz => ∃ (u7 u8 u9 : Option V), σ = [some (.ref a), some (.ref bl), some (iV i), some (.ref b), some x1, some x2, some (.ref ql), u7, u8, u9, none, none, none] ∧ Same HL Hz) ⟨_, _, _, rfl, Same.refl _⟩ (fun _ _ _ _ _ => trivial) (fun t v σ Hz' Hw' ht h y => ?_) (fun σ Hz' h => ?_)
      · obtain ⟨u7, u8, u9, rfl, sz'⟩ := h
        obtain ⟨rfl, rfl⟩ := y
        have ht : t < 4 := ht
        obtain ⟨q, as, xv, xd, r1, r2, r3, r4, r5, r6⟩ := rows t ht
        walk_at "rd"
        refine i_rng (by omega) (by omega) ?_
        refine go_for walk_rangeZ (fun t2 σ Hy => ∃ (u8 u9 : Option V), σ = [some (.ref a), some (.ref bl), some (iV i), some (.ref b), some x1, some x2, some (.ref ql), some (iV t), u8, u9, none, none, none] ∧ Same HL Hy) ⟨_, _, rfl, sz'⟩ (fun _ _ _ _ _ => trivial) (fun t2 v σ Hy Hw2 ht2 h y => ?_) (fun σ Hy h => ?_)
        · obtain ⟨u8, u9, rfl, sy⟩ := h
          obtain ⟨rfl, rfl⟩ := y
          have ht2 : t2 < 17 := ht2
          obtain ⟨ea, C, fn, i1, i2, i3, ev⟩ := r3.get (show t2 < fl17.length from ht2)
          have gas : (as.map V.ref)[t2]? = some (.ref ea) := by rw [List.getElem?_map, i1]; rfl
          walk_at "rd"
          refine i_ixLv (sy _ _ eL) (by omega) (by rw [Int.toNat_natCast]; exact r1) ?_
          walk_at "rd"
          refine i_ixLv (sy _ _ r2) (by omega) (by rw [Int.toNat_natCast]; exact gas) ?_
          walk_at "rd"
          refine ⟨ea, C, _, t2, rfl, ev.same sy, i2, fun H' s' => ?_⟩
          have sy' := sy.trans s'
          walk_at "rd"
          refine ⟨ea, C, fn, xv, t2, rfl, ev.same sy', i2, i3, ?_⟩
          walk_at "rd"
          refine i_repE (r5.same sy') r6 (by omega) (by omega) ?_
          walk_at "rd"
          refine newLL0 (Nat.le_of_ble_eq_true rfl) fun l2 H2' nl2 lt2' s2' e2' => ?_
          walk_at "rd"
          refine i_ixLv e2' (by omega) (by rw [show ((t : Int) % 2).toNat = t % 2 by omega]; exact r4) ?_
          walk_at "rd"
          have sy2 := sy'.trans s2'
          refine i_repE (r5.same sy2) r6 (by omega) (by omega) ?_
          walk_at "rd"
          refine ⟨rfl, ?_⟩
          rw [decide_eq_true rfl]
          walk_at "rd"
          exact sy2
        · obtain ⟨u8, u9, rfl, sy⟩ := h
          walk_at "rd"
          exact ⟨_, _, _, rfl, sy⟩
      obtain ⟨u7, u8, u9, rfl, sz'⟩ := h
      have s7Z := s7L.trans sz'
      have BZ := B7.same s7Z
      walk_at "rd"
      refine ⟨b, x2, d2, _, rfl, h2.same (del_sb (SB.of s7Z)), sd2, BZ, by omega, fun H12 B12 s12 => ?_⟩
      walk_at "rd"
      refine ⟨b, x1, d1, _, rfl, h1.same (del_sb ((SB.of s7Z).trans s12)), sd1, B12, by omega, fun H13 B13 s13 => ?_⟩
      have sAll : SB b H5 H13 := s6.trans (s7.trans ((SB.of s7Z).trans (s12.trans s13)))
      have keep : Same HC H13 := fun x o e => by
        have e4 := s4 _ _ (sz _ _ e)
        exact sAll _ _ (ne_of_none e4 nb) (s5 _ _ e4)
      walk_at "rd"
      exact ⟨_, _, _, _, _, _, _, _, rfl, keep⟩
    obtain ⟨u2, u3, u4, u5, u6, u7, u8, u9, rfl, sz⟩ := h
    walk_at "rd"
    refine newLL0 (Nat.le_of_ble_eq_true rfl) fun gr H2' ngr ltg s2' eg => ?_
    walk_at "rd"
    refine ⟨.ref gr, rfl, fun q1 as1 H3' nq1 s3' e3' v3' => ?_⟩
    walk_at "rd"
    refine ⟨.ref gr, rfl, fun q2 as2 H4' nq2 s4' e4' v4' => ?_⟩
    walk_at "rd"
    have l1 := v3'.len
    have l2 := v4'.len
    have l1 : as1.length = 17 := l1
    have l2 : as2.length = 17 := l2
    refine i_catN (s4' _ _ e3') e4' (by rw [List.length_map, List.length_map]; omega) fun qc H5' nqc s5' e5' => ?_
    have v5a := v3'.same (s4'.trans s5')
    have v5b := v4'.same s5'
    have g5 := (s3'.trans (s4'.trans s5')) _ _ eg
    rw [← List.map_append] at e5'
    have key : ∀ j, j < 34 → ∃ ea C fn i, (as1 ++ as2)[j]? = some ea ∧ (csL C0 C1 C2 C3 C4 C5 C6 C7 C8 C9 C10 C11 C12 C13 C14 C15 C16 C17 C18 C19 C20 C21)[i]? = some C ∧ fl17[i]? = some fn ∧ EvAt H5' ea C [(fn, .ref gr)] := fun j hj => by
      by_cases c : j < 17
      · obtain ⟨ea, C, fn, i1, i2, i3, ev⟩ := v5a.get (show j < fl17.length from c)
        exact ⟨ea, C, fn, j, by rw [List.getElem?_append_left (by omega)]; exact i1, i2, i3, ev⟩
      · obtain ⟨ea, C, fn, i1, i2, i3, ev⟩ := v5b.get (show j - 17 < fl17.length from by show j - 17 < 17; omega)
        exact ⟨ea, C, fn, j - 17, by rw [List.getElem?_append_right (by omega), l1]; exact i1, i2, i3, ev⟩
    have ll : ((as1 ++ as2).map V.ref).length = 34 := by rw [List.length_map, List.length_append]; omega
    walk_at "rd"
    refine ⟨⟨_, sqL_of e5'⟩, ?_⟩
    refine go_lc (walk_list (xs := (as1 ++ as2).map V.ref)) (fun pk j Hx => Hx pk = some (.lst (List.replicate j (.ref gr))) ∧ Same H5' Hx) (fun pk npk => ⟨upd_same, same_upd npk⟩) (fun pk j Hx hj h => sqL_of (h.2 _ _ e5')) (fun pk npk j v Hx Hy hj h y => ?_) (fun pk Hx npk h => ?_)
    · obtain ⟨ek, sx⟩ := h
      obtain ⟨rfl, hv⟩ := y
      rw [ll] at hj
      obtain ⟨ea, C, fn, i, i1, i2, i3, ev⟩ := key j hj
      rw [List.getElem?_map, i1] at hv
      cases hv
      walk_at "rd"
      refine ⟨rfl, ?_⟩
      unfold tYes
      refine iteT ?_
      walk_at "rd"
      refine ⟨ea, C, fn, .ref gr, i, rfl, ev.same sx, i2, i3, ?_⟩
      refine ⟨_, ek, sm100 (by rw [List.length_replicate]; omega), ?_, Same.set_new sx npk⟩
      rw [upd_same, List.replicate_succ']
    obtain ⟨ek, sx⟩ := h
    rw [ll] at ek
    have g6 := sx _ _ g5
    have npg : pk ≠ gr := fun e => by rw [e, g6] at ek; cases ek
    walk_at "rd"
    refine i_append g6 (sm100 (by simp only [List.length_cons, List.length_nil]; omega)) ?_
    have g7 := upd_same (H := Hx) (a := gr) (o := HO.lst ([V.int 1] ++ [.str (S [109, 111, 114, 101])]))
    have ek7 : upd Hx gr (.lst ([V.int 1] ++ [.str (S [109, 111, 114, 101])])) pk = some (.lst (List.replicate 34 (V.ref gr))) := by rw [upd_ne npg]; exact ek
    have s67 : Same H (upd Hx gr (.lst ([V.int 1] ++ [.str (S [109, 111, 114, 101])]))) := Same.set_new (s0C.trans (sz.trans (s2'.trans (s3'.trans (s4'.trans (s5'.trans sx)))))) ((s0C.trans sz).free ngr)
    generalize upd Hx gr (.lst ([V.int 1] ++ [.str (S [109, 111, 114, 101])])) = H7 at *
    walk_at "rd"
    refine ⟨⟨_, sqL_of ek7⟩, ?_⟩
    refine go_lc (walk_list (xs := List.replicate 34 (V.ref gr))) (fun p2 j Hy => Hy p2 = some (.lst []) ∧ Same H7 Hy) (fun p2 np2 => ⟨upd_same, same_upd np2⟩) (fun p2 j Hy hj h => sqL_of (h.2 _ _ ek7)) (fun p2 np2 j v Hy Hy2 hj h y => ?_) (fun p2 Hy np2 h => ?_)
    · obtain ⟨e2, sy⟩ := h
      obtain ⟨rfl, hv⟩ := y
      rw [List.length_replicate] at hj
      rw [List.getElem?_replicate, if_pos hj] at hv
      cases hv
      walk_at "rd"
      refine ⟨rfl, ?_⟩
      walk_at "rd"
      refine newLL0 (Nat.le_of_ble_eq_true rfl) fun l9 H9 nl9 lt9 s9 e9 => ?_
      refine i_neE (.lst (s9 _ _ (sy _ _ g7)) ltg (.cons (.int 1) (.cons (.str _) .nil))) (.lst e9 lt9 (.cons (.int 1) (.cons (.str _) .nil))) sd_om sd_om (by simp [PyData.hasDict, PyData.hasDictAll]) (by simp [PyData.hasDict, PyData.hasDictAll]) ?_
      rw [one_more_eqv]
      walk_at "rd"
      exact ⟨s9 _ _ e2, sy.trans s9⟩
    obtain ⟨e2, sy⟩ := h
    walk_at "rd"
    refine newLL0 (Nat.le_of_ble_eq_true rfl) fun l9 H9 nl9 lt9 s9 e9 => ?_
    refine i_eqNil (s9 _ _ e2) e9 ?_
    exact k _ (s67.trans (sy.trans s9))
end
end Sw
namespace Sw
open PySem PySem.Spec PyProof.Rows L2
theorem def_mk {K : PySem.W.Frag} {h : Heap} {mg : Str → Option Value} {x : Str} {st : Stmt} {f : Addr} {od an : Option Addr} {sl : Array (Option Value)} {oc kV dc pm cd ct : Value} (X : K.In h) (G : h.Ns mainGlobals mg)
    (a : PySem.W.nsIn K mainGlobals x = some (some (.ref f))) (l : K.lookup f = some ⟨oc, od, .func (PySem.W.fnOf x x (defArgs st) (defBody st) (defScope st) .none kV dc pm an cd ct), sl⟩) (c : PySem.W.codeIn K cd x = true) (k : PySem.W.keepIn K (.ref f) = true) : Def K mg x st :=
  ⟨f, _, fun_mk l c k, PySem.W.mg_of X G a⟩
theorem iniq_mk {K : PySem.W.Frag} {q : Str} {st : Stmt} {C fI : Addr} {od an : Option Addr} {sl : Array (Option Value)} {oc kV dc pm cd ct : Value} (i : PySem.W.findIn K (.ref C) "__init__" = some (some (.ref fI))) (t : PySem.W.typeIn K (.ref fI) = some (.type "function"))
    (l : K.lookup fI = some ⟨oc, od, .func (PySem.W.fnOf "__init__" q (defArgs st) (defBody st) (defScope st) .none kV dc pm an cd ct), sl⟩) (c : PySem.W.codeIn K cd q = true) (k : PySem.W.keepIn K (.ref fI) = true) :
    ∃ (fI : Addr) (fd : FuncData), PySem.W.findIn K (.ref C) "__init__" = some (some (.ref fI)) ∧ PySem.W.typeIn K (.ref fI) = some (.type "function") ∧ Fun K "__init__" q st fI fd := ⟨fI, _, i, t, fun_mk l c k⟩
/-- an own exception class as it stands behind the top -/
structure XI0 (x q : Str) (st : Stmt) (K : PySem.W.Frag) (mg : Str → Option Value) (B C : Addr) : Prop where
  ov : OV K B C
  hm : mg x = some (.ref C)
  ini : ∃ (fI : Addr) (fd : FuncData), PySem.W.findIn K (.ref C) "__init__" = some (some (.ref fI)) ∧ PySem.W.typeIn K (.ref fI) = some (.type "function") ∧ Fun K "__init__" q st fI fd
theorem kb_mk {K : PySem.W.Frag} {q f : Str} {st : Stmt} {fI : Addr} {fd : FuncData} (F : Fun K "__init__" q st fI fd)
    (b : ∀ (kV doc pm : Value) (an : Option Addr) (cdv ct a v : Value), bindArgs (PySem.W.fnOf "__init__" q (defArgs st) (defBody st) (defScope st) .none kV doc pm an cdv ct) ⟨[a], [(f, v)]⟩ = pure [(("self" : Str), a), (f, v)]) :
    ∀ (s : Shared) (a : Value) (ws : List Value), K.In s.heap → (a :: ws).length = 2 → BindsTo s fd ⟨[a], [f].zip ws⟩ ((["self", f] : List Str).zip (a :: ws)) := by
  obtain ⟨oc, od, kV, doc, pm, an, cdv, ct, osl, rfl, lk, hcd⟩ := F.ex
  intro s a ws _ hl
  match ws, hl with
  | [v], _ => exact .of_eq (b kV doc pm an cdv ct a v)
theorem kb0_mk {K : PySem.W.Frag} {q : Str} {st : Stmt} {fI : Addr} {fd : FuncData} (F : Fun K "__init__" q st fI fd)
    (b : ∀ (kV doc pm : Value) (an : Option Addr) (cdv ct a : Value), bindArgs (PySem.W.fnOf "__init__" q (defArgs st) (defBody st) (defScope st) .none kV doc pm an cdv ct) ⟨[a], []⟩ = pure [(("self" : Str), a)]) :
    ∀ (s : Shared) (a : Value) (ws : List Value), K.In s.heap → (a :: ws).length = 1 → BindsTo s fd ⟨[a], ([] : List Str).zip ws⟩ ((["self"] : List Str).zip (a :: ws)) := by
  obtain ⟨oc, od, kV, doc, pm, an, cdv, ct, osl, rfl, lk, hcd⟩ := F.ex
  intro s a ws _ hl
  match ws, hl with
  | [], _ => exact .of_eq (b kV doc pm an cdv ct a)
theorem all_mk {l : PySem.W.OpenLaw} {w : World} {K : PySem.W.Frag} {mg : Str → Option Value} {fa : Addr} (hfa : mg "law" = some (.ref fa)) (z : Z mg) {B C0 C1 C2 C3 C4 C5 C6 C7 C8 C9 C10 C11 C12 C13 C14 C15 C16 C17 C18 C19 C20 C21 : Addr} (ov : Over K mg B) (xi0 : XI0 "InvalidCode" "InvalidCode.__init__" s_i0 K mg B C0) (xi1 : XI0 "InvalidCount" "InvalidCount.__init__" s_i1 K mg B C1) (xi2 : XI0 "InvalidDecoder" "InvalidDecoder.__init__" s_i2 K mg B C2) (xi3 : XI0 "InvalidEnds" "InvalidEnds.__init__" s_i3 K mg B C3) (xi4 : XI0 "InvalidKinds" "InvalidKinds.__init__" s_i4 K mg B C4) (xi5 : XI0 "InvalidKnot" "InvalidKnot.__init__" s_i5 K mg B C5) (xi6 : XI0 "InvalidLine" "InvalidLine.__init__" s_i6 K mg B C6) (xi7 : XI0 "InvalidPair" "InvalidPair.__init__" s_i7 K mg B C7) (xi8 : XI0 "InvalidPassing" "InvalidPassing.__init__" s_i8 K mg B C8) (xi9 : XI0 "InvalidPeriod" "InvalidPeriod.__init__" s_i9 K mg B C9) (xi10 : XI0 "InvalidRow" "InvalidRow.__init__" s_i10 K mg B C10) (xi11 : XI0 "InvalidSign" "InvalidSign.__init__" s_i11 K mg B C11) (xi12 : XI0 "InvalidSigns" "InvalidSigns.__init__" s_i12 K mg B C12) (xi13 : XI0 "InvalidSteps" "InvalidSteps.__init__" s_i13 K mg B C13) (xi14 : XI0 "InvalidText" "InvalidText.__init__" s_i14 K mg B C14) (xi15 : XI0 "TooMany" "TooMany.__init__" s_i15 K mg B C15) (xi16 : XI0 "Endless" "Endless.__init__" s_i16 K mg B C16) (xi17 : XI0 "NotPinned" "NotPinned.__init__" s_i17 K mg B C17) (xi18 : XI0 "NotSteady" "NotSteady.__init__" s_i18 K mg B C18) (xi19 : XI0 "NotReturning" "NotReturning.__init__" s_i19 K mg B C19) (xi20 : XI0 "OneWord" "OneWord.__init__" s_i20 K mg B C20) (xi21 : XI0 "NoLag" "NoLag.__init__" s_i21 K mg B C21) (ob : OVB K B) (sB : PySem.W.subIn K (.ref B) (.type "BaseException") = some true) (nd : (csL C0 C1 C2 C3 C4 C5 C6 C7 C8 C9 C10 C11 C12 C13 C14 C15 C16 C17 C18 C19 C20 C21).Nodup) (nB : ∀ C ∈ (csL C0 C1 C2 C3 C4 C5 C6 C7 C8 C9 C10 C11 C12 C13 C14 C15 C16 C17 C18 C19 C20 C21), C ≠ B)
    (d__law_cell : Def K mg "_law_cell" s__law_cell) (d__law_box : Def K mg "_law_box" s__law_box) (d__law_take : Def K mg "_law_take" s__law_take) (d__law_by_place : Def K mg "_law_by_place" s__law_by_place) (d__law_by_name : Def K mg "_law_by_name" s__law_by_name) (d__law_sorts : Def K mg "_law_sorts" s__law_sorts) (d__law_kept : Def K mg "_law_kept" s__law_kept) (d__law_is : Def K mg "_law_is" s__law_is) (d__law_thing : Def K mg "_law_thing" s__law_thing) (d__law_caught : Def K mg "_law_caught" s__law_caught) (d_law : Def K mg "law" s_law) :
    ∃ fd : FuncData, (∀ (s : Shared) (v : Value), BindsTo s fd ⟨[v], []⟩ [("script", v)]) ∧ ∀ base : Heap, K.In base → base.Ns mainGlobals mg → FnG l.prog w K mg base CX0 4 fa fd ["script"] (spLaw K) := by
  obtain ⟨f, fd, F, e⟩ := d_law
  cases hfa.symm.trans e
  have F0 := F
  obtain ⟨oc, od, kV, doc, pm, an, cdv, ct, osl, rfl, lk, hcd⟩ := F.ex
  refine ⟨PySem.W.fnOf "law" "law" (defArgs s_law) (defBody s_law) (defScope s_law) .none kV doc pm an cdv ct, fun s v => .of_eq rfl, fun base _ _ => ?_⟩
  have x0 : XV "InvalidCode" "given" l.prog w K mg base B C0 := by
    obtain ⟨fI, fdI, i1, i2, FI⟩ := xi0.ini
    exact ⟨xi0.ov, nB _ (List.mem_of_getElem? (i := 0) rfl), xi0.ov.f.n1, xi0.hm, fI, fdI, i1, i2, ok_i0 FI ov, FI.binds fun _ _ _ _ _ _ us hl => match us, hl with | [_, _], _ => rfl, kb_mk FI fun _ _ _ _ _ _ _ _ => rfl⟩
  have x1 : XV "InvalidCount" "given" l.prog w K mg base B C1 := by
    obtain ⟨fI, fdI, i1, i2, FI⟩ := xi1.ini
    exact ⟨xi1.ov, nB _ (List.mem_of_getElem? (i := 1) rfl), xi1.ov.f.n1, xi1.hm, fI, fdI, i1, i2, ok_i1 FI ov, FI.binds fun _ _ _ _ _ _ us hl => match us, hl with | [_, _], _ => rfl, kb_mk FI fun _ _ _ _ _ _ _ _ => rfl⟩
  have x2 : XV "InvalidDecoder" "given" l.prog w K mg base B C2 := by
    obtain ⟨fI, fdI, i1, i2, FI⟩ := xi2.ini
    exact ⟨xi2.ov, nB _ (List.mem_of_getElem? (i := 2) rfl), xi2.ov.f.n1, xi2.hm, fI, fdI, i1, i2, ok_i2 FI ov, FI.binds fun _ _ _ _ _ _ us hl => match us, hl with | [_, _], _ => rfl, kb_mk FI fun _ _ _ _ _ _ _ _ => rfl⟩
  have x3 : XV "InvalidEnds" "given" l.prog w K mg base B C3 := by
    obtain ⟨fI, fdI, i1, i2, FI⟩ := xi3.ini
    exact ⟨xi3.ov, nB _ (List.mem_of_getElem? (i := 3) rfl), xi3.ov.f.n1, xi3.hm, fI, fdI, i1, i2, ok_i3 FI ov, FI.binds fun _ _ _ _ _ _ us hl => match us, hl with | [_, _], _ => rfl, kb_mk FI fun _ _ _ _ _ _ _ _ => rfl⟩
  have x4 : XV "InvalidKinds" "given" l.prog w K mg base B C4 := by
    obtain ⟨fI, fdI, i1, i2, FI⟩ := xi4.ini
    exact ⟨xi4.ov, nB _ (List.mem_of_getElem? (i := 4) rfl), xi4.ov.f.n1, xi4.hm, fI, fdI, i1, i2, ok_i4 FI ov, FI.binds fun _ _ _ _ _ _ us hl => match us, hl with | [_, _], _ => rfl, kb_mk FI fun _ _ _ _ _ _ _ _ => rfl⟩
  have x5 : XV "InvalidKnot" "given" l.prog w K mg base B C5 := by
    obtain ⟨fI, fdI, i1, i2, FI⟩ := xi5.ini
    exact ⟨xi5.ov, nB _ (List.mem_of_getElem? (i := 5) rfl), xi5.ov.f.n1, xi5.hm, fI, fdI, i1, i2, ok_i5 FI ov, FI.binds fun _ _ _ _ _ _ us hl => match us, hl with | [_, _], _ => rfl, kb_mk FI fun _ _ _ _ _ _ _ _ => rfl⟩
  have x6 : XV "InvalidLine" "given" l.prog w K mg base B C6 := by
    obtain ⟨fI, fdI, i1, i2, FI⟩ := xi6.ini
    exact ⟨xi6.ov, nB _ (List.mem_of_getElem? (i := 6) rfl), xi6.ov.f.n1, xi6.hm, fI, fdI, i1, i2, ok_i6 FI ov, FI.binds fun _ _ _ _ _ _ us hl => match us, hl with | [_, _], _ => rfl, kb_mk FI fun _ _ _ _ _ _ _ _ => rfl⟩
  have x7 : XV "InvalidPair" "given" l.prog w K mg base B C7 := by
    obtain ⟨fI, fdI, i1, i2, FI⟩ := xi7.ini
    exact ⟨xi7.ov, nB _ (List.mem_of_getElem? (i := 7) rfl), xi7.ov.f.n1, xi7.hm, fI, fdI, i1, i2, ok_i7 FI ov, FI.binds fun _ _ _ _ _ _ us hl => match us, hl with | [_, _], _ => rfl, kb_mk FI fun _ _ _ _ _ _ _ _ => rfl⟩
  have x8 : XV "InvalidPassing" "given" l.prog w K mg base B C8 := by
    obtain ⟨fI, fdI, i1, i2, FI⟩ := xi8.ini
    exact ⟨xi8.ov, nB _ (List.mem_of_getElem? (i := 8) rfl), xi8.ov.f.n1, xi8.hm, fI, fdI, i1, i2, ok_i8 FI ov, FI.binds fun _ _ _ _ _ _ us hl => match us, hl with | [_, _], _ => rfl, kb_mk FI fun _ _ _ _ _ _ _ _ => rfl⟩
  have x9 : XV "InvalidPeriod" "given" l.prog w K mg base B C9 := by
    obtain ⟨fI, fdI, i1, i2, FI⟩ := xi9.ini
    exact ⟨xi9.ov, nB _ (List.mem_of_getElem? (i := 9) rfl), xi9.ov.f.n1, xi9.hm, fI, fdI, i1, i2, ok_i9 FI ov, FI.binds fun _ _ _ _ _ _ us hl => match us, hl with | [_, _], _ => rfl, kb_mk FI fun _ _ _ _ _ _ _ _ => rfl⟩
  have x10 : XV "InvalidRow" "given" l.prog w K mg base B C10 := by
    obtain ⟨fI, fdI, i1, i2, FI⟩ := xi10.ini
    exact ⟨xi10.ov, nB _ (List.mem_of_getElem? (i := 10) rfl), xi10.ov.f.n1, xi10.hm, fI, fdI, i1, i2, ok_i10 FI ov, FI.binds fun _ _ _ _ _ _ us hl => match us, hl with | [_, _], _ => rfl, kb_mk FI fun _ _ _ _ _ _ _ _ => rfl⟩
  have x11 : XV "InvalidSign" "given" l.prog w K mg base B C11 := by
    obtain ⟨fI, fdI, i1, i2, FI⟩ := xi11.ini
    exact ⟨xi11.ov, nB _ (List.mem_of_getElem? (i := 11) rfl), xi11.ov.f.n1, xi11.hm, fI, fdI, i1, i2, ok_i11 FI ov, FI.binds fun _ _ _ _ _ _ us hl => match us, hl with | [_, _], _ => rfl, kb_mk FI fun _ _ _ _ _ _ _ _ => rfl⟩
  have x12 : XV "InvalidSigns" "given" l.prog w K mg base B C12 := by
    obtain ⟨fI, fdI, i1, i2, FI⟩ := xi12.ini
    exact ⟨xi12.ov, nB _ (List.mem_of_getElem? (i := 12) rfl), xi12.ov.f.n1, xi12.hm, fI, fdI, i1, i2, ok_i12 FI ov, FI.binds fun _ _ _ _ _ _ us hl => match us, hl with | [_, _], _ => rfl, kb_mk FI fun _ _ _ _ _ _ _ _ => rfl⟩
  have x13 : XV "InvalidSteps" "given" l.prog w K mg base B C13 := by
    obtain ⟨fI, fdI, i1, i2, FI⟩ := xi13.ini
    exact ⟨xi13.ov, nB _ (List.mem_of_getElem? (i := 13) rfl), xi13.ov.f.n1, xi13.hm, fI, fdI, i1, i2, ok_i13 FI ov, FI.binds fun _ _ _ _ _ _ us hl => match us, hl with | [_, _], _ => rfl, kb_mk FI fun _ _ _ _ _ _ _ _ => rfl⟩
  have x14 : XV "InvalidText" "given" l.prog w K mg base B C14 := by
    obtain ⟨fI, fdI, i1, i2, FI⟩ := xi14.ini
    exact ⟨xi14.ov, nB _ (List.mem_of_getElem? (i := 14) rfl), xi14.ov.f.n1, xi14.hm, fI, fdI, i1, i2, ok_i14 FI ov, FI.binds fun _ _ _ _ _ _ us hl => match us, hl with | [_, _], _ => rfl, kb_mk FI fun _ _ _ _ _ _ _ _ => rfl⟩
  have x15 : XV "TooMany" "count" l.prog w K mg base B C15 := by
    obtain ⟨fI, fdI, i1, i2, FI⟩ := xi15.ini
    exact ⟨xi15.ov, nB _ (List.mem_of_getElem? (i := 15) rfl), xi15.ov.f.n2, xi15.hm, fI, fdI, i1, i2, ok_i15 FI ov, FI.binds fun _ _ _ _ _ _ us hl => match us, hl with | [_, _], _ => rfl, kb_mk FI fun _ _ _ _ _ _ _ _ => rfl⟩
  have x16 : XV "Endless" "errors" l.prog w K mg base B C16 := by
    obtain ⟨fI, fdI, i1, i2, FI⟩ := xi16.ini
    exact ⟨xi16.ov, nB _ (List.mem_of_getElem? (i := 16) rfl), xi16.ov.f.n3, xi16.hm, fI, fdI, i1, i2, ok_i16 FI ov, FI.binds fun _ _ _ _ _ _ us hl => match us, hl with | [_, _], _ => rfl, kb_mk FI fun _ _ _ _ _ _ _ _ => rfl⟩
  have x17 : XV0 "NotPinned" l.prog w K mg base B C17 := by
    obtain ⟨fI, fdI, i1, i2, FI⟩ := xi17.ini
    exact ⟨xi17.ov, nB _ (List.mem_of_getElem? (i := 17) rfl), xi17.hm, fI, fdI, i1, i2, ok_i17 FI ov, FI.binds fun _ _ _ _ _ _ us hl => match us, hl with | [_], _ => rfl, kb0_mk FI fun _ _ _ _ _ _ _ => rfl⟩
  have x18 : XV0 "NotSteady" l.prog w K mg base B C18 := by
    obtain ⟨fI, fdI, i1, i2, FI⟩ := xi18.ini
    exact ⟨xi18.ov, nB _ (List.mem_of_getElem? (i := 18) rfl), xi18.hm, fI, fdI, i1, i2, ok_i18 FI ov, FI.binds fun _ _ _ _ _ _ us hl => match us, hl with | [_], _ => rfl, kb0_mk FI fun _ _ _ _ _ _ _ => rfl⟩
  have x19 : XV0 "NotReturning" l.prog w K mg base B C19 := by
    obtain ⟨fI, fdI, i1, i2, FI⟩ := xi19.ini
    exact ⟨xi19.ov, nB _ (List.mem_of_getElem? (i := 19) rfl), xi19.hm, fI, fdI, i1, i2, ok_i19 FI ov, FI.binds fun _ _ _ _ _ _ us hl => match us, hl with | [_], _ => rfl, kb0_mk FI fun _ _ _ _ _ _ _ => rfl⟩
  have x20 : XV0 "OneWord" l.prog w K mg base B C20 := by
    obtain ⟨fI, fdI, i1, i2, FI⟩ := xi20.ini
    exact ⟨xi20.ov, nB _ (List.mem_of_getElem? (i := 20) rfl), xi20.hm, fI, fdI, i1, i2, ok_i20 FI ov, FI.binds fun _ _ _ _ _ _ us hl => match us, hl with | [_], _ => rfl, kb0_mk FI fun _ _ _ _ _ _ _ => rfl⟩
  have x21 : XV0 "NoLag" l.prog w K mg base B C21 := by
    obtain ⟨fI, fdI, i1, i2, FI⟩ := xi21.ini
    exact ⟨xi21.ov, nB _ (List.mem_of_getElem? (i := 21) rfl), xi21.hm, fI, fdI, i1, i2, ok_i21 FI ov, FI.binds fun _ _ _ _ _ _ us hl => match us, hl with | [_], _ => rfl, kb0_mk FI fun _ _ _ _ _ _ _ => rfl⟩
  have xs : XS l.prog w K mg base B C0 C1 C2 C3 C4 C5 C6 C7 C8 C9 C10 C11 C12 C13 C14 C15 C16 C17 C18 C19 C20 C21 := ⟨x0, x1, x2, x3, x4, x5, x6, x7, x8, x9, x10, x11, x12, x13, x14, x15, x16, x17, x18, x19, x20, x21, nd, ob, ov.hm, sB⟩
  have c_cell := Sw.Def.cal (P := l.prog) (w := w) (base := base) d__law_cell (ps := ["script", "k"]) (k := 1) (sp := (spCell K)) (fun _ _ _ _ _ _ us hl => match us, hl with | [_, _], _ => rfl) fun f fd F => ok__law_cell F z
  have c_box := Sw.Def.cal (P := l.prog) (w := w) (base := base) d__law_box (ps := ["great"]) (k := 1) (sp := spBox) (fun _ _ _ _ _ _ us hl => match us, hl with | [_], _ => rfl) fun f fd F => ok__law_box F z
  have c_take := Sw.Def.cal (P := l.prog) (w := w) (base := base) d__law_take (ps := ["box", "many"]) (k := 1) (sp := spTake) (fun _ _ _ _ _ _ us hl => match us, hl with | [_, _], _ => rfl) fun f fd F => ok__law_take F z
  have c_pl := Sw.Def.cal (P := l.prog) (w := w) (base := base) d__law_by_place (ps := ["thing"]) (k := 3) (sp := (spPl (csL C0 C1 C2 C3 C4 C5 C6 C7 C8 C9 C10 C11 C12 C13 C14 C15 C16 C17 C18 C19 C20 C21))) (fun _ _ _ _ _ _ us hl => match us, hl with | [_], _ => rfl) fun f fd F => ok_place F z xs
  have c_nm := Sw.Def.cal (P := l.prog) (w := w) (base := base) d__law_by_name (ps := ["thing"]) (k := 3) (sp := (spPl (csL C0 C1 C2 C3 C4 C5 C6 C7 C8 C9 C10 C11 C12 C13 C14 C15 C16 C17 C18 C19 C20 C21))) (fun _ _ _ _ _ _ us hl => match us, hl with | [_], _ => rfl) fun f fd F => ok_name F z xs
  have c_so := Sw.Def.cal (P := l.prog) (w := w) (base := base) d__law_sorts (ps := ["e"]) (k := 1) (sp := (spSorts (csL C0 C1 C2 C3 C4 C5 C6 C7 C8 C9 C10 C11 C12 C13 C14 C15 C16 C17 C18 C19 C20 C21))) (fun _ _ _ _ _ _ us hl => match us, hl with | [_], _ => rfl) fun f fd F => ok_sorts F z xs
  have c_ke := Sw.Def.cal (P := l.prog) (w := w) (base := base) d__law_kept (ps := ["e"]) (k := 1) (sp := (spKept (csL C0 C1 C2 C3 C4 C5 C6 C7 C8 C9 C10 C11 C12 C13 C14 C15 C16 C17 C18 C19 C20 C21))) (fun _ _ _ _ _ _ us hl => match us, hl with | [_], _ => rfl) fun f fd F => ok_kept F z xs
  have c_is := Sw.Def.cal (P := l.prog) (w := w) (base := base) d__law_is (ps := ["e", "spot"]) (k := 2) (sp := (spIs (csL C0 C1 C2 C3 C4 C5 C6 C7 C8 C9 C10 C11 C12 C13 C14 C15 C16 C17 C18 C19 C20 C21))) (fun _ _ _ _ _ _ us hl => match us, hl with | [_, _], _ => rfl) fun f fd F => ok_is F z xs c_so
  have z_so := Sw.Def.calZ (P := l.prog) (w := w) (base := base) d__law_sorts (ps := ["e"]) (k := 1) (sp := (spSorts (csL C0 C1 C2 C3 C4 C5 C6 C7 C8 C9 C10 C11 C12 C13 C14 C15 C16 C17 C18 C19 C20 C21))) (fun _ _ _ _ _ _ us hl => match us, hl with | [_], _ => rfl) fun f fd F => ok_sortsZ F z xs
  have z_ke := Sw.Def.calZ (P := l.prog) (w := w) (base := base) d__law_kept (ps := ["e"]) (k := 1) (sp := (spKept (csL C0 C1 C2 C3 C4 C5 C6 C7 C8 C9 C10 C11 C12 C13 C14 C15 C16 C17 C18 C19 C20 C21))) (fun _ _ _ _ _ _ us hl => match us, hl with | [_], _ => rfl) fun f fd F => ok_keptZ F z xs
  have z_is := Sw.Def.calZ (P := l.prog) (w := w) (base := base) d__law_is (ps := ["e", "spot"]) (k := 2) (sp := (spIs (csL C0 C1 C2 C3 C4 C5 C6 C7 C8 C9 C10 C11 C12 C13 C14 C15 C16 C17 C18 C19 C20 C21))) (fun _ _ _ _ _ _ us hl => match us, hl with | [_, _], _ => rfl) fun f fd F => ok_isZ F z xs z_so
  have c_th := Sw.Def.cal (P := l.prog) (w := w) (base := base) d__law_thing (ps := ["box"]) (k := 2) (sp := (spThing K)) (fun _ _ _ _ _ _ us hl => match us, hl with | [_], _ => rfl) fun f fd F => ok_thing F z c_take
  have q_ca := Sw.Def.calG (P := l.prog) (w := w) (base := base) d__law_caught (ps := ["box", "thing"]) (k := 3) (sp := (spCaught K)) (fun _ _ _ _ _ _ us hl => match us, hl with | [_, _], _ => rfl) fun f fd F => ok_caught F z xs c_take z_is z_ke
  exact ok_law F0 z xs c_box c_cell c_th c_pl c_nm c_is c_ke q_ca
theorem ov_mk {K : PySem.W.Frag} {C B N : Addr} {nm q : Str} {bs : List Value} {sn : List Str} {sub : List Value} {ab : Bool} {col : Option Bool} {dd : Option Addr} {k0 k1 k2 k3 k5 : Option Value}
    (h : K.lookup C = some (excClassObj nm q C N bs [.ref B, .type "Exception", .type "BaseException", .type "object"] true sn sub ab col dd k0 k1 k2 k3 k5 "Exception.__new__")) (v : vB K C = true) : OV K B C := ⟨⟨nm, q, N, bs, sn, sub, ab, col, dd, k0, k1, k2, k3, k5, h⟩, v⟩
end Sw
open PySem PySem.W PyProof.Rows
set_option maxHeartbeats 0 in
theorem PySem.Challenge.cw_spoiltways_k00_errors_holds : PySem.Challenge.rw_spoiltways_k00_errors.Holds := by
  w_on; o_law; k_head; (case hw => w_witness2)
  k_fill
  refine Sw.walk_G (l := PySem.Challenge.rw_spoiltways_k00_errors) (n := 63) (k := 4) (x := "script") (sp := Sw.spLaw) rfl (by decide) rfl ⟨rfl, by decide, by decide⟩ (fun w h Y => PySem.W.kIn_of Y) ?F (fun _ _ a ns hl _ hS => ⟨a, ns, rfl, hS, fun _ _ => rfl⟩)
  case F =>
    intro w mg fa h KX G hmg
    have z : Sw.Z mg := by
      refine' ⟨PySem.W.mg_none_of KX G ?z0, PySem.W.mg_none_of KX G ?z1, PySem.W.mg_none_of KX G ?z2, PySem.W.mg_none_of KX G ?z3, PySem.W.mg_none_of KX G ?z4, PySem.W.mg_none_of KX G ?z5, PySem.W.mg_none_of KX G ?z6, PySem.W.mg_none_of KX G ?z7, PySem.W.mg_none_of KX G ?z8, PySem.W.mg_none_of KX G ?z9, PySem.W.mg_none_of KX G ?z10, PySem.W.mg_none_of KX G ?z11⟩
      (case z0 => k_is)
      (case z1 => k_is)
      (case z2 => k_is)
      (case z3 => k_is)
      (case z4 => k_is)
      (case z5 => k_is)
      (case z6 => k_is)
      (case z7 => k_is)
      (case z8 => k_is)
      (case z9 => k_is)
      (case z10 => k_is)
      (case z11 => k_is)
    refine' Sw.all_mk hmg z ?ov ?xi0 ?xi1 ?xi2 ?xi3 ?xi4 ?xi5 ?xi6 ?xi7 ?xi8 ?xi9 ?xi10 ?xi11 ?xi12 ?xi13 ?xi14 ?xi15 ?xi16 ?xi17 ?xi18 ?xi19 ?xi20 ?xi21 ?ob ?sB ?nd ?nB ?d__law_cell ?d__law_box ?d__law_take ?d__law_by_place ?d__law_by_name ?d__law_sorts ?d__law_kept ?d__law_is ?d__law_thing ?d__law_caught ?d_law
    case ov =>
      refine' ⟨PySem.W.mg_of KX G ?b1, ?b2, ?b3, ?b4, ?b5⟩
      (case b1 => k_is)
      (case b2 => k_is)
      (case b3 => k_is)
      (case b4 => k_is)
      (case b5 => k_is)
    case xi0 =>
      refine' ⟨Sw.ov_mk ?h1 ?h2, PySem.W.mg_of KX G ?hm, Sw.iniq_mk ?i1 ?i2 ?i3 ?i4 ?i5⟩
      (case hm => k_is)
      (case h1 => k_is)
      (case h2 => kernel_rfl)
      (case i1 => k_is)
      (case i2 => k_is)
      (case i3 => k_is)
      (case i4 => k_is)
      (case i5 => k_is)
    case xi1 =>
      refine' ⟨Sw.ov_mk ?h1 ?h2, PySem.W.mg_of KX G ?hm, Sw.iniq_mk ?i1 ?i2 ?i3 ?i4 ?i5⟩
      (case hm => k_is)
      (case h1 => k_is)
      (case h2 => kernel_rfl)
      (case i1 => k_is)
      (case i2 => k_is)
      (case i3 => k_is)
      (case i4 => k_is)
      (case i5 => k_is)
    case xi2 =>
      refine' ⟨Sw.ov_mk ?h1 ?h2, PySem.W.mg_of KX G ?hm, Sw.iniq_mk ?i1 ?i2 ?i3 ?i4 ?i5⟩
      (case hm => k_is)
      (case h1 => k_is)
      (case h2 => kernel_rfl)
      (case i1 => k_is)
      (case i2 => k_is)
      (case i3 => k_is)
      (case i4 => k_is)
      (case i5 => k_is)
    case xi3 =>
      refine' ⟨Sw.ov_mk ?h1 ?h2, PySem.W.mg_of KX G ?hm, Sw.iniq_mk ?i1 ?i2 ?i3 ?i4 ?i5⟩
      (case hm => k_is)
      (case h1 => k_is)
      (case h2 => kernel_rfl)
      (case i1 => k_is)
      (case i2 => k_is)
      (case i3 => k_is)
      (case i4 => k_is)
      (case i5 => k_is)
    case xi4 =>
      refine' ⟨Sw.ov_mk ?h1 ?h2, PySem.W.mg_of KX G ?hm, Sw.iniq_mk ?i1 ?i2 ?i3 ?i4 ?i5⟩
      (case hm => k_is)
      (case h1 => k_is)
      (case h2 => kernel_rfl)
      (case i1 => k_is)
      (case i2 => k_is)
      (case i3 => k_is)
      (case i4 => k_is)
      (case i5 => k_is)
    case xi5 =>
      refine' ⟨Sw.ov_mk ?h1 ?h2, PySem.W.mg_of KX G ?hm, Sw.iniq_mk ?i1 ?i2 ?i3 ?i4 ?i5⟩
      (case hm => k_is)
      (case h1 => k_is)
      (case h2 => kernel_rfl)
      (case i1 => k_is)
      (case i2 => k_is)
      (case i3 => k_is)
      (case i4 => k_is)
      (case i5 => k_is)
    case xi6 =>
      refine' ⟨Sw.ov_mk ?h1 ?h2, PySem.W.mg_of KX G ?hm, Sw.iniq_mk ?i1 ?i2 ?i3 ?i4 ?i5⟩
      (case hm => k_is)
      (case h1 => k_is)
      (case h2 => kernel_rfl)
      (case i1 => k_is)
      (case i2 => k_is)
      (case i3 => k_is)
      (case i4 => k_is)
      (case i5 => k_is)
    case xi7 =>
      refine' ⟨Sw.ov_mk ?h1 ?h2, PySem.W.mg_of KX G ?hm, Sw.iniq_mk ?i1 ?i2 ?i3 ?i4 ?i5⟩
      (case hm => k_is)
      (case h1 => k_is)
      (case h2 => kernel_rfl)
      (case i1 => k_is)
      (case i2 => k_is)
      (case i3 => k_is)
      (case i4 => k_is)
      (case i5 => k_is)
    case xi8 =>
      refine' ⟨Sw.ov_mk ?h1 ?h2, PySem.W.mg_of KX G ?hm, Sw.iniq_mk ?i1 ?i2 ?i3 ?i4 ?i5⟩
      (case hm => k_is)
      (case h1 => k_is)
      (case h2 => kernel_rfl)
      (case i1 => k_is)
      (case i2 => k_is)
      (case i3 => k_is)
      (case i4 => k_is)
      (case i5 => k_is)
    case xi9 =>
      refine' ⟨Sw.ov_mk ?h1 ?h2, PySem.W.mg_of KX G ?hm, Sw.iniq_mk ?i1 ?i2 ?i3 ?i4 ?i5⟩
      (case hm => k_is)
      (case h1 => k_is)
      (case h2 => kernel_rfl)
      (case i1 => k_is)
      (case i2 => k_is)
      (case i3 => k_is)
      (case i4 => k_is)
      (case i5 => k_is)
    case xi10 =>
      refine' ⟨Sw.ov_mk ?h1 ?h2, PySem.W.mg_of KX G ?hm, Sw.iniq_mk ?i1 ?i2 ?i3 ?i4 ?i5⟩
      (case hm => k_is)
      (case h1 => k_is)
      (case h2 => kernel_rfl)
      (case i1 => k_is)
      (case i2 => k_is)
      (case i3 => k_is)
      (case i4 => k_is)
      (case i5 => k_is)
    case xi11 =>
      refine' ⟨Sw.ov_mk ?h1 ?h2, PySem.W.mg_of KX G ?hm, Sw.iniq_mk ?i1 ?i2 ?i3 ?i4 ?i5⟩
      (case hm => k_is)
      (case h1 => k_is)
      (case h2 => kernel_rfl)
      (case i1 => k_is)
      (case i2 => k_is)
      (case i3 => k_is)
      (case i4 => k_is)
      (case i5 => k_is)
    case xi12 =>
      refine' ⟨Sw.ov_mk ?h1 ?h2, PySem.W.mg_of KX G ?hm, Sw.iniq_mk ?i1 ?i2 ?i3 ?i4 ?i5⟩
      (case hm => k_is)
      (case h1 => k_is)
      (case h2 => kernel_rfl)
      (case i1 => k_is)
      (case i2 => k_is)
      (case i3 => k_is)
      (case i4 => k_is)
      (case i5 => k_is)
    case xi13 =>
      refine' ⟨Sw.ov_mk ?h1 ?h2, PySem.W.mg_of KX G ?hm, Sw.iniq_mk ?i1 ?i2 ?i3 ?i4 ?i5⟩
      (case hm => k_is)
      (case h1 => k_is)
      (case h2 => kernel_rfl)
      (case i1 => k_is)
      (case i2 => k_is)
      (case i3 => k_is)
      (case i4 => k_is)
      (case i5 => k_is)
    case xi14 =>
      refine' ⟨Sw.ov_mk ?h1 ?h2, PySem.W.mg_of KX G ?hm, Sw.iniq_mk ?i1 ?i2 ?i3 ?i4 ?i5⟩
      (case hm => k_is)
      (case h1 => k_is)
      (case h2 => kernel_rfl)
      (case i1 => k_is)
      (case i2 => k_is)
      (case i3 => k_is)
      (case i4 => k_is)
      (case i5 => k_is)
    case xi15 =>
      refine' ⟨Sw.ov_mk ?h1 ?h2, PySem.W.mg_of KX G ?hm, Sw.iniq_mk ?i1 ?i2 ?i3 ?i4 ?i5⟩
      (case hm => k_is)
      (case h1 => k_is)
      (case h2 => kernel_rfl)
      (case i1 => k_is)
      (case i2 => k_is)
      (case i3 => k_is)
      (case i4 => k_is)
      (case i5 => k_is)
    case xi16 =>
      refine' ⟨Sw.ov_mk ?h1 ?h2, PySem.W.mg_of KX G ?hm, Sw.iniq_mk ?i1 ?i2 ?i3 ?i4 ?i5⟩
      (case hm => k_is)
      (case h1 => k_is)
      (case h2 => kernel_rfl)
      (case i1 => k_is)
      (case i2 => k_is)
      (case i3 => k_is)
      (case i4 => k_is)
      (case i5 => k_is)
    case xi17 =>
      refine' ⟨Sw.ov_mk ?h1 ?h2, PySem.W.mg_of KX G ?hm, Sw.iniq_mk ?i1 ?i2 ?i3 ?i4 ?i5⟩
      (case hm => k_is)
      (case h1 => k_is)
      (case h2 => kernel_rfl)
      (case i1 => k_is)
      (case i2 => k_is)
      (case i3 => k_is)
      (case i4 => k_is)
      (case i5 => k_is)
    case xi18 =>
      refine' ⟨Sw.ov_mk ?h1 ?h2, PySem.W.mg_of KX G ?hm, Sw.iniq_mk ?i1 ?i2 ?i3 ?i4 ?i5⟩
      (case hm => k_is)
      (case h1 => k_is)
      (case h2 => kernel_rfl)
      (case i1 => k_is)
      (case i2 => k_is)
      (case i3 => k_is)
      (case i4 => k_is)
      (case i5 => k_is)
    case xi19 =>
      refine' ⟨Sw.ov_mk ?h1 ?h2, PySem.W.mg_of KX G ?hm, Sw.iniq_mk ?i1 ?i2 ?i3 ?i4 ?i5⟩
      (case hm => k_is)
      (case h1 => k_is)
      (case h2 => kernel_rfl)
      (case i1 => k_is)
      (case i2 => k_is)
      (case i3 => k_is)
      (case i4 => k_is)
      (case i5 => k_is)
    case xi20 =>
      refine' ⟨Sw.ov_mk ?h1 ?h2, PySem.W.mg_of KX G ?hm, Sw.iniq_mk ?i1 ?i2 ?i3 ?i4 ?i5⟩
      (case hm => k_is)
      (case h1 => k_is)
      (case h2 => kernel_rfl)
      (case i1 => k_is)
      (case i2 => k_is)
      (case i3 => k_is)
      (case i4 => k_is)
      (case i5 => k_is)
    case xi21 =>
      refine' ⟨Sw.ov_mk ?h1 ?h2, PySem.W.mg_of KX G ?hm, Sw.iniq_mk ?i1 ?i2 ?i3 ?i4 ?i5⟩
      (case hm => k_is)
      (case h1 => k_is)
      (case h2 => kernel_rfl)
      (case i1 => k_is)
      (case i2 => k_is)
      (case i3 => k_is)
      (case i4 => k_is)
      (case i5 => k_is)
    case ob =>
      refine' ⟨?o1, ?o2, ?o3, ?o4⟩
      (case o1 => k_is)
      (case o2 => k_is)
      (case o3 => kernel_rfl)
      (case o4 => k_is)
    case sB => k_is
    case nd => decide +kernel
    case nB => decide +kernel
    case d__law_cell =>
      refine' Sw.def_mk KX G ?a ?l ?c ?k
      (case a => k_is)
      (case l => k_is)
      (case c => k_is)
      (case k => k_is)
    case d__law_box =>
      refine' Sw.def_mk KX G ?a ?l ?c ?k
      (case a => k_is)
      (case l => k_is)
      (case c => k_is)
      (case k => k_is)
    case d__law_take =>
      refine' Sw.def_mk KX G ?a ?l ?c ?k
      (case a => k_is)
      (case l => k_is)
      (case c => k_is)
      (case k => k_is)
    case d__law_by_place =>
      refine' Sw.def_mk KX G ?a ?l ?c ?k
      (case a => k_is)
      (case l => k_is)
      (case c => k_is)
      (case k => k_is)
    case d__law_by_name =>
      refine' Sw.def_mk KX G ?a ?l ?c ?k
      (case a => k_is)
      (case l => k_is)
      (case c => k_is)
      (case k => k_is)
    case d__law_sorts =>
      refine' Sw.def_mk KX G ?a ?l ?c ?k
      (case a => k_is)
      (case l => k_is)
      (case c => k_is)
      (case k => k_is)
    case d__law_kept =>
      refine' Sw.def_mk KX G ?a ?l ?c ?k
      (case a => k_is)
      (case l => k_is)
      (case c => k_is)
      (case k => k_is)
    case d__law_is =>
      refine' Sw.def_mk KX G ?a ?l ?c ?k
      (case a => k_is)
      (case l => k_is)
      (case c => k_is)
      (case k => k_is)
    case d__law_thing =>
      refine' Sw.def_mk KX G ?a ?l ?c ?k
      (case a => k_is)
      (case l => k_is)
      (case c => k_is)
      (case k => k_is)
    case d__law_caught =>
      refine' Sw.def_mk KX G ?a ?l ?c ?k
      (case a => k_is)
      (case l => k_is)
      (case c => k_is)
      (case k => k_is)
    case d_law =>
      refine' Sw.def_mk KX G ?a ?l ?c ?k
      (case a => k_is)
      (case l => k_is)
      (case c => k_is)
      (case k => k_is)
