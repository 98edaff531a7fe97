import PyProof.Rows.All
import Wide.All
import OpenK.AllK
import Wide.FinOn
import HandS.ForMost
import HandS.Wide
import HandS.Style
import HandS.IsInst
import HandS.Conv
import HandS.Walk
import HandS.Codes
import HandS.TupAny
import HandS.RaiseMore
import HandS.Flt
import HandS.Flow
import KE.GoesMore
import HandS.Ends
import HandS.ExcInit
import HandS.ExcField
import HandS.ExcOwn
import HandS.Deep
import KE.KEqDict
import HandS.ListEq
import PyProof.NeKinds
import HandS.TryMany
import HandS.ExcIs
import KE.KExcIs
import HandS.TupMul
import HandS.DictComp
import HandS.Small
import HandS.OwnEq
import HandS.SlotsOwn
import PyProof.InstNe
import HandS.Star
import KE.GoesEnum
import KE.GoesZip
import PySem.Challenge.RW_spoiltways_k55_markers_and_checks_togeth
set_option Elab.async false
set_option linter.all false
set_option maxRecDepth 100000
set_option maxHeartbeats 4000000
namespace Sw
open PySem PySem.Spec PyProof.Rows L2

/-! ### texts as lists of signs -/
def S (l : List Nat) : Str := ⟨l.toArray⟩
theorem S_len (l : List Nat) : (S l).length = l.length := by simp [S, Str.length]
theorem S_size (l : List Nat) : (S l).cps.size = l.length := by simp [S]
theorem S_list (l : List Nat) : (S l).cps.toList = l := by simp [S]
theorem S_app (a b : List Nat) : S a ++ S b = S (a ++ b) := by
  show Str.append _ _ = _
  simp [S, Str.append]
theorem S_get (l : List Nat) (i : Nat) : (S l).cps[i]? = l[i]? := by simp [S]
theorem S_inj {a b : List Nat} : S a = S b ↔ a = b := by
  constructor
  · intro h
    have e : (S a).cps.toList = (S b).cps.toList := by rw [h]
    rwa [S_list, S_list] at e
  · rintro rfl; rfl
theorem S_dec (a b : List Nat) : decide (V.str (S a) = V.str (S b)) = decide (a = b) := by
  by_cases h : a = b
  · subst h; simp
  · rw [decide_eq_false h, decide_eq_false]
    intro e
    exact h (S_inj.mp (V.str.inj e))

/-! ### calls of own defs -/
section
variable (P : Program) (w : World) (K : PySem.W.Frag) (mg : Str → Option Value) (base : Heap)
/-- the def x of the text st stands -/
def Def (x : Str) (st : Stmt) : Prop := ∃ (f : Addr) (fd : FuncData), Fun K x x st f fd ∧ mg x = some (.ref f)
/-- the def x keeps its promise -/
def Cal (x : Str) (ps : List Str) (k : Nat) (sp : Sp) : Prop := ∃ (f : Addr) (fd : FuncData), FnOk P w K mg base CX0 k f fd ps sp ∧ mg x = some (.ref f) ∧ PySem.W.keepIn K (.ref f) = true ∧ Binds K fd ps []
end
section
variable {P : Program} {w : World} {K : PySem.W.Frag} {mg : Str → Option Value} {base : Heap}
theorem Def.cal {x : Str} {st : Stmt} {ps : List Str} {k : Nat} {sp : Sp} (d : Def K mg x st)
    (b : ∀ (kV doc pm : Value) (an : Option Addr) (cdv ct : Value) (us : List Value), us.length = ps.length → bindArgs (PySem.W.fnOf x x (defArgs st) (defBody st) (defScope st) .none kV doc pm an cdv ct) ⟨us, []⟩ = pure (ps.zip us))
    (ok : ∀ (f : Addr) (fd : FuncData), Fun K x x st f fd → FnOk P w K mg base CX0 k f fd ps sp) : Cal P w K mg base x ps k sp := by
  obtain ⟨f, fd, F, m⟩ := d
  exact ⟨f, fd, ok f fd F, m, F.kp, F.binds b⟩
end
section
variable {X : Cx} {x : Str} {ps : List Str} {k n : Nat} {sp : Sp} {e : Expr} {es : List Expr} {t : TA} {p pos : Pos}
theorem pe_cal (c : Cal X.prog X.w X.K X.mg X.base x ps k sp) (hr : Room n X.A) (ha : PA X (e :: es) t) (hg : Gl X x := by rfl) (hk : k ≤ n := by decide)
    (hdb : (x == ("__debug__" : Str)) = false := by decide) (he : starEach (e :: es) X.env = (false, eval e X.env) :: starEach es X.env := by rfl) (hpl : (backTo pos (starEach es X.env)).any (·.1) = false := by rfl) :
    PE X (.Call (.Name x p) (e :: es) [] pos) (tCall sp [] E0 t) := by
  obtain ⟨f, fd, F, m, kp, b⟩ := c
  exact pe_call F (hr.mono hk) hg m kp b .nil pass0 ha hdb he hpl
end

/-! ### answers to readings -/
section
variable {σ : L2.St} {H : Hp} {Q : VK} {D : Ends}
theorem i_seq {t u : TS} (h : t { D with nx := u D } σ H) : tSeq t u D σ H := h
theorem i_asg {te : TE} {g : TG} (h : te σ H fun x H1 => g x σ H1 D.nx) : tAsg te g D σ H := h
theorem i_name {i : Nat} {v : V} {R : L2.St → Hp → Prop} (h : R (σ.set i (some v)) H) : gName i v σ H R := h
theorem i_ret {te : TE} (h : te σ H D.rt) : tRet te D σ H := h
theorem i_var {i : Nat} {v : V} (e : σ[i]? = some (some v)) (h : Q v H) : tVar i σ H Q := ⟨v, e, h⟩
theorem i_c {v : V} (h : Q v H) : tC v σ H Q := h
theorem i_op {r : R2} {ta tb : TE} (h : ta σ H fun x H1 => tb σ H1 fun y H2 => r x y H2 Q) : tOp r ta tb σ H Q := h
theorem i_un {r : V → Hp → VK → Prop} {ta : TE} (h : ta σ H fun x H1 => r x H1 Q) : tUn r ta σ H Q := h
theorem i_rI {C : Int → Int → Prop} {g : Int → Int → V} {a b : Int} (c : C a b) (h : Q (g a b) H) : rI C g (.int a) (.int b) H Q := ⟨a, b, rfl, rfl, c, h⟩
theorem i_rI0 {g : Int → Int → V} {a b : Int} (h : Q (g a b) H) : rI0 g (.int a) (.int b) H Q := ⟨a, b, rfl, rfl, h⟩
theorem i_cb {r : List V → Hp → VK → Prop} {t : TA} (h : t σ H fun vs H1 => r vs H1 Q) : tCB r t σ H Q := h
theorem i_cons {ta : TE} {tr : TA} {R : List V → Hp → Prop} (h : ta σ H fun x H1 => tr σ H1 fun xs H2 => R (x :: xs) H2) : tCons ta tr σ H R := h
theorem i_nil {R : List V → Hp → Prop} (h : R [] H) : tNil σ H R := h
theorem i_call {sp : Sp} {dvs : List V} {E : XK} {t : TA} (h : t σ H fun vs H1 => sp (vs ++ dvs) H1 Q E) : tCall sp dvs E t σ H Q := h
theorem i_if {c : TT} {t u : TS} (h : c σ H fun b H1 => if b = true then t D σ H1 else u D σ H1) : tIfS c t u D σ H := h
theorem i_ifE {c : TT} {t u : TE} (h : c σ H fun b H1 => if b = true then t σ H1 Q else u σ H1 Q) : tIf c t u σ H Q := h
theorem i_test {t : TE} {R : Bool → Hp → Prop} (h : t σ H fun x H1 => ∃ k, x = .bl k ∧ R k H1) : tTest t σ H R := h
theorem i_bl {k : Bool} {R : Bool → Prop} (h : R k) : ∃ k', V.bl k = .bl k' ∧ R k' := ⟨k, rfl, h⟩
theorem i_and {t u : TT} {R : Bool → Hp → Prop} (h : t σ H fun c H1 => if c = true then u σ H1 R else R false H1) : tAnd t u σ H R := h
theorem i_or {t u : TT} {R : Bool → Hp → Prop} (h : t σ H fun c H1 => if c = true then R true H1 else u σ H1 R) : tOr t u σ H R := h
theorem i_not {t : TT} {R : Bool → Hp → Prop} (h : t σ H fun c H1 => R (!c) H1) : tNot t σ H R := h
theorem i_lst {t : TA} (h : t σ H fun xs H1 => xs.length ≤ sizeLine ∧ ∀ p, H1 p = none → Q (.ref p) (upd H1 p (.lst xs))) : tLst t σ H Q := h
theorem i_tup {t : TA} (h : t σ H fun xs H1 => xs.length ≤ sizeLine ∧ ∀ p, H1 p = none → Q (.ref p) (upd H1 p (.tup xs))) : tTup t σ H Q := h
theorem iteB {p : Prop} [Decidable p] {A B : Prop} (h1 : p → A) (h2 : ¬ p → B) : if decide p = true then A else B := by
  by_cases h : p
  · rw [decide_eq_true h]; exact iteT (h1 h)
  · rw [decide_eq_false h]; exact iteF (h2 h)
theorem iteC {c : Bool} {A B : Prop} (h1 : c = true → A) (h2 : c = false → B) : if c = true then A else B := by
  cases c with
  | true => exact iteT (h1 rfl)
  | false => exact iteF (h2 rfl)
/-- xs[i], xs a list of which the item is known -/
theorem i_ixL {K : PySem.W.Frag} {p : Addr} {xs : List V} {i : Int} {v : V} (h1 : SqL K H p xs) (h2 : atI xs i = some v) (h : Q v H) : rIxL K (.ref p) (.int i) H Q := ⟨p, xs, i, v, rfl, rfl, h1, h2, h⟩
theorem i_ixT {K : PySem.W.Frag} {p : Addr} {xs : List V} {i : Int} {v : V} (h1 : SqT K H p xs) (h2 : atI xs i = some v) (h : Q v H) : rIxT K (.ref p) (.int i) H Q := ⟨p, xs, i, v, rfl, rfl, h1, h2, h⟩
end

/-! ### the box of draws -/
/-- the box at b: the rest n of a great cell, whether it is one, the seed c, the draws d so far -/
structure BoxAt (H : Hp) (b : Addr) (d : Int) : Prop where
  ex : ∃ (n : Int) (g : Bool) (c e : Int), H b = some (.lst [.int n, .bl g, .int c, .int e]) ∧ 0 ≤ n ∧ 0 ≤ c ∧ c < 2147483629 ∧ 0 ≤ e ∧ e ≤ d
/-- all but the object at b is as it was -/
def SB (b : Addr) (H H' : Hp) : Prop := ∀ a o, a ≠ b → H a = some o → H' a = some o
theorem SB.refl {b : Addr} (H : Hp) : SB b H H := fun _ _ _ h => h
theorem SB.trans {b : Addr} {H H1 H2 : Hp} (x : SB b H H1) (y : SB b H1 H2) : SB b H H2 := fun a o n h => y a o n (x a o n h)
theorem SB.of {b : Addr} {H H' : Hp} (s : Same H H') : SB b H H' := fun a o _ h => s a o h
theorem SB.upd {b : Addr} {H : Hp} {o : HO} : SB b H (upd H b o) := fun a u n h => by rw [upd_ne n]; exact h
theorem BoxAt.mono {H : Hp} {b : Addr} {d d' : Int} (x : BoxAt H b d) (h : d ≤ d') : BoxAt H b d' := by
  obtain ⟨n, g, c, e, h1, h2, h3, h4, h5, h6⟩ := x.ex
  exact ⟨n, g, c, e, h1, h2, h3, h4, h5, by omega⟩
theorem BoxAt.same {H H' : Hp} {b : Addr} {d : Int} (x : BoxAt H b d) (s : Same H H') : BoxAt H' b d := by
  obtain ⟨n, g, c, e, h1, h⟩ := x.ex
  exact ⟨n, g, c, e, s _ _ h1, h⟩
theorem same_upd {H : Hp} {p : Addr} {o : HO} (h : H p = none) : Same H (upd H p o) := fun b x e => by
  rw [upd_ne (ne_of_none e h)]
  exact e
/-- _law_take(box, many): a number below many; the box is one draw further at most -/
def spTake : Sp := fun vs H Q _ => ∃ (b : Addr) (m d : Int), vs = [.ref b, .int m] ∧ BoxAt H b d ∧ d ≤ 1000000 ∧ 0 < m ∧ m < 2 ^ 64 ∧
  ∀ (r : Int) (H' : Hp), 0 ≤ r → r < m → BoxAt H' b (d + 1) → SB b H H' → Q (.int r) H'
/-- _law_box(great) -/
def spBox : Sp := fun vs H Q _ => ∃ n : Int, vs = [.int n] ∧ ∀ (b : Addr) (H' : Hp), H b = none → Same H H' → BoxAt H' b 0 → Q (.ref b) H'
/-- _law_cell(script, k) -/
def spCell (K : PySem.W.Frag) : Sp := fun vs H Q _ => ∃ (a : Addr) (ns : List Int) (k : Int), vs = [.ref a, .int k] ∧ SqL K H a (ns.map V.int) ∧ 0 ≤ k ∧ k < 1000 ∧
  ∀ (n : Int) (H' : Hp), Same H H' → Q (.int n) H'
/-! ### more answers -/
section
variable {σ : L2.St} {H : Hp} {Q : VK} {D : Ends} {K : PySem.W.Frag}
theorem i_next (h : D.nx σ H) : tNext D σ H := h
theorem i_drop {te : TE} (h : te σ H fun _ H1 => D.nx σ H1) : tDrop te D σ H := h
theorem i_sub {to ti : TE} {t : TSet} {v : V} {R : L2.St → Hp → Prop} (h : to σ H fun o H1 => ti σ H1 fun i H2 => t o i v H2 fun H3 => R σ H3) : gSub to ti t v σ H R := h
theorem i_setL {p : Addr} {xs : List V} {k : Int} {j : Nat} {v : V} {R : Hp → Prop} (h1 : H p = some (.lst xs)) (h2 : ixN xs.length k = some j) (h : R (upd H p (.lst (xs.set j v)))) : rSetL (.ref p) (.int k) v H R := ⟨p, xs, k, j, rfl, rfl, h1, h2, h⟩
theorem i_int {i : Int} (h : Q (.int i) H) : (∃ j, [V.int i] = [.int j] ∧ Q (.int j) H) ∨ ∃ k, [V.int i] = [.bl k] ∧ Q (.int (if k = true then 1 else 0)) H := .inl ⟨i, rfl, h⟩
theorem i_intB {b : Bool} (h : Q (.int (if b = true then 1 else 0)) H) : (∃ j, [V.bl b] = [.int j] ∧ Q (.int j) H) ∨ ∃ k, [V.bl b] = [.bl k] ∧ Q (.int (if k = true then 1 else 0)) H := .inr ⟨b, rfl, h⟩
theorem i_ix1 {α : Type} {P : α → Prop} {x : α} {R : α → Prop} (h : R x) : ∃ y, x = y ∧ R y := ⟨x, rfl, h⟩
theorem i_abs {i : Int} (h : Q (.int (if i < 0 then -i else i)) H) : ∃ j, [V.int i] = [.int j] ∧ Q (.int (if j < 0 then -j else j)) H := ⟨i, rfl, h⟩
theorem i_two {R : Int → Int → Prop} {i j : Int} (h : R i j) : ∃ a b, [V.int i, V.int j] = [.int a, .int b] ∧ R a b := ⟨i, j, rfl, h⟩
theorem i_one {R : Int → Prop} {i : Int} (h : R i) : ∃ a, [V.int i] = [.int a] ∧ R a := ⟨i, rfl, h⟩
theorem i_cmod {i m : Int} (h : 0 < m) : (fun (_ j : Int) => 0 < j) i m := h
theorem i_bm {T : String} {r : V → List V → Hp → VK → Prop} {to : TE} {t : TA} (h : to σ H fun x H1 => tyV K T x H1 ∧ t σ H1 fun xs H2 => r x xs H2 Q) : tBM K T r to t σ H Q := h
theorem i_tyL {p : Addr} {xs : List V} {R : Prop} (h1 : H p = some (.lst xs)) (h : R) : tyV K "list" (.ref p) H ∧ R := ⟨.inl ⟨rfl, xs, .inl (.inl h1)⟩, h⟩
theorem i_tyS {z : Str} {R : Prop} (h : R) : tyV K "str" (.str z) H ∧ R := ⟨rfl, h⟩
theorem i_append {p : Addr} {xs : List V} {y : V} (h1 : H p = some (.lst xs)) (h2 : xs.length < sizeLine) (h : Q .non (upd H p (.lst (xs ++ [y])))) : rAppend (.ref p) [y] H Q := ⟨p, xs, y, rfl, rfl, h1, h2, h⟩
theorem i_sl {r : V → Option Int → Option Int → Hp → VK → Prop} {te : TE} {tl th : TO} (h : te σ H fun x H1 => tl σ H1 fun l H2 => th σ H2 fun u H3 => r x l u H3 Q) : L2.tSl r te tl th σ H Q := h
theorem i_part {t : TE} {R : Option Int → Hp → Prop} (h : t σ H fun x H1 => ∃ i, x = .int i ∧ R (some i) H1) : tPart t σ H R := h
theorem i_nopart {R : Option Int → Hp → Prop} (h : R none H) : tNoPart σ H R := h
theorem i_exI {R : Int → Prop} {i : Int} (h : R i) : ∃ j, V.int i = .int j ∧ R j := ⟨i, rfl, h⟩
theorem i_chain {r r' : R2} {ta tb tc : TE} (h : ta σ H fun x H1 => tb σ H1 fun y H2 => r x y H2 fun z H3 => ∃ k, z = .bl k ∧ (if k = true then tc σ H3 fun w' H4 => r' y w' H4 Q else Q (.bl false) H3)) : tChain r r' ta tb tc σ H Q := h
theorem i_aug {i : Nat} {te : TE} {ti : TIp} {x : V} (e : σ[i]? = some (some x)) (h : te σ H fun y H1 => ti x y H1 fun z H2 => D.nx (σ.set i (some z)) H2) : tAug i te ti D σ H := ⟨x, e, h⟩
theorem i_ip {g : Int → Int → Int} {a b : Int} (h : Q (.int (g a b)) H) : ipI g (.int a) (.int b) H Q := ⟨a, b, rfl, rfl, h⟩
theorem i_par {i j : Nat} {ta : TA} (h : ta σ H fun vs H1 => ∃ v w, vs = [v, w] ∧ D.nx ((σ.set i (some v)).set j (some w)) H1) : tPar i j ta D σ H := h
theorem i_pair {R : V → V → Prop} {a b : V} (h : R a b) : ∃ v w, [a, b] = [v, w] ∧ R v w := ⟨a, b, rfl, h⟩
theorem i_andV {ta tb : TE} (h : ta σ H fun x H1 => ∃ c, x = .bl c ∧ if c = true then tb σ H1 Q else Q (.bl false) H1) : tAndV ta tb σ H Q := h
theorem i_orV {ta tb : TE} (h : ta σ H fun x H1 => ∃ c, x = .bl c ∧ if c = true then Q (.bl true) H1 else tb σ H1 Q) : tOrV ta tb σ H Q := h
theorem i_notV {ta : TE} (h : ta σ H fun x H1 => ∃ c, x = .bl c ∧ Q (.bl (!c)) H1) : tNotV ta σ H Q := h
theorem i_m1 {r : V → List V → Hp → VK → Prop} {to te : TE} (h : to σ H fun x H1 => (∃ a, x = .str a) ∧ te σ H1 fun y H2 => r x [y] H2 Q) : tM1 r to te σ H Q := h
theorem i_str {z : Str} {R : Prop} (h : R) : (∃ a, V.str z = .str a) ∧ R := ⟨⟨z, rfl⟩, h⟩
theorem i_len {p : Addr} {ys : List V} (h1 : SqL K H p ys ∨ SqT K H p ys) (h : Q (.int ys.length) H) : ∃ q zs, [V.ref p] = [.ref q] ∧ (SqL K H q zs ∨ SqT K H q zs) ∧ Q (.int zs.length) H := ⟨p, ys, rfl, h1, h⟩
theorem i_lenS {l : List Nat} (h1 : l.length ≤ sizeLine) (h : Q (.int (l.length : Int)) H) : ∃ z, [V.str (S l)] = [.str z] ∧ z.length ≤ sizeLine ∧ Q (.int z.length) H := ⟨S l, rfl, by rw [S_len]; exact h1, by rw [S_len]; exact h⟩
end
theorem sqL_of {K : PySem.W.Frag} {H : Hp} {a : Addr} {xs : List V} (h : H a = some (.lst xs)) : SqL K H a xs := .inl (.inl h)
theorem sqT_of {K : PySem.W.Frag} {H : Hp} {a : Addr} {xs : List V} (h : H a = some (.tup xs)) : SqT K H a xs := .inl (.inl h)
/-- the part of a text between two places -/
def cut (l : List Nat) (lo hi : Option Int) : List Nat := (l.drop (HT.sIx l.length 0 lo)).take (HT.sIx l.length l.length hi - HT.sIx l.length 0 lo)
theorem cutS_S (l : List Nat) (lo hi : Option Int) : cutS (S l) lo hi = S (cut l lo hi) := by
  unfold cutS cut
  rw [S_list, S_len]; rfl
theorem cut_from (l : List Nat) (k : Nat) : cut l (some (k : Int)) none = l.drop k := by
  unfold cut
  rw [HT.sIx_nat, HT.sIx_none]
  rcases Nat.le_total k l.length with h | h
  · rw [Nat.min_eq_left h, List.take_of_length_le (by rw [List.length_drop]; omega)]
  · rw [Nat.min_eq_right h, List.drop_length, List.drop_of_length_le h, List.take_nil]
theorem cut_to (l : List Nat) (k : Nat) : cut l none (some (k : Int)) = l.take k := by
  unfold cut
  rw [HT.sIx_nat, HT.sIx_none, List.drop_zero, Nat.sub_zero]
  rcases Nat.le_total k l.length with h | h
  · rw [Nat.min_eq_left h]
  · rw [Nat.min_eq_right h, List.take_length, List.take_of_length_le h]
theorem i_slS {l : List Nat} {lo hi : Option Int} {H : Hp} {Q : VK} (h1 : l.length ≤ sizeLine) (h : Q (.str (S (cut l lo hi))) H) : rSlS (.str (S l)) lo hi H Q := ⟨S l, rfl, by rw [S_len]; exact h1, by rw [cutS_S]; exact h⟩
theorem i_tB {t : TE} {R : Bool → Hp → Prop} {σ : L2.St} {H : Hp} (h : t σ H fun x H1 => ∃ c, x = .bl c ∧ R c H1) : tB t σ H R := h
theorem i_retN {σ : L2.St} {H : Hp} {D : Ends} (h : D.rt .non H) : tRetN D σ H := h
theorem i_par3 {i j l : Nat} {ta : TA} {σ : L2.St} {H : Hp} {D : Ends} (h : ta σ H fun vs H1 => ∃ u v w, vs = [u, v, w] ∧ D.nx (((σ.set i (some u)).set j (some v)).set l (some w)) H1) : tPar3 i j l ta D σ H := h
theorem i_trip {R : V → V → V → Prop} {a b c : V} (h : R a b c) : ∃ u v w, [a, b, c] = [u, v, w] ∧ R u v w := ⟨a, b, c, rfl, h⟩
theorem i_gTup {K : PySem.W.Frag} {n : Nat} {t : TGs} {a : Addr} {xs : List V} {σ : L2.St} {H : Hp} {R : L2.St → Hp → Prop} (h1 : SqT K H a xs) (h2 : xs.length = n) (h : t xs σ H R) : gTup K n t (.ref a) σ H R := ⟨a, xs, rfl, h1, h2, h⟩
theorem i_gCons {t : TG} {u : TGs} {v : V} {r : List V} {σ : L2.St} {H : Hp} {R : L2.St → Hp → Prop} (h : t v σ H fun σ' H' => u r σ' H' R) : gCons t u (v :: r) σ H R := ⟨v, r, rfl, h⟩
theorem i_gNil {σ : L2.St} {H : Hp} {R : L2.St → Hp → Prop} (h : R σ H) : gNil [] σ H R := ⟨rfl, h⟩
theorem i_lstRg {te : L2.St → Hp → (Int → Int → Hp → Prop) → Prop} {σ : L2.St} {H : Hp} {Q : VK} (h : te σ H fun a b H1 => RgOk a b ∧ ∀ q, H1 q = none → Q (.ref q) (upd H1 q (.lst (rgV a b)))) : tLstRg te σ H Q := h
theorem i_rg1 {ta : TE} {σ : L2.St} {H : Hp} {R : Int → Int → Hp → Prop} (h : ta σ H fun x H1 => ∃ n, x = .int n ∧ R 0 n H1) : tRg1 ta σ H R := h
theorem i_pow {g : Int → Int → V} {a b : Int} {H : Hp} {Q : VK} (h1 : 0 ≤ b) (h2 : b ≤ 1000000) (h3 : a.natAbs < 2 ^ 64) (h : Q (g a b) H) : rI CPow g (.int a) (.int b) H Q := ⟨a, b, rfl, rfl, ⟨h1, h2, h3⟩, h⟩
theorem S_le {l : List Nat} (h : l.length ≤ 100000) : (S l).length ≤ sizeLine := Nat.le_trans h (by decide)
theorem ints_get {ns : List Int} {j : Nat} {v : V} (h : (ns.map V.int)[j]? = some v) : ∃ i, ns[j]? = some i ∧ v = .int i := by
  rw [List.getElem?_map] at h
  cases e : ns[j]? with
  | none => rw [e] at h; cases h
  | some i => rw [e] at h; exact ⟨i, rfl, (Option.some.inj h).symm⟩
theorem ints_at {ns : List Int} {j : Nat} (h : j < ns.length) : (ns.map V.int)[j]? = some (.int ns[j]) := by
  rw [List.getElem?_map, List.getElem?_eq_getElem h]; rfl
theorem atI_ints {ns : List Int} {i : Int} (h0 : 0 ≤ i) (h1 : i < ns.length) : atI (ns.map V.int) i = some (.int (ns[i.toNat]'(by omega))) := by
  have h := atI_nat (xs := ns.map V.int) (ints_at (ns := ns) (show i.toNat < ns.length by omega))
  rwa [show ((i.toNat : Nat) : Int) = i by omega] at h
end Sw
namespace Sw
open PySem PySem.Spec PyProof.Rows L2
/-! ### x[::-1] of a text -/
def tRevS (te : TE) : TE := fun σ H Q => te σ H fun x H1 => ∃ l, x = .str (S l) ∧ l.length ≤ sizeLine ∧ Q (.str (S l.reverse)) H1
theorem fmap_map {α β : Type} {f : α → Option β} {g : α → β} : ∀ {l : List α}, (∀ a ∈ l, f a = some (g a)) → l.filterMap f = l.map g
  | [], _ => rfl
  | a :: l, h => by
    rw [List.filterMap_cons, h a List.mem_cons_self, List.map_cons, fmap_map fun b hb => h b (List.mem_cons_of_mem _ hb)]
theorem rev_list (l : List Nat) : ((Builtin.Str.strSliceIndices none none (-1) l.length).filterMap (l.toArray[·]?)) = l.reverse := by
  rw [PyProof.Rows.picked_rev, List.filterMap_map]
  apply List.ext_getElem?
  intro k
  have hf : List.filterMap ((fun x => l.toArray[x]?) ∘ fun k => l.length - 1 - k) (List.range l.length) = (List.range l.length).map fun k => l.getD (l.length - 1 - k) 0 := by
    refine fmap_map fun a ha => ?_
    have ha' : a < l.length := List.mem_range.mp ha
    have hb : l.length - 1 - a < l.length := by omega
    show l.toArray[l.length - 1 - a]? = some (l.getD (l.length - 1 - a) 0)
    rw [List.getElem?_toArray, List.getD_eq_getElem?_getD, List.getElem?_eq_getElem hb]
    rfl
  rw [hf, List.getElem?_map]
  by_cases hk : k < l.length
  · have hb : l.length - 1 - k < l.length := by omega
    rw [List.getElem?_range hk, List.getElem?_reverse hk]
    show some (l.getD (l.length - 1 - k) 0) = _
    rw [List.getD_eq_getElem?_getD, List.getElem?_eq_getElem hb]
    rfl
  · rw [List.getElem?_eq_none (by rw [List.length_range]; omega), List.getElem?_eq_none (by rw [List.length_reverse]; omega)]
    rfl
theorem pe_revS {X : Cx} {e : Expr} {te : TE} {k : Nat} {p1 p2 p3 pos : Pos} (he : PE X e te) :
    PE X (.Subscript e (.Slice none none (some (.UnaryOp .USub (.Constant (.int 1) k p1) p2)) p3) pos) (tRevS te) := by
  constructor
  intro pins s σ H Q I h
  refine Subscript_ (thn (he.run pins s σ H _ I h) fun v s1 ⟨x, H1, I1, r1, l, ex, hl, q⟩ => ?_)
  subst ex
  obtain ⟨tk, rfl⟩ := r1
  have st : PO X (some (.UnaryOp .USub (.Constant (.int 1) k p1) p2)) (tPart (tUn (rU fun i => .int (-i)) (tC (.int 1)))) := po_some (pe_un un_neg pe_int)
  refine wpAny_Slice (thn (po_none.run pins s1 σ H1 (fun o G => o = none ∧ G = H1) I1 ⟨rfl, rfl⟩) fun w1 s2 ⟨o1, G1, J1, z1, a1, b1⟩ => ?_)
  subst a1 b1
  refine thn (po_none.run pins s2 σ G1 (fun o G => o = none ∧ G = G1) J1 ⟨rfl, rfl⟩) fun w2 s3 ⟨o2, G2, J2, z2, a2, b2⟩ => ?_
  subst a2 b2
  refine thn (st.run pins s3 σ G2 (fun o G => o = some (-1) ∧ G = G2) J2 ⟨1, rfl, -1, rfl, rfl, rfl⟩) fun w3 s4 ⟨o3, G3, J3, z3, a3, b3⟩ => ?_
  subst a3 b3
  have J4 : Inv X pins σ G3 { s4 with heap := s4.heap.push { cls := .type "slice", data := .fields #[w1, w2, w3] } } := J3.kept (t' := s4.toks) fun b ob q => Heap.get?_push_of_some _ q
  obtain ⟨y1, rfl, f1⟩ := IsPart.raw z1
  obtain ⟨y2, rfl, f2⟩ := IsPart.raw z2
  obtain ⟨y3, rfl, f3⟩ := IsPart.raw z3
  cases y1 with
  | some y => cases f1
  | none =>
  cases y2 with
  | some y => cases f2
  | none =>
  cases y3 with
  | none => cases f3
  | some y =>
  obtain ⟨m, u⟩ := y
  have em : m = -1 := Option.some.inj f3
  subst em
  refine tail_any (T := "str") (id := _) (ops := [.str (S l) tk, .ref s4.heap.objs.size]) (typeIs_str _ _ _) F.slot_str_getitem.lookup ?_ (by with_unfolding_all rfl)
  refine wpAny_getItem_str_slice (l := none) (u := none) (st := some (-1, u)) ⟨_, Heap.get?_push_size _ rfl, rfl, rfl⟩ rfl ?_
  show Made.post (if ((-1 : Int) == 1 && (Builtin.Str.strSliceIndices none none (-1) (S l).length).length == (S l).length) = true then Made.val (.str (S l) tk)
    else Made.str ⟨((Builtin.Str.strSliceIndices none none (-1) (S l).length).filterMap ((S l).cps[·]?)).toArray⟩) (EP X pins σ Q) _
  rw [if_neg (by rw [show ((-1 : Int) == 1) = false from rfl, Bool.false_and]; exact Bool.false_ne_true)]
  have e : ((Builtin.Str.strSliceIndices none none (-1) (S l).length).filterMap ((S l).cps[·]?)) = l.reverse := by
    rw [S_len]
    exact rev_list l
  rw [e]
  refine ⟨by show (S l.reverse).length ≤ sizeLine; rw [S_len, List.length_reverse]; exact hl, .str (S l.reverse), G3, J4.tok _, ⟨_, rfl⟩, q⟩
/-! ### enumerate(text) -/
/-- a text's signs, each in a new pair with its number -/
def ItE (x : Str) : It := ⟨fun i _ => i < x.cps.size, fun i H v H' => ∃ T c, v = .ref T ∧ H T = none ∧ x.cps[i]? = some c ∧ H' = upd H T (.tup [.int (i : Nat), .str ⟨#[c]⟩]), fun i _ => i = x.cps.size⟩
theorem turn_enumS {P : Program} {w : World} {K : PySem.W.Frag} {elts : List Expr} {kk : Nat} {tpos : Pos} (x : Str) (t : Tok) (e it : Addr) (hne : e ≠ it) :
    Turn P w K (.Tuple elts kk tpos) (ItE x) [e, it] e (fun i h => (∃ old, IsEnum h e it ((i : Nat) : Int) old) ∧ h.IsStrIter it (strIterType x) x t i) := by
  refine ⟨by simp, fun i h st b hb => ?_, fun i h h' st k => ?_, ?_, ?_, fun A i s Q E st h => ?_⟩
  · obtain ⟨⟨old, he⟩, o, ho, hc, hd⟩ := st
    have e' : b = e ∨ b = it := by simpa using hb
    rcases e' with rfl | rfl
    · exact ⟨_, he, fun v q => nomatch q⟩
    · exact ⟨o, ho, fun v q => by rw [hd] at q; cases q⟩
  · obtain ⟨⟨old, he⟩, o, ho, z⟩ := st
    exact ⟨⟨old, k e (by simp) _ he⟩, o, k it (by simp) o ho, z⟩
  · rintro X rfl rfl rfl hc i pins s σ H E I hf ⟨⟨old, he⟩, hit⟩ hg
    have hh : X.A.in1.handled = none := I.ok.hd hc
    have DD := Draws.text (prog := X.prog) (w := X.w) (A := X.A.in1) hh it x t
    have l1 : e < s.heap.objs.size := Heap.lt_size he
    have l2 : it < s.heap.objs.size := by obtain ⟨_, q, _⟩ := hit; exact Heap.lt_size q
    refine wpAny_pyNext_enum_itemD DD he hit hg hne (by simpa using hne) fun v h1 tk hv ho hit' hT hsz hk => ?_
    obtain ⟨c, u, hc', rfl⟩ := hv
    refine ⟨_, rfl, wpAny_letOwnedTupleGo_enum (s := { s with heap := h1, toks := tk + 1 }) ho fun h2 he' sb => ?_⟩
    have nT := Nat.ne_of_gt l1
    have gT : h2.get? s.heap.objs.size = some { cls := .type "tuple", data := .seq #[.int i tk, .str ⟨#[c]⟩ u] } := (sb.2 _ nT).trans hT
    have fresh : H s.heap.objs.size = none := I.hok.fresh (Nat.le_refl _)
    have new : ObjOk X.prog X.w (upd H s.heap.objs.size (.tup [.int (i : Nat), .str ⟨#[c]⟩])) h2 s.heap.objs.size (.tup [.int (i : Nat), .str ⟨#[c]⟩]) :=
      ⟨Nat.le_of_ble_eq_true rfl, [.int i tk, .str ⟨#[c]⟩ u], .cons ⟨_, rfl⟩ (.cons ⟨_, rfl⟩ .nil), _, gT, rfl, _, rfl⟩
    have J : Inv X pins σ (upd H s.heap.objs.size (.tup [.int (i : Nat), .str ⟨#[c]⟩])) { s with heap := h2, toks := tk + 1 } := by
      refine I.turnedNew (ch := [e, it]) (fun b ob hb q => ?_) hf (Nat.le_refl _) new
      have n1 : b ≠ e := fun z => hb (by simp [z])
      have n2 : b ≠ it := fun z => hb (by simp [z])
      exact (sb.2 b n1).trans (hk b ob n1 n2 q)
    refine ⟨.ref s.heap.objs.size, _, J, rfl, ⟨_, c, rfl, fresh, hc', rfl⟩, ⟨⟨.str ⟨#[c]⟩ u, ?_⟩, ?_⟩, fun b hb => ?_⟩
    · rw [show ((i + 1 : Nat) : Int) = (i : Int) + 1 by omega]
      exact he'
    · obtain ⟨o, g1, g2⟩ := hit'
      exact ⟨o, (sb.2 it (Ne.symm hne)).trans g1, g2⟩
    · have lb : b < s.heap.objs.size := by
        have e' : b = e ∨ b = it := by simpa using hb
        rcases e' with rfl | rfl <;> assumption
      rw [upd_ne (Nat.ne_of_lt lb)]
      exact (hf b hb).1
  · rintro X rfl rfl rfl hc i pins s σ H E I hf ⟨⟨old, he⟩, hit⟩ hg
    have hh : X.A.in1.handled = none := I.ok.hd hc
    have DD := Draws.text (prog := X.prog) (w := X.w) (A := X.A.in1) hh it x t
    have hi : i = x.cps.size := hg
    subst hi
    obtain ⟨f0, f1, f2, f3, f4, f5⟩ := hf it (by simp)
    exact wpAny_pyNext_enum_endD DD he hit fun h1 eb => ⟨rfl, I.turned (t' := s.toks) (fun b o hb q => eb b o hb q) f0 f1 f3 f4 f5⟩
  · obtain ⟨⟨old, he⟩, _⟩ := st
    exact wpAny_pyIter_enum he h
def iEnS (ta : TA) : TI := fun σ H R => ta σ H fun vs H1 => ∃ x, vs = [.str x] ∧ R (ItE x) H1
theorem pi_enumS {X : Cx} {e : Expr} {ta : TA} {p pos tpos : Pos} {elts : List Expr} {kk : Nat} (hg : Gl X "enumerate") (hm : X.mg "enumerate" = none) (ha : PA X [e] ta) (hs : starEach [e] X.env = [(false, eval e X.env)] := by rfl) :
    PI X (.Tuple elts kk tpos) (.Call (.Name "enumerate" p) [e] [] pos) (iEnS ta) := by
  constructor
  intro pins s σ H R I h
  refine Call_ (ld_blt I hg hm boot_enumerate (PyProof.Rows.callWith_type1 (thn (ha.run pos pins s σ H _ I h) fun us s1 q1 => ?_) hs rfl))
  obtain ⟨vs, H1, I1, r1, x, rfl, q⟩ := q1
  cases r1 with
  | cons r rr =>
    cases rr
    obtain ⟨t, rfl⟩ := r
    refine call_enumerate_str fun h1 he hit hsz hk => wpAny_pyIter_enum he ?_
    have J : Inv X pins σ H1 { s1 with heap := h1 } := I1.kept (t' := s1.toks) hk
    refine ⟨s1.heap.objs.size + 1, [s1.heap.objs.size + 1, s1.heap.objs.size], _, ItE x, H1, rfl, J, turn_enumS x t _ _ (Nat.succ_ne_self _), ⟨⟨.none, he⟩, hit⟩, fun b hb => ?_, q⟩
    have lb : s1.heap.objs.size ≤ b := by
      have e' : b = s1.heap.objs.size + 1 ∨ b = s1.heap.objs.size := by simpa using hb
      rcases e' with rfl | rfl
      · exact Nat.le_succ _
      · exact Nat.le_refl _
    exact I1.fpOk lb (I1.hok.fresh lb)
theorem walk_enumS {x : Str} : Walk (ItE x) x.cps.size (fun _ => True) (fun i H v H' => ∃ T c, v = .ref T ∧ H T = none ∧ x.cps[i]? = some c ∧ H' = upd H T (.tup [.int (i : Nat), .str ⟨#[c]⟩])) :=
  ⟨fun _ _ hi _ => hi, fun _ _ => rfl, fun _ _ _ _ _ _ y => y⟩
end Sw
namespace Sw
open PySem PySem.Spec PyProof.Rows L2
/-! ### comprehensions that leave all as it was -/
theorem lc_map {J : It} {n : Nat} {G : Hp → Prop} {Y : Nat → Hp → V → Hp → Prop} {g : TG} {te : TE} {vs : List Nat} {σ : L2.St} {H1 : Hp} {D : Addr} {Qd : Hp → Prop} (w : Walk J n G Y) (f : Nat → V)
    (hn : n ≤ 1000000) (nD : H1 D = none) (hG : ∀ H, Same H1 H → G H)
    (hs : ∀ i x H H', i < n → Same H1 H → Y i H x H' → ∀ R : V → Hp → Prop, (∀ H4, Same H H4 → R (f i) H4) → g x (wipe σ vs) H' fun σ2 H2 => wipe σ2 vs = wipe σ vs ∧ te σ2 H2 R)
    (hd : ∀ H, Same H1 H → H D = some (.lst ((List.range n).map f)) → Qd H)
    (hmono : ∀ x σ H (R R' : L2.St → Hp → Prop), (∀ σ' H', R σ' H' → R' σ' H') → g x σ H R → g x σ H R') :
    ∃ W : Nat → Nat → Hp → Prop, (∃ m, W 0 m (upd H1 D (.lst []))) ∧ ∀ i m H, W i m H →
      (J.stop i H ∧ Qd H) ∨ (J.go i H ∧ ∃ Nx : Hp → Prop, (∀ H', Nx H' → ∃ m', m' < m ∧ W (i + 1) m' H') ∧ ∀ x H', J.yld i H x H' → g x (wipe σ vs) H' fun σ2 H2 => wipe σ2 vs = wipe σ vs ∧ tYes σ2 H2 fun b H3 =>
        if b = true then te σ2 H3 fun y H4 => ∃ acc, H4 D = some (.lst acc) ∧ acc.length < sizeLine ∧ Nx (upd H4 D (.lst (acc ++ [y]))) else Nx H3) := by
  refine lc_it w (fun i H => Same H1 H ∧ H D = some (.lst ((List.range i).map f))) ⟨same_upd nD, upd_same⟩ (fun i H _ p => hG H p.1) (fun i x H H' hi p y => ?_) (fun H p => hd H p.1 p.2)
  refine hmono _ _ _ _ _ (fun σ2 H2 q => ?_) (hs i x H H' hi p.1 y (fun y H4 => ∃ acc, H4 D = some (.lst acc) ∧ acc.length < sizeLine ∧ (Same H1 (upd H4 D (.lst (acc ++ [y]))) ∧ (upd H4 D (.lst (acc ++ [y]))) D = some (.lst ((List.range (i + 1)).map f)))) (fun H4 s4 => ?_))
  · refine ⟨q.1, ?_⟩
    unfold tYes
    dsimp only
    rw [if_pos rfl]
    exact q.2
  · refine ⟨_, s4 _ _ p.2, ?_, fun b o e => ?_, ?_⟩
    · rw [List.length_map, List.length_range]
      exact Nat.lt_of_lt_of_le hi (Nat.le_trans hn (by decide))
    · rw [upd_ne (ne_of_none e nD)]
      exact s4 _ _ (p.1 _ _ e)
    · rw [upd_same, List.range_succ, List.map_append]
      rfl
theorem mono_name {i : Nat} (x : V) (σ : L2.St) (H : Hp) (R R' : L2.St → Hp → Prop) (h : ∀ σ' H', R σ' H' → R' σ' H') (q : gName i x σ H R) : gName i x σ H R' := h _ _ q
theorem range_map_get {α β : Type} (l : List α) (F : Nat → β) (g : α → β) (h : ∀ i x, l[i]? = some x → F i = g x) : (List.range l.length).map F = l.map g := by
  apply List.ext_getElem?
  intro i
  rw [List.getElem?_map, List.getElem?_map]
  by_cases hi : i < l.length
  · rw [List.getElem?_range hi, List.getElem?_eq_getElem hi]
    show some (F i) = some (g l[i])
    rw [h i _ (List.getElem?_eq_getElem hi)]
  · rw [List.getElem?_eq_none (by rw [List.length_range]; omega), List.getElem?_eq_none (by omega)]; rfl
/-! ### isinstance -/
theorem i_isi {K : PySem.W.Frag} {H : Hp} {Q : VK} {x : V} {t : Value} {n : String} (b : Bool) (h1 : TyX K H x t) (h2 : PySem.W.kitOne K t (.type n) = some b) (h : Q (.bl b) H) : rIsi K [x, .ty n] H Q := ⟨x, .ty n, t, .type n, b, rfl, .ty n, h1, h2, h⟩
/-! ### texts of letters -/
def azB (l : List Nat) : Bool := l.all fun c => decide (97 ≤ c ∧ c ≤ 122)
theorem azB_app (a b : List Nat) : azB (a ++ b) = (azB a && azB b) := by simp [azB, List.all_append]
theorem azB_take {l : List Nat} (h : azB l = true) (n : Nat) : azB (l.take n) = true := by
  unfold azB at *
  rw [List.all_eq_true] at *
  exact fun x hx => h x (List.mem_of_mem_take hx)
theorem azB_drop {l : List Nat} (h : azB l = true) (n : Nat) : azB (l.drop n) = true := by
  unfold azB at *
  rw [List.all_eq_true] at *
  exact fun x hx => h x (List.mem_of_mem_drop hx)
theorem az_letters : (("abcdefghijklmnopqrstuvwxyz" : Str)).cps.toList = List.range' 97 26 := by decide +kernel
theorem az_in (c : Nat) : decide (c ∈ (("abcdefghijklmnopqrstuvwxyz" : Str)).cps.toList) = decide (97 ≤ c ∧ c ≤ 122) := by
  rw [az_letters]
  by_cases h : 97 ≤ c ∧ c ≤ 122
  · rw [decide_eq_true h, decide_eq_true]
    exact List.mem_range'_1.mpr ⟨h.1, by omega⟩
  · rw [decide_eq_false h, decide_eq_false]
    intro q
    have := List.mem_range'_1.mp q
    omega
theorem e_empty : (("" : Str)) = S [] := by decide +kernel
theorem starts_S (a b : List Nat) : Txt.startswith (S a) (S b) = decide (a.take b.length = b) := by
  unfold Txt.startswith Builtin.Str.subAt
  rw [S_len, S_len]
  show (decide (0 + b.length ≤ a.length) && ((a.toArray.extract 0 (0 + b.length)) == b.toArray)) = _
  rw [Nat.zero_add]
  have e : (a.toArray.extract 0 b.length) = (a.take b.length).toArray := by
    rw [List.extract_toArray, List.extract_eq_take_drop]
    simp
  rw [e]
  by_cases h : a.take b.length = b
  · rw [h, decide_eq_true rfl, beq_self_eq_true, Bool.and_true, decide_eq_true]
    have := congrArg List.length h
    rw [List.length_take] at this
    omega
  · rw [decide_eq_false h]
    have : ((a.take b.length).toArray == b.toArray) = false := by
      rw [beq_eq_false_iff_ne]
      intro q
      exact h (by simpa using q)
    rw [this, Bool.and_false]
/-! ### what is known of a heap stays -/
theorem Same.at {H H' : Hp} {a : Addr} {o : HO} (s : Same H H') (h : H a = some o) : H' a = some o := s a o h
theorem Same.sqT {K : PySem.W.Frag} {H H' : Hp} {a : Addr} {xs : List V} (e : Same H H') (h : SqT K H a xs) : SqT K H' a xs := by
  rcases h with (h | ⟨o, h⟩) | h
  · exact .inl (.inl (e _ _ h))
  · exact .inl (.inr ⟨o, e _ _ h⟩)
  · exact .inr h
theorem Same.sqL {K : PySem.W.Frag} {H H' : Hp} {a : Addr} {xs : List V} (e : Same H H') (h : SqL K H a xs) : SqL K H' a xs := e.seq h
theorem Same.upd_new {H H1 : Hp} {p : Addr} {o : HO} (s : Same H H1) (n : H1 p = none) : Same H (upd H1 p o) := s.trans (same_upd n)
/-- an object that is new since H is written: what was tracked at H stays -/
theorem Same.set_new {H H1 : Hp} {p : Addr} {o : HO} (s : Same H H1) (n : H p = none) : Same H (upd H1 p o) := fun b x e => by
  rw [upd_ne (ne_of_none e n)]
  exact s _ _ e
/-! ### loops and comprehensions, their source apart -/
def LcGo (J : It) (g : TG) (tt : TT) (te : TE) (vs : List Nat) (σ : L2.St) (H : Hp) (Q : VK) : Prop := tLc (fun _ H R => R J H) g tt te vs σ H Q
def ForGo (J : It) (g : TG) (tb : TS) (D : Ends) (σ : L2.St) (H : Hp) : Prop := tFor (fun _ H R => R J H) g tb D σ H
theorem i_lc {wi : TI} {g : TG} {tt : TT} {te : TE} {vs : List Nat} {σ : L2.St} {H : Hp} {Q : VK} (h : wi σ H fun J H1 => LcGo J g tt te vs σ H1 Q) : tLc wi g tt te vs σ H Q := h
theorem i_for {wi : TI} {g : TG} {tb : TS} {D : Ends} {σ : L2.St} {H : Hp} (h : wi σ H fun J H1 => ForGo J g tb D σ H1) : tFor wi g tb D σ H := h
theorem i_iList {K : PySem.W.Frag} {tl : TE} {R : It → Hp → Prop} {σ : L2.St} {H : Hp} (h : tl σ H fun x H1 => ∃ a, x = .ref a ∧ (∃ xs, SqL K H1 a xs) ∧ R (Itl K a) H1) : iList K tl σ H R := h
theorem i_iTup {K : PySem.W.Frag} {tl : TE} {R : It → Hp → Prop} {σ : L2.St} {H : Hp} (h : tl σ H fun x H1 => ∃ a, x = .ref a ∧ (∃ xs, SqT K H1 a xs) ∧ R (Itt K a) H1) : iTup K tl σ H R := h
theorem i_iStr {te : TE} {R : It → Hp → Prop} {σ : L2.St} {H : Hp} (h : te σ H fun v H1 => ∃ x, v = .str x ∧ R (Its x) H1) : iStr te σ H R := h
theorem i_iRng1 {ta : TA} {R : It → Hp → Prop} {σ : L2.St} {H : Hp} (h : ta σ H fun vs H1 => ∃ j : Int, vs = [.int j] ∧ -(2 ^ 62) ≤ j ∧ j < 2 ^ 62 ∧ R (Itr 0 j.toNat) H1) : iRng1 ta σ H R := h
theorem i_iEnS {ta : TA} {R : It → Hp → Prop} {σ : L2.St} {H : Hp} (h : ta σ H fun vs H1 => ∃ x, vs = [.str x] ∧ R (ItE x) H1) : iEnS ta σ H R := h
theorem i_rng {j : Int} {A : Prop} (h0 : 0 ≤ j) (h1 : j ≤ 1000000) (h : A) : -(2 ^ 62) ≤ j ∧ j < 2 ^ 62 ∧ A := ⟨by omega, by omega, h⟩
theorem i_sqL {K : PySem.W.Frag} {H : Hp} {a : Addr} {xs : List V} {A : Prop} (h1 : SqL K H a xs) (h : A) : (∃ xs, SqL K H a xs) ∧ A := ⟨⟨xs, h1⟩, h⟩
section
variable {J : It} {n : Nat} {G : Hp → Prop} {Y : Nat → Hp → V → Hp → Prop} {g : TG} {tt : TT} {te : TE} {tb : TS} {vs : List Nat} {σ : L2.St} {H1 : Hp} {D : Ends} {Q : VK}
theorem go_map (w : Walk J n G Y) (f : Nat → V) (hn : n ≤ 1000000) (hG : ∀ H, Same H1 H → G H)
    (hs : ∀ i x H H', i < n → Same H1 H → Y i H x H' → ∀ R : V → Hp → Prop, (∀ H4, Same H H4 → R (f i) H4) → g x (wipe σ vs) H' fun σ2 H2 => wipe σ2 vs = wipe σ vs ∧ te σ2 H2 R)
    (hmono : ∀ x σ H (R R' : L2.St → Hp → Prop), (∀ σ' H', R σ' H' → R' σ' H') → g x σ H R → g x σ H R')
    (hd : ∀ p H, H1 p = none → Same H1 H → H p = some (.lst ((List.range n).map f)) → Q (.ref p) H) : LcGo J g tYes te vs σ H1 Q :=
  fun p np => lc_map w f hn np hG hs (fun H s e => hd p H np s e) hmono
theorem go_lc (w : Walk J n G Y) (Pv : Addr → Nat → Hp → Prop) (h0 : ∀ p, H1 p = none → Pv p 0 (upd H1 p (.lst []))) (hG : ∀ p i H, i ≤ n → Pv p i H → G H)
    (hs : ∀ p, H1 p = none → ∀ i x H H', i < n → Pv p i H → Y i H x H' → g x (wipe σ vs) H' fun σ2 H2 => wipe σ2 vs = wipe σ vs ∧ tt σ2 H2 fun b H3 =>
      if b = true then te σ2 H3 fun y H4 => ∃ acc, H4 p = some (.lst acc) ∧ acc.length < sizeLine ∧ Pv p (i + 1) (upd H4 p (.lst (acc ++ [y]))) else Pv p (i + 1) H3)
    (hd : ∀ p H, H1 p = none → Pv p n H → Q (.ref p) H) : LcGo J g tt te vs σ H1 Q :=
  fun p np => lc_it w (Pv p) (h0 p np) (hG p) (hs p np) fun H q => hd p H np q
theorem go_for (w : Walk J n G Y) (Pv : Nat → L2.St → Hp → Prop) (h0 : Pv 0 σ H1) (hG : ∀ i σ H, i ≤ n → Pv i σ H → G H)
    (hs : ∀ i x σ H H', i < n → Pv i σ H → Y i H x H' → g x σ H' fun σ2 H2 => tb { D with nx := Pv (i + 1), ct := Pv (i + 1), bk := D.nx } σ2 H2) (hd : ∀ σ H, Pv n σ H → D.nx σ H) : ForGo J g tb D σ H1 :=
  for_it w Pv h0 hG hs hd
end
theorem i_all {K : PySem.W.Frag} {p : Addr} {bs : List Bool} {H : Hp} {Q : VK} (h1 : H p = some (.lst (bs.map V.bl))) (h : Q (.bl (bs.all id)) H) : rAll K [.ref p] H Q := ⟨p, bs, rfl, sqL_of h1, h⟩
theorem i_inSeq {K : PySem.W.Frag} {p : Addr} {xs : List V} {x : V} {H : Hp} {Q : VK} (h1 : SqL K H p xs ∨ SqT K H p xs) (h2 : flatV x = true) (h3 : xs.all flatV = true) (h : Q (.bl (inV x xs)) H) : rIn K false x (.ref p) H Q := ⟨p, xs, rfl, h1, h2, h3, h⟩
theorem i_ixLH {K : PySem.W.Frag} {p : Addr} {xs : List V} {i : Int} {v : V} {H : Hp} {Q : VK} (h1 : H p = some (.lst xs)) (h2 : atI xs i = some v) (h : Q v H) : rIxL K (.ref p) (.int i) H Q := i_ixL (sqL_of h1) h2 h
theorem i_ixTH {K : PySem.W.Frag} {p : Addr} {xs : List V} {i : Int} {v : V} {H : Hp} {Q : VK} (h1 : H p = some (.tup xs)) (h2 : atI xs i = some v) (h : Q v H) : rIxT K (.ref p) (.int i) H Q := i_ixT (sqT_of h1) h2 h
theorem upd_old {H : Hp} {p a : Addr} {o u : HO} (n : H p = none) (h : H a = some u) : upd H p o a = some u := by rw [upd_ne (ne_of_none h n)]; exact h
theorem upd_skip {H : Hp} {p a : Addr} {o u : HO} (n : a ≠ p) (h : H a = some u) : upd H p o a = some u := by rw [upd_ne n]; exact h
theorem iteNT {A B : Prop} (h : B) : if (!true) = true then A else B := iteF h
theorem iteNF {A B : Prop} (h : A) : if (!false) = true then A else B := iteT h
theorem iteNB {p : Prop} [Decidable p] {A B : Prop} (h1 : ¬ p → A) (h2 : p → B) : if (!decide p) = true then A else B := by
  by_cases h : p
  · rw [decide_eq_true h]; exact iteF (h2 h)
  · rw [decide_eq_false h]; exact iteT (h1 h)
theorem iteNC {c : Bool} {A B : Prop} (h1 : c = false → A) (h2 : c = true → B) : if (!c) = true then A else B := by
  cases c with
  | true => exact iteF (h2 rfl)
  | false => exact iteT (h1 rfl)
/-! ### rules whose readings have names, over texts S l -/
section
variable {X : Cx} {H : Hp} {Q : VK} {K : PySem.W.Frag}
theorem pe_strS {x : Str} {j pos} {l : List Nat} (e : x = S l) : PE X (.Constant (.str x) j pos) (tC (.str (S l))) := by rw [e]; exact pe_str
def rAddS : R2 := fun x y H Q => ∃ a b, x = .str (S a) ∧ y = .str (S b) ∧ a.length + b.length ≤ 1000000 ∧ Q (.str (S (a ++ b))) H
theorem op_addS : OpR X (binaryOp .Add) rAddS := fun pins s σ H x y v u Q I rx ry h => by
  obtain ⟨a, b, e1, e2, hz, q⟩ := h
  exact op_add_str pins s σ H x y v u Q I rx ry ⟨S a, S b, e1, e2, by rw [S_len, S_len]; exact Nat.le_trans hz (by decide), by rw [S_app]; exact q⟩
theorem i_addS {a b : List Nat} (h1 : a.length + b.length ≤ 1000000) (h : Q (.str (S (a ++ b))) H) : rAddS (.str (S a)) (.str (S b)) H Q := ⟨a, b, rfl, rfl, h1, h⟩
def rIxSS : V → V → Hp → VK → Prop := fun x y H Q => ∃ l i c, x = .str (S l) ∧ y = .int i ∧ l.length ≤ 1000000 ∧ atI l i = some c ∧ Q (.str (S [c])) H
theorem ix_S : IxR X rIxSS := fun pins s σ H x y v u b Q I rx ry hb h => by
  obtain ⟨l, i, c, e1, e2, hz, hc, q⟩ := h
  exact ix_str pins s σ H x y v u b Q I rx ry hb ⟨S l, i, c, e1, e2, by rw [S_len]; exact Nat.le_trans hz (by decide), by rw [S_list]; exact hc, q⟩
theorem i_ixSS {l : List Nat} {i : Int} {c : Nat} (h1 : l.length ≤ 1000000) (h2 : atI l i = some c) (h : Q (.str (S [c])) H) : rIxSS (.str (S l)) (.int i) H Q := ⟨l, i, c, rfl, rfl, h1, h2, h⟩
def rSlSS : V → Option Int → Option Int → Hp → VK → Prop := fun x lo hi H Q => ∃ l, x = .str (S l) ∧ l.length ≤ 1000000 ∧ Q (.str (S (cut l lo hi))) H
theorem sl_S : SlR X rSlSS := fun pins s σ H x v vl vu lo hi sl Q I rx hs pl pu h => by
  obtain ⟨l, e1, hz, q⟩ := h
  exact sl_str pins s σ H x v vl vu lo hi sl Q I rx hs pl pu ⟨S l, e1, by rw [S_len]; exact Nat.le_trans hz (by decide), by rw [cutS_S]; exact q⟩
theorem i_slFrom {l : List Nat} {k : Int} (h0 : 0 ≤ k) (h1 : l.length ≤ 1000000) (h : Q (.str (S (l.drop k.toNat))) H) : rSlSS (.str (S l)) (some k) none H Q :=
  ⟨l, rfl, h1, by rw [show k = ((k.toNat : Nat) : Int) by omega, cut_from]; exact h⟩
theorem i_slTo {l : List Nat} {k : Int} (h0 : 0 ≤ k) (h1 : l.length ≤ 1000000) (h : Q (.str (S (l.take k.toNat))) H) : rSlSS (.str (S l)) none (some k) H Q :=
  ⟨l, rfl, h1, by rw [show k = ((k.toNat : Nat) : Int) by omega, cut_to]; exact h⟩
def rLenSS : List V → Hp → VK → Prop := fun xs H Q => ∃ l, xs = [.str (S l)] ∧ l.length ≤ 1000000 ∧ Q (.int (l.length : Int)) H
theorem call_lenS : CallR X (.builtin "len") rLenSS := fun pins s σ H xs us Q I r h => by
  obtain ⟨l, e1, hz, q⟩ := h
  exact call_len_str pins s σ H xs us Q I r ⟨S l, e1, by rw [S_len]; exact Nat.le_trans hz (by decide), by rw [S_len]; exact q⟩
theorem i_lenSS {l : List Nat} (h1 : l.length ≤ 1000000) (h : Q (.int (l.length : Int)) H) : rLenSS [.str (S l)] H Q := ⟨l, rfl, h1, h⟩
def rStartS : V → List V → Hp → VK → Prop := fun x xs H Q => ∃ a b, x = .str (S a) ∧ xs = [.str (S b)] ∧ Q (.bl (decide (a.take b.length = b))) H
theorem mt_startsS : MtR X "str.startswith" rStartS := fun pins s σ H x xs v us Q I rx rv h => by
  obtain ⟨a, b, e1, e2, q⟩ := h
  exact mt_startswith pins s σ H x xs v us Q I rx rv ⟨S a, S b, e1, e2, by rw [starts_S]; exact q⟩
theorem i_startS {a b : List Nat} (h : Q (.bl (decide (a.take b.length = b))) H) : rStartS (.str (S a)) [.str (S b)] H Q := ⟨a, b, rfl, rfl, h⟩
def rInSg : R2 := fun x y H Q => ∃ (c : Nat) (z : Str), x = .str (S [c]) ∧ y = .str z ∧ Q (.bl (decide (c ∈ z.cps.toList))) H
theorem op_inSg : OpR X (compareOp .In) rInSg := op_in_sign
theorem i_inSg {c : Nat} {z : Str} (h : Q (.bl (decide (c ∈ z.cps.toList))) H) : rInSg (.str (S [c])) (.str z) H Q := ⟨c, z, rfl, rfl, h⟩
def rAbs : List V → Hp → VK → Prop := fun xs H Q => ∃ i, xs = [.int i] ∧ Q (.int (if i < 0 then -i else i)) H
theorem call_absN : CallR X (.builtin "abs") rAbs := call_abs
theorem i_absN {i : Int} (h : Q (.int (if i < 0 then -i else i)) H) : rAbs [.int i] H Q := ⟨i, rfl, h⟩
def rMin2 : List V → Hp → VK → Prop := fun xs H Q => ∃ i j, xs = [.int i, .int j] ∧ Q (.int (if j < i then j else i)) H
theorem call_min2N (hc : X.calm = true) : CallR X (.builtin "min") rMin2 := call_min2 hc
theorem i_min2 {i j : Int} (h : Q (.int (min i j)) H) : rMin2 [.int i, .int j] H Q := ⟨i, j, rfl, by
  by_cases c : j < i
  · rw [if_pos c]; rw [show min i j = j by omega] at h; exact h
  · rw [if_neg c]; rw [show min i j = i by omega] at h; exact h⟩
def rMax2 : List V → Hp → VK → Prop := fun xs H Q => ∃ i j, xs = [.int i, .int j] ∧ Q (.int (if j > i then j else i)) H
theorem call_max2N (hc : X.calm = true) : CallR X (.builtin "max") rMax2 := call_max2 hc
theorem i_max2 {i j : Int} (h : Q (.int (max i j)) H) : rMax2 [.int i, .int j] H Q := ⟨i, j, rfl, by
  by_cases c : j > i
  · rw [if_pos c]; rw [show max i j = j by omega] at h; exact h
  · rw [if_neg c]; rw [show max i j = i by omega] at h; exact h⟩
def rMin3 : List V → Hp → VK → Prop := fun xs H Q => ∃ i j k, xs = [.int i, .int j, .int k] ∧ Q (.int (min (min i j) k)) H
theorem nuMin2_int (i j : Int) : nuMin2 (.int i) (.int j) = some (.int (min i j)) := by
  show some (if decide (j < i) = true then V.int j else V.int i) = some (.int (min i j))
  by_cases c : j < i
  · rw [decide_eq_true c, if_pos rfl, show min i j = j by omega]
  · rw [decide_eq_false c, if_neg Bool.false_ne_true, show min i j = i by omega]
theorem call_min3N (hc : X.calm = true) : CallR X (.builtin "min") rMin3 := fun pins s σ H xs us Q I r h => by
  obtain ⟨i, j, k, e1, q⟩ := h
  exact call_min3Nu hc pins s σ H xs us Q I r ⟨_, _, _, _, e1, by unfold nuMin3; rw [nuMin2_int]; show nuMin2 (.int (min i j)) (.int k) = _; rw [nuMin2_int], q⟩
theorem i_min3 {i j k : Int} (h : Q (.int (min (min i j) k)) H) : rMin3 [.int i, .int j, .int k] H Q := ⟨i, j, k, rfl, h⟩
def rInt : List V → Hp → VK → Prop := fun xs H Q => (∃ i, xs = [.int i] ∧ Q (.int i) H) ∨ ∃ k, xs = [.bl k] ∧ Q (.int (if k then 1 else 0)) H
theorem call_intN : CallR X (.type "int") rInt := call_int1
theorem i_intN {i : Int} (h : Q (.int i) H) : rInt [.int i] H Q := .inl ⟨i, rfl, h⟩
theorem i_intNB {k : Bool} (h : Q (.int (if k then 1 else 0)) H) : rInt [.bl k] H Q := .inr ⟨k, rfl, h⟩
def rLenQ (K : PySem.W.Frag) : List V → Hp → VK → Prop := fun xs H Q => ∃ p ys, xs = [.ref p] ∧ (SqL K H p ys ∨ SqT K H p ys) ∧ Q (.int ys.length) H
theorem call_lenQ : CallR X (.builtin "len") (rLenQ X.K) := call_len_seq
theorem i_lenL {p : Addr} {ys : List V} (h1 : H p = some (.lst ys)) (h : Q (.int ys.length) H) : rLenQ K [.ref p] H Q := ⟨p, ys, rfl, .inl (sqL_of h1), h⟩
theorem i_lenT {p : Addr} {ys : List V} (h1 : H p = some (.tup ys)) (h : Q (.int ys.length) H) : rLenQ K [.ref p] H Q := ⟨p, ys, rfl, .inr (sqT_of h1), h⟩
theorem i_lenK {p : Addr} {ys : List V} (h1 : SqL K H p ys) (h : Q (.int ys.length) H) : rLenQ K [.ref p] H Q := ⟨p, ys, rfl, .inl h1, h⟩
theorem dec_inj {α β : Type} [DecidableEq α] [DecidableEq β] {f : α → β} (hf : ∀ a b, f a = f b → a = b) (a b : α) : decide (f a = f b) = decide (a = b) := by
  by_cases h : a = b
  · subst h; simp
  · rw [decide_eq_false h, decide_eq_false (fun e => h (hf a b e))]
theorem dec_I (a b : Int) : decide (V.int a = V.int b) = decide (a = b) := dec_inj (fun _ _ e => V.int.inj e) a b
theorem i_eqI {a b : Int} (h : Q (.bl (decide (a = b))) H) : rEq (.int a) (.int b) H Q := ⟨rfl, by rw [dec_I]; exact h⟩
theorem i_neI {a b : Int} (h : Q (.bl (!decide (a = b))) H) : rNe (.int a) (.int b) H Q := ⟨rfl, by rw [dec_I]; exact h⟩
theorem i_eqS {a b : List Nat} (h : Q (.bl (decide (a = b))) H) : rEq (.str (S a)) (.str (S b)) H Q := ⟨rfl, by rw [S_dec]; exact h⟩
theorem i_neS {a b : List Nat} (h : Q (.bl (!decide (a = b))) H) : rNe (.str (S a)) (.str (S b)) H Q := ⟨rfl, by rw [S_dec]; exact h⟩
def rIsNo : R2 := fun x y H Q => y = .non ∧ Q (.bl (decide (x = .non))) H
theorem op_isNo : OpR X (compareOp .Is) rIsNo := op_isN
theorem i_isNoI {i : Int} (h : Q (.bl false) H) : rIsNo (.int i) .non H Q := ⟨rfl, h⟩
theorem i_isNoN (h : Q (.bl true) H) : rIsNo .non .non H Q := ⟨rfl, h⟩
theorem i_isNoR {a : Addr} (h : Q (.bl false) H) : rIsNo (.ref a) .non H Q := ⟨rfl, h⟩
def rRepI : List V → Hp → VK → Prop := fun xs H Q => ∃ i, xs = [.int i] ∧ i.natAbs.log2 < 1920 ∧ Q (.str (toString i)) H
theorem call_repI : CallR X (.builtin "repr") rRepI := SkE.call_repr_int
end
theorem walk_S {l : List Nat} : Walk (Its (S l)) l.length (fun _ => True) (fun i H v H' => H' = H ∧ ∃ c, l[i]? = some c ∧ v = .str (S [c])) := by
  have w := walk_str (z := S l)
  rw [S_size] at w
  exact w.mono (fun _ _ => trivial) fun i H x H' _ _ y => by
    obtain ⟨e, c, hc, ev⟩ := y
    rw [S_get] at hc
    exact ⟨e, c, hc, ev⟩
theorem walk_eS {l : List Nat} : Walk (ItE (S l)) l.length (fun _ => True) (fun i H v H' => ∃ T c, v = .ref T ∧ H T = none ∧ l[i]? = some c ∧ H' = upd H T (.tup [.int (i : Nat), .str (S [c])])) := by
  have w := walk_enumS (x := S l)
  rw [S_size] at w
  exact w.mono (fun _ _ => trivial) fun i H x H' _ _ y => by
    obtain ⟨T, c, e, n, hc, eh⟩ := y
    rw [S_get] at hc
    exact ⟨T, c, e, n, hc, eh⟩
theorem go_while {c : TT} {tb : TS} {D : Ends} {σ : L2.St} {H : Hp} (Pv : Nat → L2.St → Hp → Prop) (m0 : Nat) (h0 : Pv m0 σ H)
    (hs : ∀ m σ H, Pv m σ H → c σ H fun b H1 => if b = true then ∃ N : L2.St → Hp → Prop, (∀ σ' H', N σ' H' → ∃ m', m' < m ∧ Pv m' σ' H') ∧ tb { D with nx := N, ct := N, bk := D.nx } σ H1 else D.nx σ H1) : tWhile c tb D σ H :=
  ⟨Pv, ⟨m0, h0⟩, hs⟩
theorem next_turn {m : Nat} {Pv : Nat → L2.St → Hp → Prop} {A : (L2.St → Hp → Prop) → Prop} (h : A fun σ' H' => ∃ m', m' < m ∧ Pv m' σ' H') : ∃ N : L2.St → Hp → Prop, (∀ σ' H', N σ' H' → ∃ m', m' < m ∧ Pv m' σ' H') ∧ A N := ⟨_, fun _ _ q => q, h⟩
def rRevS : V → Hp → VK → Prop := fun x H Q => ∃ l, x = .str (S l) ∧ l.length ≤ sizeLine ∧ Q (.str (S l.reverse)) H
theorem i_revS {te : TE} {σ : L2.St} {H : Hp} {Q : VK} (h : te σ H fun x H1 => rRevS x H1 Q) : tRevS te σ H Q := h
theorem i_revSS {l : List Nat} {H : Hp} {Q : VK} (h1 : l.length ≤ 1000000) (h : Q (.str (S l.reverse)) H) : rRevS (.str (S l)) H Q := ⟨l, rfl, Nat.le_trans h1 (by decide), h⟩
theorem i_cut {t u : TS} {D : Ends} {σ : L2.St} {H : Hp} (Mid : L2.St → Hp → Prop) (h1 : t { D with nx := Mid } σ H) (h2 : ∀ σ' H', Mid σ' H' → u D σ' H') : C8.tCut t u D σ H := ⟨Mid, h1, h2⟩
theorem i_minL {K : PySem.W.Frag} {p : Addr} {ns : List Int} {H : Hp} {Q : VK} (h1 : H p = some (.lst (ns.map V.int))) (h2 : 0 < ns.length) (h : ∀ m, m ∈ ns → (∀ y, y ∈ ns → m ≤ y) → Q (.int m) H) : rMin K [.ref p] H Q := ⟨p, ns, rfl, sqL_of h1, h2, h⟩
/-- one half of an if: what is appended, or nothing -/
theorem i_chainLL {g : Int → Int → Bool} {g' : Int → Int → Bool} {σ : L2.St} {H : Hp} {R : Bool → Hp → Prop} {i j k : Int}
    (h : R (g i j && g' j k) H) : rI0 (fun a b => .bl (g a b)) (.int i) (.int j) H fun z H3 => ∃ c, z = .bl c ∧ (if c = true then rI0 (fun a b => .bl (g' a b)) (.int j) (.int k) H3 fun x H4 => ∃ d, x = .bl d ∧ R d H4 else ∃ d, V.bl false = .bl d ∧ R d H3) := by
  refine ⟨i, j, rfl, rfl, g i j, rfl, ?_⟩
  cases e : g i j with
  | true => rw [e] at h; exact iteT ⟨j, k, rfl, rfl, g' j k, rfl, h⟩
  | false => rw [e] at h; exact iteF ⟨false, rfl, h⟩
theorem walk_rangeZ {n : Nat} : Walk (Itr 0 n) n (fun _ => True) (YFn fun i => .int (i : Int)) :=
  (walk_range (lo := 0) (n := n)).mono (fun _ h => h) fun i H x H' _ _ y => ⟨y.1, by rw [y.2]; show V.int (0 + (i : Int)) = V.int (i : Int); rw [Int.zero_add]⟩
theorem i_ixLI {K : PySem.W.Frag} {p : Addr} {ns : List Int} {i v : Int} {H : Hp} {Q : VK} (h1 : H p = some (.lst (ns.map V.int))) (h0 : 0 ≤ i) (h2 : ns[i.toNat]? = some v) (h : Q (.int v) H) : rIxL K (.ref p) (.int i) H Q := by
  refine i_ixLH h1 ?_ h
  have e := atI_nat (xs := ns.map V.int) (j := i.toNat) (v := .int v) (by rw [List.getElem?_map, h2]; rfl)
  rwa [show ((i.toNat : Nat) : Int) = i by omega] at e
theorem i_ixSI {l : List Nat} {i : Int} {c : Nat} {H : Hp} {Q : VK} (h0 : 0 ≤ i) (h2 : l[i.toNat]? = some c) (h1 : l.length ≤ 1000000) (h : Q (.str (S [c])) H) : rIxSS (.str (S l)) (.int i) H Q := by
  refine i_ixSS h1 ?_ h
  have e := atI_nat (xs := l) (j := i.toNat) (v := c) h2
  rwa [show ((i.toNat : Nat) : Int) = i by omega] at e
theorem i_appI {p : Addr} {ns : List Int} {v : Int} {H : Hp} {Q : VK} (h1 : H p = some (.lst (ns.map V.int))) (h2 : ns.length ≤ 1000000) (h : Q .non (upd H p (.lst ((ns ++ [v]).map V.int)))) : rAppend (.ref p) [.int v] H Q := by
  refine i_append h1 (by rw [List.length_map]; exact Nat.lt_of_le_of_lt h2 (by decide)) ?_
  rw [List.map_append] at h
  exact h
theorem i_gTupH {K : PySem.W.Frag} {n : Nat} {t : TGs} {a : Addr} {xs : List V} {σ : L2.St} {H : Hp} {R : L2.St → Hp → Prop} (h1 : H a = some (.tup xs)) (h2 : xs.length = n) (h : t xs σ H R) : gTup K n t (.ref a) σ H R := ⟨a, xs, rfl, sqT_of h1, h2, h⟩
theorem join_S (ws : List (List Nat)) : Txt.join (S []) (ws.map S) = S ws.flatten := by
  unfold Txt.join
  rw [StrLaws.glued_eq_join]
  induction ws with
  | nil => rfl
  | cons w ws ih =>
    cases ws with
    | nil => simp [Str.join]
    | cons v ws =>
      show S w ++ S [] ++ Str.join (S []) ((v :: ws).map S) = _
      rw [ih, S_app, S_app, List.append_nil]
      rfl
theorem sum_lens (ws : List (List Nat)) : ((ws.map S).map (·.length)).sum = ws.flatten.length := by
  induction ws with
  | nil => rfl
  | cons w ws ih =>
    rw [List.map_cons, List.map_cons, List.sum_cons, ih, List.flatten_cons, List.length_append, S_len]
def rJoinS (K : PySem.W.Frag) : V → List V → Hp → VK → Prop := fun x xs H Q => ∃ p, ∃ ws : List (List Nat), x = .str (S []) ∧ xs = [.ref p] ∧ (SqL K H p (ws.map fun l => .str (S l)) ∨ SqT K H p (ws.map fun l => .str (S l))) ∧ ws.flatten.length ≤ 1000000 ∧ Q (.str (S ws.flatten)) H
theorem mt_joinS {X : Cx} : MtR X "str.join" (rJoinS X.K) := fun pins s σ H x xs v us Q I rx rv h => by
  obtain ⟨p, ws, e1, e2, hp, hl, q⟩ := h
  have e3 : (ws.map fun l => V.str (S l)) = (ws.map S).map V.str := by rw [List.map_map]; rfl
  rw [e3] at hp
  refine mt_join pins s σ H x xs v us Q I rx rv ⟨S [], p, ws.map S, e1, e2, hp, ?_, by rw [join_S]; exact q⟩
  rw [sum_lens, show (S []).length = 0 from rfl, Nat.mul_zero, Nat.add_zero]
  omega
theorem i_joinS {K : PySem.W.Frag} {p : Addr} {ws : List (List Nat)} {H : Hp} {Q : VK} (h1 : H p = some (.lst (ws.map fun l => .str (S l)))) (h2 : ws.flatten.length ≤ 1000000) (h : Q (.str (S ws.flatten)) H) : rJoinS K (.str (S [])) [.ref p] H Q :=
  ⟨p, ws, rfl, rfl, .inl (sqL_of h1), h2, h⟩
theorem atI_neg1 {α : Type} {xs : List α} {v : α} {n : Nat} (h : xs.length = n + 1) (h2 : xs[n]? = some v) : atI xs (-1) = some v := by
  have e : xs = xs.dropLast ++ [v] := by
    have hne : xs ≠ [] := by intro z; rw [z] at h; cases h
    have := List.dropLast_concat_getLast hne
    have e2 : xs.getLast hne = v := by
      rw [List.getLast_eq_getElem]
      have := List.getElem?_eq_some_iff.mp h2
      obtain ⟨_, q⟩ := this
      simpa [h] using q
    rw [e2] at this
    exact this.symm
  rw [e]
  exact atI_last _ _
theorem i_ixLv {K : PySem.W.Frag} {p : Addr} {xs : List V} {i : Int} {v : V} {H : Hp} {Q : VK} (h1 : H p = some (.lst xs)) (h0 : 0 ≤ i) (h2 : xs[i.toNat]? = some v) (h : Q v H) : rIxL K (.ref p) (.int i) H Q := by
  refine i_ixLH h1 ?_ h
  have e := atI_nat (xs := xs) (j := i.toNat) (v := v) h2
  rwa [show ((i.toNat : Nat) : Int) = i by omega] at e
theorem i_rU {g : Int → V} {i : Int} {H : Hp} {Q : VK} (h : Q (g i) H) : rU g (.int i) H Q := ⟨i, rfl, h⟩
end Sw
namespace Sw
open PySem PySem.Spec PyProof.Rows L2
/-! ### t[::-1] of a tuple -/
theorem back_adjust (n : Nat) : Builtin.Slice.sliceAdjust none none (-1) (n : Int) = ((n : Int) - 1, -1) := by
  unfold Builtin.Slice.sliceAdjust
  simp
theorem back_places (n : Nat) : Builtin.Slice.slicePlaces ((n : Int) - 1) (-1) (-1) = n := by
  unfold Builtin.Slice.slicePlaces
  simp only [show ¬ ((-1 : Int) > 0) by decide, if_false]
  split <;> simp <;> omega
theorem fm_congr {α β : Type} {f g : α → Option β} : ∀ {l : List α}, (∀ a ∈ l, f a = g a) → l.filterMap f = l.filterMap g
  | [], _ => rfl
  | a :: l, h => by
    rw [List.filterMap_cons, List.filterMap_cons, h a List.mem_cons_self, fm_congr fun b hb => h b (List.mem_cons_of_mem _ hb)]
theorem back_pick {α : Type} (l : List α) : ((List.range l.length).filterMap fun (k : Nat) => l.toArray[(((l.length : Int) - 1) + (k : Int) * (-1)).toNat]?) = l.reverse := by
  have e : ∀ k ∈ List.range l.length, l.toArray[(((l.length : Int) - 1) + (k : Int) * (-1)).toNat]? = l.reverse[k]? := by
    intro k hk
    have hk := List.mem_range.mp hk
    rw [List.getElem?_reverse hk, List.getElem?_toArray]
    congr 1
    omega
  rw [fm_congr e]
  have h2 : ∀ m : List α, (List.range m.length).filterMap (fun k => m[k]?) = m := by
    intro m
    induction m with
    | nil => rfl
    | cons a m ih =>
      rw [List.length_cons, List.range_succ_eq_map, List.filterMap_cons, List.filterMap_map]
      show a :: List.filterMap ((fun k => (a :: m)[k]?) ∘ Nat.succ) (List.range m.length) = a :: m
      congr 1
  have := h2 l.reverse
  rwa [List.length_reverse] at this
theorem getItem_tuple_back {prog : Program} {w : World} {A : Around} {E : Value → Shared → Prop} {s : Shared} {t sl : Addr} {ys : List Value} {u : Tok} {Q : Value → Shared → Prop} (ht : IsTup s.heap t ys.toArray)
    (hs : ∃ os, s.heap.get? sl = some os ∧ os.cls = .type "slice" ∧ os.data = .fields #[.none, .none, .int (-1) u])
    (h : Q (.ref s.heap.objs.size) { s with heap := s.heap.push { cls := .type "tuple", data := .seq ys.reverse.toArray } }) (hz : ys.length ≤ sizeLine) : wpAny (model prog w) A (getItem (.ref t) (.ref sl)) Q E s := by
  have hno' : sizeOk (.seq ys.reverse.toArray) := by
    show ys.reverse.toArray.size ≤ sizeLine
    rw [List.size_toArray, List.length_reverse]
    exact hz
  obtain ⟨os, hos, hcs, hds⟩ := hs
  have hTs : s.TypeIs (.ref sl) "slice" := ⟨os, hos, hcs⟩
  unfold getItem
  try with_reducible refine wpAny_holding ?_
  first | refine wpAny_bind (wpAny_pure ?_) | skip
  refine wpAny_bind (wpAny_sequenceKey ht.typeIs (by decide) ?_)
  refine wpAny_bind (wpAny_callSpecial?_slot (name := Str.ofString "__getitem__") ht.typeIs PyProof.Rows.slot_tuple_getitem (wpAny_call_entry PyProof.Rows.slot_tuple_getitem ht.typeIs entry_tuple_getitem ?_ (args_tuple_getitem _ _)))
  show wpAny _ _ (Builtin.Tuple.tupleItemsOf (.ref t) >>= _) _ _ s
  refine wpAny_bind (tupleItemsOf_ ht ?_)
  refine wpAny_bind (wpAny_typeOf hTs ?_)
  rw [if_pos (by decide)]
  have ap : ∀ {R : Int × Int × Nat → Shared → Prop}, R (((ys.toArray.size : Nat) : Int) - 1, -1, ys.toArray.size) s → wpAny (model prog w) A.in1 (Builtin.Slice.sliceApplied (.ref sl) (pure ((ys.toArray.size : Nat) : Int))) R E s := by
    intro R hR
    unfold Builtin.Slice.sliceApplied Builtin.Slice.sliceFields
    refine wpAny_bind (wpAny_bind (wpAny_field hos hds (x := .none) rfl (wpAny_bind (wpAny_field hos hds (x := .none) rfl (wpAny_bind (wpAny_field hos hds (x := .int (-1) u) rfl (wpAny_pure ?_)))))))
    refine wpAny_bind (slicePart_int ?_)
    show wpAny _ _ (if ((-1 : Int) == 0) = true then _ else _) _ _ s
    rw [if_neg (by decide)]
    refine wpAny_bind (slicePart_none (wpAny_bind (slicePart_none (wpAny_bind (wpAny_pure ?_)))))
    show wpAny _ _ (match Builtin.Slice.sliceAdjust none none (-1) ((ys.toArray.size : Nat) : Int) with | (lo, hi) => pure (lo, (-1 : Int), Builtin.Slice.slicePlaces lo hi (-1))) _ _ s
    rw [back_adjust]
    show wpAny _ _ (pure (((ys.toArray.size : Nat) : Int) - 1, (-1 : Int), Builtin.Slice.slicePlaces (((ys.toArray.size : Nat) : Int) - 1) (-1) (-1))) _ _ s
    rw [back_places]
    exact wpAny_pure hR
  refine wpAny_bind (ap ?_)
  show wpAny _ _ (if (((ys.toArray.size : Nat) : Int) - 1 == 0 && (-1 : Int) == 1 && ys.toArray.size == ys.toArray.size) = true then _ else _) _ _ s
  rw [if_neg (by simp)]
  have e := back_pick ys
  rw [show ys.length = ys.toArray.size from List.size_toArray.symm] at e
  rw [e]
  first
    | exact wpAny_bind (m := Builtin.Tuple.tupleExact _) (wpAny_newObj_type (wpAny_pure ⟨_, rfl, wpAny_pure h⟩) hno')
    | exact wpAny_bind (m := Builtin.Tuple.tupleExact _) (wpAny_newObj_type (wpAny_bind (wpAny_pure (wpAny_pure ⟨_, rfl, wpAny_pure h⟩))) hno')
    | exact wpAny_bind (wpAny_bind (m := Builtin.Tuple.tupleExact _) (wpAny_newObj_type (wpAny_pure (wpAny_pure ⟨_, rfl, wpAny_pure h⟩)) hno'))
def tRevT (K : PySem.W.Frag) (te : TE) : TE := fun σ H Q => te σ H fun x H1 => ∃ a xs, x = .ref a ∧ SqT K H1 a xs ∧ ∀ p, H1 p = none → Q (.ref p) (upd H1 p (.tup xs.reverse))
theorem Vals.back {xs : List V} {us : List Value} (r : Vals xs us) : Vals xs.reverse us.reverse := by
  induction r with
  | nil => exact .nil
  | cons r1 _ ih =>
    rw [List.reverse_cons, List.reverse_cons]
    exact ih.append (.cons r1 .nil)
theorem pe_revT {X : Cx} {e : Expr} {te : TE} {k : Nat} {p1 p2 p3 pos : Pos} (he : PE X e te) :
    PE X (.Subscript e (.Slice none none (some (.UnaryOp .USub (.Constant (.int 1) k p1) p2)) p3) pos) (tRevT X.K te) := by
  constructor
  intro pins s σ H Q I h
  refine Subscript_ (thn (he.run pins s σ H _ I h) fun v s1 ⟨x, H1, I1, r1, a, xs, ex, hx, q⟩ => ?_)
  subst ex
  cases r1
  have st : PO X (some (.UnaryOp .USub (.Constant (.int 1) k p1) p2)) (tPart (tUn (rU fun i => .int (-i)) (tC (.int 1)))) := po_some (pe_un un_neg pe_int)
  refine wpAny_Slice (thn (po_none.run pins s1 σ H1 (fun o G => o = none ∧ G = H1) I1 ⟨rfl, rfl⟩) fun w1 s2 ⟨o1, G1, J1, z1, a1, b1⟩ => ?_)
  subst a1 b1
  refine thn (po_none.run pins s2 σ G1 (fun o G => o = none ∧ G = G1) J1 ⟨rfl, rfl⟩) fun w2 s3 ⟨o2, G2, J2, z2, a2, b2⟩ => ?_
  subst a2 b2
  refine thn (st.run pins s3 σ G2 (fun o G => o = some (-1) ∧ G = G2) J2 ⟨1, rfl, -1, rfl, rfl, rfl⟩) fun w3 s4 ⟨o3, G3, J3, z3, a3, b3⟩ => ?_
  subst a3 b3
  have J4 : Inv X pins σ G3 { s4 with heap := s4.heap.push { cls := .type "slice", data := .fields #[w1, w2, w3] } } := J3.kept (t' := s4.toks) fun b ob q => Heap.get?_push_of_some _ q
  obtain ⟨y1, rfl, f1⟩ := IsPart.raw z1
  obtain ⟨y2, rfl, f2⟩ := IsPart.raw z2
  obtain ⟨y3, rfl, f3⟩ := IsPart.raw z3
  cases y1 with
  | some y => cases f1
  | none =>
  cases y2 with
  | some y => cases f2
  | none =>
  cases y3 with
  | none => cases f3
  | some y =>
  obtain ⟨m, u⟩ := y
  have em : m = -1 := Option.some.inj f3
  subst em
  obtain ⟨its, r, ht, hz⟩ := J4.tuple hx
  refine tail_any (T := "tuple") (id := _) (ops := [.ref a, .ref s4.heap.objs.size]) ht.typeIs PyProof.Rows.slot_tuple_getitem.lookup ?_ (by with_unfolding_all rfl)
  have hz' : its.length ≤ sizeLine := by rw [← r.length]; exact hz
  refine getItem_tuple_back (u := u) ht ⟨_, Heap.get?_push_size _ rfl, rfl, rfl⟩ ?_ hz'
  refine ⟨.ref _, _, J4.laid (t' := s4.toks) (o := .tup xs.reverse) (fun b ob q => Heap.get?_push_of_some _ q) (Nat.le_refl _) ?_, rfl, q _ (J4.hok.fresh (Nat.le_refl _))⟩
  exact ⟨by rw [List.length_reverse]; exact hz, _, Vals.back r, IsTup.new _ _⟩
theorem i_revT {K : PySem.W.Frag} {te : TE} {σ : L2.St} {H : Hp} {Q : VK} (h : te σ H fun x H1 => ∃ a xs, x = .ref a ∧ SqT K H1 a xs ∧ ∀ p, H1 p = none → Q (.ref p) (upd H1 p (.tup xs.reverse))) : tRevT K te σ H Q := h
/-! ### text * int -/
def rMulS : R2 := fun x y H Q => ∃ (l : List Nat) (n : Nat), x = .str (S l) ∧ y = .int (n : Int) ∧ l.length ≤ 1000 ∧ n ≤ 1000 ∧ Q (.str (S (List.replicate n l).flatten)) H
theorem mul_S (l : List Nat) (n : Nat) : Txt.mul (S l) (n : Int) = S (List.replicate n l).flatten := by
  unfold Txt.mul
  by_cases h0 : n = 0
  · subst h0; simp [S, Str.empty]
  · rw [if_neg (by omega)]
    by_cases h1 : (((n : Int) == 1 || (S l).length == 0) = true)
    · rw [if_pos h1]
      rcases Bool.or_eq_true_iff.mp h1 with h1 | h1
      · have : n = 1 := by have := eq_of_beq h1; omega
        subst this; simp
      · have e : l = [] := by have := eq_of_beq h1; rw [S_len] at this; exact List.length_eq_zero_iff.mp this
        subst e
        simp
    · rw [if_neg h1]
      show (⟨(List.replicate n l.toArray).foldl (· ++ ·) #[]⟩ : Str) = ⟨(List.replicate n l).flatten.toArray⟩
      congr 1
      have : ∀ (m : Nat) (b : Array Nat), (List.replicate m l.toArray).foldl (· ++ ·) b = b ++ (List.replicate m l).flatten.toArray := by
        intro m
        induction m with
        | zero => intro b; simp
        | succ m ih =>
          intro b
          rw [List.replicate_succ, List.foldl_cons, ih, List.replicate_succ, List.flatten_cons]
          simp
      rw [this]
      simp
theorem op_mulS {X : Cx} : OpR X (binaryOp .Mult) rMulS := fun pins s σ H x y v u Q I rx ry h => by
  obtain ⟨l, n, rfl, rfl, h1, h2, q⟩ := h
  obtain ⟨t, rfl⟩ := rx
  obtain ⟨t', rfl⟩ := ry
  refine SB.mul ⟨?_, ?_, ?_⟩ fun t' tk => ⟨.str (S (List.replicate n l).flatten), H, I.tok _, ⟨_, by rw [mul_S]⟩, q⟩
  · rw [Bool.or_eq_false_iff]; exact ⟨decide_eq_false (by omega), decide_eq_false (by omega)⟩
  · intro hn _
    rw [S_len]
    have : (n : Int) * (l.length : Int) ≤ 2 ^ 63 - 1 := by
      have := Nat.mul_le_mul h2 h1
      have e : (n : Int) * (l.length : Int) = ((n * l.length : Nat) : Int) := by simp
      rw [e]; omega
    have := (Int.le_ediv_iff_mul_le (a := (l.length : Int)) (b := 2 ^ 63 - 1) (c := (n : Int)) (by omega)).mpr (by rw [Int.mul_comm]; exact this)
    omega
  · intro _ _
    rw [S_len, Int.toNat_natCast]
    have := Nat.mul_le_mul h1 h2
    unfold Builtin.Str.tooLong
    exact decide_eq_false (by rw [show sizeLine = 16777216 from rfl]; omega)
theorem i_mulS {l : List Nat} {n : Nat} {H : Hp} {Q : VK} (h1 : l.length ≤ 1000) (h2 : n ≤ 1000) (h : Q (.str (S (List.replicate n l).flatten)) H) : rMulS (.str (S l)) (.int (n : Int)) H Q := ⟨l, n, rfl, rfl, h1, h2, h⟩
/-! ### a def called by names alone -/
def tKw (sp : Sp) (gV : List V → List V → List V) (tk : TA) : TE := fun σ H Q => tk σ H fun zs H1 => sp (gV [] zs) H1 Q E0
section
variable (P : Program) (w : World) (K : PySem.W.Frag) (mg : Str → Option Value) (base : Heap)
def CalK (x : Str) (ps : List Str) (k : Nat) (sp : Sp) (ks : List Str) (g : List Value → List Value → List Value) (gV : List V → List V → List V) : Prop := ∃ (f : Addr) (fd : FuncData), FnOk P w K mg base CX0 k f fd ps sp ∧ mg x = some (.ref f) ∧ PySem.W.keepIn K (.ref f) = true ∧ KBinds K fd ps ks g gV
end
theorem Def.calK {P : Program} {w : World} {K : PySem.W.Frag} {mg : Str → Option Value} {base : Heap} {x : Str} {st : Stmt} {ps ks : List Str} {k : Nat} {sp : Sp} {g : List Value → List Value → List Value} {gV : List V → List V → List V} (d : Def K mg x st)
    (b : ∀ (kV doc pm : Value) (an : Option Addr) (cdv ct : Value) (us ws : List Value), (g us ws).length = ps.length → bindArgs (PySem.W.fnOf x x (defArgs st) (defBody st) (defScope st) .none kV doc pm an cdv ct) ⟨us, ks.zip ws⟩ = pure (ps.zip (g us ws)))
    (rel : ∀ {vs : List V} {us : List Value} {zs : List V} {ws : List Value}, Vals vs us → Vals zs ws → Vals (gV vs zs) (g us ws))
    (ok : ∀ (f : Addr) (fd : FuncData), Fun K x x st f fd → FnOk P w K mg base CX0 k f fd ps sp) : CalK P w K mg base x ps k sp ks g gV := by
  obtain ⟨f, fd, F, m⟩ := d
  have O := ok f fd F
  have kp := F.kp
  obtain ⟨oc, od, kV, doc, pm, an, cdv, ct, osl, rfl, lk, hcd⟩ := F.ex
  exact ⟨f, _, O, m, kp, fun s us ws _ hl => .of_eq (b kV doc pm an cdv ct us ws hl), rel⟩
section
variable {X : Cx} {x : Str} {ps ks : List Str} {k n : Nat} {sp : Sp} {g : List Value → List Value → List Value} {gV : List V → List V → List V} {kws : List Keyword} {tk : TA} {p pos : Pos}
theorem pe_calK (c : CalK X.prog X.w X.K X.mg X.base x ps k sp ks g gV) (hr : Room n X.A) (hkw : PK X kws tk) (hg : Gl X x := by rfl) (hk : k ≤ n := by decide)
    (hall : (backToKw pos (keywordEach kws X.env)).all (·.1.isSome) = true := by rfl) (hks : (backToKw pos (keywordEach kws X.env)).filterMap (·.1) = ks := by rfl) (hdb : (x == ("__debug__" : Str)) = false := by decide)
    (hpl : ((backTo pos (starEach [] X.env)).any (·.1) || (backToKw pos (keywordEach kws X.env)).any (·.1.isNone)) = false := by rfl) :
    PE X (.Call (.Name x p) [] kws pos) (tKw sp gV tk) := by
  obtain ⟨f, fd, F, m, kp, b⟩ := c
  refine ⟨fun pins s σ H Q I h => ?_⟩
  refine wpAny_Call_Name_kw (ld_glob I hg m ?_ hdb)
  refine PySem.W.callWith_KW0 (h₀ := X.base) I.ok.mod.kin kp hall (thn (hkw.run pos pins s σ H _ I h) fun ws s2 ⟨zs, H2, I2, rz, q2⟩ => ⟨I2.kIn, ?_⟩) hpl
  rw [hks]
  exact run_fnk F (hr.mono hk) b pass0 I2 .nil rz q2
theorem i_kw {σ : L2.St} {H : Hp} {Q : VK} (h : tk σ H fun zs H1 => sp (gV [] zs) H1 Q E0) : tKw sp gV tk σ H Q := h
end
end Sw
namespace Sw
open PySem PySem.Spec PyProof.Rows L2
/-! ### promises of defs that are called where nothing is being shown (repr) -/
structure FnG (P : Program) (w : World) (K : PySem.W.Frag) (mg : Str → Option Value) (base : Heap) (CX : CXT) (k : Nat) (f : Addr) (fd : FuncData) (ps : List Str) (sp : Sp) : Prop where
  len : ∀ xs M R X, sp xs M R X → xs.length = ps.length
  go : ∀ (A : Around) (out : List Env) (t : Shared) (M : Hp) (args : Args) (us : List Value) (xs : List V) (R : VK) (X : XK), Room k A → A.guards = some [] → Env0 P w K mg base A out t M → BindsTo t fd args (ps.zip us) → Vals xs us → sp xs M R X →
    codeAny (model P w) A (.call (.ref f) args) (CR CX out P w M t R X) t
section
variable {P : Program} {w : World} {K : PySem.W.Frag} {mg : Str → Option Value} {base : Heap} {CX : CXT} {k : Nat} {f : Addr} {fd : FuncData} {ps : List Str} {sp : Sp}
theorem FnG.of (F : FnOk P w K mg base CX k f fd ps sp) : FnG P w K mg base CX k f fd ps sp := ⟨F.len, fun A out t M args us xs R X room _ => F.run A out t M args us xs R X room⟩
theorem FnG.low {j : Nat} (F : FnG P w K mg base CX j f fd ps sp) (h : j ≤ k) : FnG P w K mg base CX k f fd ps sp := ⟨F.len, fun A out t M args us xs R X room => F.go A out t M args us xs R X (room.mono h)⟩
theorem Fun.okG {x qual : Str} {st : Stmt} {N : List Str} (F : Fun K x qual st f fd) (S : FnScope N ps (defScope st)) (len : ∀ xs M R X, sp xs M R X → xs.length = ps.length)
    (body : ∀ (cdv : Value) (A : Around) (out : List Env) (t : Shared) (M : Hp) (xs : List V) (R : VK) (X : XK), Room k (A.deeper (envOfC qual (defScope st) t.heap.objs.size f cdv)) → A.guards = some [] → sp xs M R X →
      ∃ r, PSs (cxOf CX P w K mg base N qual (defScope st) f cdv A out t M X) (defBody st) r ∧ r { nx := fun _ M' => R .non M', rt := R } (start N xs) M) : FnG P w K mg base CX (k + 1) f fd ps sp := by
  obtain ⟨oc, od, kV, doc, pm, an, cdv, ct, osl, rfl, found, coded⟩ := F.ex
  constructor
  · exact len
  intro A out t M args us xs R X room quiet env bind rel prom
  have count := len xs M R X prom
  have inHeap := env.mod.kin.keeps fun b o e => (env.bs b o e).1
  have quota := env.mod.nolimit.keeps fun b o e => (env.bs b o e).1
  have kinds : ∀ z ∈ ps.zip us, (defScope st).names.lookup z.1 = some .local ∨ ((defScope st).names.lookup z.1 = some .cell ∧ ((cellsFrom (t.heap.objs.size + 1) (defScope st).names []).lookup z.1).isSome = true) := by
    rintro ⟨n, v⟩ hz
    have hn := (List.of_mem_zip hz).1
    rcases S.par n hn with l | c
    · left; exact l
    · right; exact ⟨c, PySem.W.cellsFrom_some _ _ _ (.inl c)⟩
  apply codeAny_call_function room.depth (inHeap _ _ found) rfl S.co S.gen rfl (PySem.W.codeRec_of inHeap coded) (bind _ _ _ _ ?_)
  apply wpAny_newFunctionEnv_cells S.kind kinds
  intro env2 e2 t1 entry
  subst e2
  refine ⟨quota.keeps entry.toInCall.keep, codeAny_func ?_⟩
  obtain ⟨r, hr, runs⟩ := body cdv A out t M xs R X (room.deeper _) quiet prom
  have I := inv_start (CX := CX) (E := X) S room.hd env count rel entry
  apply wpAny_mono (hr.run [] t1 (start N xs) M _ I runs)
  · intro fl t' leaves
    cases fl with
    | ret u =>
      obtain ⟨v, σ', M', J, rv, q⟩ := leaves
      exact ⟨v, M', J.os, J.bare, J.base, J.hok, rv, q⟩
    | next =>
      obtain ⟨σ', M', J, q⟩ := leaves
      exact ⟨V.non, M', J.os, J.bare, J.base, J.hok, rfl, q⟩
    | brk => obtain ⟨_, _, _, q⟩ := leaves; exact q.elim
    | cont => obtain ⟨_, _, _, q⟩ := leaves; exact q.elim
  · exact fun _ _ z => z
end
section
variable {X : Cx} {ps : List Str} {k : Nat} {f : Addr} {fd : FuncData} {sp : Sp} {ds : List Value} {dvs : List V} {CX : CXT} {E : XK}
theorem run_G {pins : List (Addr × Obj)} {σ : L2.St} {M : Hp} {t : Shared} {R : VK} {us : List Value} {xs : List V} (F : FnG X.prog X.w X.K X.mg X.base CX k f fd ps sp) (room : Room k X.A) (quiet : X.A.guards = some []) (b : Binds X.K fd ps ds) (hd : Vals dvs ds) (px : Passes CX X E)
    (I : Inv X pins σ M t) (r : Vals xs us) (h : sp (xs ++ dvs) M R E) : wpAny (model X.prog X.w) X.A (call (.ref f) us) (EP X pins σ R) X.xe t := by
  have both := r.append hd
  have count : (us ++ ds).length = ps.length := both.length.symm.trans (F.len _ _ _ _ h)
  apply wpAny_call
  apply codeAny_mono (F.go X.A X.stack t M ⟨us, []⟩ (us ++ ds) (xs ++ dvs) R E room quiet I.env0 (b t us I.kIn count) both h)
  intro o t' q
  rcases o with e | fl
  · exact px pins σ M t e t' I q
  · cases fl with
    | ret u => exact I.after q
    | next => exact q.elim
    | brk => exact q.elim
    | cont => exact q.elim
end
section
variable (P : Program) (w : World) (K : PySem.W.Frag) (mg : Str → Option Value) (base : Heap)
def CalG (x : Str) (ps : List Str) (k : Nat) (sp : Sp) : Prop := ∃ (f : Addr) (fd : FuncData), FnG P w K mg base CX0 k f fd ps sp ∧ mg x = some (.ref f) ∧ PySem.W.keepIn K (.ref f) = true ∧ Binds K fd ps []
end
theorem Def.calG {P : Program} {w : World} {K : PySem.W.Frag} {mg : Str → Option Value} {base : Heap} {x : Str} {st : Stmt} {ps : List Str} {k : Nat} {sp : Sp} (d : Def K mg x st)
    (b : ∀ (kV doc pm : Value) (an : Option Addr) (cdv ct : Value) (us : List Value), us.length = ps.length → bindArgs (PySem.W.fnOf x x (defArgs st) (defBody st) (defScope st) .none kV doc pm an cdv ct) ⟨us, []⟩ = pure (ps.zip us))
    (ok : ∀ (f : Addr) (fd : FuncData), Fun K x x st f fd → FnG P w K mg base CX0 k f fd ps sp) : CalG P w K mg base x ps k sp := by
  obtain ⟨f, fd, F, m⟩ := d
  exact ⟨f, fd, ok f fd F, m, F.kp, F.binds b⟩
theorem pe_calG {X : Cx} {x : Str} {ps : List Str} {k n : Nat} {sp : Sp} {e : Expr} {es : List Expr} {t : TA} {p pos : Pos} (c : CalG X.prog X.w X.K X.mg X.base x ps k sp) (hr : Room n X.A) (quiet : X.A.guards = some []) (ha : PA X (e :: es) t) (hg : Gl X x := by rfl) (hk : k ≤ n := by decide)
    (hdb : (x == ("__debug__" : Str)) = false := by decide) (he : starEach (e :: es) X.env = (false, eval e X.env) :: starEach es X.env := by rfl) (hpl : (backTo pos (starEach es X.env)).any (·.1) = false := by rfl) :
    PE X (.Call (.Name x p) (e :: es) [] pos) (tCall sp [] E0 t) := by
  obtain ⟨f, fd, F, m, kp, b⟩ := c
  constructor
  intro pins s σ M R I h
  apply wpAny_Call_Name_kw (ld_glob I hg m ?_ hdb)
  exact PySem.W.callWith_K (h₀ := X.base) I.ok.mod.kin kp (thn (ha.run pos pins s σ M _ I h) fun us s1 ⟨xs, M1, I1, r, q⟩ => ⟨I1.kIn, run_G F (hr.mono hk) quiet b .nil pass0 I1 r q⟩) he hpl
/-! ### repr of data -/
def rRepD (K : PySem.W.Frag) : List V → Hp → VK → Prop := fun xs M R => ∃ x d, xs = [x] ∧ Dp K M x d ∧ d.showable = true ∧ d.hasDict = false ∧ d.depth ≤ 60 ∧ d.shown.length ≤ sizeLine ∧ R (.str d.shown) M
theorem call_repD {X : Cx} (quiet : X.A.guards = some []) (hu : X.A.units + 64 < cLine) : CallR X (.builtin "repr") (rRepD X.K) := by
  intro pins s σ M xs us R I r h
  obtain ⟨x, d, rfl, hd, sh, nd, dp, sz, q⟩ := h
  obtain ⟨u, rfl, ru⟩ := vals1 r
  obtain ⟨as, rd⟩ := Dp.reads I d x u hd ru
  cases hd with
  | non =>
    cases ru
    exact PySem.P.repr_of_none ⟨.str (PyData.shown .none), M, I.tok _, ⟨_, by simp only [PyData.shown]; rfl⟩, q⟩
  | bl b =>
    cases ru
    exact PySem.P.repr_of_bool ⟨.str (PyData.shown (.bool b)), M, I.tok _, ⟨_, by simp only [PyData.shown]; rfl⟩, q⟩
  | int i =>
    obtain ⟨t, rfl⟩ := ru
    exact PySem.P.repr_of_int (of_decide_eq_true (by simpa only [PyData.showable] using sh)) ⟨.str (PyData.shown (.int i)), M, I.tok _, ⟨_, by simp only [PyData.shown]; rfl⟩, q⟩
  | str z =>
    obtain ⟨t, rfl⟩ := ru
    exact PySem.P.repr_of_str ⟨.str (PyData.shown (.str z)), M, I.tok _, ⟨_, by simp only [PyData.shown]; rfl⟩, q⟩ (by simpa only [PyData.shown] using sz)
  | lst h1 h2 =>
    cases ru
    exact repr_of_reads' rd sh (PyData.noDict_hsm nd) quiet (by omega) (fun _ _ e => e) (fun h' t tk keep => ⟨.str _, M, I.kept (t' := tk) keep, ⟨t, rfl⟩, q⟩) sz
  | tup h1 h2 =>
    cases ru
    exact repr_of_reads' rd sh (PyData.noDict_hsm nd) quiet (by omega) (fun _ _ e => e) (fun h' t tk keep => ⟨.str _, M, I.kept (t' := tk) keep, ⟨t, rfl⟩, q⟩) sz
end Sw
namespace Sw
open PySem PySem.Spec PyProof.Rows L2
/-! ### the end of a law whose def is called where nothing is being shown -/
theorem law_G {P : Program} {w : World} {K : PySem.W.Frag} {mg mb : Str → Option Value} {k : Nat} {fa a : Addr} {fd : FuncData} {x : Str} {sp : Sp} {t : Shared} {vs : List Value} {ns : List Int}
    (inK : K.In t.heap) (gl : t.heap.Ns mainGlobals mg) (bl : t.heap.Ns builtinsNs mb) (bb : ∀ y : Str, y ≠ "__name__" → mb y = bootBuiltins y) (lim : t.heap.NoLimit) (quietGens : t.gens = #[])
    (script : t.heap.get? a = some { cls := .type "list", data := .seq vs.toArray }) (nums : IntsAre vs ns) (short : ns.length ≤ sizeLine) (room : Room k callerA)
    (F : ∀ base : Heap, K.In base → base.Ns mainGlobals mg → FnG P w K mg base CX0 k fa fd [x] sp) (bind : ∀ (s : Shared) (u : Value), BindsTo s fd ⟨[u], []⟩ [(x, u)])
    (prom : ∀ M : Hp, Only M → SqL K M a (ns.map V.int) → sp [.ref a] M (fun v _ => v = .bl true) E0) :
    codeAny (model P w) callerA (.call (.ref fa) ⟨[.ref a], []⟩) (fun r s' => r = .ok (.ret (.bool true)) ∧ OldK t.heap s'.heap ∧ s'.os = t.os ∧ AllBare s'.gens) t := by
  have vals := vals_ints nums
  have sameLen := nums.length
  -- tracked: the script alone, and only if the module does not hold it already
  let M : Hp := fun b => if b = a ∧ K.lookup a = none then some (.frz { cls := .type "list", data := .seq vs.toArray } (.lst (ns.map V.int))) else none
  have at_a : ∀ {b : Addr} {o : HO}, M b = some o → b = a ∧ K.lookup a = none ∧ o = .frz { cls := .type "list", data := .seq vs.toArray } (.lst (ns.map V.int)) := by
    intro b o q
    by_cases c : b = a ∧ K.lookup a = none
    · have q' := (if_pos c).symm.trans q
      exact ⟨c.1, c.2, (Option.some.inj q').symm⟩
    · have q' := (if_neg c).symm.trans q
      cases q'
  have only : Only M := by
    intro b
    by_cases c : b = a ∧ K.lookup a = none
    · right; exact ⟨_, _, if_pos c⟩
    · left; exact if_neg c
  have ok : HOk P w M t.heap := by
    intro b o q
    obtain ⟨rfl, _, rfl⟩ := at_a q
    exact ⟨script, by rw [List.length_map]; exact short, vs, _, vals, script⟩
  have known : SqL K M a (ns.map V.int) := by
    cases hk : K.lookup a with
    | none => exact .inl (.inr ⟨_, if_pos ⟨rfl, hk⟩⟩)
    | some o =>
      have e := inK a o hk
      rw [script] at e
      cases e
      exact .inr ⟨_, vs.toArray, _, hk, rfl, rfl, rfl, by rw [List.size_toArray, sameLen]; exact short, by simpa using vals⟩
  have under : ∀ {b : Addr} {o : Obj}, t.heap.get? b = some o → M b = none → (hidT t.heap M).get? b = some o := fun e n => hidT_get e n
  have dictFree : ∀ {b : Addr} {o : Obj} {es : Array DictEntry} {n : Nat}, t.heap.get? b = some o → o.data = .dict es n → M b = none := by
    intro b o es n e hd
    rcases q : M b with _ | u
    · rfl
    · obtain ⟨rfl, _, _⟩ := at_a q
      rw [script] at e
      cases e
      cases hd
  have names : ∀ {b : Addr} {m : Str → Option Value}, t.heap.Ns b m → (hidT t.heap M).Ns b m := by
    rintro b m ⟨o, es, n, e, hd, r⟩
    exact ⟨o, es, n, under e (dictFree e hd), hd, r⟩
  have baseIn : K.In (hidT t.heap M) := by
    intro b o e
    apply under (inK b o e)
    rcases q : M b with _ | u
    · rfl
    · obtain ⟨rfl, no, _⟩ := at_a q
      rw [no] at e
      cases e
  obtain ⟨mc, lim1, lim2⟩ := lim
  have env : Env0 P w K mg (hidT t.heap M) callerA [] t M :=
    ⟨rfl, ⟨baseIn, names gl, ⟨mb, names bl, bb⟩, ⟨mc, names lim1, lim2⟩⟩, fun b o e => of_hidT e, Nat.le_of_eq (hidT_size _ _), trivial, (fun b z => by have y : b ∈ ([] : List Addr) := z; simp at y), ok, .of_eq quietGens⟩
  apply codeAny_mono ((F _ baseIn (names gl)).go callerA [] t M ⟨[.ref a], []⟩ [.ref a] [.ref a] _ _ room rfl env (bind t (.ref a)) (.cons rfl .nil) (prom M only known))
  intro r s' q
  rcases r with e | fl
  · exact q.elim
  · cases fl with
    | next => exact q.elim
    | brk => exact q.elim
    | cont => exact q.elim
    | ret u =>
      obtain ⟨v, M', os, bare, un, ok', rel, said⟩ := q
      have said' : v = .bl true := said
      subst said'
      have isTrue : u = Value.bool true := rel
      subst isTrue
      refine ⟨rfl, OldK.of_keep ?_, os, bare⟩
      intro b o e
      rcases q : M b with _ | u
      · exact un.keep b o e q (fun z => by have y : b ∈ ([] : List Addr) := z; simp at y) (by simp)
      · obtain ⟨rfl, _, rfl⟩ := at_a q
        obtain ⟨e1, _⟩ := ok _ _ q
        obtain ⟨e2, _⟩ := ok' _ _ (un.frzs _ _ _ q)
        rw [e] at e1
        cases e1
        exact e2
theorem walk_G {l : PySem.W.OpenLaw} {n k : Nat} {q : Program} {loose : List Str} {XP : (Str → Option Value) → Heap → Prop} {YP : World → Heap → Prop} {d : DefRec} {K : Params → PySem.W.Frag} {sp : PySem.W.Frag → Sp} {x : Str}
    (many : l.most = some n) (few : n ≤ sizeLine) (plain : d.params.defaults = []) (room : Room k callerA) (inK : ∀ (w : World) (h : Heap), YP w h → (K w.params).In h)
    (F : ∀ (w : World) (mg : Str → Option Value) (fa : Addr) (h : Heap), (K w.params).In h → h.Ns mainGlobals mg → mg d.name = some (.ref fa) →
      ∃ fd : FuncData, (∀ (s : Shared) (u : Value), BindsTo s fd ⟨[u], []⟩ [(x, u)]) ∧ ∀ base : Heap, (K w.params).In base → base.Ns mainGlobals mg → FnG l.prog w (K w.params) mg base CX0 k fa fd [x] (sp (K w.params)))
    (prom : ∀ (K : PySem.W.Frag) (M : Hp) (a : Addr) (ns : List Int), ns.length ≤ n → Only M → SqL K M a (ns.map V.int) → sp K [.ref a] M (fun v _ => v = .bl true) E0) :
    PySem.W.WalkO q loose XP YP l.row.toRowW d [] (fun f vs => PySem.call f vs) := by
  apply Att.attach_call many plain
  intro w s₀ t mg mb fa o pm cd doc a vs ns G Y _ _ _ named script nums short gens
  have kin := inK w _ Y
  obtain ⟨fd, bind, hF⟩ := F w mg fa _ kin G.T.g named
  exact law_G kin G.T.g G.T.b G.T.builtins G.T.nolimit gens script nums (Nat.le_trans short few) room hF bind fun M o s => prom _ M a ns short o s
end Sw
/-! own exceptions over Exception, by own classes between, with own fields -/
namespace PySem
namespace SwE
open PySem.W PySem.Calls PyProof.Rows PySem.HandSPX
abbrev exT : List Value := [.type "Exception", .type "BaseException", .type "object"]
def over (rs : List Addr) : List Value := rs.map Value.ref ++ exT
theorem over_pass (self : Value) : ∀ rs : List Addr, refuseLoop self "__setattr__" (over rs) = pure ()
  | [] => F.store_Exception.passes self
  | r :: rs => by
    show refuseLoop self "__setattr__" (.ref r :: over rs) = pure ()
    rw [refuseLoop_ref]
    exact over_pass self rs
theorem over_has (T : String) : ∀ rs : List Addr, (over rs).contains (.type T) = exT.contains (.type T)
  | [] => rfl
  | r :: rs => by
    show (Value.ref r :: over rs).contains (.type T) = exT.contains (.type T)
    rw [List.contains_cons, over_has T rs]
    rfl
theorem over_cons (r : Addr) (rs : List Addr) : Value.ref r :: over rs = over (r :: rs) := rfl
section
open Builtin Builtin.ObjectAttr
variable {prog : Program} {w : World} {A : Around} {E : Value → Shared → Prop} {R : Result → Shared → Prop} {hp : Heap} {g : Array GenState} {d : Drawn} {t : Nat} {os : OsState}
/-- the first field of such an exception -/
theorem first_field {K : W.Frag} {name : Str} {tk : Tok} {v : Value} {x C : Addr} {fv : Array Value} {cd : ClassData} {rs : List Addr}
    (inK : K.In hp) (here : hp.get? x = some { cls := .ref C, data := .fields fv }) (cls : W.clsIn K C = some cd) (mro : cd.mro = over rs) (dict : cd.hasDict = true) (none' : W.findIn K (.ref C) name = some none)
    (hq : ∀ h' tk' dx, (∀ b o, b ≠ x → hp.get? b = some o → h'.get? b = some o) → hp.objs.size ≤ dx → dx ≠ x → h'.get? x = some { cls := .ref C, dict := some dx, data := .fields fv } →
      h'.Ns1 dx (fun y => if y = name then some v else none) → R (.ok (.ret .none)) ⟨h', g, d, tk', os⟩) :
    codeAny (model prog w) A (.call (.builtin "object.__setattr__") ⟨[.ref x, .str name tk, v], []⟩) R ⟨hp, g, d, t, os⟩ := by
  have inst : W.InstAt hp x { cls := .ref C, data := .fields fv } C none := ⟨here, rfl, rfl, trivial⟩
  have facts := F.store_object
  have isObj : cd.mro.contains (.type "object") = true := by rw [mro, over_has]; decide +kernel
  have notEmpty : cd.mro.isEmpty = false := by rw [mro]; cases rs <;> rfl
  have apart : x ≠ hp.objs.size := Nat.ne_of_lt (Heap.lt_size here)
  have sub : W.Looks (model prog w) hp (isInstance (.ref x) (.type "object")) true := inst.type.andThen (W.looks_mroIn inK (by unfold W.mroIn; rw [cls, Option.bind_some, if_neg (by rw [notEmpty]; decide), isObj]))
  apply codeAny_call_builtin facts.slot.plain facts.entry (@W.check_slot (model prog w) _ _ ⟨hp, g, d, t, os⟩ "object.__setattr__" "object" "__setattr__" (.ref x) [.str name tk, v] [] _ facts.kind facts.split sub (facts.args (.ref x) (.str name tk) v) ?_)
  have looksMro : W.Looks (model prog w) hp (mroOf (.ref C)) cd.mro := (W.looks_clsIn inK cls).andThen .now
  have noTaker : W.Looks (model prog w) hp (storeTaker? none) none := .now
  have looksCls : W.Looks (model prog w) hp (classData C) cd := W.looks_clsIn inK cls
  rw [W.osa_eq, refuse_eq]
  refine wpAny_bind (wpAny_bind (inst.type.at (wpAny_bind (looksMro.at ?_))))
  rw [mro, over_pass]
  refine wpAny_pure (wpAny_bind (inst.type.at (wpAny_bind ((W.looks_findIn inK none').at (wpAny_bind (noTaker.at ?_))))))
  show wpAny _ _ (storeInOwnDict (.ref x) (.ref C) (.str name tk) name v false) _ _ _
  obtain ⟨nm, bs, mr, ns, qn, hd, sn, sb, ab, col, del⟩ := cd
  dsimp only at dict
  subst dict
  unfold storeInOwnDict ownDictForStores
  repeat (first | with_reducible refine store_in_new ?_ ?_ | with_reducible refine wpAny_loadPart_at here ?_ | with_reducible refine looksCls.at ?_ | wp_step)
  · exact ⟨_, #[], _, (Heap.get?_update_ne _ _ _ _ apart.symm).trans (Heap.get?_push_at rfl rfl), rfl, fun e he => absurd he (by simp), fun _ => rfl⟩
  · intro h' tk' named same
    have still : (hp.push { cls := .type "dict", data := .dict #[] }).get? x = some { cls := .ref C, data := .fields fv } := Heap.get?_push_of_some _ here
    apply hq h' tk' hp.objs.size ?_ (Nat.le_refl _) apart.symm ?_ named
    · intro b o hb ho
      exact (same.2 b (Nat.ne_of_lt (Heap.lt_size ho))).trans ((Heap.get?_update_ne _ _ _ _ hb).trans (Heap.get?_push_of_some _ ho))
    · exact (same.2 x apart).trans (Heap.get?_update_self _ still rfl)
end
end SwE
end PySem
namespace Sw
open PySem PySem.Spec PyProof.Rows L2 PySem.SwE
/-- what the written part says of an own exception class over Exception -/
structure OexE (K : PySem.W.Frag) (C : Addr) : Prop where
  cls : ∃ nm q N bs rs sn sub ab col dd k0 k1 k2 k3 k5, K.lookup C = some (excClassObj nm q C N bs (over rs) true sn sub ab col dd k0 k1 k2 k3 k5 "Exception.__new__")
  sa : PySem.W.findIn K (.ref C) "__setattr__" = some (some (.builtin "object.__setattr__"))
  exC : PySem.W.subIn K (.ref C) (.type "BaseException") = some true
  tyC : PySem.W.typeIn K (.ref C) = some (.type "type")
  kC : PySem.W.keepIn K (.ref C) = true
section
variable {X : Cx} {pins : List (Addr × Obj)} {σ : L2.St} {H : Hp} {s : Shared} {a C dx : Addr} {f : Str} {y : V} {u : Value} {fs : List (Str × V)} {Q : Unit → Shared → Prop} {E : Value → Shared → Prop} {A : Around}
theorem field_new (T : OexE X.K C) (I : Inv X pins σ H s) (e : H a = some (exo a C none)) (no : PySem.W.findIn X.K (.ref C) f = some none) (ry : RelV y u)
    (h : ∀ dx s', H dx = none → dx ≠ a → Inv X pins σ (upd (upd H dx (exd dx [(f, y)])) a (exo a C (some dx))) s' → Q () s') : wpAny (model X.prog X.w) A (setAttr (.ref a) f u) Q E s := by
  obtain ⟨nm, q, N, bs, rs, sn, sub, ab, col, dd, k0, k1, k2, k3, k5, hC⟩ := T.cls
  have data : PySem.W.clsIn X.K C = some { name := nm, bases := bs, mro := .ref C :: over rs, ns := N, qualname := q, hasDict := true, slotNames := sn, subclasses := sub, abstract := ab, collection := col, hasDel := false } := by
    unfold PySem.W.clsIn
    rw [hC] <;> rfl
  obtain ⟨t1, there⟩ := exo_at I.hok e
  obtain ⟨hp, g, d, t, os⟩ := s
  apply PySem.W.set_plain I.kIn (ox := { cls := .ref C, dict := none, data := .fields #[.ref t1, .none, .none, .none, .bool false, .none] }) (od := none) ⟨there, rfl, rfl, trivial⟩ T.sa
  apply first_field I.kIn there data (over_cons C rs) rfl no
  intro h' tk' dx keep new apart now named
  have free : H dx = none := I.hok.fresh new
  have notNew : ∀ {b : Addr} {o : Obj}, hp.get? b = some o → b ≠ dx := fun z => Nat.ne_of_lt (Nat.lt_of_lt_of_le (Heap.lt_size z) new)
  have notIt : ∀ {b : Addr}, H b = none → b ≠ a := by
    rintro b n rfl
    rw [e] at n
    cases n
  have un : Un X.fs [] H (upd (upd H dx (exd dx [(f, y)])) a (exo a C (some dx))) hp h' := by
    constructor
    · exact fun b o z n _ _ => keep b o (notIt n) z
    · exact fun b o z n _ _ => ⟨o.slots, keep b o (notIt n) z⟩
    · intro b o z n _
      rw [upd_ne (notIt n), upd_ne (notNew z)]
      exact n
    · intro b o z _
      by_cases c : b = a
      · exact ⟨_, by rw [c]; exact now⟩
      · exact ⟨o, keep b o c z⟩
    · intro b xs z
      rw [upd_ne (at_ne e z exo_tup), upd_ne (ne_of_none z free)]
      exact z
    · intro b o v z
      rw [upd_ne (at_ne e z exo_frz), upd_ne (ne_of_none z free)]
      exact z
    · exact fun b ps z => ⟨#[], by rw [upd_ne (at_ne e z exo_tbl), upd_ne (ne_of_none z free), z]; simp⟩
  apply h dx _ free apart
  apply I.un (t' := tk') un
  intro b o z
  by_cases c : b = a
  · subst c
    rw [upd_same] at z
    cases z
    exact exo_ok now
  · rw [upd_ne c] at z
    by_cases c2 : b = dx
    · subst c2
      rw [upd_same] at z
      cases z
      exact exd_ok named (relO_put (fs := []) ry fun g => True.intro)
    · rw [upd_ne c2] at z
      apply (I.hok b o z).stay
      · intro cc v hc zz
        apply keep cc v _ zz
        rcases hc with hc | hc
        · rw [hc]; exact c
        · exact at_ne e hc exo_own
      · intro cc hc
        rw [upd_ne (at_ne e hc exo_own), upd_ne (ne_of_none hc free)]
        exact hc
      · intro cc xs hc
        rw [upd_ne (at_ne e hc exo_tup), upd_ne (ne_of_none hc free)]
        exact hc
/-- Exception.__init__(self, ..): nothing of it is told -/
theorem init_plain {us : List Value} {R : Value → Shared → Prop} (T : OexE X.K C) (I : Inv X pins σ H s) (e : H a = some (exo a C none)) (few : us.length ≤ sizeLine) (h : ∀ s', Inv X pins σ H s' → R .none s') :
    wpAny (model X.prog X.w) A (call (.builtin "Exception.__init__") (.ref a :: us)) R E s := by
  obtain ⟨nm, q, N, bs, rs, sn, sub, ab, col, dd, k0, k1, k2, k3, k5, hC⟩ := T.cls
  obtain ⟨t1, there⟩ := exo_at I.hok e
  obtain ⟨hp, g, d, t, os⟩ := s
  apply wpAny_call (PySem.HandSPX.init_base F.excBase_Exception (fun Y => over_has Y rs) (I.kIn _ _ hC) there few ?_)
  intro h' t2 keep now
  have J := I.write (t' := t) (x := a) (e := a) (o := exo a C none) (by rw [e]; exact True.intro) (.inl rfl) keep ⟨_, now⟩ (exo_ok now)
  have same : upd H a (exo a C none) = H := by
    funext b
    by_cases c : b = a
    · rw [c, upd_same, e]
    · rw [upd_ne c]
  rw [same] at J
  exact h _ J
end
/-- B.__init__(self, ..), B's own one being Exception's -/
def tInit (K : PySem.W.Frag) (ta : TA) : TE := fun σ H Q => ta σ H fun vs H1 => ∃ (a C : Addr) (ws : List V), vs = .ref a :: ws ∧ ws.length ≤ 1000 ∧ OexE K C ∧ H1 a = some (exo a C none) ∧ Q .non H1
/-- self.f = e, the first field -/
def tFst (K : PySem.W.Frag) (f : Str) (to te : TE) : TS := fun D σ H => te σ H fun y H1 => to σ H1 fun x H2 => ∃ a C : Addr, x = .ref a ∧ OexE K C ∧ PySem.W.findIn K (.ref C) f = some none ∧
  H2 a = some (exo a C none) ∧ ∀ dx, H2 dx = none → dx ≠ a → D.nx σ (upd (upd H2 dx (exd dx [(f, y)])) a (exo a C (some dx)))
section
variable {X : Cx} {o e : Expr} {es : List Expr} {to te : TE} {ta : TA} {f : Str} {p p' p1 p2 pos : Pos}
theorem ps_fst (ho : PE X o to) (he : PE X e te) (hs : swapsWith e (some (.Attribute o f p')) pos.line X.env = pure false := by rfl) : PS X (.Assign [.Attribute o f p'] e pos) (tFst X.K f to te) := by
  constructor
  intro pins s σ H D I h
  apply plainObj_wpAny_Assign_Attribute (thn (he.run pins s σ H _ I h) fun v s1 ⟨y, H1, I1, r1, q1⟩ => thn (ho.run pins s1 σ H1 _ I1 q1) fun u s2 ⟨x, H2, I2, r2, a, C, ex, T, no, ea, q⟩ => ?_) hs
  subst ex
  obtain rfl : u = Value.ref a := r2
  exact field_new T I2 ea no r1 fun dx s' n ne J => ⟨σ, _, J, q dx n ne⟩
theorem ps_init {x : Str} {B : Addr} {pl : Sem Bool} (hg : Gl X x) (hm : X.mg x = some (.ref B)) (ga : PySem.W.specialIn X.K (.ref B) "__getattribute__" = some (some (.builtin "type.__getattribute__"))) (tyB : PySem.W.typeIn X.K (.ref B) = some (.type "type"))
    (rd : PySem.W.readsIn X.K B (.type "type") = true) (fi : PySem.W.findCls X.K (.ref B) (.type "type") "__init__" = some (.val (.builtin "Exception.__init__"))) (ha : PA X (e :: es) ta)
    (hc : eval (.Call (.Attribute (.Name x p1) "__init__" p2) (e :: es) [] pos) X.env = (do
      let ov ← eval (.Name x p1) X.env
      standAt p2.atName
      let (f, first) ← holding [ov] (getMethod ov "__init__" pl)
      callWith pos f first (backTo pos (starEach (e :: es) X.env)) (backToKw pos (keywordEach [] X.env))) := by rfl)
    (hdb : (x == ("__debug__" : Str)) = false := by decide)
    (he : starEach (e :: es) X.env = (false, eval e X.env) :: starEach es X.env := by rfl) (hpl : (backTo pos (starEach es X.env)).any (·.1) = false := by rfl) :
    PE X (.Call (.Attribute (.Name x p1) "__init__" p2) (e :: es) [] pos) (tInit X.K ta) := by
  constructor
  intro pins s σ H Q I h
  apply PySem.W.methodCall_KW (ld_glob I hg hm ?_ hdb) hc
  apply PySem.W.method_cls I.kIn ga
  apply PySem.W.cls_value I.kIn rd fi (by decide +kernel)
  show wpAny _ _ (callWith pos (Value.builtin "Exception.__init__") [] (backTo pos (starEach (e :: es) X.env)) []) _ _ _
  apply PyProof.Rows.callWith_method1 (thn (ha.run pos pins _ σ H _ (I.tok _) h) fun us s1 ⟨vs, H1, I1, r1, a, C, ws, ev, hl, T, ea, q⟩ => ?_) he hpl
  subst ev
  cases r1 with
  | @cons _ u0 _ ur ra rest =>
    obtain rfl : u0 = Value.ref a := ra
    have few : ur.length ≤ sizeLine := by
      rw [← Paired.length rest, sizeLine_eq]
      omega
    exact init_plain T I1 ea few fun s' J => ⟨.non, H1, J, rfl, q⟩
end
end Sw
namespace Sw
open PySem PySem.Spec PyProof.Rows L2 PySem.SwE
section
variable {X : Cx} {e : Expr} {es : List Expr} {ta : TA} {p pos : Pos} {CX : CXT} {x : Str} {C fI : Addr} {k : Nat} {fd : FuncData} {ps : List Str} {sp : Sp}
/-- C(e, ..), C an own exception class over Exception whose __init__ keeps sp -/
theorem pmk_E (T : OexE X.K C) (iC : PySem.W.findIn X.K (.ref C) "__init__" = some (some (.ref fI))) (tI : PySem.W.typeIn X.K (.ref fI) = some (.type "function")) (F1 : FnOk X.prog X.w X.K X.mg X.base CX k fI fd ps sp) (room : Room (k + 1) X.A) (bd : Binds X.K fd ps [])
    (px : Passes CX X E0) (hm : X.mg x = some (.ref C)) (ha : PA X (e :: es) ta) (hg : Gl X x := by rfl)
    (hdb : (x == ("__debug__" : Str)) = false := by decide) (he : starEach (e :: es) X.env = (false, eval e X.env) :: starEach es X.env := by rfl) (hpl : (backTo pos (starEach es X.env)).any (·.1) = false := by rfl) :
    PMk X (.Call (.Name x p) (e :: es) [] pos) (tMkO C sp [] ta) := by
  intro pins s σ H Q I h
  obtain ⟨nm, q, N, bs, rs, sn, sub, ab, col, dd, k0, k1, k2, k3, k5, hC⟩ := T.cls
  refine wpAny_Call_Name_kw (ld_glob I hg hm ?_ hdb)
  refine PySem.W.callWith_K (h₀ := X.base) I.ok.mod.kin T.kC (thn (ha.run pos pins s σ H _ I h) fun us s1 ⟨vs, H1, I1, r1, few, q1⟩ => ⟨I1.kIn, ?_⟩) he hpl
  show wpAny _ _ (call (.ref C) us) _ _ _
  obtain ⟨hp, g, dr, tk, os⟩ := s1
  have le : hp.objs.size ≤ hp.objs.size + 1 := Nat.le_succ _
  have free : H1 (hp.objs.size + 1) = none := I1.hok.fresh le
  have said := q1 (hp.objs.size + 1) free
  have keep : ∀ b o, hp.get? b = some o → ((hp.push (PySem.W.kdv_tup us)).push (PySem.HandSPX.excO C hp.objs.size)).get? b = some o := fun b o z => Heap.get?_push_of_some _ (Heap.get?_push_of_some _ z)
  have made : ((hp.push (PySem.W.kdv_tup us)).push (PySem.HandSPX.excO C hp.objs.size)).get? (hp.objs.size + 1) = some (PySem.HandSPX.excO C hp.objs.size) := by heap_get
  have I2 : Inv X pins σ (upd H1 (hp.objs.size + 1) (exo (hp.objs.size + 1) C none)) ⟨(hp.push (PySem.W.kdv_tup us)).push (PySem.HandSPX.excO C hp.objs.size), g, dr, tk, os⟩ :=
    I1.laid (t' := tk) (a := hp.objs.size + 1) (o := exo (hp.objs.size + 1) C none) (h' := (hp.push (PySem.W.kdv_tup us)).push (PySem.HandSPX.excO C hp.objs.size)) keep le (exo_ok made)
  have both : Vals (V.ref (hp.objs.size + 1) :: (vs ++ [])) (Value.ref (hp.objs.size + 1) :: (us ++ [])) := .cons rfl (r1.append .nil)
  have count : (Value.ref (hp.objs.size + 1) :: us ++ []).length = ps.length := by
    have z := both.length
    rw [F1.len _ _ _ _ said] at z
    exact z.symm
  have bound := bd _ (Value.ref (hp.objs.size + 1) :: us) I2.kIn count
  rw [List.cons_append] at bound
  have few' : us.length ≤ sizeLine := by
    rw [← Paired.length r1, sizeLine_eq]
    omega
  refine wpAny_call (PySem.HandSPX.call_own F.excBase_Exception (fun Y => over_has Y rs) (I1.kIn _ _ hC) (PySem.W.looks_findIn I1.kIn iC) (fun self => PySem.W.bind_fn I1.kIn self tI) few' (codeAny_mono (F1.run _ X.stack _ _ ⟨Value.ref (hp.objs.size + 1) :: us, []⟩ (Value.ref (hp.objs.size + 1) :: (us ++ [])) _ _ E0
    (room.make C us []) (I2.env0.make C us []) bound both said) fun r s' z => ?_))
  rcases r with er | fl
  · exact px pins σ _ _ er s' I2 z
  · cases fl with
    | next => exact z.elim
    | brk => exact z.elim
    | cont => exact z.elim
    | ret u =>
      obtain ⟨v, H2, os2, bare, un, ok, rv, ev, d, fs, ea, ed, hd1, q2⟩ := z
      subst ev
      obtain ⟨h2, g2, d2, t2, os'⟩ := s'
      exact ⟨rv, mk_end (raises_own T.exC T.tyC) I1 le keep un ok os2 bare ea ed hd1 q2⟩
end
end Sw
namespace Sw
open PySem PySem.Spec PyProof.Rows L2 PySem.SwE
/-! ### defs that may let out an exception -/
theorem Fun.okX {P : Program} {w : World} {K : PySem.W.Frag} {mg : Str → Option Value} {base : Heap} {k : Nat} {f : Addr} {fd : FuncData} {ps : List Str} {sp : Sp} {x qual : Str} {st : Stmt} {N : List Str} (F : Fun K x qual st f fd) (S : FnScope N ps (defScope st)) (len : ∀ xs M R X, sp xs M R X → xs.length = ps.length)
    (body : ∀ (cdv : Value) (A : Around) (out : List Env) (t : Shared) (M : Hp) (xs : List V) (R : VK) (E : XK), Room k (A.deeper (envOfC qual (defScope st) t.heap.objs.size f cdv)) → sp xs M R E →
      Takes (cxOf (L2.CX P w) P w K mg base N qual (defScope st) f cdv A out t M E) (fun cls d _ M' => E cls d M') →
      ∃ r, PSs (cxOf (L2.CX P w) P w K mg base N qual (defScope st) f cdv A out t M E) (defBody st) r ∧ r { nx := fun _ M' => R .non M', rt := R } (start N xs) M) : FnOk P w K mg base (L2.CX P w) (k + 1) f fd ps sp := by
  obtain ⟨oc, od, kV, doc, pm, an, cdv, ct, osl, rfl, found, coded⟩ := F.ex
  exact fn_of found coded S len fun A out t M xs R E room prom => body cdv A out t M xs R E room prom (takes_of rfl rfl rfl rfl)
section
variable (P : Program) (w : World) (K : PySem.W.Frag) (mg : Str → Option Value) (base : Heap)
def CalX (x : Str) (ps : List Str) (k : Nat) (sp : Sp) : Prop := ∃ (f : Addr) (fd : FuncData), FnOk P w K mg base (L2.CX P w) k f fd ps sp ∧ mg x = some (.ref f) ∧ PySem.W.keepIn K (.ref f) = true ∧ Binds K fd ps []
def CalKX (x : Str) (ps : List Str) (k : Nat) (sp : Sp) (ks : List Str) (g : List Value → List Value → List Value) (gV : List V → List V → List V) : Prop := ∃ (f : Addr) (fd : FuncData), FnOk P w K mg base (L2.CX P w) k f fd ps sp ∧ mg x = some (.ref f) ∧ PySem.W.keepIn K (.ref f) = true ∧ KBinds K fd ps ks g gV
end
section
variable {P : Program} {w : World} {K : PySem.W.Frag} {mg : Str → Option Value} {base : Heap} {x : Str} {st : Stmt} {ps ks : List Str} {k : Nat} {sp : Sp}
theorem Def.calX (d : Def K mg x st)
    (b : ∀ (kV doc pm : Value) (an : Option Addr) (cdv ct : Value) (us : List Value), us.length = ps.length → bindArgs (PySem.W.fnOf x x (defArgs st) (defBody st) (defScope st) .none kV doc pm an cdv ct) ⟨us, []⟩ = pure (ps.zip us))
    (ok : ∀ (f : Addr) (fd : FuncData), Fun K x x st f fd → FnOk P w K mg base (L2.CX P w) k f fd ps sp) : CalX P w K mg base x ps k sp := by
  obtain ⟨f, fd, F, m⟩ := d
  exact ⟨f, fd, ok f fd F, m, F.kp, F.binds b⟩
theorem Def.calKX {g : List Value → List Value → List Value} {gV : List V → List V → List V} (d : Def K mg x st)
    (b : ∀ (kV doc pm : Value) (an : Option Addr) (cdv ct : Value) (us ws : List Value), (g us ws).length = ps.length → bindArgs (PySem.W.fnOf x x (defArgs st) (defBody st) (defScope st) .none kV doc pm an cdv ct) ⟨us, ks.zip ws⟩ = pure (ps.zip (g us ws)))
    (rel : ∀ {vs : List V} {us : List Value} {zs : List V} {ws : List Value}, Vals vs us → Vals zs ws → Vals (gV vs zs) (g us ws))
    (ok : ∀ (f : Addr) (fd : FuncData), Fun K x x st f fd → FnOk P w K mg base (L2.CX P w) k f fd ps sp) : CalKX P w K mg base x ps k sp ks g gV := by
  obtain ⟨f, fd, F, m⟩ := d
  have O := ok f fd F
  have kp := F.kp
  obtain ⟨oc, od, kV, doc, pm, an, cdv, ct, osl, rfl, lk, hcd⟩ := F.ex
  exact ⟨f, _, O, m, kp, fun s us ws _ hl => .of_eq (b kV doc pm an cdv ct us ws hl), rel⟩
end
def tKwS (sp : Sp) (gV : List V → List V → List V) (E : L2.St → XK) (tk : TA) : TE := fun σ H Q => tk σ H fun zs H1 => sp (gV [] zs) H1 Q (E σ)
section
variable {X : Cx} {x : Str} {ps ks : List Str} {k n : Nat} {sp : Sp} {e : Expr} {es : List Expr} {t : TA} {p pos : Pos} {W : WX} {g : List Value → List Value → List Value} {gV : List V → List V → List V} {kws : List Keyword}
theorem pe_calX (c : CalX X.prog X.w X.K X.mg X.base x ps k sp) (hr : Room n X.A) (tk : Takes X W) (ha : PA X (e :: es) t) (hg : Gl X x := by rfl) (hk : k ≤ n := by decide)
    (hdb : (x == ("__debug__" : Str)) = false := by decide) (he : starEach (e :: es) X.env = (false, eval e X.env) :: starEach es X.env := by rfl) (hpl : (backTo pos (starEach es X.env)).any (·.1) = false := by rfl) :
    PE X (.Call (.Name x p) (e :: es) [] pos) (tCallS sp (WE W) t) := by
  obtain ⟨f, fd, F, m, kp, b⟩ := c
  exact pe_callS F (hr.mono hk) hg m kp b (passAt tk) ha hdb he hpl
theorem i_callS {σ : L2.St} {H : Hp} {Q : VK} {E : L2.St → XK} (h : t σ H fun vs H1 => sp vs H1 Q (E σ)) : tCallS sp E t σ H Q := h
theorem pe_calKX (c : CalKX X.prog X.w X.K X.mg X.base x ps k sp ks g gV) (hr : Room n X.A) (tk : Takes X W) (hkw : PK X kws t) (hg : Gl X x := by rfl) (hk : k ≤ n := by decide)
    (hall : (backToKw pos (keywordEach kws X.env)).all (·.1.isSome) = true := by rfl) (hks : (backToKw pos (keywordEach kws X.env)).filterMap (·.1) = ks := by rfl) (hdb : (x == ("__debug__" : Str)) = false := by decide)
    (hpl : ((backTo pos (starEach [] X.env)).any (·.1) || (backToKw pos (keywordEach kws X.env)).any (·.1.isNone)) = false := by rfl) :
    PE X (.Call (.Name x p) [] kws pos) (tKwS sp gV (WE W) t) := by
  obtain ⟨f, fd, F, m, kp, b⟩ := c
  constructor
  intro pins s σ H Q I h
  apply wpAny_Call_Name_kw (ld_glob I hg m ?_ hdb)
  refine PySem.W.callWith_KW0 (h₀ := X.base) I.ok.mod.kin kp hall (thn (hkw.run pos pins s σ H _ I h) fun ws s2 ⟨zs, H2, I2, rz, q⟩ => ⟨I2.kIn, ?_⟩) hpl
  rw [hks]
  have rel := b.rel (vs := []) (us := []) .nil rz
  have count : (g [] ws).length = ps.length := by rw [← rel.length]; exact F.len _ _ _ _ q
  apply wpAny_call
  apply codeAny_mono (F.run X.A X.stack s2 H2 ⟨[], ks.zip ws⟩ (g [] ws) (gV [] zs) Q (WE W σ) (hr.mono hk) I2.env0 (b.to s2 [] ws I2.kIn count) rel q)
  intro o s' z
  rcases o with er | fl
  · exact passAt tk σ pins H2 s2 er s' I2 z
  · cases fl with
    | ret u => exact I2.after z
    | next => exact z.elim
    | brk => exact z.elim
    | cont => exact z.elim
theorem i_kwS {σ : L2.St} {H : Hp} {Q : VK} {E : L2.St → XK} (h : t σ H fun zs H1 => sp (gV [] zs) H1 Q (E σ)) : tKwS sp gV E t σ H Q := h
end
theorem takes_none {X : Cx} : Takes X (fun _ _ _ _ => False) := fun u s' z => by
  obtain ⟨a, B, sI, pins, σ, H, cls, d, e, I, nb, up, sky, na, os, ag, w⟩ := z
  exact w.elim
end Sw
namespace Sw
open PySem PySem.Spec PyProof.Rows L2
/-! ### data with dicts in it -/
def keyD : Key → PyData
  | .inl i => .int i
  | .inr x => .str x
mutual
inductive De (K : PySem.W.Frag) (H : Hp) : V → PyData → Prop
  | non : De K H .non .none
  | bl (b : Bool) : De K H (.bl b) (.bool b)
  | int (i : Int) : De K H (.int i) (.int i)
  | str (x : Str) : De K H (.str x) (.str x)
  | lst {a : Addr} {xs : List V} {ds : List PyData} : H a = some (.lst xs) → sysModules < a → DeAll K H xs ds → De K H (.ref a) (.list ds)
  | tup {a : Addr} {xs : List V} {ds : List PyData} : SqT K H a xs → DeAll K H xs ds → De K H (.ref a) (.tuple ds)
  | dict {a : Addr} {kvs : List (Key × V)} {ds : List (PyData × PyData)} : H a = some (.dK kvs) → DeKv K H kvs ds → De K H (.ref a) (.dict ds)
inductive DeAll (K : PySem.W.Frag) (H : Hp) : List V → List PyData → Prop
  | nil : DeAll K H [] []
  | cons {v : V} {vs : List V} {d : PyData} {ds : List PyData} : De K H v d → DeAll K H vs ds → DeAll K H (v :: vs) (d :: ds)
inductive DeKv (K : PySem.W.Frag) (H : Hp) : List (Key × V) → List (PyData × PyData) → Prop
  | nil : DeKv K H [] []
  | cons {k : Key} {v : V} {vs : List (Key × V)} {d : PyData} {ds : List (PyData × PyData)} : De K H v d → DeKv K H vs ds → DeKv K H ((k, v) :: vs) ((keyD k, d) :: ds)
end
theorem key_reads {h : Heap} {k : Key} {u : Value} (e : keyIs k u = true) : Reads h u (keyD k) [] := by
  rcases keyIs_shape e with ⟨i, t, rfl, rfl⟩ | ⟨x, t, rfl, rfl⟩
  · exact .int i t
  · exact .str x t
section
variable {X : Cx} {pins : List (Addr × Obj)} {σ : L2.St} {H : Hp} {s : Shared}
mutual
theorem De.reads (I : Inv X pins σ H s) : ∀ (d : PyData) (v : V) (u : Value), De X.K H v d → RelV v u → ∃ as, Reads s.heap u d as ∧ sysModules ∉ as
  | .none, _, _, h, r => by
    cases h
    cases r
    exact ⟨_, Reads.none, by simp⟩
  | .bool b, _, _, h, r => by
    cases h
    cases r
    exact ⟨_, Reads.bool b, by simp⟩
  | .int i, _, _, h, r => by
    cases h
    obtain ⟨t, rfl⟩ := r
    exact ⟨_, Reads.int i t, by simp⟩
  | .str x, _, _, h, r => by
    cases h
    obtain ⟨t, rfl⟩ := r
    exact ⟨_, Reads.str x t, by simp⟩
  | .list ds, _, _, h, r => by
    cases h with
    | lst hs hlt ha =>
      cases r
      obtain ⟨its, rv, ⟨o, n, ho, hc, _, hd⟩, _⟩ := I.list (.inl (.inl hs))
      obtain ⟨as, hr, hn⟩ := De.readsAll I ds _ its ha rv
      exact ⟨_, Reads.list ho hc hd hr, by
        intro z
        rcases List.mem_cons.mp z with z | z
        · exact Nat.lt_irrefl _ (z ▸ hlt)
        · exact hn z⟩
  | .tuple ds, _, _, h, r => by
    cases h with
    | tup hs ha =>
      cases r
      obtain ⟨its, rv, ⟨o, ho, hc, n, hd⟩, _⟩ := I.tuple hs
      obtain ⟨as, hr, hn⟩ := De.readsAll I ds _ its ha rv
      exact ⟨_, Reads.tuple ho hc hd hr, hn⟩
  | .dict ds, _, _, h, r => by
    cases h with
    | dict hs ha =>
      cases r
      obtain ⟨_, notSys, vs, kv, o, es, ep, ho, ex, hd, _, pr, _⟩ : ObjOk X.prog X.w H s.heap _ (.dK _) := I.hok _ _ hs
      obtain ⟨as, bs, hr1, hr2, hn1, hn2⟩ := De.readsKv I ds _ vs es.toList ha kv pr
      exact ⟨_, Reads.dict ho ex.1 hd hr1 hr2, by
        intro z
        rcases List.mem_append.mp z with z | z
        · rcases List.mem_cons.mp z with z | z
          · rw [← z] at notSys
            exact absurd notSys (by decide)
          · exact hn1 z
        · exact hn2 z⟩
theorem De.readsAll (I : Inv X pins σ H s) : ∀ (ds : List PyData) (vs : List V) (us : List Value), DeAll X.K H vs ds → Vals vs us → ∃ as, ReadsAll s.heap us ds as ∧ sysModules ∉ as
  | [], _, _, h, r => by
    cases h
    cases r
    exact ⟨_, ReadsAll.nil, by simp⟩
  | d :: ds, _, _, h, r => by
    cases h with
    | cons h1 h2 =>
      cases r with
      | cons r1 r2 =>
        obtain ⟨as, q1, n1⟩ := De.reads I d _ _ h1 r1
        obtain ⟨bs, q2, n2⟩ := De.readsAll I ds _ _ h2 r2
        exact ⟨_, ReadsAll.cons q1 q2, fun z => (List.mem_append.mp z).elim n1 n2⟩
theorem De.readsKv (I : Inv X pins σ H s) : ∀ (ds : List (PyData × PyData)) (kvs : List (Key × V)) (vs : List (Key × Value)) (es : List DictEntry), DeKv X.K H kvs ds → KV kvs vs → Pairs (mixKind X.prog X.w) es vs →
    ∃ as bs, ReadsAll s.heap (es.map (·.key)) (ds.map (·.1)) as ∧ ReadsAll s.heap (es.map (·.val)) (ds.map (·.2)) bs ∧ sysModules ∉ as ∧ sysModules ∉ bs
  | [], _, _, _, h, r, p => by
    cases h
    cases r
    cases p
    exact ⟨_, _, ReadsAll.nil, ReadsAll.nil, by simp, by simp⟩
  | d :: ds, _, _, _, h, r, p => by
    cases h with
    | cons h1 h2 =>
      cases r with
      | cons r1 r2 =>
        cases p with
        | cons p1 p2 p3 =>
          obtain ⟨as, q1, n1⟩ := De.reads I _ _ _ h1 r1.2
          obtain ⟨bs, cs, q2, q3, n2, n3⟩ := De.readsKv I _ _ _ _ h2 r2 p3
          refine ⟨[] ++ bs, as ++ cs, ?_, ?_, by simpa using n2, fun z => (List.mem_append.mp z).elim n1 n3⟩
          · rw [List.map_cons, List.map_cons]
            refine .cons (key_reads ?_) q2
            have e := r1.1
            dsimp only at e
            rw [e]
            exact p1
          · rw [List.map_cons, List.map_cons]
            refine .cons ?_ q3
            rw [p2]
            exact q1
end
/-! ### small data -/
mutual
def sok : PyData → Bool
  | .str z => PyData.strOk z
  | .list xs => sokAll xs
  | .tuple xs => sokAll xs
  | _ => true
def sokAll : List PyData → Bool
  | [] => true
  | x :: xs => sok x && sokAll xs
end
mutual
theorem sok_lay : ∀ {d : PyData}, sok d = true → d.hasDict = false → d.canLay0 = true
  | .none, _, _ => by simp only [PyData.canLay0]
  | .bool _, _, _ => by simp only [PyData.canLay0]
  | .int _, _, _ => by simp only [PyData.canLay0]
  | .str z, h, _ => by simp only [PyData.canLay0]; simpa only [sok] using h
  | .list xs, h, z => by
    simp only [PyData.canLay0]
    exact sokAll_lay (by simpa only [sok] using h) (by simpa only [PyData.hasDict] using z)
  | .tuple xs, h, z => by
    simp only [PyData.canLay0]
    exact sokAll_lay (by simpa only [sok] using h) (by simpa only [PyData.hasDict] using z)
  | .dict _, _, z => by simp only [PyData.hasDict] at z; cases z
theorem sokAll_lay : ∀ {ds : List PyData}, sokAll ds = true → PyData.hasDictAll ds = false → PyData.canLayAll0 ds = true
  | [], _, _ => by simp only [PyData.canLayAll0]
  | d :: ds, h, z => by
    simp only [sokAll, Bool.and_eq_true] at h
    simp only [PyData.hasDictAll, Bool.or_eq_false_iff] at z
    simp only [PyData.canLayAll0, sok_lay h.1 z.1, sokAll_lay h.2 z.2, Bool.and_self]
end
structure Sd (n w : Nat) (d : PyData) : Prop where
  dep : d.depth ≤ n
  wei : d.weight ≤ w
  sh : d.showable = true
  ls : d.leavesShort 60 = true
  ok : sok d = true
structure SdAll (n w : Nat) (ds : List PyData) : Prop where
  dep : PyData.depthAll ds ≤ n
  wei : PyData.weightAll ds ≤ w
  sh : PyData.showableAll ds = true
  ls : PyData.leavesShortAll 60 ds = true
  ok : sokAll ds = true
theorem Sd.mono {n w n' w' : Nat} {d : PyData} (s : Sd n w d) (h1 : n ≤ n') (h2 : w ≤ w') : Sd n' w' d := ⟨Nat.le_trans s.dep h1, Nat.le_trans s.wei h2, s.sh, s.ls, s.ok⟩
theorem SdAll.mono {n w n' w' : Nat} {d : List PyData} (s : SdAll n w d) (h1 : n ≤ n') (h2 : w ≤ w') : SdAll n' w' d := ⟨Nat.le_trans s.dep h1, Nat.le_trans s.wei h2, s.sh, s.ls, s.ok⟩
theorem SdAll.nil {n : Nat} : SdAll n 0 [] := ⟨by simp only [PyData.depthAll]; omega, by simp only [PyData.weightAll]; omega, by simp only [PyData.showableAll], by simp only [PyData.leavesShortAll], by simp only [sokAll]⟩
theorem SdAll.cons {n w v : Nat} {d : PyData} {ds : List PyData} (h : Sd n w d) (k : SdAll n v ds) : SdAll n (w + 1 + v) (d :: ds) := by
  obtain ⟨a1, a2, a3, a4, a5⟩ := h
  obtain ⟨b1, b2, b3, b4, b5⟩ := k
  exact ⟨by simp only [PyData.depthAll]; omega, by simp only [PyData.weightAll]; omega, by simp only [PyData.showableAll, a3, b3, Bool.and_self], by simp only [PyData.leavesShortAll, a4, b4, Bool.and_self], by simp only [sokAll, a5, b5, Bool.and_self]⟩
theorem SdAll.inv {n w : Nat} {d : PyData} {ds : List PyData} (h : SdAll n w (d :: ds)) : ∃ u v, u + 1 + v ≤ w ∧ Sd n u d ∧ SdAll n v ds := by
  obtain ⟨a1, a2, a3, a4, a5⟩ := h
  simp only [PyData.depthAll] at a1
  simp only [PyData.weightAll] at a2
  simp only [PyData.showableAll, Bool.and_eq_true] at a3
  simp only [PyData.leavesShortAll, Bool.and_eq_true] at a4
  simp only [sokAll, Bool.and_eq_true] at a5
  exact ⟨d.weight, PyData.weightAll ds, by omega, ⟨by omega, Nat.le_refl _, a3.1, a4.1, a5.1⟩, ⟨by omega, Nat.le_refl _, a3.2, a4.2, a5.2⟩⟩
theorem SdAll.app {n : Nat} : ∀ {w v : Nat} {ds es : List PyData}, SdAll n w ds → SdAll n v es → SdAll n (w + v) (ds ++ es)
  | _, _, [], _, _, k => k.mono (Nat.le_refl _) (by omega)
  | _, _, d :: ds, es, h, k => by
    obtain ⟨a, b, hab, h1, h2⟩ := h.inv
    exact (SdAll.cons h1 (h2.app k)).mono (Nat.le_refl _) (by omega)
theorem SdAll.take {n : Nat} : ∀ {w : Nat} {ds : List PyData} (k : Nat), SdAll n w ds → SdAll n w (ds.take k)
  | _, ds, 0, _ => by rw [List.take_zero]; exact SdAll.nil.mono (Nat.le_refl _) (by omega)
  | _, [], k + 1, h => by rw [List.take_nil]; exact h
  | _, d :: ds, k + 1, h => by
    obtain ⟨a, b, hab, h1, h2⟩ := h.inv
    rw [List.take_succ_cons]
    exact (SdAll.cons h1 (h2.take k)).mono (Nat.le_refl _) (by omega)
theorem SdAll.drop {n : Nat} : ∀ {w : Nat} {ds : List PyData} (k : Nat), SdAll n w ds → SdAll n w (ds.drop k)
  | _, ds, 0, h => h
  | _, [], k + 1, h => by rw [List.drop_nil]; exact h
  | _, d :: ds, k + 1, h => by
    obtain ⟨a, b, hab, h1, h2⟩ := h.inv
    rw [List.drop_succ_cons]
    exact (h2.drop k).mono (Nat.le_refl _) (by omega)
theorem SdAll.get {n : Nat} : ∀ {w : Nat} {ds : List PyData} {d : PyData}, SdAll n w ds → d ∈ ds → Sd n w d
  | _, d :: ds, e, h, hm => by
    obtain ⟨a, b, hab, h1, h2⟩ := h.inv
    rcases List.mem_cons.mp hm with rfl | hm
    · exact h1.mono (Nat.le_refl _) (by omega)
    · exact (h2.get hm).mono (Nat.le_refl _) (by omega)
theorem sd_all {n w : Nat} : ∀ {ds : List PyData}, (∀ d ∈ ds, Sd n w d) → SdAll n (ds.length * (w + 1)) ds
  | [], _ => SdAll.nil.mono (Nat.le_refl _) (by omega)
  | d :: ds, h => (SdAll.cons (h d List.mem_cons_self) (sd_all (ds := ds) fun x hx => h x (List.mem_cons_of_mem _ hx))).mono (Nat.le_refl _) (by rw [List.length_cons, Nat.succ_mul]; omega)
theorem sd_lst' {n w : Nat} {ds : List PyData} (h : SdAll n w ds) : Sd (n + 1) w (.list ds) := by
  obtain ⟨b1, b2, b3, b4, b5⟩ := h
  exact ⟨by simp only [PyData.depth]; omega, by simp only [PyData.weight]; exact b2, by simp only [PyData.showable, b3], by simp only [PyData.leavesShort, b4], by simp only [sok, b5]⟩
theorem sd_tup' {n w : Nat} {ds : List PyData} (h : SdAll n w ds) : Sd (n + 1) w (.tuple ds) := by
  obtain ⟨b1, b2, b3, b4, b5⟩ := h
  exact ⟨by simp only [PyData.depth]; omega, by simp only [PyData.weight]; exact b2, by simp only [PyData.showable, b3], by simp only [PyData.leavesShort, b4], by simp only [sok, b5]⟩
theorem sd_lst {n w : Nat} {ds : List PyData} (h : ∀ d ∈ ds, Sd n w d) : Sd (n + 1) (ds.length * (w + 1)) (.list ds) := sd_lst' (sd_all h)
theorem sd_tup {n w : Nat} {ds : List PyData} (h : ∀ d ∈ ds, Sd n w d) : Sd (n + 1) (ds.length * (w + 1)) (.tuple ds) := sd_tup' (sd_all h)
theorem Sd.tupI {n w : Nat} {ds : List PyData} (s : Sd (n + 1) w (.tuple ds)) : SdAll n w ds := by
  obtain ⟨b1, b2, b3, b4, b5⟩ := s
  simp only [PyData.depth] at b1
  exact ⟨by omega, by simpa only [PyData.weight] using b2, by simpa only [PyData.showable] using b3, by simpa only [PyData.leavesShort] using b4, by simpa only [sok] using b5⟩
theorem Sd.lstI {n w : Nat} {ds : List PyData} (s : Sd (n + 1) w (.list ds)) : SdAll n w ds := by
  obtain ⟨b1, b2, b3, b4, b5⟩ := s
  simp only [PyData.depth] at b1
  exact ⟨by omega, by simpa only [PyData.weight] using b2, by simpa only [PyData.showable] using b3, by simpa only [PyData.leavesShort] using b4, by simpa only [sok] using b5⟩
theorem sd_non : Sd 0 0 .none := ⟨by simp only [PyData.depth]; omega, by simp only [PyData.weight]; omega, by simp only [PyData.showable], by simp only [PyData.leavesShort], by simp only [sok]⟩
theorem sd_bl (b : Bool) : Sd 0 0 (.bool b) := ⟨by simp only [PyData.depth]; omega, by simp only [PyData.weight]; omega, by simp only [PyData.showable], by simp only [PyData.leavesShort], by simp only [sok]⟩
theorem sd_emp : Sd 1 0 (.dict []) := ⟨by simp only [PyData.depth, PyData.depthKv]; omega, by simp only [PyData.weight, PyData.weightKv]; omega, by simp only [PyData.showable, PyData.showableKv], by simp only [PyData.leavesShort, PyData.leavesShortKv], by simp only [sok]⟩
theorem strOk_lt' {l : List Nat} (h : ∀ c ∈ l, c ≤ 1000) : PyData.strOk (S l) = true := by
  unfold PyData.strOk
  rw [Array.all_eq_true]
  intro i hi
  have q := h (l[i]'(by simpa [S] using hi)) (List.getElem_mem _)
  have e : (S l).cps[i] = l[i]'(by simpa [S] using hi) := by simp [S]
  rw [e]
  exact decide_eq_true (by omega)
theorem sd_str {l : List Nat} (h : ∀ c ∈ l, c ≤ 1000) : Sd 0 l.length (.str (S l)) := by
  refine ⟨by simp only [PyData.depth]; omega, by simp only [PyData.weight, S_size]; omega, by simp only [PyData.showable], ?_, by simp only [sok]; exact strOk_lt' h⟩
  simp only [PyData.leavesShort]
  rw [List.all_eq_true]
  intro c hc
  have : c ∈ l := by simpa [S] using hc
  exact decide_eq_true (by have := h c this; omega)
theorem sd_intW {i : Int} {n k : Nat} (h : i.natAbs < 10 ^ 40) (h2 : i.natAbs < 2 ^ k) : Sd 0 k (.int i) := by
  refine ⟨by simp only [PyData.depth]; omega, ?_, ?_, ?_, by simp only [sok]⟩
  · simp only [PyData.weight]
    split
    · omega
    · rename_i z
      have z' : i.natAbs ≠ 0 := by
        intro e
        have : i = 0 := by omega
        rw [this] at z
        exact z rfl
      have := (Nat.log2_lt z' (k := k)).mpr h2
      omega
  · simp only [PyData.showable]
    refine decide_eq_true ?_
    by_cases z : i.natAbs = 0
    · rw [z]; decide
    · have := (Nat.log2_lt z (k := 139)).mpr (Nat.lt_of_lt_of_le h (by decide))
      omega
  · simp only [PyData.leavesShort]
    have e := int_text_length_le10 (k := 40) (by decide) h
    refine decide_eq_true ?_
    show (Str.ofString (toString i)).length ≤ 60
    rw [PySem.ofString_length]
    omega
theorem sd_int {i : Int} (h : i.natAbs < 10 ^ 40) : Sd 0 140 (.int i) := sd_intW (n := 0) h (Nat.lt_of_lt_of_le h (by decide))
/-- an int of a few digits -/
theorem sd_int9 {i : Int} (h : i.natAbs < 512) : Sd 0 9 (.int i) := sd_intW (n := 0) (Nat.lt_of_lt_of_le h (by decide)) (by omega)
theorem Sd.len {n w : Nat} {d : PyData} (s : Sd n w d) (hw : w ≤ 270000) : d.shown.length ≤ sizeLine := by
  have := PyData.shown_le 60 (by omega) d s.ls
  have h2 := s.wei
  have : d.shown.length ≤ 62 * 270000 + 60 := Nat.le_trans this (by omega)
  exact Nat.le_trans this (by decide)
end
def rRepE (K : PySem.W.Frag) : List V → Hp → VK → Prop := fun xs M R => ∃ x d n w, xs = [x] ∧ (De K M x d ∨ (Dp K M x d ∧ d.hasDict = false)) ∧ Sd n w d ∧ n ≤ 60 ∧ w ≤ 270000 ∧ R (.str d.shown) M
theorem call_repE {X : Cx} (quiet : X.A.guards = some []) (hu : X.A.units + 64 < cLine) : CallR X (.builtin "repr") (rRepE X.K) := by
  intro pins s σ M xs us R I r h
  obtain ⟨x, d, n, w, rfl, hd, sd, hn, hw, q⟩ := h
  obtain ⟨u, rfl, ru⟩ := vals1 r
  have sz := sd.len hw
  have dp := sd.dep
  rcases hd with hd | ⟨hd, nd⟩
  rotate_left
  · obtain ⟨as, rd⟩ := Dp.reads I d x u hd ru
    cases hd with
    | non =>
      cases ru
      exact PySem.P.repr_of_none ⟨.str (PyData.shown .none), M, I.tok _, ⟨_, by simp only [PyData.shown]; rfl⟩, q⟩
    | bl b =>
      cases ru
      exact PySem.P.repr_of_bool ⟨.str (PyData.shown (.bool b)), M, I.tok _, ⟨_, by simp only [PyData.shown]; rfl⟩, q⟩
    | int i =>
      obtain ⟨t, rfl⟩ := ru
      exact PySem.P.repr_of_int (of_decide_eq_true (by simpa only [PyData.showable] using sd.sh)) ⟨.str (PyData.shown (.int i)), M, I.tok _, ⟨_, by simp only [PyData.shown]; rfl⟩, q⟩
    | str z =>
      obtain ⟨t, rfl⟩ := ru
      exact PySem.P.repr_of_str ⟨.str (PyData.shown (.str z)), M, I.tok _, ⟨_, by simp only [PyData.shown]; rfl⟩, q⟩ (by simpa only [PyData.shown] using sz)
    | lst h1 h2 =>
      cases ru
      exact repr_of_reads' rd sd.sh (PyData.noDict_hsm nd) quiet (by omega) (fun _ _ e => e) (fun h' t tk keep => ⟨.str _, M, I.kept (t' := tk) keep, ⟨t, rfl⟩, q⟩) sz
    | tup h1 h2 =>
      cases ru
      exact repr_of_reads' rd sd.sh (PyData.noDict_hsm nd) quiet (by omega) (fun _ _ e => e) (fun h' t tk keep => ⟨.str _, M, I.kept (t' := tk) keep, ⟨t, rfl⟩, q⟩) sz
  obtain ⟨as, rd, nn⟩ := De.reads I d x u hd ru
  cases hd with
  | non =>
    cases ru
    exact PySem.P.repr_of_none ⟨.str (PyData.shown .none), M, I.tok _, ⟨_, by simp only [PyData.shown]; rfl⟩, q⟩
  | bl b =>
    cases ru
    exact PySem.P.repr_of_bool ⟨.str (PyData.shown (.bool b)), M, I.tok _, ⟨_, by simp only [PyData.shown]; rfl⟩, q⟩
  | int i =>
    obtain ⟨t, rfl⟩ := ru
    exact PySem.P.repr_of_int (of_decide_eq_true (by simpa only [PyData.showable] using sd.sh)) ⟨.str (PyData.shown (.int i)), M, I.tok _, ⟨_, by simp only [PyData.shown]; rfl⟩, q⟩
  | str z =>
    obtain ⟨t, rfl⟩ := ru
    exact PySem.P.repr_of_str ⟨.str (PyData.shown (.str z)), M, I.tok _, ⟨_, by simp only [PyData.shown]; rfl⟩, q⟩ (by simpa only [PyData.shown] using sz)
  | lst h1 h0 h2 =>
    cases ru
    exact repr_of_reads' rd sd.sh (fun _ => nn) quiet (by omega) (fun _ _ e => e) (fun h' t tk keep => ⟨.str _, M, I.kept (t' := tk) keep, ⟨t, rfl⟩, q⟩) sz
  | tup h1 h2 =>
    cases ru
    exact repr_of_reads' rd sd.sh (fun _ => nn) quiet (by omega) (fun _ _ e => e) (fun h' t tk keep => ⟨.str _, M, I.kept (t' := tk) keep, ⟨t, rfl⟩, q⟩) sz
  | dict h1 h2 =>
    cases ru
    exact repr_of_reads' rd sd.sh (fun _ => nn) quiet (by omega) (fun _ _ e => e) (fun h' t tk keep => ⟨.str _, M, I.kept (t' := tk) keep, ⟨t, rfl⟩, q⟩) sz
theorem i_repE {K : PySem.W.Frag} {M : Hp} {x : V} {d : PyData} {n w : Nat} {R : VK} (h : De K M x d) (s : Sd n w d) (hn : n ≤ 60 := by omega) (hw : w ≤ 270000 := by omega) (k : R (.str d.shown) M) : rRepE K [x] M R := ⟨x, d, n, w, rfl, .inl h, s, hn, hw, k⟩
theorem i_repP {K : PySem.W.Frag} {M : Hp} {x : V} {d : PyData} {n w : Nat} {R : VK} (h : Dp K M x d) (z : d.hasDict = false) (s : Sd n w d) (hn : n ≤ 60 := by omega) (hw : w ≤ 270000 := by omega) (k : R (.str d.shown) M) : rRepE K [x] M R := ⟨x, d, n, w, rfl, .inr ⟨h, z⟩, s, hn, hw, k⟩
/-! ### what is kept -/
mutual
theorem De.same {K : PySem.W.Frag} {H H' : Hp} (s : Same H H') : ∀ {v : V} {d : PyData}, De K H v d → De K H' v d
  | _, _, .non => .non
  | _, _, .bl b => .bl b
  | _, _, .int i => .int i
  | _, _, .str x => .str x
  | _, _, .lst h1 h0 h2 => .lst (s _ _ h1) h0 (DeAll.same s h2)
  | _, _, .tup h1 h2 => .tup (Same.sqT s h1) (DeAll.same s h2)
  | _, _, .dict h1 h2 => .dict (s _ _ h1) (DeKv.same s h2)
theorem DeAll.same {K : PySem.W.Frag} {H H' : Hp} (s : Same H H') : ∀ {vs : List V} {ds : List PyData}, DeAll K H vs ds → DeAll K H' vs ds
  | _, _, .nil => .nil
  | _, _, .cons h1 h2 => .cons (De.same s h1) (DeAll.same s h2)
theorem DeKv.same {K : PySem.W.Frag} {H H' : Hp} (s : Same H H') : ∀ {vs : List (Key × V)} {ds : List (PyData × PyData)}, DeKv K H vs ds → DeKv K H' vs ds
  | _, _, .nil => .nil
  | _, _, .cons h1 h2 => .cons (De.same s h1) (DeKv.same s h2)
end
theorem DeAll.len {K : PySem.W.Frag} {H : Hp} : ∀ {vs : List V} {ds : List PyData}, DeAll K H vs ds → vs.length = ds.length
  | _, _, .nil => rfl
  | _, _, .cons _ h2 => by rw [List.length_cons, List.length_cons, h2.len]
theorem DeAll.get {K : PySem.W.Frag} {H : Hp} : ∀ {vs : List V} {ds : List PyData} {i : Nat} {v : V}, DeAll K H vs ds → vs[i]? = some v → ∃ d, ds[i]? = some d ∧ De K H v d
  | _, _, _, _, .nil, e => by simp at e
  | _, _, 0, _, .cons h1 _, e => by simp at e; subst e; exact ⟨_, rfl, h1⟩
  | _, _, i + 1, v, .cons _ h2, e => by
    obtain ⟨d, h1, h3⟩ := h2.get (i := i) (v := v) (by simpa using e)
    exact ⟨d, by simpa using h1, h3⟩
theorem DeAll.app {K : PySem.W.Frag} {H : Hp} : ∀ {vs ws : List V} {ds es : List PyData}, DeAll K H vs ds → DeAll K H ws es → DeAll K H (vs ++ ws) (ds ++ es)
  | _, _, _, _, .nil, h => h
  | _, _, _, _, .cons h1 h2, h => .cons h1 (h2.app h)
theorem DeAll.take {K : PySem.W.Frag} {H : Hp} : ∀ {vs : List V} {ds : List PyData} (n : Nat), DeAll K H vs ds → DeAll K H (vs.take n) (ds.take n)
  | _, _, 0, _ => by rw [List.take_zero, List.take_zero]; exact .nil
  | _, _, n + 1, .nil => by rw [List.take_nil, List.take_nil]; exact .nil
  | _, _, n + 1, .cons h1 h2 => .cons h1 (h2.take n)
theorem DeAll.drop {K : PySem.W.Frag} {H : Hp} : ∀ {vs : List V} {ds : List PyData} (n : Nat), DeAll K H vs ds → DeAll K H (vs.drop n) (ds.drop n)
  | _, _, 0, h => h
  | _, _, n + 1, .nil => by rw [List.drop_nil, List.drop_nil]; exact .nil
  | _, _, n + 1, .cons _ h2 => h2.drop n
mutual
theorem De.dp {K : PySem.W.Frag} {H : Hp} : ∀ {v : V} {d : PyData}, De K H v d → d.hasDict = false → Dp K H v d
  | _, _, .non, _ => .non
  | _, _, .bl b, _ => .bl b
  | _, _, .int i, _ => .int i
  | _, _, .str x, _ => .str x
  | _, _, .lst h1 _ h2, z => .lst (.inl (.inl h1)) (h2.dp (by simpa only [PyData.hasDict] using z))
  | _, _, .tup h1 h2, z => .tup h1 (h2.dp (by simpa only [PyData.hasDict] using z))
  | _, _, .dict _ _, z => by simp only [PyData.hasDict] at z; cases z
theorem DeAll.dp {K : PySem.W.Frag} {H : Hp} : ∀ {vs : List V} {ds : List PyData}, DeAll K H vs ds → PyData.hasDictAll ds = false → DpAll K H vs ds
  | _, _, .nil, _ => .nil
  | _, _, .cons h1 h2, z => by
    simp only [PyData.hasDictAll, Bool.or_eq_false_iff] at z
    exact .cons (h1.dp z.1) (h2.dp z.2)
end
theorem Sd.shaped {n w : Nat} {d : PyData} (s : Sd n w d) (h : n ≤ 60) (z : d.hasDict = false) : SeqAt.shaped d = true := by
  show (PyData.canLay0 d && decide (PyData.depth d ≤ 64)) = true
  rw [sok_lay s.ok z, Bool.true_and]
  exact decide_eq_true (Nat.le_trans s.dep (by omega))
theorem i_eqE {K : PySem.W.Frag} {H : Hp} {x y : V} {d e : PyData} {Q : VK} {n w m u : Nat} (h1 : De K H x d) (h2 : De K H y e) (s1 : Sd n w d) (s2 : Sd m u e) (z1 : d.hasDict = false) (z2 : e.hasDict = false) (k : Q (.bl (PyData.eqv d e)) H) (hn : n ≤ 60 := by omega) (hm : m ≤ 60 := by omega) : rEqD K x y H Q :=
  ⟨d, e, h1.dp z1, h2.dp z2, s1.shaped hn z1, s2.shaped hm z2, k⟩
theorem i_neE {K : PySem.W.Frag} {H : Hp} {x y : V} {d e : PyData} {Q : VK} {n w m u : Nat} (h1 : De K H x d) (h2 : De K H y e) (s1 : Sd n w d) (s2 : Sd m u e) (z1 : d.hasDict = false) (z2 : e.hasDict = false) (k : Q (.bl (!PyData.eqv d e)) H) (hn : n ≤ 60 := by omega) (hm : m ≤ 60 := by omega) : rNeD K x y H Q :=
  ⟨d, e, h1.dp z1, h2.dp z2, s1.shaped hn z1, s2.shaped hm z2, k⟩
/-! ### isinstance of data -/
def tyB : String → PyData → Bool
  | "int", .int _ => true
  | "int", .bool _ => true
  | "bool", .bool _ => true
  | "str", .str _ => true
  | "list", .list _ => true
  | "tuple", .tuple _ => true
  | _, _ => false
theorem tyx_tup {K : PySem.W.Frag} {H : Hp} {a : Addr} {xs : List V} (h : SqT K H a xs) : TyX K H (.ref a) (.type "tuple") := by
  rcases h with (h | ⟨o, h⟩) | ⟨o, its, n, h, c, _⟩
  · exact .base (.tup h)
  · exact .fTuple h
  · exact .kTuple h c
theorem De.isi {K : PySem.W.Frag} {H : Hp} {v : V} {d : PyData} {Q : VK} {n : String} (h : De K H v d) (hn : n = "int" ∨ n = "bool" ∨ n = "str" ∨ n = "list" ∨ n = "tuple") (k : Q (.bl (tyB n d)) H) : rIsi K [v, .ty n] H Q := by
  cases h with
  | non => rcases hn with rfl | rfl | rfl | rfl | rfl <;> exact i_isi _ (.base .non) (kit_ty (by first | (show _ = some true; decide +kernel) | (show _ = some false; decide +kernel))) k
  | bl b => rcases hn with rfl | rfl | rfl | rfl | rfl <;> exact i_isi _ (.base (.bl _)) (kit_ty (by first | (show _ = some true; decide +kernel) | (show _ = some false; decide +kernel))) k
  | int i => rcases hn with rfl | rfl | rfl | rfl | rfl <;> exact i_isi _ (.base (.int _)) (kit_ty (by first | (show _ = some true; decide +kernel) | (show _ = some false; decide +kernel))) k
  | str x => rcases hn with rfl | rfl | rfl | rfl | rfl <;> exact i_isi _ (.base (.str _)) (kit_ty (by first | (show _ = some true; decide +kernel) | (show _ = some false; decide +kernel))) k
  | lst h1 _ h2 => rcases hn with rfl | rfl | rfl | rfl | rfl <;> exact i_isi _ (.base (.lst h1)) (kit_ty (by first | (show _ = some true; decide +kernel) | (show _ = some false; decide +kernel))) k
  | tup h1 h2 => rcases hn with rfl | rfl | rfl | rfl | rfl <;> exact i_isi _ (tyx_tup h1) (kit_ty (by first | (show _ = some true; decide +kernel) | (show _ = some false; decide +kernel))) k
  | dict h1 h2 => rcases hn with rfl | rfl | rfl | rfl | rfl <;> exact i_isi _ (.base (.dK h1)) (kit_ty (by first | (show _ = some true; decide +kernel) | (show _ = some false; decide +kernel))) k
theorem De.tupI {K : PySem.W.Frag} {H : Hp} {v : V} {ds : List PyData} (h : De K H v (.tuple ds)) : ∃ a xs, v = .ref a ∧ SqT K H a xs ∧ DeAll K H xs ds := by
  cases h with | tup h1 h2 => exact ⟨_, _, rfl, h1, h2⟩
theorem De.lstI {K : PySem.W.Frag} {H : Hp} {v : V} {ds : List PyData} (h : De K H v (.list ds)) : ∃ a xs, v = .ref a ∧ H a = some (.lst xs) ∧ sysModules < a ∧ DeAll K H xs ds := by
  cases h with | lst h1 h0 h2 => exact ⟨_, _, rfl, h1, h0, h2⟩
theorem De.intI {K : PySem.W.Frag} {H : Hp} {v : V} {i : Int} (h : De K H v (.int i)) : v = .int i := by cases h; rfl
section
variable {X : Cx} {es : List Expr} {t : TA} {pos : Pos}
def tLstL (t : TA) : TE := fun σ H Q => t σ H fun xs H1 => xs.length ≤ sizeLine ∧ ∀ p, H1 p = none → sysModules < p → Q (.ref p) (upd H1 p (.lst xs))
theorem pe_lstL (h : PA X es t) : PE X (.List es pos) (tLstL t) := by
  refine ⟨fun pins s σ H Q I hq => ?_⟩
  refine wpAny_List_spliced (thn (h.run pos pins s σ H _ I hq) fun us s1 ⟨xs, H1, I1, r, z, q⟩ => ⟨by rw [← r.length]; exact z, ?_⟩)
  have hf : H1 s1.heap.objs.size = none := I1.hok.fresh (Nat.le_refl _)
  refine ⟨.ref s1.heap.objs.size, upd H1 s1.heap.objs.size (.lst xs), I1.laid (t' := s1.toks) (fun b u e => Heap.get?_push_of_some _ e) (Nat.le_refl _) ?_, rfl, q _ hf I1.big⟩
  exact ⟨z, us, 0, r, Heap.get?_push_size _ rfl⟩
theorem i_lstL {σ : L2.St} {H : Hp} {Q : VK} (h : t σ H fun xs H1 => xs.length ≤ sizeLine ∧ ∀ p, H1 p = none → sysModules < p → Q (.ref p) (upd H1 p (.lst xs))) : tLstL t σ H Q := h
def rListL (K : PySem.W.Frag) : List V → Hp → VK → Prop := fun xs H Q => ∃ p ys, xs = [.ref p] ∧ (SqL K H p ys ∨ SqT K H p ys) ∧ ∀ l, H l = none → sysModules < l → Q (.ref l) (upd H l (.lst ys))
theorem call_listL : CallR X (.type "list") (rListL X.K) := by
  intro pins s σ H xs us Q I r h
  obtain ⟨p, ys, rfl, hq, q⟩ := h
  obtain ⟨u, rfl, rx⟩ := vals1 r
  cases rx
  have fin : ∀ (its : List Value), Vals ys its → ys.length ≤ sizeLine → ∀ (h' : Heap) (c' : Nat), (∀ b o', s.heap.get? b = some o' → h'.get? b = some o') →
      h'.get? s.heap.objs.size = some { cls := .type "list", dict := none, data := .seq its.toArray c', slots := #[] } → EP X pins σ Q (.ref s.heap.objs.size) { s with heap := h' } := fun its r' hz h' c' kp e =>
    ⟨.ref s.heap.objs.size, _, I.laid (t' := s.toks) kp (Nat.le_refl _) (show ObjOk X.prog X.w _ h' _ (.lst ys) from ⟨hz, its, c', r', e⟩), rfl, q _ (I.hok.fresh (Nat.le_refl _)) I.big⟩
  rcases hq with hq | hq
  · obtain ⟨its, r', pl, hz⟩ := I.list hq
    have hlen := r'.length
    obtain ⟨o, ho, hc, n, hd⟩ := pl.isList
    exact call_list_seq p (.inl rfl) ho hc hd (fun h' c' kp e => fin its r' hz h' c' kp e) (by simp only [List.size_toArray] <;> omega)
  · obtain ⟨its, r', pl, hz⟩ := I.tuple hq
    have hlen := r'.length
    obtain ⟨o, ho, hc, n, hd⟩ := pl
    exact call_list_seq p (.inr rfl) ho hc hd (fun h' c' kp e => fin its r' hz h' c' kp e) (by simp only [List.size_toArray] <;> omega)
theorem i_listL {K : PySem.W.Frag} {p : Addr} {ys : List V} {H : Hp} {Q : VK} (h : SqL K H p ys ∨ SqT K H p ys) (k : ∀ l, H l = none → sysModules < l → Q (.ref l) (upd H l (.lst ys))) : rListL K [.ref p] H Q := ⟨p, ys, rfl, h, k⟩
end
end Sw
namespace PySem.SeqAt
open MeetsSeq PySem
theorem dict_eq_declines_str (l : Addr) (es : Array DictEntry) (n : Nat) (dd : Option Addr) (sl : Array (Option Value)) (b : Str) (u : Tok) :
    Meets (Builtin.«dict.__eq__» ⟨[.ref l, .str b u], []⟩) (fun _ R s => s.heap.get? l = some { cls := .type "dict", dict := dd, data := .dict es n, slots := sl } ∧ R (.ok (.ret .notImplemented)) s) :=
  .of_wp fun prog w A R s h => by obtain ⟨hp, g, d, tk, os⟩ := s; obtain ⟨hl, h⟩ := h; have f1 := F.sub_str_dict; wp_walk using wpAny_loadPart' hl, wpAny_load hl; exact ⟨_, rfl, h⟩
theorem str_eq_declines_dict (b : Str) (u : Tok) (l : Addr) (c : Value) (es : Array DictEntry) (n : Nat) (dd : Option Addr) (sl : Array (Option Value)) :
    Meets (Builtin.«str.__eq__» ⟨[.str b u, .ref l], []⟩) (fun _ R s => s.heap.get? l = some { cls := c, dict := dd, data := .dict es n, slots := sl } ∧ R (.ok (.ret .notImplemented)) s) :=
  .of_wp fun prog w A R s h => by obtain ⟨hp, g, d, tk, os⟩ := s; obtain ⟨hl, h⟩ := h; wp_walk using wpAny_loadPart' hl, wpAny_load hl; exact ⟨_, rfl, h⟩
theorem dict_ne_declines_str (l : Addr) (es : Array DictEntry) (n : Nat) (dd : Option Addr) (sl : Array (Option Value)) (b : Str) (u : Tok) :
    Meets (Builtin.«dict.__ne__» ⟨[.ref l, .str b u], []⟩) (fun _ R s => s.heap.get? l = some { cls := .type "dict", dict := dd, data := .dict es n, slots := sl } ∧ R (.ok (.ret .notImplemented)) s) :=
  .of_wp fun prog w A R s h => by obtain ⟨hp, g, d, tk, os⟩ := s; obtain ⟨hl, h⟩ := h; have f1 := F.sub_str_dict; wp_walk using wpAny_loadPart' hl, wpAny_load hl; exact ⟨_, rfl, h⟩
theorem str_ne_declines_dict (b : Str) (u : Tok) (l : Addr) (c : Value) (es : Array DictEntry) (n : Nat) (dd : Option Addr) (sl : Array (Option Value)) :
    Meets (Builtin.«str.__ne__» ⟨[.str b u, .ref l], []⟩) (fun _ R s => s.heap.get? l = some { cls := c, dict := dd, data := .dict es n, slots := sl } ∧ R (.ok (.ret .notImplemented)) s) :=
  .of_wp fun prog w A R s h => by obtain ⟨hp, g, d, tk, os⟩ := s; obtain ⟨hl, h⟩ := h; wp_walk using wpAny_loadPart' hl, wpAny_load hl; exact ⟨_, rfl, h⟩
section
variable {A : Around} {s : Shared}
theorem RcAt.dict_str {l : Addr} {es : Array DictEntry} {n : Nat} {o : Obj} (b : Str) (u : Tok) (ho : s.heap.get? l = some o) (hc : o.cls = .type "dict") (hd : o.data = .dict es n) (hu : A.units < cLine) : RcAt A s (.ref l) (.str b u) false := fun prog w E Q h => by
  obtain ⟨cls, dd, data, sl⟩ := o
  simp only at hc hd
  subst hc hd
  exact rc_eq_decline_or (k := false) ⟨_, ho, rfl⟩ (typeIs_str s b u) (by decide) F.sub_str_dict F.slot_dict_eq F.slot_str_eq_refl
    (fun _ hq => call_meets F.slot_dict_eq ⟨_, ho, rfl⟩ F.entry_dict_eq (F.args_dict_eq_2 _ _) (dict_eq_declines_str l es n dd sl b u) ⟨ho, hq⟩)
    (fun _ hq => call_meets F.slot_str_eq_refl (typeIs_str s b u) F.entry_str_eq (F.args_str_eq_2 _ _) (str_eq_declines_dict b u l (.type "dict") es n dd sl) ⟨ho, hq⟩)
    (fun _ hq => wpAny_of_eq (rfl : isSame (.ref l) (.str b u) = pure false) hq) (.inr hu) h
theorem RcNeAt.dict_str {l : Addr} {es : Array DictEntry} {n : Nat} {o : Obj} (b : Str) (u : Tok) (ho : s.heap.get? l = some o) (hc : o.cls = .type "dict") (hd : o.data = .dict es n) (hu : A.units < cLine) : RcNeAt A s (.ref l) (.str b u) true := fun prog w E Q h => by
  obtain ⟨cls, dd, data, sl⟩ := o
  simp only at hc hd
  subst hc hd
  exact rc_ne_decline_or (k := false) ⟨_, ho, rfl⟩ (typeIs_str s b u) (by decide) F.sub_str_dict F.slot_dict_ne F.slot_str_ne_refl
    (fun _ hq => call_meets F.slot_dict_ne ⟨_, ho, rfl⟩ F.entry_dict_ne (F.args_dict_ne_2 _ _) (dict_ne_declines_str l es n dd sl b u) ⟨ho, hq⟩)
    (fun _ hq => call_meets F.slot_str_ne_refl (typeIs_str s b u) F.entry_str_ne (F.args_str_ne_2 _ _) (str_ne_declines_dict b u l (.type "dict") es n dd sl) ⟨ho, hq⟩)
    (fun _ hq => wpAny_of_eq (rfl : isSame (.ref l) (.str b u) = pure false) hq) (.inr hu) h
end
end PySem.SeqAt
namespace Sw
open PySem PySem.Spec PyProof.Rows L2
section
variable {X : Cx}
/-- x == y, x data, y data; a dict and a text are unlike -/
def rEqX (K : PySem.W.Frag) : R2 := fun x y H Q => rEqD K x y H Q ∨ ∃ a kvs z, x = .ref a ∧ H a = some (.dK kvs) ∧ y = .str z ∧ Q (.bl false) H
def rNeX (K : PySem.W.Frag) : R2 := fun x y H Q => rNeD K x y H Q ∨ ∃ a kvs z, x = .ref a ∧ H a = some (.dK kvs) ∧ y = .str z ∧ Q (.bl true) H
theorem op_eqX (hu : X.A.units + 64 < cLine) : OpR X (compareOp .Eq) (rEqX X.K) := by
  intro pins s σ H x y v u Q I rx ry h
  rcases h with h | ⟨a, kvs, z, rfl, ha, rfl, q⟩
  · exact op_eqD hu pins s σ H x y v u Q I rx ry h
  · cases rx
    obtain ⟨t, rfl⟩ := ry
    obtain ⟨_, notSys, vs, kv, o, es, ep, ho, ex, hd, _, pr, _⟩ : ObjOk X.prog X.w H s.heap _ (.dK _) := I.hok _ _ ha
    exact SeqAt.RcAt.dict_str z t ho ex.1 hd (by omega) _ _ _ _ ⟨.bl _, H, I, rfl, q⟩
theorem op_neX (hu : X.A.units + 64 < cLine) : OpR X (compareOp .NotEq) (rNeX X.K) := by
  intro pins s σ H x y v u Q I rx ry h
  rcases h with h | ⟨a, kvs, z, rfl, ha, rfl, q⟩
  · exact op_neD hu pins s σ H x y v u Q I rx ry h
  · cases rx
    obtain ⟨t, rfl⟩ := ry
    obtain ⟨_, notSys, vs, kv, o, es, ep, ho, ex, hd, _, pr, _⟩ : ObjOk X.prog X.w H s.heap _ (.dK _) := I.hok _ _ ha
    exact SeqAt.RcNeAt.dict_str z t ho ex.1 hd (by omega) _ _ _ _ ⟨.bl _, H, I, rfl, q⟩
/-- x in y, y a tuple of data -/
def rInT (K : PySem.W.Frag) : R2 := fun x y H Q => ∃ d ds, Dp K H x d ∧ Dp K H y (.tuple ds) ∧ SeqAt.shaped d = true ∧ SeqAt.shaped (.tuple ds) = true ∧ PyData.depthAll ds ≤ 10 ∧ Q (.bl (ds.any fun z => PyData.eqv z d)) H
theorem op_inT (hu : X.A.units + 64 < cLine) : OpR X (compareOp .In) (rInT X.K) := by
  intro pins s σ H x y v u Q I rx ry h
  obtain ⟨d, ds, hd, he, sd, se, dp, q⟩ := h
  obtain ⟨as, r1⟩ := Dp.reads I d x v hd rx
  obtain ⟨bs, r2⟩ := Dp.reads I (.tuple ds) y u he ry
  exact SeqAt.in_tuple_reads r2 r1 (SeqAt.canLay_of_shaped se) (SeqAt.canLay_of_shaped sd) (by have := Nat.min_le_left (PyData.depthAll ds) d.depth; omega) ⟨.bl _, H, I, rfl, q⟩
end
/-- whether data is the text l -/
def isS (l : List Nat) : PyData → Bool
  | .str z => decide (z = S l)
  | _ => false
theorem eqv_str_r (d : PyData) (l : List Nat) : PyData.eqv d (.str (S l)) = isS l d := by
  cases d <;> simp [PyData.eqv, isS] <;> rfl
theorem eqv_str_l (d : PyData) (l : List Nat) : PyData.eqv (.str (S l)) d = isS l d := by
  cases d with
  | str z =>
    simp only [PyData.eqv, isS]
    by_cases h : z = S l
    · rw [h, decide_eq_true rfl]; exact beq_self_eq_true _
    · rw [decide_eq_false h]; exact beq_eq_false_iff_ne.mpr (Ne.symm h)
  | _ => simp [PyData.eqv, isS]
theorem dp_strs' {K : PySem.W.Frag} {H : Hp} : ∀ ws : List (List Nat), DpAll K H (ws.map fun l => V.str (S l)) (ws.map fun l => PyData.str (S l))
  | [] => .nil
  | l :: ws => .cons (.str _) (dp_strs' ws)
/-- data without a dict inside, or an empty dict -/
def Ok1 (d : PyData) : Prop := d = .dict [] ∨ d.hasDict = false
theorem i_eqS1 {K : PySem.W.Frag} {H : Hp} {x : V} {d : PyData} {l : List Nat} {Q : VK} {n w : Nat} (h : De K H x d) (s : Sd n w d) (o : Ok1 d) (hl : ∀ c ∈ l, c ≤ 1000) (k : Q (.bl (isS l d)) H) (hn : n ≤ 60 := by omega) : rEqX K x (.str (S l)) H Q := by
  rcases o with rfl | z
  · cases h with | dict h1 h2 => exact .inr ⟨_, _, _, rfl, h1, rfl, k⟩
  · refine .inl (i_eqE h (.str _) s (sd_str hl) z (by simp only [PyData.hasDict]) ?_ hn)
    rw [eqv_str_r]
    exact k
theorem i_neS1 {K : PySem.W.Frag} {H : Hp} {x : V} {d : PyData} {l : List Nat} {Q : VK} {n w : Nat} (h : De K H x d) (s : Sd n w d) (o : Ok1 d) (hl : ∀ c ∈ l, c ≤ 1000) (k : Q (.bl (!isS l d)) H) (hn : n ≤ 60 := by omega) : rNeX K x (.str (S l)) H Q := by
  rcases o with rfl | z
  · cases h with | dict h1 h2 => exact .inr ⟨_, _, _, rfl, h1, rfl, k⟩
  · refine .inl (i_neE h (.str _) s (sd_str hl) z (by simp only [PyData.hasDict]) ?_ hn)
    rw [eqv_str_r]
    exact k
theorem i_inT {K : PySem.W.Frag} {H : Hp} {x : V} {d : PyData} {Q : VK} {n w : Nat} {a : Addr} (ls : List (List Nat)) (h : De K H x d) (s : Sd n w d) (z : d.hasDict = false) (hl : ∀ l ∈ ls, ∀ c ∈ l, c ≤ 1000) (ha : H a = some (.tup (ls.map fun l => .str (S l)))) (k : Q (.bl (ls.any fun l => isS l d)) H) (hn : n ≤ 60 := by omega) : rInT K x (.ref a) H Q := by
  refine ⟨d, ls.map fun l => .str (S l), h.dp z, .tup (sqT_of ha) (dp_strs' ls), s.shaped hn z, ?_, ?_, ?_⟩
  · have s2 : Sd 1 _ (.tuple (ls.map fun l => .str (S l))) := sd_tup (n := 0) (w := (ls.map List.length).foldr max 0) fun d hd => by
      obtain ⟨l, hl2, rfl⟩ := List.mem_map.mp hd
      refine (sd_str (hl l hl2)).mono (by omega) ?_
      clear hd hl k ha
      induction ls with
      | nil => cases hl2
      | cons y ys ih =>
        rw [List.map_cons, List.foldr_cons]
        rcases List.mem_cons.mp hl2 with rfl | hl2
        · exact Nat.le_max_left _ _
        · exact Nat.le_trans (ih hl2) (Nat.le_max_right _ _)
    refine s2.shaped (by omega) ?_
    simp only [PyData.hasDict]
    clear s2 hl k ha
    induction ls with
    | nil => rfl
    | cons y ys ih => simp only [List.map_cons, PyData.hasDictAll, PyData.hasDict, ih, Bool.or_self]
  · have : ∀ ks : List (List Nat), PyData.depthAll (ks.map fun l => PyData.str (S l)) = 0 := by
      intro ks
      induction ks with
      | nil => simp only [List.map_nil, PyData.depthAll]
      | cons y ys ih => simp only [List.map_cons, PyData.depthAll, PyData.depth, ih]; omega
    rw [this]; omega
  · rw [List.any_map]
    simp only [Function.comp_def, eqv_str_l]
    exact k
end Sw
namespace Sw
open PySem PySem.Spec PyProof.Rows L2 PySem.SwE
/-- InvalidText.__init__(self, given) -/
def spInit (K : PySem.W.Frag) : Sp := fun vs H Q _ => ∃ (a C : Addr) (v : V), vs = [.ref a, v] ∧ H a = some (exo a C none) ∧ OexE K C ∧ PySem.W.findIn K (.ref C) "given" = some none ∧
  ∀ dx, H dx = none → dx ≠ a → Q .non (upd (upd H dx (exd dx [("given", v)])) a (exo a C (some dx)))
/-- what the written part says of the class that is called over -/
structure Over (K : PySem.W.Frag) (mg : Str → Option Value) (B : Addr) : Prop where
  hm : mg "CodecError" = some (.ref B)
  ga : PySem.W.specialIn K (.ref B) "__getattribute__" = some (some (.builtin "type.__getattribute__"))
  ty : PySem.W.typeIn K (.ref B) = some (.type "type")
  rd : PySem.W.readsIn K B (.type "type") = true
  fi : PySem.W.findCls K (.ref B) (.type "type") "__init__" = some (.val (.builtin "Exception.__init__"))
theorem i_init {K : PySem.W.Frag} {ta : TA} {σ : L2.St} {H : Hp} {Q : VK} (h : ta σ H fun vs H1 => ∃ (a C : Addr) (ws : List V), vs = .ref a :: ws ∧ ws.length ≤ 1000 ∧ OexE K C ∧ H1 a = some (exo a C none) ∧ Q .non H1) : tInit K ta σ H Q := h
theorem i_fst {K : PySem.W.Frag} {f : Str} {to te : TE} {D : Ends} {σ : L2.St} {H : Hp} (h : te σ H fun y H1 => to σ H1 fun x H2 => ∃ a C : Addr, x = .ref a ∧ OexE K C ∧ PySem.W.findIn K (.ref C) f = some none ∧
  H2 a = some (exo a C none) ∧ ∀ dx, H2 dx = none → dx ≠ a → D.nx σ (upd (upd H2 dx (exd dx [(f, y)])) a (exo a C (some dx)))) : tFst K f to te D σ H := h
/-- the class InvalidText, as it stands behind the top -/
structure XT (P : Program) (w : World) (K : PySem.W.Frag) (mg : Str → Option Value) (base : Heap) (C : Addr) : Prop where
  T : OexE K C
  xf : XfC K C
  no : PySem.W.findIn K (.ref C) "given" = some none
  hm : mg "InvalidText" = some (.ref C)
  me : PySem.W.exmOne K (.ref C) (.ref C) = some true
  ini : ∃ (fI : Addr) (fd : FuncData), PySem.W.findIn K (.ref C) "__init__" = some (some (.ref fI)) ∧ PySem.W.typeIn K (.ref fI) = some (.type "function") ∧ FnOk P w K mg base CX0 1 fI fd ["self", "given"] (spInit K) ∧ Binds K fd ["self", "given"] []
theorem pmk_T {X : Cx} {C : Addr} {n : Nat} {e : Expr} {te : TE} {p pos : Pos} (xt : XT X.prog X.w X.K X.mg X.base C) (hr : Room n X.A) (he : PE X e te) (hn : 2 ≤ n := by decide) (hg : Gl X "InvalidText" := by rfl)
    (he2 : starEach [e] X.env = (false, eval e X.env) :: starEach [] X.env := by rfl) : PMk X (.Call (.Name "InvalidText" p) [e] [] pos) (tMkO C (spInit X.K) [] (tCons te tNil)) := by
  obtain ⟨fI, fd, h1, h2, h3, h4⟩ := xt.ini
  exact pmk_E xt.T h1 h2 h3 (hr.mono hn) h4 pass0 xt.hm (pa_cons he pa_nil he2) hg (by decide) he2 (by rfl)
def Thrown (K : PySem.W.Frag) (C : Addr) (vs : List V) (H1 : Hp) (Q : XK) : Prop := vs.length ≤ 1000 ∧ ∀ a, H1 a = none → spInit K (.ref a :: (vs ++ [])) (upd H1 a (exo a C none))
  (fun v H2 => v = .non ∧ ∃ (d : Addr) (fs : List (Str × V)), H2 a = some (exo a C (some d)) ∧ H2 d = some (exd d fs) ∧ H1 d = none ∧ Q (.ref C) (some d) (upd (del H2 a) d (.xd fs))) (fun _ _ _ => False)
theorem i_mk {K : PySem.W.Frag} {C : Addr} {ta : TA} {σ : L2.St} {H : Hp} {Q : XK} (h : ta σ H fun vs H1 => Thrown K C vs H1 Q) : tMkO C (spInit K) [] ta σ H Q := h
def tRs (t : L2.St → Hp → XK → Prop) (W : WX) : TS := fun _ σ H => t σ H fun cls d H' => W cls d σ H'
theorem ps_rs {X : Cx} {W : WX} {e : Expr} {t : L2.St → Hp → XK → Prop} {pos : Pos} (hc : X.calm = true) (tk : Takes X W) (he : PMk X e t) : PS X (.Raise (some e) none pos) (tRs t W) := L2.ps_raise hc tk he
theorem i_raise {t : L2.St → Hp → XK → Prop} {W : WX} {D : Ends} {σ : L2.St} {H : Hp} (h : t σ H fun cls d H' => W cls d σ H') : tRs t W D σ H := h
theorem i_thrown {K : PySem.W.Frag} {C : Addr} {v : V} {H1 : Hp} {Q : XK} (T : OexE K C) (no : PySem.W.findIn K (.ref C) "given" = some none) (h : ∀ dx, H1 dx = none → Q (.ref C) (some dx) (upd H1 dx (.xd [("given", v)]))) : Thrown K C [v] H1 Q := by
  refine ⟨by simp, fun a na => ⟨a, C, v, rfl, upd_same, T, no, fun dx nx ne => ⟨rfl, dx, [("given", v)], upd_same, ?_, ?_, ?_⟩⟩⟩
  · rw [upd_ne ne, upd_same]
  · rw [upd_ne ne] at nx; exact nx
  · rw [upd_ne ne] at nx
    have e : upd (del (upd (upd (upd H1 a (exo a C none)) dx (exd dx [("given", v)])) a (exo a C (some dx))) a) dx (.xd [("given", v)]) = upd H1 dx (.xd [("given", v)]) := by
      funext b
      by_cases c : b = dx
      · rw [c, upd_same, upd_same]
      · rw [upd_ne c, upd_ne c]
        by_cases c2 : b = a
        · rw [c2, del_same, na]
        · rw [del_ne c2, upd_ne c2, upd_ne c, upd_ne c2]
    rw [e]
    exact h dx nx
theorem i_dnew {σ : L2.St} {H : Hp} {Q : VK} (h : ∀ p, H p = none → Q (.ref p) (upd H p (.dK []))) : tDNewK σ H Q := h
end Sw
namespace Sw
open PySem PySem.Spec PyProof.Rows L2
/-! ### try with several clauses that name the error -/
inductive AsOk (X : Cx) (Wo : WX) : List ExceptHandler → (Ends → WX) → Prop
  | nil : AsOk X Wo [] fun _ => Wo
  | cons {x n : Str} {c : Value} {i : Nat} {ts : Addr → Value → Option Addr → TS} {st : Stmt} {more : List Stmt} {p1 p2 : Pos} {hds : List ExceptHandler} {W : Ends → WX}
      (hi : X.N[i]? = some n) (hl : X.env.kindOf n = some .local) (hc : Names X x c)
      (su : ∀ (a : Addr) (o : Obj) (cls : Value) (d : Option Addr) (pn : List (Addr × Obj)), Zc cls d o → (∃ vs, o.data = .fields vs) → PSs (X.suite a ((a, o) :: pn)) (st :: more) (ts a cls d))
      (rest : AsOk X Wo hds W) : AsOk X Wo (.ExceptHandler (some (.Name x p1)) (some n) (st :: more) p2 :: hds) fun D => wAs X.K c i ts (W D) D
theorem ps_tries {X : Cx} {Wo : WX} {W : Ends → WX} {body : List Stmt} {h₀ : ExceptHandler} {hds : List ExceptHandler} {pos : Pos} {tb : WX → TS} (hs : X.stack = X.env :: X.outer) (hf : X.env.frame = some X.env.locals) (nd : X.N.Nodup) (tk : Takes X Wo)
    (hb : ∀ (V : WX) (pn : List (Addr × Obj)) (xe : Value → Shared → Prop), Takes (X.tr pn xe) V → PassesOwn (model X.prog X.w) X.A X.env xe → PSs (X.tr pn xe) body (tb V))
    (hh : AsOk X Wo (h₀ :: hds) W) : PS X (.Try body (h₀ :: hds) [] [] pos) fun D σ H => tb (W D) D σ H := by
  constructor
  intro pins s σ H D I h
  have ok := I.ok
  have fr : X.A.frames = some (X.env :: X.outer) := by rw [← hs]; exact ok.frames
  let after : Value → Shared → Prop := fun e s₁ => wpAny (model X.prog X.w) X.A (noteFrame e X.env) (fun _ s₂ => wpAny (model X.prog X.w) X.A (setFlight e none) (fun _ s₃ => wpAny (model X.prog X.w) X.A (handleBy e X.env (h₀ :: hds)) (SP X pins D) X.xe s₃) X.xe s₂) X.xe s₁
  have run := (hb (W D) (X.pn ++ pins) after (fun u s' air => ?_) PassesOwn.looking).run [] s σ H D (I.toTry _) h
  · refine wpAny_Try_except (wpAny_mono run (fun f s1 z => ?_) fun _ _ z => z)
    cases f <;> obtain ⟨_, _, z⟩ := z
    · exact wpAny_execs_nil ⟨_, _, z.1.ofTry ok, z.2⟩
    · exact ⟨_, _, z.1.ofTry ok, z.2⟩
    · exact ⟨_, _, z.1.ofTry ok, z.2⟩
    · obtain ⟨H', J, r, q⟩ := z
      exact ⟨_, _, _, J.ofTry ok, r, q⟩
  · obtain ⟨a, B, sI, pins', σ', H', cls, d, rfl, J0, nb, up, sky, na, os, ag, w⟩ := air
    have J := J0.ofTry ok
    show wpAny (model X.prog X.w) X.A (noteFrame (.ref a) X.env) _ _ _
    refine Sky.land Zc.steady fr hf (by rw [← hs]; exact sky) fun h3 fl3 up3 => ?_
    have J3 : Inv X pins σ' H' { s' with heap := h3 } := J.landed nb fl3.1 (up.trans up3) os ag
    obtain ⟨o3, vs3, ho3, z3, d3⟩ := fl3.there
    have out : a ∉ frs (X.env :: X.outer) := fun hm => by
      obtain ⟨_, o', e', hn⟩ := fl3.2.2.1.mem hm
      cases ho3.symm.trans e'
      exact hn _ d3
    have nL : a ≠ X.env.locals := fun z => out (List.mem_filterMap.mpr ⟨_, List.mem_cons_self, by rw [hf, z]⟩)
    have nF : a ∉ X.fs := fun hm => by
      obtain ⟨e, he, q⟩ := List.mem_filterMap.mp hm
      exact out (List.mem_filterMap.mpr ⟨e, List.mem_cons_of_mem _ he, q⟩)
    have S3 := J3.suite ho3 d3 na nL nF
    clear h
    revert w
    generalize h₀ :: hds = all at hh
    intro w
    induction hh with
    | nil =>
      refine wpAny_handleBy_nil ?_
      obtain ⟨_, _, _, o, vs, T, _, _, g1, _, g2, g3, _⟩ := id fl3
      unfold PySem.passOn
      refine wpAny_bind (wpAny_field g1 g2 g3 ?_)
      rw [if_neg (by simp : ¬ (Value.ref T == Value.none) = true)]
      have away : wpAny (model X.prog X.w) X.A (setFlight (.ref a) X.env.frame) (fun _ s4 => wpAny (model X.prog X.w) X.A (throw (.ref a) : Sem Flow) (SP X pins D) X.xe s4) X.xe { s' with heap := h3 } := by
        rw [hf]
        exact HandSPX.setFlight_upZ fl3 fun h4 hh4 up4 => wpAny_throw (tk _ _ ⟨a, B, sI, pins, σ', H', cls, d, rfl, J, nb, (up.trans up3).trans up4, .inr (.inr (by rw [hs]; exact hh4)), na, os, ag, w⟩)
      first | exact wpAny_bind (wpAny_pure (wpAny_bind away)) | exact wpAny_bind away
    | @cons x n c i ts st more p1 p2 hds W hi hl hc su rest ih =>
      obtain ⟨b, hb1, yes, no⟩ := w
      refine wpAny_handleBy_cons (codeAny_handlers_test ?_) (by intro q; cases q)
      have ty : PySem.W.Looks (model X.prog X.w) h3 (typeOf (.ref a)) cls := fun _ _ _ s k q => wpAny_typeOf_ref (k _ _ ho3) (by rw [z3.1]; exact q)
      have hit := PySem.W.exm_one (M := model X.prog X.w) J3.kIn ty hb1
      have name : ∀ {Q E : Value → Shared → Prop}, Q c { s' with heap := h3 } → wpAny (model X.prog X.w) (X.A.mark (some (.ref a))) (eval (.Name x p1) X.env) Q E { s' with heap := h3 } := fun q => by
        obtain ⟨hg, hd, ⟨hm⟩ | ⟨hm, hv, hn⟩⟩ := hc
        · exact ld_glob (X := X.suite a ((a, o3) :: (X.pn ++ pins))) S3 hg (by assumption) q hd
        · exact ld_blt (X := X.suite a ((a, o3) :: (X.pn ++ pins))) S3 hg hm hv q hn hd
      refine name (hit.here ?_)
      cases b with
      | false => exact ih (no rfl)
      | true =>
        refine codeAny_handlers_suite_as (HandSPX.lands_againZ fl3 fun h4 fl4 up4 => ?_)
        obtain ⟨o4, vs4, ho4, z4, d4⟩ := fl4.there
        have J4 : Inv X pins σ' H' { s' with heap := h4 } := J.landed nb fl4.1 ((up.trans up3).trans up4) os ag
        refine store_ok (X := X.suite a ((a, o4) :: (X.pn ++ pins))) (v := .ref a) (J4.suite ho4 d4 na nL nF) nd hi (.inl hl) rfl (fun s5 S5 => ?_) (.inr hl)
        refine wpAny_mono ((su a o4 cls d (X.pn ++ pins) z4 ⟨_, d4⟩).run [] s5 _ H' _ S5 (yes rfl a na)) (fun f s6 z => ?_) fun _ _ z => z.elim
        have bye : ∀ {σ6 : L2.St} {H6 : Hp} {Q : Shared → Prop}, Inv (X.suite a ((a, o4) :: (X.pn ++ pins))) [] σ6 H6 s6 → (∀ s7, Inv X pins (σ6.set i none) H6 s7 → Q s7) →
            wpAny (model X.prog X.w) X.A (do bindName X.env n .none; unbindBehindTheSuite X.env n p2) (fun _ s7 => Q s7) X.xe s6 := fun S6 hq => gone_ok (S6.unsuite ok) nd hi hl hq
        cases f <;> obtain ⟨_, _, z⟩ := z
        · exact bye z.1 fun s7 J7 => ⟨_, _, J7, z.2⟩
        · exact bye z.1 fun s7 J7 => ⟨_, _, J7, z.2⟩
        · exact bye z.1 fun s7 J7 => ⟨_, _, J7, z.2⟩
        · obtain ⟨H6, S6, r6, q6⟩ := z
          exact bye S6 fun s7 J7 => ⟨_, _, _, J7, r6, q6⟩
end Sw
namespace Sw
open PySem PySem.Spec PyProof.Rows L2
/-- isinstance(e, c), e the caught error, its fields at d -/
def rIsEd (K : PySem.W.Frag) (a : Addr) (cls : Value) (d : Option Addr) : List V → Hp → VK → Prop := fun xs H Q => ∃ (D c dd : Addr) (fs : List (Str × V)) (b : Bool), xs = [.ref a, .ref c] ∧ cls = .ref D ∧ ExcC K D ∧ d = some dd ∧ H dd = some (.xd fs) ∧ PySem.W.kitOne K (.ref D) (.ref c) = some b ∧ Q (.bl b) H
theorem call_isEd {X : Cx} {a : Addr} {oe : Obj} {cls : Value} {d : Option Addr} {pn : List (Addr × Obj)} (hz : Zc cls d oe) (hf : ∃ vs, oe.data = .fields vs) : CallR (X.suite a ((a, oe) :: pn)) (.builtin "isinstance") (rIsEd X.K a cls d) := by
  intro pins s σ H xs us Q I r h
  obtain ⟨D, c, dd, fs, b, rfl, rfl, C, rfl, ea, e, q⟩ := h
  cases r with
  | cons rx rr =>
    cases rr with
    | cons rt rr =>
      cases rr
      cases rx
      cases rt
      obtain ⟨hget, _⟩ := I.pin (a, oe) (List.mem_append.mpr (.inl List.mem_cons_self))
      obtain ⟨vs, hv⟩ := hf
      have hx : ObjOk X.prog X.w H s.heap dd (.xd fs) := I.hok dd _ ea
      obtain ⟨mA, hns, hr⟩ := hx
      obtain ⟨od, ho, hl⟩ := lookIn_ns hns
      have J : PySem.W.InstAt s.heap a oe D (some od) := ⟨hget, hz.1, by unfold PySem.W.notCls; rw [hv] <;> rfl, by rw [hz.2]; exact ho⟩
      exact PySem.W.kia_one (PySem.W.kitx_exc (by obtain ⟨cd, hc, _⟩ := PySem.W.any_some C.hd; rw [hc]; rfl) C.hg C.hk C.hs C.ha C.hn C.ht C.hm) I.kIn J e (fun z => nomatch z) fun tk => ⟨.bl b, H, I.kept (t' := tk) fun _ _ z => z, rfl, q⟩
end Sw
namespace Sw
open PySem PySem.Spec PyProof.Rows L2
/-! ### kinds and passings as data -/
abbrev tLost : List Nat := [108, 111, 115, 116]
abbrev tPut : List Nat := [112, 117, 116]
abbrev tTurned : List Nat := [116, 117, 114, 110, 101, 100]
abbrev tSame : List Nat := [115, 97, 109, 101]
def isI : PyData → Bool
  | .int _ => true
  | _ => false
def isX (m : Int) : PyData → Bool
  | .int i => decide (0 ≤ i) && decide (i < m)
  | _ => false
def isG : PyData → Bool
  | .int i => decide (1 ≤ i) && decide (i ≤ 5)
  | _ => false
def kindB (m : Int) : PyData → Bool
  | .tuple [a, b] => isX m b && (isS tLost a || isS tPut a)
  | .tuple [a, b, c] => isX m b && isX m c && (isS tTurned a && !PyData.eqv b c)
  | _ => false
def sameB (m : Int) : PyData → Bool
  | .tuple [a, b] => isS tSame a && isX m b
  | _ => false
def passB (m : Int) : PyData → Bool
  | .tuple ds => ds.all fun s => sameB m s || kindB m s
  | _ => false
/-- the number of signs, if the data is one -/
def sgn (e : PyData) : Option Int := match e with
  | .int m => if 1 ≤ m ∧ m ≤ 5 then some m else none
  | _ => none
def onG (e : PyData) (b : Int → Bool) : Bool := match sgn e with
  | some m => b m
  | none => false
theorem sgn_some {e : PyData} {m : Int} (h : sgn e = some m) : e = .int m ∧ 1 ≤ m ∧ m ≤ 5 := by
  unfold sgn at h
  split at h
  · split at h
    · cases h; exact ⟨rfl, by assumption⟩
    · cases h
  · cases h
theorem isG_sgn (e : PyData) : isG e = (sgn e).isSome := by
  cases e <;> simp only [isG, sgn, Option.isSome]
  rename_i i
  by_cases h : 1 ≤ i ∧ i ≤ 5
  · rw [if_pos h, decide_eq_true h.1, decide_eq_true h.2]; rfl
  · rw [if_neg h, Bool.and_eq_false_iff]
    by_cases h1 : 1 ≤ i
    · exact .inr (decide_eq_false fun q => h ⟨h1, q⟩)
    · exact .inl (decide_eq_false h1)
/-- a step or what is told in its place: each part is without a dict, or is an empty one; a word ahead of one number has no dict -/
structure StOk (d : PyData) : Prop where
  parts : ∀ ds, d = .tuple ds → ∀ y ∈ ds, Ok1 y
  two : ∀ a b, d = .tuple [a, b] → isI b = true → a.hasDict = false
structure PsOk (d : PyData) : Prop where
  st : StOk d
  all : ∀ ds, d = .tuple ds → ∀ y ∈ ds, StOk y
theorem StOk.flat {d : PyData} (h : d.hasDict = false) : StOk d := by
  have p : ∀ ds, d = .tuple ds → ∀ y ∈ ds, y.hasDict = false := by
    rintro ds rfl y hy
    simp only [PyData.hasDict] at h
    induction ds with
    | nil => cases hy
    | cons z zs ih =>
      simp only [PyData.hasDictAll, Bool.or_eq_false_iff] at h
      rcases List.mem_cons.mp hy with rfl | hy
      · exact h.1
      · exact ih h.2 hy
  exact ⟨fun ds e y hy => .inr (p ds e y hy), fun a b e _ => p _ e _ List.mem_cons_self⟩
theorem hasDict_tup {ds : List PyData} : (PyData.tuple ds).hasDict = false ↔ ∀ y ∈ ds, y.hasDict = false := by
  simp only [PyData.hasDict]
  induction ds with
  | nil => simp [PyData.hasDictAll]
  | cons z zs ih => simp only [PyData.hasDictAll, Bool.or_eq_false_iff, ih, List.mem_cons, forall_eq_or_imp]
theorem PsOk.flat {d : PyData} (h : d.hasDict = false) : PsOk d := by
  refine ⟨.flat h, ?_⟩
  rintro ds rfl y hy
  exact .flat (hasDict_tup.mp h y hy)
theorem StOk.emp : StOk (.dict []) := ⟨fun ds e => by (cases e), fun a b e => by (cases e)⟩
theorem PsOk.emp : PsOk (.dict []) := ⟨.emp, fun ds e => by (cases e)⟩
end Sw
namespace Sw
open PySem PySem.Spec PyProof.Rows L2
theorem Sd.tupI' {n w : Nat} {ds : List PyData} (s : Sd n w (.tuple ds)) : SdAll n w ds := (Sd.tupI (n := n) (s.mono (by omega) (Nat.le_refl _)))
theorem Sd.lstI' {n w : Nat} {ds : List PyData} (s : Sd n w (.list ds)) : SdAll n w ds := (Sd.lstI (n := n) (s.mono (by omega) (Nat.le_refl _)))
theorem i_yes {σ : L2.St} {H : Hp} {R : Bool → Hp → Prop} (h : R true H) : tYes σ H R := h
/-! ### parts of tuples -/
theorem i_slTF {K : PySem.W.Frag} {a : Addr} {xs : List V} {k : Nat} {H : Hp} {Q : VK} (h : SqT K H a xs) (q : ∀ b H', Same H H' → SqT K H' b (xs.drop k) → Q (.ref b) H') : rSlA K (.ref a) (some (k : Int)) none H Q := by
  refine ⟨a, xs, rfl, h, fun e => ?_, fun e p np => ?_⟩
  · rw [HT.sIx_nat] at e
    refine q _ _ (Same.refl _) ?_
    by_cases hk : k = 0
    · rw [hk, List.drop_zero]; exact h
    · have : xs = [] := List.eq_nil_of_length_eq_zero (by omega)
      rw [this, List.drop_nil]; rw [this] at h; exact h
  · have : cutV xs (some (k : Int)) none = xs.drop k := by
      unfold cutV
      rw [HT.sIx_nat, HT.sIx_none]
      by_cases hk : k ≤ xs.length
      · rw [Nat.min_eq_left hk, List.take_of_length_le (by rw [List.length_drop]; omega)]
      · rw [Nat.min_eq_right (by omega), List.drop_of_length_le (by omega), List.drop_of_length_le (by omega), List.take_nil]
    rw [this]
    exact q _ _ (same_upd np) (sqT_of upd_same)
theorem i_slTT {K : PySem.W.Frag} {a : Addr} {xs : List V} {k : Nat} {H : Hp} {Q : VK} (h : SqT K H a xs) (q : ∀ b H', Same H H' → SqT K H' b (xs.take k) → Q (.ref b) H') : rSlA K (.ref a) none (some (k : Int)) H Q := by
  refine ⟨a, xs, rfl, h, fun e => ?_, fun e p np => ?_⟩
  · rw [HT.sIx_nat, HT.sIx_none] at e
    refine q _ _ (Same.refl _) ?_
    rw [List.take_of_length_le (by omega)]; exact h
  · have : cutV xs none (some (k : Int)) = xs.take k := by
      unfold cutV
      rw [HT.sIx_nat, HT.sIx_none, List.drop_zero, Nat.sub_zero]
      by_cases hk : k ≤ xs.length
      · rw [Nat.min_eq_left hk]
      · rw [Nat.min_eq_right (by omega), List.take_length, List.take_of_length_le (by omega)]
    rw [this]
    exact q _ _ (same_upd np) (sqT_of upd_same)
theorem i_catT {K : PySem.W.Frag} {a b : Addr} {xs ys : List V} {H : Hp} {Q : VK} (h : SqT K H a xs) (h2 : SqT K H b ys) (l : xs.length + ys.length ≤ sizeLine) (q : ∀ c H', Same H H' → SqT K H' c (xs ++ ys) → Q (.ref c) H') : rCatA K (.ref a) (.ref b) H Q := by
  refine ⟨a, b, xs, ys, rfl, rfl, h, h2, l, fun e => ?_, fun e1 e2 => ?_, fun e1 e2 p np => ?_⟩
  · rw [e] at q; exact q _ _ (Same.refl _) h2
  · rw [e2, List.append_nil] at q; exact q _ _ (Same.refl _) h
  · exact q _ _ (same_upd np) (sqT_of upd_same)
theorem inV_two (n i j : Int) : inV (.int n) [.int i, .int j] = (decide (n = i) || decide (n = j)) := by
  show (i == n || (j == n || false)) = _
  rw [Bool.or_false]
  congr 1
  · by_cases h : n = i
    · rw [h, decide_eq_true rfl]; exact beq_self_eq_true _
    · rw [decide_eq_false h]; exact beq_eq_false_iff_ne.mpr (Ne.symm h)
  · by_cases h : n = j
    · rw [h, decide_eq_true rfl]; exact beq_self_eq_true _
    · rw [decide_eq_false h]; exact beq_eq_false_iff_ne.mpr (Ne.symm h)
theorem i_ixTn {K : PySem.W.Frag} {p : Addr} {xs : List V} {k : Nat} {v : V} {H : Hp} {Q : VK} (h1 : SqT K H p xs) (h2 : xs[k]? = some v) (h : Q v H) : rIxT K (.ref p) (.int (k : Int)) H Q := by
  refine i_ixT h1 ?_ h
  have : k < xs.length := by
    rcases Nat.lt_or_ge k xs.length with q | q
    · exact q
    · rw [List.getElem?_eq_none q] at h2; cases h2
  unfold atI ixN
  rw [if_pos (by omega), if_pos (by omega), Int.toNat_natCast]
  exact h2
theorem i_lenSqT {K : PySem.W.Frag} {p : Addr} {xs : List V} {H : Hp} {Q : VK} (h1 : SqT K H p xs) (h : Q (.int xs.length) H) : rLenQ K [.ref p] H Q := ⟨p, xs, rfl, .inr h1, h⟩
theorem DeAll.getD {K : PySem.W.Frag} {H : Hp} {vs : List V} {ds : List PyData} {i : Nat} {v : V} (h : DeAll K H vs ds) (e : vs[i]? = some v) : De K H v (ds.getD i .none) := by
  obtain ⟨d, h1, h2⟩ := h.get e
  rw [List.getD_eq_getElem?_getD, h1]; exact h2
theorem map_getD {α : Type} (ds : List PyData) (g : PyData → α) : (List.range ds.length).map (fun i => g (ds.getD i .none)) = ds.map g := range_map_get ds _ g fun i x hx => by rw [List.getD_eq_getElem?_getD, hx]; rfl
end Sw
namespace Sw
open PySem PySem.Spec PyProof.Rows L2
/-! ### data without lists stays while a list changes -/
mutual
def noL : PyData → Bool
  | .list _ => false
  | .tuple xs => noLAll xs
  | .dict [] => true
  | .dict _ => false
  | _ => true
def noLAll : List PyData → Bool
  | [] => true
  | x :: xs => noL x && noLAll xs
end
/-- all is kept but the list at p -/
def KeepP (p : Addr) (H H' : Hp) : Prop := ∀ a o, (a ≠ p ∨ ∀ xs, o ≠ .lst xs) → H a = some o → H' a = some o
theorem keepP_upd {H : Hp} {p : Addr} {xs ys : List V} (h : H p = some (.lst xs)) : KeepP p H (upd H p (.lst ys)) := fun a o q e => by
  by_cases c : a = p
  · subst c
    rw [h] at e
    cases e
    exact (q.elim (fun q => q rfl) fun q => q _ rfl).elim
  · rw [L2.upd_ne c]; exact e
theorem Same.keepP {H H' : Hp} {p : Addr} (s : Same H H') : KeepP p H H' := fun a o _ e => s a o e
theorem KeepP.trans {H1 H2 H3 : Hp} {p : Addr} (s : KeepP p H1 H2) (t : KeepP p H2 H3) : KeepP p H1 H3 := fun a o q e => t a o q (s a o q e)
theorem KeepP.sqT {K : PySem.W.Frag} {H H' : Hp} {p a : Addr} {xs : List V} (k : KeepP p H H') (h : SqT K H a xs) : SqT K H' a xs := by
  rcases h with (h | ⟨o, h⟩) | h
  · exact .inl (.inl (k _ _ (.inr fun _ => HO.noConfusion) h))
  · exact .inl (.inr ⟨o, k _ _ (.inr fun _ => HO.noConfusion) h⟩)
  · exact .inr h
mutual
theorem De.keep {K : PySem.W.Frag} {H H' : Hp} {p : Addr} (s : KeepP p H H') : ∀ {v : V} {d : PyData}, De K H v d → noL d = true → De K H' v d
  | _, _, .non, _ => .non
  | _, _, .bl b, _ => .bl b
  | _, _, .int i, _ => .int i
  | _, _, .str x, _ => .str x
  | _, _, .lst h1 h0 h2, n => by simp [noL] at n
  | _, _, .tup h1 h2, n => .tup (s.sqT h1) (DeAll.keep s h2 (by simpa only [noL] using n))
  | _, _, .dict h1 (.nil), n => .dict (s _ _ (.inr fun _ => HO.noConfusion) h1) .nil
  | _, _, .dict h1 (.cons _ _), n => by simp [noL] at n
theorem DeAll.keep {K : PySem.W.Frag} {H H' : Hp} {p : Addr} (s : KeepP p H H') : ∀ {vs : List V} {ds : List PyData}, DeAll K H vs ds → noLAll ds = true → DeAll K H' vs ds
  | _, _, .nil, _ => .nil
  | _, _, .cons h1 h2, n => by
    simp only [noLAll, Bool.and_eq_true] at n
    exact .cons (De.keep s h1 n.1) (DeAll.keep s h2 n.2)
end
theorem noLAll_iff {ds : List PyData} : noLAll ds = true ↔ ∀ d ∈ ds, noL d = true := by
  induction ds with
  | nil => simp [noLAll]
  | cons d ds ih => simp only [noLAll, Bool.and_eq_true, ih, List.mem_cons, forall_eq_or_imp]
theorem push_de {K : PySem.W.Frag} {H : Hp} {t p : Addr} {vs : List V} {ds : List PyData} {o : HO} {d : PyData} (hp : H p = some (.lst vs)) (hd : DeAll K H vs ds) (nl : noLAll ds = true) (nt : H t = none) (new : De K (upd H t o) (.ref t) d) (nd : noL d = true) :
    DeAll K (upd (upd H t o) p (.lst (vs ++ [.ref t]))) (vs ++ [.ref t]) (ds ++ [d]) := by
  have hp2 := upd_old (o := o) nt hp
  have k := keepP_upd (ys := vs ++ [.ref t]) hp2
  exact ((hd.same (same_upd nt)).keep k nl).app (.cons (new.keep k nd) .nil)
theorem push_val {K : PySem.W.Frag} {H : Hp} {p : Addr} {vs : List V} {ds : List PyData} {v : V} {d : PyData} (hp : H p = some (.lst vs)) (hd : DeAll K H vs ds) (nl : noLAll ds = true) (new : De K H v d) (nd : noL d = true) :
    DeAll K (upd H p (.lst (vs ++ [v]))) (vs ++ [v]) (ds ++ [d]) := by
  have k := keepP_upd (ys := vs ++ [v]) hp
  exact (hd.keep k nl).app (.cons (new.keep k nd) .nil)
end Sw
namespace Sw
open PySem PySem.Spec PyProof.Rows L2
/-! ### heaps beside the box of draws -/
theorem del_sb {b : Addr} {H H' : Hp} (s : SB b H H') : Same (L2.del H b) (L2.del H' b) := fun a o e => by
  by_cases c : a = b
  · subst c; rw [L2.del_same] at e; cases e
  · rw [L2.del_ne c] at e ⊢; exact s a o c e
theorem del_sub {b : Addr} {H : Hp} : Same (L2.del H b) H := fun a o e => by
  by_cases c : a = b
  · subst c; rw [L2.del_same] at e; cases e
  · rw [L2.del_ne c] at e; exact e
theorem box_some {H : Hp} {b : Addr} {d : Int} (B : BoxAt H b d) : ∃ o, H b = some o := by obtain ⟨_, _, _, _, e, _⟩ := B.ex; exact ⟨_, e⟩
theorem box_ne {H : Hp} {b p : Addr} {d : Int} (B : BoxAt H b d) (n : H p = none) : p ≠ b := by
  rintro rfl
  obtain ⟨o, e⟩ := box_some B
  rw [n] at e; cases e
theorem del_new {H : Hp} {b p : Addr} {d : Int} {o : HO} (B : BoxAt H b d) (n : H p = none) : L2.del (upd H p o) b p = some o := by rw [L2.del_ne (box_ne B n)]; exact upd_same
theorem BoxAt.upd_ne' {H : Hp} {b p : Addr} {d : Int} {o : HO} (B : BoxAt H b d) (h : p ≠ b) : BoxAt (upd H p o) b d := by
  obtain ⟨n, g, c, e, hb, hr⟩ := B.ex
  exact ⟨n, g, c, e, by rw [L2.upd_ne (Ne.symm h)]; exact hb, hr⟩
/-- a new thing is made and told -/
def NewT (xs : List V) (H : Hp) (Q : VK) : Prop := xs.length ≤ sizeLine ∧ ∀ p, H p = none → Q (.ref p) (upd H p (.tup xs))
def NewL (xs : List V) (H : Hp) (Q : VK) : Prop := xs.length ≤ sizeLine ∧ ∀ p, H p = none → Q (.ref p) (upd H p (.lst xs))
def NewLL (xs : List V) (H : Hp) (Q : VK) : Prop := xs.length ≤ sizeLine ∧ ∀ p, H p = none → sysModules < p → Q (.ref p) (upd H p (.lst xs))
def NewD (H : Hp) (Q : VK) : Prop := ∀ p, H p = none → Q (.ref p) (upd H p (.dK []))
section
variable {σ : L2.St} {H : Hp} {Q : VK} {b : Addr} {d : Int} {t : TA} {xs : List V}
theorem i_tupM (h : t σ H fun xs H1 => NewT xs H1 Q) : tTup t σ H Q := h
theorem i_lstM (h : t σ H fun xs H1 => NewL xs H1 Q) : tLst t σ H Q := h
theorem i_lstLM (h : t σ H fun xs H1 => NewLL xs H1 Q) : tLstL t σ H Q := h
theorem i_dnewM (h : NewD H Q) : tDNewK σ H Q := h
theorem newT (B : BoxAt H b d) (l : xs.length ≤ sizeLine) (k : ∀ p H', BoxAt H' b d → Same (L2.del H b) (L2.del H' b) → L2.del H' b p = some (.tup xs) → Same H H' → Q (.ref p) H') : NewT xs H Q :=
  ⟨l, fun p n => k p _ (B.same (same_upd n)) (del_sb (SB.of (same_upd n))) (del_new B n) (same_upd n)⟩
theorem newL (B : BoxAt H b d) (l : xs.length ≤ sizeLine) (k : ∀ p H', BoxAt H' b d → Same (L2.del H b) (L2.del H' b) → L2.del H' b p = some (.lst xs) → Same H H' → Q (.ref p) H') : NewL xs H Q :=
  ⟨l, fun p n => k p _ (B.same (same_upd n)) (del_sb (SB.of (same_upd n))) (del_new B n) (same_upd n)⟩
theorem newLL (B : BoxAt H b d) (l : xs.length ≤ sizeLine) (k : ∀ p H', sysModules < p → H p = none → BoxAt H' b d → Same (L2.del H b) (L2.del H' b) → L2.del H' b p = some (.lst xs) → Same H H' → Q (.ref p) H') : NewLL xs H Q :=
  ⟨l, fun p n lt => k p _ lt n (B.same (same_upd n)) (del_sb (SB.of (same_upd n))) (del_new B n) (same_upd n)⟩
theorem newD (B : BoxAt H b d) (k : ∀ p H', BoxAt H' b d → Same (L2.del H b) (L2.del H' b) → L2.del H' b p = some (.dK []) → Same H H' → Q (.ref p) H') : NewD H Q :=
  fun p n => k p _ (B.same (same_upd n)) (del_sb (SB.of (same_upd n))) (del_new B n) (same_upd n)
/-- without a box -/
theorem newT0 (l : xs.length ≤ sizeLine) (k : ∀ p H', H p = none → Same H H' → H' p = some (.tup xs) → Q (.ref p) H') : NewT xs H Q := ⟨l, fun p n => k p _ n (same_upd n) upd_same⟩
theorem newL0 (l : xs.length ≤ sizeLine) (k : ∀ p H', H p = none → Same H H' → H' p = some (.lst xs) → Q (.ref p) H') : NewL xs H Q := ⟨l, fun p n => k p _ n (same_upd n) upd_same⟩
theorem newLL0 (l : xs.length ≤ sizeLine) (k : ∀ p H', H p = none → sysModules < p → Same H H' → H' p = some (.lst xs) → Q (.ref p) H') : NewLL xs H Q := ⟨l, fun p n lt => k p _ n lt (same_upd n) upd_same⟩
theorem newD0 (k : ∀ p H', H p = none → Same H H' → H' p = some (.dK []) → Q (.ref p) H') : NewD H Q := fun p n => k p _ n (same_upd n) upd_same
end
/-! ### odd values -/
/-- H' has all of G but the lists that lie in H0 -/
def Kept (H0 G H' : Hp) : Prop := ∀ a o, G a = some o → ((∀ xs, o ≠ .lst xs) ∨ H0 a = none) → H' a = some o
theorem Kept.refl (H0 G : Hp) : Kept H0 G G := fun _ _ e _ => e
theorem Kept.same {H0 G G' H' : Hp} (k : Kept H0 G' H') (s : Same G G') : Kept H0 G H' := fun a o e q => k a o (s a o e) q
theorem Kept.sqT {K : PySem.W.Frag} {H0 H H' : Hp} {a : Addr} {xs : List V} (k : Kept H0 H H') (h : SqT K H a xs) : SqT K H' a xs := by
  rcases h with (h | ⟨o, h⟩) | h
  · exact .inl (.inl (k _ _ h (.inl fun _ => HO.noConfusion)))
  · exact .inl (.inr ⟨o, k _ _ h (.inl fun _ => HO.noConfusion)⟩)
  · exact .inr h
mutual
theorem De.kept {K : PySem.W.Frag} {H0 H H' : Hp} (s : Kept H0 H H') : ∀ {v : V} {d : PyData}, De K H v d → noL d = true → De K H' v d
  | _, _, .non, _ => .non
  | _, _, .bl b, _ => .bl b
  | _, _, .int i, _ => .int i
  | _, _, .str x, _ => .str x
  | _, _, .lst h1 h0 h2, n => by simp [noL] at n
  | _, _, .tup h1 h2, n => .tup (s.sqT h1) (DeAll.kept s h2 (by simpa only [noL] using n))
  | _, _, .dict h1 (.nil), n => .dict (s _ _ h1 (.inl fun _ => HO.noConfusion)) .nil
  | _, _, .dict h1 (.cons _ _), n => by simp [noL] at n
theorem DeAll.kept {K : PySem.W.Frag} {H0 H H' : Hp} (s : Kept H0 H H') : ∀ {vs : List V} {ds : List PyData}, DeAll K H vs ds → noLAll ds = true → DeAll K H' vs ds
  | _, _, .nil, _ => .nil
  | _, _, .cons h1 h2, n => by
    simp only [noLAll, Bool.and_eq_true] at n
    exact .cons (De.kept s h1 n.1) (DeAll.kept s h2 n.2)
end
section
variable {K : PySem.W.Frag} {H0 G G' : Hp} {v x : V} {p : Addr} {xs : List V}
/-- what may lie in a told tuple: data of little size without a dict, its lists not in H0 -/
def AtomV (K : PySem.W.Frag) (H0 G : Hp) (v : V) : Prop := ∃ d, (∀ H', Kept H0 G H' → De K H' v d) ∧ d.hasDict = false ∧ Sd 3 170 d
/-- the same without lists -/
def AtomN (K : PySem.W.Frag) (H0 G : Hp) (v : V) : Prop := ∃ d, (∀ H', Kept H0 G H' → De K H' v d) ∧ d.hasDict = false ∧ Sd 3 170 d ∧ noL d = true
def AllA (K : PySem.W.Frag) (H0 G : Hp) : List V → Prop
  | [] => True
  | x :: xs => AtomV K H0 G x ∧ AllA K H0 G xs
def AllN (K : PySem.W.Frag) (H0 G : Hp) : List V → Prop
  | [] => True
  | x :: xs => AtomN K H0 G x ∧ AllN K H0 G xs
theorem AtomV.same (h : AtomV K H0 G v) (s : Same G G') : AtomV K H0 G' v := by
  obtain ⟨d, h1, h2, h3⟩ := h
  exact ⟨d, fun H' k => h1 H' (k.same s), h2, h3⟩
theorem AtomN.same (h : AtomN K H0 G v) (s : Same G G') : AtomN K H0 G' v := by
  obtain ⟨d, h1, h2, h3, h4⟩ := h
  exact ⟨d, fun H' k => h1 H' (k.same s), h2, h3, h4⟩
theorem AtomN.va (h : AtomN K H0 G v) : AtomV K H0 G v := by
  obtain ⟨d, h1, h2, h3, _⟩ := h
  exact ⟨d, h1, h2, h3⟩
theorem AllN.va : ∀ {vs : List V}, AllN K H0 G vs → AllA K H0 G vs
  | [], _ => trivial
  | _ :: _, h => ⟨h.1.va, AllN.va h.2⟩
theorem AllN.same (s : Same G G') : ∀ {vs : List V}, AllN K H0 G vs → AllN K H0 G' vs
  | [], _ => trivial
  | _ :: _, h => ⟨h.1.same s, AllN.same s h.2⟩
theorem AtomV.str {l : List Nat} (h : ∀ c ∈ l, c ≤ 1000) (n : l.length ≤ 20) : AtomV K H0 G (.str (S l)) := ⟨_, fun _ _ => .str _, by simp only [PyData.hasDict], (sd_str h).mono (by omega) (by omega)⟩
theorem AtomV.int {i : Int} (h : i.natAbs < 10 ^ 40) : AtomV K H0 G (.int i) := ⟨_, fun _ _ => .int _, by simp only [PyData.hasDict], (sd_int h).mono (by omega) (by omega)⟩
theorem AtomV.bl (c : Bool) : AtomV K H0 G (.bl c) := ⟨_, fun _ _ => .bl _, by simp only [PyData.hasDict], (sd_bl c).mono (by omega) (by omega)⟩
theorem AtomV.non : AtomV K H0 G .non := ⟨_, fun _ _ => .non, by simp only [PyData.hasDict], sd_non.mono (by omega) (by omega)⟩
theorem AtomN.str {l : List Nat} (h : ∀ c ∈ l, c ≤ 1000) (n : l.length ≤ 20) : AtomN K H0 G (.str (S l)) := ⟨_, fun _ _ => .str _, by simp only [PyData.hasDict], (sd_str h).mono (by omega) (by omega), rfl⟩
theorem AtomN.int {i : Int} (h : i.natAbs < 10 ^ 40) : AtomN K H0 G (.int i) := ⟨_, fun _ _ => .int _, by simp only [PyData.hasDict], (sd_int h).mono (by omega) (by omega), rfl⟩
theorem AtomN.deD {d : PyData} (h : De K G v d) (z : d.hasDict = false) (s : Sd 3 170 d) (n : noL d = true) : AtomN K H0 G v := ⟨d, fun _ k => h.kept k n, z, s, n⟩
theorem AtomN.tupD {ds : List PyData} (h : G p = some (.tup xs)) (a : DeAll K G xs ds) (z : (PyData.tuple ds).hasDict = false) (s : Sd 3 170 (.tuple ds)) (n : noLAll ds = true) : AtomN K H0 G (.ref p) := .deD (.tup (sqT_of h) a) z s (by simpa only [noL] using n)
theorem AtomV.lst {i : Int} (h : G p = some (.lst [.int i])) (lt : sysModules < p) (n : H0 p = none) (hi : i.natAbs < 10 ^ 20) : AtomV K H0 G (.ref p) := by
  have si : Sd 2 140 (.int i) := (sd_int (Nat.lt_of_lt_of_le hi (by decide))).mono (by omega) (by omega)
  exact ⟨.list [.int i], fun H' k => .lst (k _ _ h (.inr n)) lt (.cons (.int _) .nil), by simp only [PyData.hasDict, PyData.hasDictAll, Bool.or_self], (sd_lst' (.cons si .nil)).mono (by omega) (by omega)⟩
theorem AtomV.tup {i : Int} (h : G p = some (.tup [.int i])) (hi : i.natAbs < 10 ^ 20) : AtomV K H0 G (.ref p) := by
  have si : Sd 2 140 (.int i) := (sd_int (Nat.lt_of_lt_of_le hi (by decide))).mono (by omega) (by omega)
  exact (AtomN.tupD h (.cons (.int _) .nil) (by simp only [PyData.hasDict, PyData.hasDictAll, Bool.or_self]) ((sd_tup' (.cons si .nil)).mono (by omega) (by omega)) rfl).va
theorem AtomV.tupS {l : List Nat} (h : G p = some (.tup [.str (S l)])) (h1 : ∀ c ∈ l, c ≤ 1000) (h2 : l.length ≤ 20) : AtomV K H0 G (.ref p) :=
  (AtomN.tupD h (.cons (.str _) .nil) (by simp only [PyData.hasDict, PyData.hasDictAll, Bool.or_self]) ((sd_tup' (n := 2) (.cons ((sd_str h1).mono (by omega) (Nat.le_refl _)) .nil)).mono (by omega) (by omega)) rfl).va
theorem AllA.data : ∀ {vs : List V}, AllA K H0 G vs → ∃ ds, (∀ H', Kept H0 G H' → DeAll K H' vs ds) ∧ ds.length = vs.length ∧ (∀ d ∈ ds, d.hasDict = false ∧ Sd 3 170 d)
  | [], _ => ⟨[], fun _ _ => .nil, rfl, fun d h => by cases h⟩
  | v :: vs, h => by
    obtain ⟨d, h1, h2, h3⟩ := h.1
    obtain ⟨ds, k1, kl, k2⟩ := AllA.data h.2
    exact ⟨d :: ds, fun H' k => .cons (h1 H' k) (k1 H' k), by rw [List.length_cons, List.length_cons, kl], fun x hx => (List.mem_cons.mp hx).elim (fun e => e ▸ ⟨h2, h3⟩) (k2 x)⟩
theorem AllN.data : ∀ {vs : List V}, AllN K H0 G vs → ∃ ds, (∀ H', Kept H0 G H' → DeAll K H' vs ds) ∧ ds.length = vs.length ∧ (∀ d ∈ ds, d.hasDict = false ∧ Sd 3 170 d ∧ noL d = true)
  | [], _ => ⟨[], fun _ _ => .nil, rfl, fun d h => by cases h⟩
  | v :: vs, h => by
    obtain ⟨d, h1, h2, h3, h4⟩ := h.1
    obtain ⟨ds, k1, kl, k2⟩ := AllN.data h.2
    exact ⟨d :: ds, fun H' k => .cons (h1 H' k) (k1 H' k), by rw [List.length_cons, List.length_cons, kl], fun x hx => (List.mem_cons.mp hx).elim (fun e => e ▸ ⟨h2, h3, h4⟩) (k2 x)⟩
/-- what may lie in a told list -/
def LsOk (d : PyData) : Prop := ∀ ds, d = .list ds → noLAll ds = true
/-- a value that may be told for a step -/
def OddV (K : PySem.W.Frag) (H0 G : Hp) (v : V) : Prop := ∃ d, (∀ H', Kept H0 G H' → De K H' v d) ∧ Ok1 d ∧ Sd 4 1000 d ∧ LsOk d
theorem OddV.same (h : OddV K H0 G v) (s : Same G G') : OddV K H0 G' v := by
  obtain ⟨d, h1, h2, h3, h4⟩ := h
  exact ⟨d, fun H' k => h1 H' (k.same s), h2, h3, h4⟩
theorem OddV.atom (h : AtomN K H0 G v) : OddV K H0 G v := by
  obtain ⟨d, h1, h2, h3, h4⟩ := h
  exact ⟨d, h1, .inr h2, h3.mono (by omega) (by omega), fun ds e => by rw [e] at h4; simp [noL] at h4⟩
theorem OddV.non : OddV K H0 G .non := ⟨_, fun _ _ => .non, .inr (by simp only [PyData.hasDict]), sd_non.mono (by omega) (by omega), fun ds e => by cases e⟩
theorem OddV.bl (c : Bool) : OddV K H0 G (.bl c) := ⟨_, fun _ _ => .bl c, .inr (by simp only [PyData.hasDict]), (sd_bl c).mono (by omega) (by omega), fun ds e => by cases e⟩
theorem OddV.emp (h : G p = some (.dK [])) : OddV K H0 G (.ref p) := ⟨_, fun _ k => .dict (k _ _ h (.inl fun _ => HO.noConfusion)) .nil, .inl rfl, sd_emp.mono (by omega) (by omega), fun ds e => by cases e⟩
theorem OddV.tupS (h : SqT K G p xs) (l : xs.length ≤ 5) (a : AllA K H0 G xs) : OddV K H0 G (.ref p) := by
  obtain ⟨ds, h1, hl, h2⟩ := a.data
  refine ⟨_, fun H' k => .tup (k.sqT h) (h1 H' k), .inr (hasDict_tup.mpr fun y hy => (h2 y hy).1), (sd_tup fun d hd => (h2 d hd).2).mono (by omega) ?_, fun ds e => by cases e⟩
  rw [hl]
  exact Nat.le_trans (Nat.mul_le_mul_right _ l) (by decide)
theorem OddV.tup (h : G p = some (.tup xs)) (l : xs.length ≤ 5) (a : AllA K H0 G xs) : OddV K H0 G (.ref p) := .tupS (sqT_of h) l a
theorem OddV.lst (h : G p = some (.lst xs)) (lt : sysModules < p) (n : H0 p = none) (l : xs.length ≤ 5) (a : AllN K H0 G xs) : OddV K H0 G (.ref p) := by
  obtain ⟨ds, h1, hl, h2⟩ := a.data
  have z : ∀ y ∈ ds, y.hasDict = false := fun y hy => (h2 y hy).1
  refine ⟨_, fun H' k => .lst (k _ _ h (.inr n)) lt (h1 H' k), .inr ?_, (sd_lst fun d hd => (h2 d hd).2.1).mono (by omega) ?_, fun es e => ?_⟩
  · have := hasDict_tup.mpr z
    simpa only [PyData.hasDict] using this
  · rw [hl]
    exact Nat.le_trans (Nat.mul_le_mul_right _ l) (by decide)
  · cases e; exact noLAll_iff.mpr fun y hy => (h2 y hy).2.2
def Odds (K : PySem.W.Frag) (H0 G : Hp) (vs : List V) : Prop := ∀ v ∈ vs, OddV K H0 G v
theorem Odds.nil : Odds K H0 G [] := fun v h => by cases h
theorem Odds.same {vs : List V} (h : Odds K H0 G vs) (s : Same G G') : Odds K H0 G' vs := fun v hv => (h v hv).same s
theorem Odds.snoc {vs : List V} (h : Odds K H0 G vs) (o : OddV K H0 G v) : Odds K H0 G (vs ++ [v]) := fun x hx => (List.mem_append.mp hx).elim (h x) fun q => by rw [List.mem_singleton.mp q]; exact o
theorem Odds.app {vs ws : List V} (h : Odds K H0 G vs) (o : Odds K H0 G ws) : Odds K H0 G (vs ++ ws) := fun x hx => (List.mem_append.mp hx).elim (h x) (o x)
end
theorem fresh0 {b p : Addr} {d : Int} {H0 H : Hp} (s : SB b H0 H) (B : BoxAt H b d) (n : H p = none) : H0 p = none := by
  have npb := box_ne B n
  rcases e : H0 p with _ | o
  · rfl
  · rw [s _ _ npb e] at n; cases n
section
variable {K : PySem.W.Frag} {H : Hp} {Q : VK} {b : Addr} {d : Int}
theorem i_listB {p : Addr} {ys : List V} (B : BoxAt H b d) (h : SqL K H p ys ∨ SqT K H p ys) (k : ∀ l H', sysModules < l → H l = none → BoxAt H' b d → Same (L2.del H b) (L2.del H' b) → L2.del H' b l = some (.lst ys) → Same H H' → Q (.ref l) H') : rListL K [.ref p] H Q :=
  i_listL h fun l n lt => k l _ lt n (B.same (same_upd n)) (del_sb (SB.of (same_upd n))) (del_new B n) (same_upd n)
theorem i_catB {a c : Addr} {xs ys : List V} (B : BoxAt H b d) (h : SqT K (L2.del H b) a xs) (h2 : SqT K (L2.del H b) c ys) (l : xs.length + ys.length ≤ sizeLine) (k : ∀ t H', BoxAt H' b d → Same (L2.del H b) (L2.del H' b) → SqT K (L2.del H' b) t (xs ++ ys) → Same H H' → Q (.ref t) H') : rCatA K (.ref a) (.ref c) H Q := by
  refine ⟨a, c, xs, ys, rfl, rfl, Same.sqT del_sub h, Same.sqT del_sub h2, l, fun e => ?_, fun e1 e2 => ?_, fun e1 e2 p np => ?_⟩
  · rw [e] at k; exact k _ _ B (Same.refl _) h2 (Same.refl _)
  · rw [e2, List.append_nil] at k; exact k _ _ B (Same.refl _) h (Same.refl _)
  · exact k _ _ (B.same (same_upd np)) (del_sb (SB.of (same_upd np))) (sqT_of (del_new B np)) (same_upd np)
theorem i_sl1B {a : Addr} {xs : List V} (B : BoxAt H b d) (h : SqT K H a xs) (l : 2 ≤ xs.length) (k : ∀ t H', BoxAt H' b d → Same (L2.del H b) (L2.del H' b) → L2.del H' b t = some (.tup (xs.take 1)) → Same H H' → Q (.ref t) H') : rSlA K (.ref a) none (some 1) H Q := by
  refine ⟨a, xs, rfl, h, fun e => ?_, fun e p np => ?_⟩
  · rw [show (some (1 : Int)) = some ((1 : Nat) : Int) from rfl, HT.sIx_nat] at e
    omega
  · have : cutV xs none (some 1) = xs.take 1 := by
      unfold cutV
      rw [show (some (1 : Int)) = some ((1 : Nat) : Int) from rfl, HT.sIx_nat, HT.sIx_none, List.drop_zero, Nat.sub_zero, Nat.min_eq_left (by omega)]
    rw [this]
    exact k _ _ (B.same (same_upd np)) (del_sb (SB.of (same_upd np))) (del_new B np) (same_upd np)
theorem i_slTB {a : Addr} {xs : List V} {n : Nat} (B : BoxAt H b d) (h : SqT K (L2.del H b) a xs) (k : ∀ t H', BoxAt H' b d → Same (L2.del H b) (L2.del H' b) → SqT K (L2.del H' b) t (xs.take n) → Same H H' → Q (.ref t) H') : rSlA K (.ref a) none (some (n : Int)) H Q := by
  refine ⟨a, xs, rfl, Same.sqT del_sub h, fun e => ?_, fun e p np => ?_⟩
  · rw [HT.sIx_nat, HT.sIx_none] at e
    refine k _ _ B (Same.refl _) ?_ (Same.refl _)
    rw [List.take_of_length_le (by omega)]; exact h
  · have : cutV xs none (some (n : Int)) = xs.take n := by
      unfold cutV
      rw [HT.sIx_nat, HT.sIx_none, List.drop_zero, Nat.sub_zero]
      by_cases hk : n ≤ xs.length
      · rw [Nat.min_eq_left hk]
      · rw [Nat.min_eq_right (by omega), List.take_length, List.take_of_length_le (by omega)]
    rw [this]
    exact k _ _ (B.same (same_upd np)) (del_sb (SB.of (same_upd np))) (sqT_of (del_new B np)) (same_upd np)
theorem i_slFB {a : Addr} {xs : List V} {n : Nat} (B : BoxAt H b d) (h : SqT K (L2.del H b) a xs) (k : ∀ t H', BoxAt H' b d → Same (L2.del H b) (L2.del H' b) → SqT K (L2.del H' b) t (xs.drop n) → Same H H' → Q (.ref t) H') : rSlA K (.ref a) (some (n : Int)) none H Q := by
  refine ⟨a, xs, rfl, Same.sqT del_sub h, fun e => ?_, fun e p np => ?_⟩
  · rw [HT.sIx_nat] at e
    refine k _ _ B (Same.refl _) ?_ (Same.refl _)
    by_cases hk : n = 0
    · rw [hk, List.drop_zero]; exact h
    · have : xs = [] := List.eq_nil_of_length_eq_zero (by omega)
      rw [this, List.drop_nil]; rw [this] at h; exact h
  · have : cutV xs (some (n : Int)) none = xs.drop n := by
      unfold cutV
      rw [HT.sIx_nat, HT.sIx_none]
      by_cases hk : n ≤ xs.length
      · rw [Nat.min_eq_left hk, List.take_of_length_le (by rw [List.length_drop]; omega)]
      · rw [Nat.min_eq_right (by omega), List.drop_of_length_le (by omega), List.drop_of_length_le (by omega), List.take_nil]
    rw [this]
    exact k _ _ (B.same (same_upd np)) (del_sb (SB.of (same_upd np))) (sqT_of (del_new B np)) (same_upd np)
theorem i_catLB {a c : Addr} {xs ys : List V} (B : BoxAt H b d) (h : L2.del H b a = some (.lst xs)) (h2 : L2.del H b c = some (.lst ys)) (l : xs.length + ys.length ≤ sizeLine) (k : ∀ t H', BoxAt H' b d → Same (L2.del H b) (L2.del H' b) → L2.del H' b t = some (.lst (xs ++ ys)) → Same H H' → Q (.ref t) H') : rCat (.ref a) (.ref c) H Q :=
  ⟨a, c, xs, ys, rfl, rfl, del_sub _ _ h, del_sub _ _ h2, l, fun p np => k _ _ (B.same (same_upd np)) (del_sb (SB.of (same_upd np))) (del_new B np) (same_upd np)⟩
end
end Sw
namespace Sw
open PySem PySem.Spec PyProof.Rows L2
/-! ### calls by names -/
def rev2 {α : Type} : List α → List α → List α
  | [], [b, a] => [a, b]
  | _, _ => []
theorem rev2_inv {α : Type} {us ws : List α} (h : (rev2 us ws).length = 2) : us = [] ∧ ∃ b a, ws = [b, a] := by
  unfold rev2 at h
  split at h
  · exact ⟨rfl, _, _, rfl⟩
  · cases h
theorem rev2_rel {vs : List V} {us : List Value} {zs : List V} {ws : List Value} (r : Vals vs us) (r2 : Vals zs ws) : Vals (rev2 vs zs) (rev2 us ws) := by
  unfold rev2
  cases r with
  | cons _ _ => exact .nil
  | nil =>
    cases r2 with
    | nil => exact .nil
    | cons a r2 =>
      cases r2 with
      | nil => exact .nil
      | cons b r2 =>
        cases r2 with
        | nil => exact .cons b (.cons a .nil)
        | cons _ _ => exact .nil
def one1 {α : Type} : List α → List α → List α
  | [], [a] => [a]
  | _, _ => []
theorem one1_inv {α : Type} {us ws : List α} (h : (one1 us ws).length = 1) : us = [] ∧ ∃ a, ws = [a] := by
  unfold one1 at h
  split at h
  · exact ⟨rfl, _, rfl⟩
  · cases h
theorem one1_rel {vs : List V} {us : List Value} {zs : List V} {ws : List Value} (r : Vals vs us) (r2 : Vals zs ws) : Vals (one1 vs zs) (one1 us ws) := by
  unfold one1
  cases r with
  | cons _ _ => exact .nil
  | nil =>
    cases r2 with
    | nil => exact .nil
    | cons a r2 =>
      cases r2 with
      | nil => exact .cons a .nil
      | cons _ _ => exact .nil
end Sw
namespace Sw
open PySem PySem.Spec PyProof.Rows L2
theorem Fun.okG0 {P : Program} {w : World} {K : PySem.W.Frag} {mg : Str → Option Value} {base : Heap} {k : Nat} {f : Addr} {fd : FuncData} {ps : List Str} {sp : Sp} {x qual : Str} {st : Stmt} {N : List Str} (F : Fun K x qual st f fd) (S : FnScope N ps (defScope st)) (len : ∀ xs M R X, sp xs M R X → xs.length = ps.length)
    (body : ∀ (cdv : Value) (A : Around) (out : List Env) (t : Shared) (M : Hp) (xs : List V) (R : VK) (X : XK), Room k (A.deeper (envOfC qual (defScope st) t.heap.objs.size f cdv)) → A.guards = some [] → sp xs M R X →
      ∃ r, PSs (cxOf CX0 P w K mg base N qual (defScope st) f cdv A out t M X).nox (defBody st) r ∧ r { nx := fun _ M' => R .non M', rt := R } (start N xs) M) : FnG P w K mg base CX0 (k + 1) f fd ps sp :=
  Sw.Fun.okG F S len fun cdv A out t M xs R X room quiet prom => by
    obtain ⟨r, h, q⟩ := body cdv A out t M xs R X room quiet prom
    exact ⟨r, h.nox, q⟩
end Sw
namespace Sw
open PySem PySem.Spec PyProof.Rows L2 PySem.SwE
/-- an own exception class with the one attribute given, named x, as it stands behind the top -/
structure XQ (x : Str) (P : Program) (w : World) (K : PySem.W.Frag) (mg : Str → Option Value) (base : Heap) (C : Addr) : Prop where
  T : OexE K C
  xf : XfC K C
  no : PySem.W.findIn K (.ref C) "given" = some none
  hm : mg x = some (.ref C)
  me : PySem.W.exmOne K (.ref C) (.ref C) = some true
  ini : ∃ (fI : Addr) (fd : FuncData), PySem.W.findIn K (.ref C) "__init__" = some (some (.ref fI)) ∧ PySem.W.typeIn K (.ref fI) = some (.type "function") ∧ FnOk P w K mg base CX0 1 fI fd ["self", "given"] (spInit K) ∧ Binds K fd ["self", "given"] []
theorem pmk_Q {X : Cx} {x : Str} {C : Addr} {n : Nat} {e : Expr} {te : TE} {p pos : Pos} (xt : XQ x X.prog X.w X.K X.mg X.base C) (hr : Room n X.A) (he : PE X e te) (hn : 2 ≤ n := by decide) (hg : Gl X x := by rfl)
    (hdb : (x == ("__debug__" : Str)) = false := by decide) (he2 : starEach [e] X.env = (false, eval e X.env) :: starEach [] X.env := by rfl) : PMk X (.Call (.Name x p) [e] [] pos) (tMkO C (spInit X.K) [] (tCons te tNil)) := by
  obtain ⟨fI, fd, h1, h2, h3, h4⟩ := xt.ini
  exact pmk_E xt.T h1 h2 h3 (hr.mono hn) h4 pass0 xt.hm (pa_cons he pa_nil he2) hg hdb he2 (by rfl)
theorem names_Q {x : Str} {P : Program} {w : World} {K : PySem.W.Frag} {mg : Str → Option Value} {base : Heap} {X : Cx} {C : Addr} (xt : XQ x P w K mg base C) (hm : X.mg = mg := by rfl) (hg : Gl X x := by rfl) (hd : (x == ("__debug__" : Str)) = false := by decide) : Names X x (.ref C) := ⟨hg, hd, .inl (by rw [hm]; exact xt.hm)⟩
end Sw
namespace Sw
open PySem PySem.Spec PyProof.Rows L2
/-! ### [e for a in xs for b in ys if c] -/
def Lc2Go (J : It) (g : TG) (tt : TT) (wi1 : TI) (g1 : TG) (tt1 : TT) (te : TE) (vs vs1 : List Nat) (σ : L2.St) (H1 : Hp) (Q : VK) : Prop := ∀ D, H1 D = none → ∃ W : Nat → Nat → Hp → Prop, (∃ m, W 0 m (upd H1 D (.lst []))) ∧ ∀ i m H, W i m H →
  (J.stop i H ∧ Q (.ref D) H) ∨ (J.go i H ∧ ∃ Nx : Hp → Prop, (∀ H', Nx H' → ∃ m', m' < m ∧ W (i + 1) m' H') ∧ ∀ x H', J.yld i H x H' → g x (wipe σ vs) H' fun σ2 H2 => wipe σ2 vs = wipe σ vs ∧ tt σ2 H2 fun b H3 =>
    if b = true then wi1 σ2 H3 fun J1 H4 => ∃ W1 : Nat → Nat → Hp → Prop, (∃ m, W1 0 m H4) ∧ ∀ j k H, W1 j k H →
      (J1.stop j H ∧ Nx H) ∨ (J1.go j H ∧ ∃ Nx1 : Hp → Prop, (∀ H', Nx1 H' → ∃ k', k' < k ∧ W1 (j + 1) k' H') ∧ ∀ x H', J1.yld j H x H' → g1 x (wipe σ2 vs1) H' fun σ3 H5 => wipe σ3 vs1 = wipe σ2 vs1 ∧ tt1 σ3 H5 fun b H6 =>
        if b = true then te σ3 H6 fun y H7 => ∃ acc, H7 D = some (.lst acc) ∧ acc.length < sizeLine ∧ Nx1 (upd H7 D (.lst (acc ++ [y]))) else Nx1 H6)
    else Nx H3)
theorem i_lc2 {wi wi1 : TI} {g g1 : TG} {tt tt1 : TT} {te : TE} {vs vs1 : List Nat} {σ : L2.St} {H : Hp} {Q : VK} (h : wi σ H fun J H1 => Lc2Go J g tt wi1 g1 tt1 te vs vs1 σ H1 Q) : tLc2 wi g tt wi1 g1 tt1 te vs vs1 σ H Q := h
/-- the inner walk -/
structure In2Go (J1 : It) (n1 : Nat) (G1 : Hp → Prop) (Y1 : Nat → Hp → V → Hp → Prop) (g1 : TG) (tt1 : TT) (te : TE) (vs1 : List Nat) (σ2 : L2.St) (p : Addr) (H4 : Hp) (Pw : Nat → Hp → Prop) (Nx : Hp → Prop) : Prop where
  w : Walk J1 n1 G1 Y1
  h0 : Pw 0 H4
  hG : ∀ j H, j ≤ n1 → Pw j H → G1 H
  hs : ∀ j x H H', j < n1 → Pw j H → Y1 j H x H' → g1 x (wipe σ2 vs1) H' fun σ3 H5 => wipe σ3 vs1 = wipe σ2 vs1 ∧ tt1 σ3 H5 fun b H6 =>
    if b = true then te σ3 H6 fun y H7 => ∃ acc, H7 p = some (.lst acc) ∧ acc.length < sizeLine ∧ Pw (j + 1) (upd H7 p (.lst (acc ++ [y]))) else Pw (j + 1) H6
  hd : ∀ H, Pw n1 H → Nx H
theorem go_lc2 {J : It} {n : Nat} {G : Hp → Prop} {Y : Nat → Hp → V → Hp → Prop} {g : TG} {tt : TT} {wi1 : TI} {g1 : TG} {tt1 : TT} {te : TE} {vs vs1 : List Nat} {σ : L2.St} {H1 : Hp} {Q : VK} (w : Walk J n G Y) (Pv : Addr → Nat → Hp → Prop) (h0 : ∀ p, H1 p = none → Pv p 0 (upd H1 p (.lst []))) (hG : ∀ p i H, i ≤ n → Pv p i H → G H)
    (hs : ∀ p, H1 p = none → ∀ i x H H', i < n → Pv p i H → Y i H x H' → g x (wipe σ vs) H' fun σ2 H2 => wipe σ2 vs = wipe σ vs ∧ tt σ2 H2 fun b H3 =>
      if b = true then wi1 σ2 H3 fun J1 H4 => ∃ n1 G1 Y1 Pw, In2Go J1 n1 G1 Y1 g1 tt1 te vs1 σ2 p H4 Pw (Pv p (i + 1)) else Pv p (i + 1) H3)
    (hd : ∀ p H, H1 p = none → Pv p n H → Q (.ref p) H) (monoI : ∀ σ2 H3 (R R' : It → Hp → Prop), (∀ J1 H4, R J1 H4 → R' J1 H4) → wi1 σ2 H3 R → wi1 σ2 H3 R')
    (mono1 : ∀ x σ H (R R' : L2.St → Hp → Prop), (∀ σ' H', R σ' H' → R' σ' H') → g x σ H R → g x σ H R') (mono2 : ∀ σ H (R R' : Bool → Hp → Prop), (∀ b H', R b H' → R' b H') → tt σ H R → tt σ H R') : Lc2Go J g tt wi1 g1 tt1 te vs vs1 σ H1 Q := by
  intro p np
  refine ⟨fun i m H => m = n - i ∧ i ≤ n ∧ Pv p i H, ⟨n, by simp, Nat.zero_le _, h0 p np⟩, ?_⟩
  rintro i m H ⟨rfl, hi, pv⟩
  have q := hG p i H hi pv
  by_cases hlt : i < n
  · refine .inr ⟨w.goes i H hlt q, Pv p (i + 1), fun H' p' => ⟨n - (i + 1), by omega, rfl, hlt, p'⟩, fun x H' y => ?_⟩
    refine mono1 _ _ _ _ _ (fun σ2 H2 h => ⟨h.1, mono2 _ _ _ _ (fun b H3 h => ?_) h.2⟩) (hs p np i x H H' hlt pv (w.yields i H x H' hlt q y))
    by_cases hb : b = true
    · rw [if_pos hb] at h ⊢
      refine monoI _ _ _ _ (fun J1 H4 h => ?_) h
      obtain ⟨n1, G1, Y1, Pw, I⟩ := h
      refine ⟨fun j m H => m = n1 - j ∧ j ≤ n1 ∧ Pw j H, ⟨n1, by simp, Nat.zero_le _, I.h0⟩, ?_⟩
      rintro j m H ⟨rfl, hj, pw⟩
      have q := I.hG j H hj pw
      by_cases hlt : j < n1
      · exact .inr ⟨I.w.goes j H hlt q, Pw (j + 1), fun H' p' => ⟨n1 - (j + 1), by omega, rfl, hlt, p'⟩, fun x H' y => I.hs j x H H' hlt pw (I.w.yields j H x H' hlt q y)⟩
      · have e : j = n1 := by omega
        subst e
        exact .inl ⟨I.w.stops H q, I.hd H pw⟩
    · rw [if_neg hb] at h ⊢
      exact h
  · have e : i = n := by omega
    subst e
    exact .inl ⟨w.stops H q, hd p H np pv⟩
theorem mono_yes (σ : L2.St) (H : Hp) (R R' : Bool → Hp → Prop) (h : ∀ b H', R b H' → R' b H') (q : tYes σ H R) : tYes σ H R' := h _ _ q
end Sw
namespace Sw
open PySem PySem.Spec PyProof.Rows L2
/-! ### a tuple once, or more often -/
theorem tuple_mul1 (l : Addr) (items : Array Value) (n : Nat) (dd : Option Addr) (sl : Array (Option Value)) (u : Tok) :
    Meets (Builtin.«tuple.__mul__» ⟨[.ref l, .int 1 u], []⟩) (fun _ R s => s.heap.get? l = some { cls := .type "tuple", dict := dd, data := .seq items n, slots := sl } ∧
      R (.ok (.ret (Value.ref l))) s) :=
  .of_wp fun prog w A R s h => by
    obtain ⟨hp, g, d, tk, os⟩ := s
    obtain ⟨hl, h⟩ := h
    have f1 := AutoSeq1.idx_int
    have c1 : (items.isEmpty || ((1 : Int) == 1)) = true := by rw [show ((1 : Int) == 1) = true from rfl, Bool.or_true]
    wp_walk using wpAny_loadPart' hl, wpAny_load hl
    repeat (first
      | (refine wpAny_ite_true c1 ?_; wp_walk using wpAny_loadPart' hl, wpAny_load hl)
      | (refine wpAny_ite_true (decide_eq_true c1) ?_; wp_walk using wpAny_loadPart' hl, wpAny_load hl))
    exact ⟨_, rfl, h⟩
/-- a tuple once is itself -/
def rRepU (K : PySem.W.Frag) : R2 := fun x y H Q => (∃ l xs, x = .ref l ∧ y = .int 1 ∧ SqT K H l xs ∧ Q (.ref l) H) ∨ rRepT K x y H Q
theorem op_repU {X : Cx} : OpR X (binaryOp .Mult) (rRepU X.K) := by
  intro pins s σ H x y v u Q I rx ry h
  rcases h with ⟨l, xs, rfl, rfl, hT, q⟩ | h
  · cases rx
    obtain ⟨t, rfl⟩ := ry
    obtain ⟨its, r, ⟨⟨cls, dd, data, sl⟩, ho, hc, n, hd⟩, hs⟩ := I.tuple hT
    simp only at hc hd
    subst hc hd
    refine wpAny_binaryOp_repeat_ref (T := "tuple") (U := "int") (by decide) ⟨_, ho, rfl⟩ (fun s' => typeIs_int s' 1 t) noFill_tuple_mul F.fills_int_mul F.slot_int_rmul repeat_tuple F.slot_int_index.lookup
      (call_meets F.slot_int_rmul (typeIs_int s 1 t) F.entry_int_rmul (F.args_int_rmul_2 _ _) (int_rmul_tuple 1 t l its.toArray n dd sl)
        ⟨ho, rfl, ⟨_, ho, rfl⟩, call_meets F.slot_tuple_mul ⟨_, ho, rfl⟩ F.entry_tuple_mul (F.args_tuple_mul_2 _ _) (tuple_mul1 l its.toArray n dd sl t) ⟨ho, ?_⟩⟩)
    exact ⟨.ref l, H, I, rfl, q⟩
  · exact op_repT pins s σ H x y v u Q I rx ry h
theorem i_rep1 {K : PySem.W.Frag} {l : Addr} {xs : List V} {H : Hp} {Q : VK} (h : SqT K H l xs) (q : Q (.ref l) H) : rRepU K (.ref l) (.int 1) H Q := .inl ⟨l, xs, rfl, rfl, h, q⟩
theorem i_repN {K : PySem.W.Frag} {l : Addr} {xs : List V} {k : Nat} {H : Hp} {Q : VK} (h : SqT K H l xs) (ne : xs ≠ []) (h2 : 2 ≤ k) (h3 : k ≤ 1000) (h4 : xs.length ≤ 1000) (q : ∀ p H', H p = none → Same H H' → H' p = some (.tup (List.replicate k xs).flatten) → Q (.ref p) H') : rRepU K (.ref l) (.int (k : Int)) H Q :=
  .inr ⟨l, k, xs, rfl, rfl, h, ne, by omega, by omega, h4, fun p n => by
    rw [Int.toNat_natCast]; exact q p _ n (same_upd n) upd_same⟩
end Sw
namespace Sw
open PySem PySem.Spec PyProof.Rows L2
/-! ### a call by three names, turned -/
def rev3 {α : Type} : List α → List α → List α
  | [], [c, b, a] => [a, b, c]
  | _, _ => []
theorem rev3_inv {α : Type} {us ws : List α} (h : (rev3 us ws).length = 3) : us = [] ∧ ∃ c b a, ws = [c, b, a] := by
  unfold rev3 at h
  split at h
  · exact ⟨rfl, _, _, _, rfl⟩
  · cases h
theorem rev3_rel {vs : List V} {us : List Value} {zs : List V} {ws : List Value} (r : Vals vs us) (r2 : Vals zs ws) : Vals (rev3 vs zs) (rev3 us ws) := by
  unfold rev3
  cases r with
  | cons _ _ => exact .nil
  | nil =>
    cases r2 with
    | nil => exact .nil
    | cons a r2 =>
      cases r2 with
      | nil => exact .nil
      | cons b r2 =>
        cases r2 with
        | nil => exact .nil
        | cons c r2 =>
          cases r2 with
          | nil => exact .cons c (.cons b (.cons a .nil))
          | cons _ _ => exact .nil
end Sw
namespace Sw
open PySem PySem.Spec PyProof.Rows L2
/-! ### dicts whose keys are tuples: a store, a display of one pair, a comprehension -/
section
variable {X : Cx}
/-- the store of a display and of a comprehension -/
theorem put_tup {pins : List (Addr × Obj)} {σ : L2.St} {H : Hp} {s : Shared} {E : Value → Shared → Prop} {d b : Addr} {kvs : List (List Key × V)} {ks : List Key} {z : V} {r : Value} {Q : Unit → Shared → Prop}
    (room : X.A.units + 1 < cLine) (I : Inv X pins σ H s) (ed : H d = some (.dT kvs)) (eb : H b = some (.tup (ks.map kV))) (few : kvs.length < sizeLine) (rz : RelV z r)
    (go : ∀ s', Inv X pins σ (upd H d (.dT (putK kvs ks z))) s' → Q () s') : wpAny (model X.prog X.w) X.A (dictSet d (.ref b) r) Q E s := by
  have facts := dt_of I.hok ed
  obtain ⟨small, plain, xs, paired, laid⟩ := facts
  have lx : xs.length ≤ sizeLine := Nat.le_trans (Nat.le_of_eq (Paired.length paired).symm) small
  have lp : (putK kvs ks z).length ≤ sizeLine := Nat.le_trans (length_putK kvs ks z) few
  apply wpAny_dictSet_heap (knd := tupleKind (mixKind X.prog X.w)) (hsz := lx) (show X.A.units < cLine from Nat.lt_of_succ_lt room) (key_of I.hok eb) laid
  rintro h2 ⟨o, es, ep, ho, g1, g2, g3, _, g4⟩ only
  have stays : ∀ c ys, H c = some (.tup ys) → upd H d (.dT (putK kvs ks z)) c = some (.tup ys) := by
    intro c ys ec
    have : c ≠ d := fun q => by rw [q, ed] at ec; cases ec
    rw [upd_ne this]; exact ec
  apply go
  exact d_write I (by rw [ed]; trivial) only ⟨o, ho⟩ ⟨lp, plain, _, (paired.put ks eb rz).keeps stays, o, es, ep, ho, g1, g2, g3, g4⟩
/-- {k: v}, k a tuple of ints and texts -/
def tDisp1T (tk tv : TE) : TE := fun σ H Q => ∀ p, H p = none → tk σ (upd H p (.dT [])) fun x H1 => tv σ H1 fun y H2 => ∃ b ks, x = .ref b ∧ H2 p = some (.dT []) ∧ H2 b = some (.tup (ks.map kV)) ∧ Q (.ref p) (upd H2 p (.dT [(ks, y)]))
theorem pe_disp1T {k v : Expr} {pos : Pos} {tk tv : TE} (room : X.A.units + 1 < cLine) (hk : PE X k tk) (hv : PE X v tv) : PE X (.Dict [some k] [v] pos) (tDisp1T tk tv) := by
  constructor
  intro pins s σ H Q I h
  have new := I.hok.fresh (Nat.le_refl s.heap.objs.size)
  have I1 := I.laid (a := s.heap.objs.size) (o := .dT []) (t' := s.toks) (h' := s.heap.push { cls := .type "dict", data := .dict #[] }) (fun _ _ q => Heap.get?_push_of_some _ q) (Nat.le_refl _) (dt_empty s.heap I.big)
  apply wpAny_Dict_any rfl rfl (by simp) (by simp)
  let R : List (V × V) → Hp → Prop := fun ps H2 => match ps with
    | [(x, y)] => ∃ b ks, x = .ref b ∧ H2 s.heap.objs.size = some (.dT []) ∧ H2 b = some (.tup (ks.map kV)) ∧ Q (.ref s.heap.objs.size) (upd H2 s.heap.objs.size (.dT [(ks, y)]))
    | _ => False
  apply thn ((pps_cons (pos := pos) hk hv pps_nil).run pins _ σ _ R I1 (h _ new))
  rintro vs s1 ⟨ps, H2, I2, rel, q⟩
  obtain ⟨x, y, rfl⟩ : ∃ x y, ps = [(x, y)] := by
    rcases ps with _ | ⟨⟨x, y⟩, _ | ⟨_, _⟩⟩
    · exact q.elim
    · exact ⟨x, y, rfl⟩
    · exact q.elim
  obtain ⟨b, ks, rfl, ed, eb, q⟩ : ∃ b ks, x = .ref b ∧ H2 s.heap.objs.size = some (.dT []) ∧ H2 b = some (.tup (ks.map kV)) ∧ Q (.ref s.heap.objs.size) (upd H2 s.heap.objs.size (.dT [(ks, y)])) := q
  obtain ⟨u, r, rfl, ru, rr⟩ : ∃ u r, vs = [(u, r)] ∧ RelV (.ref b) u ∧ RelV y r := by
    cases rel with
    | cons h t =>
      cases t
      exact ⟨_, _, rfl, h.1, h.2⟩
  cases (show u = Value.ref b from ru)
  show wpAny _ _ (forIn [(Value.ref b, r)] PUnit.unit _) _ _ _
  rw [List.forIn_cons]
  refine wpAny_bind (wpAny_bind (put_tup room I2 ed eb (Nat.lt_of_lt_of_le (by decide : 0 < 100000) (Nat.le_of_ble_eq_true rfl)) rr fun s2 I3 => wpAny_pure ?_))
  show wpAny _ _ (forIn [] PUnit.unit _) _ _ _
  rw [List.forIn_nil]
  exact wpAny_pure ⟨.ref s.heap.objs.size, _, I3, rfl, q⟩
/-- {k: v for target in iter}, the keys tuples; D the new dict -/
def tDcT (wi : TI) (g : TG) (tk tv : TE) (vs : List Nat) : TE := fun σ H Q => wi σ H fun J H1 => ∀ D, H1 D = none → ∃ W : Nat → Nat → Hp → Prop, (∃ m, W 0 m (upd H1 D (.dT []))) ∧ ∀ i m H, W i m H →
  (J.stop i H ∧ Q (.ref D) H) ∨ (J.go i H ∧ ∃ Nx : Hp → Prop, (∀ H', Nx H' → ∃ m', m' < m ∧ W (i + 1) m' H') ∧ ∀ x H', J.yld i H x H' → g x (wipe σ vs) H' fun σ2 H2 => wipe σ2 vs = wipe σ vs ∧
    tk σ2 H2 fun y H4 => tv σ2 H4 fun z H5 => ∃ kvs ks b, y = .ref b ∧ H5 b = some (.tup (ks.map kV)) ∧ H5 D = some (.dT kvs) ∧ kvs.length < sizeLine ∧ Nx (upd H5 D (.dT (putK kvs ks z))))
theorem pe_dcT {kx vx tg iter : Expr} {scope : Scope} {own : List (Str × Nat)} {pos : Pos} {wi : TI} {g : TG} {tk tv : TE} (room : X.A.units + 1 < cLine) (calm : X.calm = true) (nd : X.N.Nodup) (src : PI X tg iter wi) (ok : BlkOk X.N X.env.scope scope own)
    (pg : ∀ (s : Shared) (H : Hp) (C : Addr) (cl : List (Str × Addr)) (fp : List Addr), PG (X.blk s H scope (compEnvC scope cl C X.env) fp) tg g)
    (pk : ∀ (s : Shared) (H : Hp) (C : Addr) (cl : List (Str × Addr)) (fp : List Addr), PE (X.blk s H scope (compEnvC scope cl C X.env) fp) kx tk)
    (pv : ∀ (s : Shared) (H : Hp) (C : Addr) (cl : List (Str × Addr)) (fp : List Addr), PE (X.blk s H scope (compEnvC scope cl C X.env) fp) vx tv) (plain : ∀ x, foldedSetIterable iter X.env x = pure x := by intro _; rfl) :
    PE X (.DictComp kx vx [⟨tg, iter, [], 0⟩] scope pos) (tDcT wi g tk tv (own.map (·.2))) := by
  constructor
  intro pins s σ H Q I h
  rw [arm_eval_DictComp]
  have cells : ∀ y ∈ scope.names, y.2 = .free → ∃ c, X.env.cells.lookup y.1 = some c := by
    intro y hy e
    apply I.ok.has
    rcases ok.free y hy e with q | q
    · exact .inl q
    · exact .inr q
  apply wpAny_comprehension_free rfl plain (closure_ok cells) ok.kind (fun y hy e => by rw [ok.uniq y hy, e])
  apply thn (src.run pins s σ H _ I h)
  intro xv s1 hx
  apply thn hx
  rintro itv s2 ⟨it, fp, tn, J, H2, rfl, I2, T, st2, f2, q⟩
  refine wpAny_newObj_type (newEnv_comp ?_)
  obtain ⟨D, eD⟩ : ∃ D, D = s2.heap.objs.size := ⟨_, rfl⟩
  rw [← eD]
  have noD : H2 D = none := I2.hok.fresh (Nat.le_of_eq eD.symm)
  obtain ⟨W, ⟨m0, w0⟩, turn⟩ := q D noD
  obtain ⟨H3, eH3⟩ : ∃ H3, H3 = upd H2 D (.dT []) := ⟨_, rfl⟩
  obtain ⟨s3, e3⟩ : ∃ s3 : Shared, s3 = { s2 with heap := s2.heap.push { cls := .type "dict", data := .dict #[] } } := ⟨_, rfl⟩
  rw [← eH3] at w0
  have heap3 : s3.heap = s2.heap.push { cls := .type "dict", data := .dict #[] } := by rw [e3]
  have I3 : Inv X pins σ H3 s3 := by
    rw [e3, eH3, eD]
    exact I2.laid (t' := s2.toks) (fun b o e => Heap.get?_push_of_some _ e) (Nat.le_refl _) (dt_empty s2.heap I2.big)
  have fp3 : ∀ b ∈ fp, FpOk X pins H3 b ∧ b < s3.heap.objs.size := by
    intro b hb
    obtain ⟨o, e, _⟩ := T.obj _ _ st2 b hb
    have lt := Heap.lt_size e
    constructor
    · refine ⟨?_, (f2 b hb).2⟩
      rw [eH3, upd_ne (by rw [eD]; exact Nat.ne_of_lt lt)]
      exact (f2 b hb).1
    · rw [heap3, Heap.size_push]; exact Nat.lt_succ_of_lt lt
  have out3 : ∀ b ∈ fp, H3 b = none := fun b hb => (fp3 b hb).1.1
  have I4 := block_start I3 ok nd fp3
  have pg := pg s3 H3 s3.heap.objs.size (cellsFrom (s3.heap.objs.size + 1) scope.names (cloFrom X.env.cells scope.names [])) fp
  have pk := pk s3 H3 s3.heap.objs.size (cellsFrom (s3.heap.objs.size + 1) scope.names (cloFrom X.env.cells scope.names [])) fp
  have pv := pv s3 H3 s3.heap.objs.size (cellsFrom (s3.heap.objs.size + 1) scope.names (cloFrom X.env.cells scope.names [])) fp
  obtain ⟨ce, ece⟩ : ∃ ce, ce = compEnvC scope (cellsFrom (s3.heap.objs.size + 1) scope.names (cloFrom X.env.cells scope.names [])) s3.heap.objs.size X.env := ⟨_, rfl⟩
  obtain ⟨s4, e4⟩ : ∃ s4 : Shared, s4 = { s3 with heap := pushCells (s3.heap.push { cls := .type "dict", data := .dict #[] }) scope.names } := ⟨_, rfl⟩
  rw [← ece] at I4 pg pk pv
  rw [← e4] at I4
  have ceL : ce.locals = s3.heap.objs.size := by rw [ece]; rfl
  have st4 : tn 0 s4.heap := by
    apply T.keep _ _ _ st2
    intro b _ o e
    rw [e4]
    refine pushCells_keeps _ _ _ _ (Heap.get?_push_of_some _ ?_)
    rw [heap3]
    exact Heap.get?_push_of_some _ e
  have gate : ∀ {σ' : L2.St} {H' : Hp} {s' : Shared}, Inv (X.blk s3 H3 scope ce fp) [] σ' H' s' → (∀ b ∈ fp, H' b = none) → ∀ b ∈ fp, FpOk (X.blk s3 H3 scope ce fp) [] H' b := by
    intro σ' H' s' I' out b hb
    have z := I'.ok.exf b hb
    exact ⟨out b hb, z.1, I'.ok.exfs b hb, .inl hb, fun x c e => z.2 x c e, fun p hp => absurd (show p ∈ ([] : List (Addr × Obj)) ++ [] from hp) (by simp)⟩
  have key : codeAny (model X.prog X.w) X.A (.compLoop (.DictComp kx vx [⟨tg, iter, [], 0⟩] scope pos) 0 (.ref it) (.ref D) ce) (compPost (model X.prog X.w) X.A X.xe none (EP X pins σ Q) (.ref D) s3.heap.objs.size) s4 := by
    apply compLoop_anyD (fun n s' => ∃ i H', Inv (X.blk s3 H3 scope ce fp) [] (wipe σ (own.map (·.2))) H' s' ∧ tn i s'.heap ∧ (∀ b ∈ fp, H' b = none) ∧ W i n H') ?_ m0 ⟨0, H3, I4, st4, out3, w0⟩
    rintro n s5 ⟨i, H5, I5, st5, out5, w5⟩
    rcases turn i n H5 w5 with ⟨stop, done⟩ | ⟨go, Nx, nxt, step⟩
    · apply thnF (T.done (X.blk s3 H3 scope ce fp) rfl rfl rfl calm i [] s5 _ H5 (fun _ _ => False) I5 (gate I5 out5) st5 stop)
      rintro r s6 ⟨rfl, I6⟩
      have I7 : Inv X pins σ H5 s6 := by
        apply I3.call' (ch := fp) I6.os I6.base I6.hok I6.bare
        intro b hb
        have z := (fp3 b hb).1.2
        exact ⟨z.2.2.1, z.1, z.2.2.2.1, z.2.2.2.2⟩
      have noC : H5 s3.heap.objs.size = none := by
        have z : H5 ce.locals = none := I6.free
        rwa [ceL] at z
      obtain ⟨m, ns, _⟩ := I6.loc
      have ns : s6.heap.Ns ce.locals m := ns
      rw [ceL] at ns
      refine ⟨m, ns, fun h'' sb => ?_⟩
      obtain ⟨f0, f1, _, f3, f4, f5⟩ := I3.fpOk (Nat.le_refl _) noC
      exact ⟨.ref D, H5, I7.turned (t' := s6.toks) (fun b o hb e => (sb.2 b hb).trans e) f0 f1 f3 f4 f5, rfl, done⟩
    · apply thnF (T.item (X.blk s3 H3 scope ce fp) rfl rfl rfl calm i [] s5 _ H5 (fun _ _ => False) I5 (gate I5 out5) st5 go)
      rintro r s6 ⟨u, rfl, h6⟩
      apply thnF h6
      rintro _ s7 ⟨x, H7, I7, r7, y7, st7, out7⟩
      have I7p := I7.pinned (gate I7 out7) (T.obj _ _ st7)
      apply thnF (pg.run _ s7 _ H7 x u _ I7p r7 (step x H7 y7))
      rintro _ s8 ⟨σ8, H8, I8, same8, q8⟩
      refine wpAny_pure ?_
      rw [if_pos rfl]
      apply thnF (pk.run _ s8 σ8 H8 _ I8 q8)
      rintro z s10 ⟨yk, H10, I10, r10, q10⟩
      apply thnF (pv.run _ s10 σ8 H10 _ I10 q10)
      rintro z2 s11 ⟨yv, H11, I11, r11, kvs, ks, b, rfl, eb, eD11, few, nx⟩
      cases (show z = Value.ref b from r10)
      apply put_tup (X := X.blk s3 H3 scope ce fp) room I11 eD11 eb few r11
      intro s12 I12
      obtain ⟨m', lt, w'⟩ := nxt _ nx
      have pin : ∀ c ∈ fp, ∀ o, s7.heap.get? c = some o → s12.heap.get? c = some o ∧ upd H11 D (.dT (putK kvs ks yv)) c = none := by
        intro c hc o e
        have z := I12.pin (c, o) (List.mem_append_right _ (List.mem_append_right _ (mem_pinsAt hc e)))
        exact ⟨z.1, z.2.1⟩
      have len8 : (wipe σ (own.map (·.2))).length = σ8.length := by rw [← same8, wipe_length]
      refine ⟨m', lt, i + 1, _, (I12.unpinned (pins := [])).weak len8 ?_, T.keep _ _ _ st7 fun c hc o e => (pin c hc o e).1, ?_, w'⟩
      · intro j v e
        rw [← same8] at e
        exact (wipe_some e).1
      · intro c hc
        obtain ⟨o, e, _⟩ := T.obj _ _ st7 c hc
        exact (pin c hc o e).2
  have all := codeAny_compStart_dict key (T.self X.A 0 _ _ _ st4 key)
  rw [e4, ece, e3, eD] at all
  rw [eD]
  exact all
end
end Sw
namespace Sw
open PySem PySem.Spec PyProof.Rows L2
/-! ### answers for dicts keyed by tuples, for a list or a tuple walked by its name -/
theorem room1 {u c : Nat} (h : u + 64 < c) : u + 1 < c := by omega
def rDGet : V → V → Hp → VK → Prop := fun x y H Q => ∃ a v, x = .ref a ∧ DGet H a y (some v) ∧ Q v H
theorem i_dget {td ty : TE} {σ : L2.St} {H : Hp} {Q : VK} (h : td σ H fun x H1 => ty σ H1 fun y H2 => rDGet x y H2 Q) : tDGet td ty σ H Q := h
theorem i_dgetT {a b : Addr} {kvs : List (List Key × V)} {ks : List Key} {v : V} {H : Hp} {Q : VK} (e : H a = some (.dT kvs)) (eb : H b = some (.tup (ks.map kV))) (ev : valV kvs ks = some v) (q : Q v H) : rDGet (.ref a) (.ref b) H Q :=
  ⟨a, v, rfl, by rw [← ev]; exact DGet.t e eb, q⟩
def rInDt : R2 := fun x y H Q => ∃ a o, y = .ref a ∧ DGet H a x o ∧ Q (.bl o.isSome) H
theorem op_inDt {X : Cx} (hu : X.A.units + 64 < cLine) : OpR X (compareOp .In) rInDt := by
  intro pins s σ H x y v u Q I rx ry h
  obtain ⟨a, o, rfl, g, q⟩ := h
  cases (show u = Value.ref a from ry)
  exact d_in (room1 hu) I g rx fun s' I' => ⟨.bl o.isSome, H, I', rfl, q⟩
theorem i_inDt {a b : Addr} {kvs : List (List Key × V)} {ks : List Key} {H : Hp} {Q : VK} (e : H a = some (.dT kvs)) (eb : H b = some (.tup (ks.map kV))) (q : Q (.bl (valV kvs ks).isSome) H) : rInDt (.ref b) (.ref a) H Q := ⟨a, _, rfl, DGet.t e eb, q⟩
theorem i_setD {a b : Addr} {kvs : List (List Key × V)} {ks : List Key} {v : V} {H : Hp} {Q : Hp → Prop} (e : H a = some (.dT kvs)) (eb : H b = some (.tup (ks.map kV))) (l : kvs.length < sizeLine) (q : Q (upd H a (.dT (putK kvs ks v)))) : rSetD (.ref a) (.ref b) v H Q :=
  ⟨a, _, rfl, DPut.t e eb l, q⟩
def NewE (H : Hp) (R : Addr → Hp → Prop) : Prop := ∀ p, H p = none → R p (upd H p (.dT []))
theorem i_dnewT {σ : L2.St} {H : Hp} {Q : VK} (h : NewE H fun p H1 => Q (.ref p) H1) : tDNewT σ H Q := h
theorem i_disp1T {tk tv : TE} {σ : L2.St} {H : Hp} {Q : VK} (h : NewE H fun p H0 => tk σ H0 fun x H1 => tv σ H1 fun y H2 => ∃ b ks, x = .ref b ∧ H2 p = some (.dT []) ∧ H2 b = some (.tup (ks.map kV)) ∧ Q (.ref p) (upd H2 p (.dT [(ks, y)]))) : tDisp1T tk tv σ H Q := h
/-! a list or a tuple, by its name -/
def iSeqV (K : PySem.W.Frag) (i : Nat) : TI := fun σ H R => ∃ a xs J, σ[i]? = some (some (.ref a)) ∧ ((SqL K H a xs ∧ J = Itl K a) ∨ (SqT K H a xs ∧ J = Itt K a)) ∧ R J H
theorem pi_seqV {X : Cx} {tg l : Expr} {i : Nat} (h : PE X l (tVar i)) : PI X tg l (iSeqV X.K i) := by
  refine ⟨fun pins s σ H R I q => ?_⟩
  obtain ⟨a, xs, J, e, ⟨hs, rfl⟩ | ⟨hs, rfl⟩, r⟩ := q
  · exact (pi_list (tg := tg) h).run pins s σ H R I ⟨_, e, a, rfl, ⟨xs, hs⟩, r⟩
  · exact (pi_tup (tg := tg) h).run pins s σ H R I ⟨_, e, a, rfl, ⟨xs, hs⟩, r⟩
theorem walk_seqV {K : PySem.W.Frag} {a : Addr} {xs : List V} {J : It} {H : Hp} (h : (SqL K H a xs ∧ J = Itl K a) ∨ (SqT K H a xs ∧ J = Itt K a)) : Walk J xs.length (fun H' => Same H H') (YAt xs) := by
  rcases h with ⟨h, rfl⟩ | ⟨h, rfl⟩
  · exact walk_list.mono (fun H' s => Same.sqL s h) fun _ _ _ _ _ _ y => y
  · exact walk_tup.mono (fun H' s => Same.sqT s h) fun _ _ _ _ _ _ y => y
theorem i_seqV {K : PySem.W.Frag} {a : Addr} {xs : List V} {i : Nat} {σ : L2.St} {H : Hp} {R : It → Hp → Prop} (e : σ[i]? = some (some (.ref a))) (h : SqL K H a xs ∨ SqT K H a xs) (r : ∀ J, Walk J xs.length (fun H' => Same H H') (YAt xs) → R J H) : iSeqV K i σ H R := by
  rcases h with h | h
  · exact ⟨a, xs, _, e, .inl ⟨h, rfl⟩, r _ (walk_seqV (.inl ⟨h, rfl⟩))⟩
  · exact ⟨a, xs, _, e, .inr ⟨h, rfl⟩, r _ (walk_seqV (.inr ⟨h, rfl⟩))⟩
def DcGo (J : It) (g : TG) (tk tv : TE) (vs : List Nat) (σ : L2.St) (H1 : Hp) (Q : VK) : Prop := ∀ D, H1 D = none → ∃ W : Nat → Nat → Hp → Prop, (∃ m, W 0 m (upd H1 D (.dT []))) ∧ ∀ i m H, W i m H →
  (J.stop i H ∧ Q (.ref D) H) ∨ (J.go i H ∧ ∃ Nx : Hp → Prop, (∀ H', Nx H' → ∃ m', m' < m ∧ W (i + 1) m' H') ∧ ∀ x H', J.yld i H x H' → g x (wipe σ vs) H' fun σ2 H2 => wipe σ2 vs = wipe σ vs ∧
    tk σ2 H2 fun y H4 => tv σ2 H4 fun z H5 => ∃ kvs ks b, y = .ref b ∧ H5 b = some (.tup (ks.map kV)) ∧ H5 D = some (.dT kvs) ∧ kvs.length < sizeLine ∧ Nx (upd H5 D (.dT (putK kvs ks z))))
theorem i_dcT {wi : TI} {g : TG} {tk tv : TE} {vs : List Nat} {σ : L2.St} {H : Hp} {Q : VK} (h : wi σ H fun J H1 => DcGo J g tk tv vs σ H1 Q) : tDcT wi g tk tv vs σ H Q := h
theorem go_dcT {J : It} {n : Nat} {G : Hp → Prop} {Y : Nat → Hp → V → Hp → Prop} {g : TG} {tk tv : TE} {vs : List Nat} {σ : L2.St} {H1 : Hp} {Q : VK} (w : Walk J n G Y) (Pv : Addr → Nat → Hp → Prop) (h0 : ∀ p, H1 p = none → Pv p 0 (upd H1 p (.dT []))) (hG : ∀ p i H, H1 p = none → i ≤ n → Pv p i H → G H)
    (hs : ∀ p, H1 p = none → ∀ i x H H', i < n → Pv p i H → Y i H x H' → g x (wipe σ vs) H' fun σ2 H2 => wipe σ2 vs = wipe σ vs ∧
      tk σ2 H2 fun y H4 => tv σ2 H4 fun z H5 => ∃ kvs ks b, y = .ref b ∧ H5 b = some (.tup (ks.map kV)) ∧ H5 p = some (.dT kvs) ∧ kvs.length < sizeLine ∧ Pv p (i + 1) (upd H5 p (.dT (putK kvs ks z))))
    (hd : ∀ p H, H1 p = none → Pv p n H → Q (.ref p) H) : DcGo J g tk tv vs σ H1 Q := by
  intro p np
  refine ⟨fun i m H => i + m = n ∧ Pv p i H, ⟨n, by omega, h0 p np⟩, ?_⟩
  rintro i m H ⟨le, pv⟩
  have ok := hG p i H np (by omega) pv
  rcases m with _ | m
  · obtain rfl : i = n := by omega
    exact .inl ⟨w.stops H ok, hd p H np pv⟩
  · exact .inr ⟨w.goes i H (by omega) ok, Pv p (i + 1), fun H' q => ⟨m, Nat.lt_succ_self m, by omega, q⟩, fun x H' y => hs p np i x H H' (by omega) pv (w.yields i H x H' (by omega) ok y)⟩
/-- isinstance(x, (list, tuple)) -/
theorem kit_two {K : PySem.W.Frag} {t u1 u2 : Value} {b1 b2 : Bool} (h1 : PySem.W.kitOne K t u1 = some b1) (h2 : PySem.W.kitOne K t u2 = some b2) : PySem.W.kitAny K t [u1, u2] = some (b1 || b2) := by
  cases b1 <;> cases b2 <;> simp [PySem.W.kitAny, h1, h2]
theorem isiLT {K : PySem.W.Frag} {H : Hp} {v : V} {t : Value} {b1 b2 : Bool} {Q : VK} {p : Addr} (ty : TyX K H v t) (e : H p = some (.tup [.ty "list", .ty "tuple"])) (h1 : PySem.W.kitOne K t (.type "list") = some b1) (h2 : PySem.W.kitOne K t (.type "tuple") = some b2) (k : Q (.bl (b1 || b2)) H) : rIsiT K [v, .ref p] H Q :=
  ⟨v, p, _, t, _, _, rfl, e, .cons (.ty _) (.cons (.ty _) .nil), ty, kit_two h1 h2, k⟩
theorem De.isiLT {K : PySem.W.Frag} {H : Hp} {v : V} {d : PyData} {Q : VK} {p : Addr} (h : De K H v d) (e : H p = some (.tup [.ty "list", .ty "tuple"])) (k : Q (.bl (tyB "list" d || tyB "tuple" d)) H) : rIsiT K [v, .ref p] H Q := by
  have a : ∀ {n m : String} {b : Bool}, PySem.W.kitOne K (.type n) (.type m) = some b → PySem.W.kitOne K (.type n) (.type m) = some b := fun q => q
  cases h with
  | non => exact Sw.isiLT (.base .non) e (kit_ty (show _ = some false by decide +kernel)) (kit_ty (show _ = some false by decide +kernel)) k
  | bl b => exact Sw.isiLT (.base (.bl _)) e (kit_ty (show _ = some false by decide +kernel)) (kit_ty (show _ = some false by decide +kernel)) k
  | int i => exact Sw.isiLT (.base (.int _)) e (kit_ty (show _ = some false by decide +kernel)) (kit_ty (show _ = some false by decide +kernel)) k
  | str x => exact Sw.isiLT (.base (.str _)) e (kit_ty (show _ = some false by decide +kernel)) (kit_ty (show _ = some false by decide +kernel)) k
  | lst h1 _ h2 => exact Sw.isiLT (.base (.lst h1)) e (kit_ty (show _ = some true by decide +kernel)) (kit_ty (show _ = some false by decide +kernel)) k
  | tup h1 h2 => exact Sw.isiLT (tyx_tup h1) e (kit_ty (show _ = some false by decide +kernel)) (kit_ty (show _ = some true by decide +kernel)) k
  | dict h1 h2 => exact Sw.isiLT (.base (.dK h1)) e (kit_ty (show _ = some false by decide +kernel)) (kit_ty (show _ = some false by decide +kernel)) k
end Sw
namespace Sw.Oi
open PySem PySem.Calls PySem.W
open Sem (wp)
/-! ### != of two instances whose class tells == alone -/
section
variable {prog : Program} {w : World} {A : Around} {E : Value → Shared → Prop} {s : Shared} {h₀ : Heap} {L : Addr} {m : Str → Option Value} {K : Frag} {x C f : Addr} {ox : Obj} {od : Option Obj} {b tb : Value}
theorem slot_found {M : Model} {name : Str} {id B : String} {args : List Value} {Q : Option Value → Shared → Prop} (kin : K.In s.heap) (inst : InstAt s.heap x ox C od) (found : findIn K (.ref C) name = some (some (.builtin id))) (S : Slot B name id)
    (go : wpAny M A (call (.builtin id) (.ref x :: args)) (fun v => Q (some v)) E s) : wpAny M A (callSpecialIfBound? (.ref x) name args) Q E s := by
  simp only [callSpecialIfBound?, bindSpecialIfBound?]
  refine wpAny_holding (wpAny_bind (wpAny_bind (wpAny_bind (inst.type.here ((looks_findIn kin found).here ?_)))))
  simp only [S.bind]
  refine wpAny_bind (wpAny_askSetting (wpAny_ite ?_))
  have last : wpAny M A (call (.builtin id) ([.ref x] ++ args) >>= fun v => pure (some v)) Q E s := wpAny_bind (wpAny_mono go (fun v s' q => wpAny_pure q) fun _ _ q => q)
  split
  · exact wpAny_bind (wpAny_pure (wpAny_pure last))
  · exact wpAny_tryCatch (wpAny_bind (wpAny_pure (wpAny_pure last)))
theorem ne_body {Q : Fin → Shared → Prop} (room : A.units < cLine) (kin : K.In s.heap) (inst : InstAt s.heap x ox C od) (hs : findIn K (.ref C) "__eq__" = some (some (.ref f))) (hf : isFn K (.ref f) = true)
    (go : wpAny (model prog w) A (call (.ref f) [.ref x, b]) (fun v s' => ∃ c, v = .bool c ∧ Q (.done (.ret (.bool (!c)))) s') E s) : wpAny (model prog w) A (Builtin.«object.__ne__» ⟨[.ref x, b], []⟩) Q E s := by
  unfold Builtin.«object.__ne__»
  repeat (first
    | with_reducible refine wpAny_cRoomFor room ?_
    | (refine wpAny_bind (m := callSpecialIfBound? (.ref x) (Str.ofString "__eq__") [b])
        (ifBound_K kin inst hs hf (wpAny_mono go (fun r s' hr => by
          obtain ⟨c, rfl, hq⟩ := hr
          repeat (first | exact hq | exact wpAny_pure hq | exact wpAny_truthy_bool hq | (refine wpAny_bind (m := truthy (.bool _)) (wpAny_truthy_bool ?_)) | wp_step)) fun _ _ e => e)))
    | wp_step)
theorem ne_K {Q : Value → Shared → Prop} (room : A.units + 1 < cLine) (F : PyProof.Rows.Fr h₀ L s.heap m) (kin₀ : K.In h₀) (inst : InstAt s.heap x ox C od) (hb : Looks (model prog w) s.heap (typeOf b) tb) (nf : notFirst K C tb = true)
    (hne : findIn K (.ref C) "__ne__" = some (some (.builtin "object.__ne__"))) (sub : subIn K (.ref C) (.type "object") = some true) (hs : findIn K (.ref C) "__eq__" = some (some (.ref f))) (hf : isFn K (.ref f) = true)
    (go : wpAny (model prog w) A.in1 (call (.ref f) [.ref x, b]) (fun v s' => ∃ c, v = .bool c ∧ Q (.bool (!c)) s') E s) : wpAny (model prog w) A (richCompare .NotEq (.ref x) b) Q E s := by
  have kin := kin₀.keeps F.keep
  have obj : Looks (model prog w) s.heap (isInstance (.ref x) (.type "object")) true := inst.type.andThen (looks_subIn kin sub)
  have one : wpAny (model prog w) A (tryCompare (.ref x) "__ne__" b) (fun r s' => ∃ v, r = some v ∧ Q v s') E s := by
    simp only [tryCompare]
    refine wpAny_bind (slot_found kin inst hne PySem.F.cmp_object.ne (wpAny_call (codeAny_call_builtin PySem.F.cmp_object.ne.plain PySem.F.cmpEntry_ne
      (check_slot PySem.F.cmpKind_ne PySem.F.cmpSplit_ne obj (PySem.F.cmpArgs_ne _ _) (ne_body (A := A.in1) room kin inst hs hf (wpAny_mono go (fun v s' hv => ?_) fun _ _ e => e))))))
    obtain ⟨c, rfl, hq⟩ := hv
    first | exact ⟨c, rfl, wpAny_pure ⟨_, rfl, hq⟩⟩ | exact ⟨c, rfl, wpAny_pure (wpAny_pure ⟨_, rfl, hq⟩)⟩ | exact ⟨c, rfl, ⟨_, rfl, hq⟩⟩
  unfold richCompare
  simp only [oneThing_ref]
  refine wpAny_holding (wpAny_bind (wpAny_cRoomFor (Nat.lt_of_succ_lt room) ?_))
  refine wpAny_bind (inst.type.here (wpAny_bind (hb.here ?_)))
  rw [cmpInfo_NotEq]
  dsimp only
  split
  · rename_i q
    have no : subIn K tb (.ref C) = some false := by
      rcases Bool.or_eq_true_iff.mp nf with e | e
      · rw [beq_iff_eq.mp e] at q; simp at q
      · exact beq_iff_eq.mp e
    refine wpAny_bind ((looks_subIn kin no).here ?_)
    simp only [Bool.false_eq_true, if_false]
    refine wpAny_bind (wpAny_mono one (fun r s' z => ?_) fun _ _ e => e)
    obtain ⟨v, rfl, hq⟩ := z
    exact wpAny_pure hq
  · refine wpAny_bind (wpAny_pure ?_)
    simp only [Bool.false_eq_true, if_false]
    refine wpAny_bind (wpAny_mono one (fun r s' z => ?_) fun _ _ e => e)
    obtain ⟨v, rfl, hq⟩ := z
    exact wpAny_pure hq
end
end Sw.Oi
namespace Sw
open PySem PySem.Spec PyProof.Rows L2
/-- the class at C tells == by a def of the program, != not -/
structure EqI (P : Program) (w : World) (K : PySem.W.Frag) (mg : Str → Option Value) (base : Heap) (k : Nat) (C : Addr) (sp : Sp) : Prop where
  ex : ∃ (f : Addr) (fd : FuncData) (ps : List Str), PySem.W.findIn K (.ref C) "__eq__" = some (some (.ref f)) ∧ PySem.W.isFn K (.ref f) = true ∧ FnOk P w K mg base CX0 k f fd ps sp ∧ Binds K fd ps []
  ne : PySem.W.findIn K (.ref C) "__ne__" = some (some (.builtin "object.__ne__"))
  sub : PySem.W.subIn K (.ref C) (.type "object") = some true
def rOwnR (C : Addr) (sp : Sp) (neg : Bool) : R2 := fun x y H Q => ∃ a b dx dy fs gs, x = .ref a ∧ y = .ref b ∧ H a = some (.ins C dx fs) ∧ H b = some (.ins C dy gs) ∧ sp [.ref a, .ref b] H (fun v H' => ∃ r, v = .bl r ∧ Q (.bl (neg ^^ r)) H') L2.E0
section
variable {X : Cx} {k n : Nat} {C : Addr} {sp : Sp}
theorem op_eqO (e : EqI X.prog X.w X.K X.mg X.base k C sp) (hr : Room n X.A) (hk : k + 1 ≤ n := by decide) : OpR X (compareOp .Eq) (rOwnR C sp false) := by
  intro pins s σ H x y v u Q I rx ry h
  obtain ⟨a, b, dx, dy, fs, gs, rfl, rfl, ha, hb, q⟩ := h
  cases (show v = Value.ref a from rx)
  cases (show u = Value.ref b from ry)
  obtain ⟨f, fd, ps, hs, hf, F, bi⟩ := e.ex
  obtain ⟨mA, J, _⟩ := ins_get I.hok ha
  obtain ⟨mB, J', _⟩ := ins_get I.hok hb
  obtain ⟨od, J, _⟩ := J.look
  obtain ⟨od', J', _⟩ := J'.look
  obtain ⟨m, hF⟩ := I.fr
  show wpAny _ _ (richCompare .Eq (.ref a) (.ref b)) _ _ _
  have R := F.raw bi (dvs := []) .nil
  refine PySem.W.cmp_K (op := .Eq) (tb := .ref C) hr.units0 hF I.ok.mod.kin J J'.type (by simp [PySem.W.notFirst]) hs hf ?_
  refine wpAny_mono (wpAny_call (run_fnR (us := [.ref a, .ref b]) (vs := [.ref a, .ref b]) R (hr.mono (by omega)) pass0 I (.cons rfl (.cons rfl .nil)) q)) (fun w' s' z => ?_) fun _ _ x => x
  obtain ⟨z', H', I', rz, r, rfl, qz⟩ := z
  cases rz
  exact ⟨.bl r, H', I', rfl, by simpa using qz⟩
theorem op_neO (e : EqI X.prog X.w X.K X.mg X.base k C sp) (hr : Room n X.A) (hk : k + 1 ≤ n := by decide) : OpR X (compareOp .NotEq) (rOwnR C sp true) := by
  intro pins s σ H x y v u Q I rx ry h
  obtain ⟨a, b, dx, dy, fs, gs, rfl, rfl, ha, hb, q⟩ := h
  cases (show v = Value.ref a from rx)
  cases (show u = Value.ref b from ry)
  obtain ⟨f, fd, ps, hs, hf, F, bi⟩ := e.ex
  obtain ⟨mA, J, _⟩ := ins_get I.hok ha
  obtain ⟨mB, J', _⟩ := ins_get I.hok hb
  obtain ⟨od, J, _⟩ := J.look
  obtain ⟨od', J', _⟩ := J'.look
  obtain ⟨m, hF⟩ := I.fr
  show wpAny _ _ (richCompare .NotEq (.ref a) (.ref b)) _ _ _
  have R := F.raw bi (dvs := []) .nil
  refine Oi.ne_K (tb := .ref C) (Nat.lt_of_le_of_lt (by omega) hr.units) hF I.ok.mod.kin J J'.type (by simp [PySem.W.notFirst]) e.ne e.sub hs hf ?_
  have hr1 : Room k X.A.in1 := (hr.mono hk).in1
  refine wpAny_mono (wpAny_call (SlX.run_at (us := [.ref a, .ref b]) (ws := [.ref a, .ref b]) R hr1 I.env0.in1 pass0 I (.cons rfl (.cons rfl .nil)) q)) (fun w' s' z => ?_) fun _ _ x => x
  obtain ⟨z', H', I', rz, r, rfl, qz⟩ := z
  cases rz
  exact ⟨r, rfl, .bl (!r), H', I', rfl, by simpa using qz⟩
end
end Sw
namespace Sw
open PySem PySem.Spec PyProof.Rows L2
/-! ### fields, making, methods: what is asked -/
def rFldR (K : PySem.W.Frag) (f : Str) : V → Hp → VK → Prop := fun x H Q => ∃ a C dx fs v, x = .ref a ∧ H a = some (.ins C dx fs) ∧ Cls K C ∧ NoAttr K C f ∧ fs.lookup f = some v ∧ Q v H
theorem i_fld {K : PySem.W.Frag} {ta : TE} {f : Str} {σ : L2.St} {H : Hp} {Q : VK} (h : ta σ H fun x H1 => rFldR K f x H1 Q) : tFld K ta f σ H Q := h
def rSFld (K : PySem.W.Frag) (f : Str) (y x : V) (H : Hp) (R : Hp → Prop) : Prop := ∃ a C dx fs, x = .ref a ∧ H a = some (.ins C dx fs) ∧ Cls K C ∧ NoAttr K C f ∧ fs.length < 1000 ∧ R (upd H a (.ins C dx (putF f y fs)))
theorem i_sFld {K : PySem.W.Frag} {ta tv : TE} {f : Str} {D : Ends} {σ : L2.St} {H : Hp} (h : tv σ H fun y H1 => ta σ H1 fun x H2 => rSFld K f y x H2 (D.nx σ)) : sFld K ta tv f D σ H := h
def rMake (C : Addr) (sp : Sp) (E : XK) (vs : List V) (H : Hp) (Q : VK) : Prop := ∀ x dx, H x = none → H dx = none → dx ≠ x → sp (.ref x :: vs) (upd (upd H dx (.own x)) x (.ins C dx [])) (fun v H2 => v = .non ∧ Q (.ref x) H2) E
theorem i_make {C : Addr} {sp : Sp} {E : XK} {t : TA} {σ : L2.St} {H : Hp} {Q : VK} (h : t σ H fun vs H1 => rMake C sp E vs H1 Q) : tMake C sp [] E t σ H Q := by
  unfold tMake
  simp only [List.append_nil]
  exact h
def rMeth (C : Addr) (m : Str) (t : TA) (sp : Sp) (E : XK) (σ : L2.St) (x : V) (H : Hp) (Q : VK) : Prop := ∃ a dx fs, x = .ref a ∧ H a = some (.ins C dx fs) ∧ fs.lookup m = none ∧ t σ H fun vs H2 => sp (x :: (vs ++ [])) H2 Q E
theorem i_meth {C : Addr} {m : Str} {sp : Sp} {E : XK} {ta : TE} {t : TA} {σ : L2.St} {H : Hp} {Q : VK} (h : ta σ H fun x H1 => rMeth C m t sp E σ x H1 Q) : tMeth C m sp [] E ta t σ H Q := h
def rStar (K : PySem.W.Frag) (t : TA) (σ : L2.St) (x : V) (H : Hp) (Q : List V → Hp → Prop) : Prop := ∃ p xs, x = V.ref p ∧ (SqT K H p xs ∨ SqL K H p xs) ∧ t σ H fun ys H2 => Q (xs ++ ys) H2
theorem i_star {K : PySem.W.Frag} {te : TE} {t : TA} {σ : L2.St} {H : Hp} {Q : List V → Hp → Prop} (h : te σ H fun x H1 => rStar K t σ x H1 Q) : StX.tStar K te t σ H Q := h
theorem call_tuple_ofB {X : Cx} {K : PySem.W.Frag} (e : X.K = K) : CallR X (.type "tuple") (fun xs H Q => ∃ p ys, xs = [V.ref p] ∧ (SqL K H p ys ∧ (∀ l, H l = none → Q (.ref l) (upd H l (.tup ys))) ∨ SqT K H p ys ∧ Q (.ref p) H)) := by
  subst e
  exact call_tuple_of
theorem i_isNoS {x : Str} {H : Hp} {Q : VK} (h : Q (.bl false) H) : rIsNo (.str x) .non H Q := ⟨rfl, h⟩
theorem pi_listK {X : Cx} {K : PySem.W.Frag} {l tg : Expr} {tl : TE} (e : X.K = K) (hl : PE X l tl) : PI X tg l (iList K tl) := by
  subst e
  exact pi_list hl
theorem call_lenQB {X : Cx} {K : PySem.W.Frag} (e : X.K = K) : CallR X (.builtin "len") (rLenQ K) := by
  subst e
  exact call_lenQ
end Sw
namespace Sw
open PySem PySem.Spec PyProof.Rows L2 PySem.SwE
/-- X.__init__(self, v): self.f = v -/
def spInitF (K : PySem.W.Frag) (f : Str) : Sp := fun vs H Q _ => ∃ (a C : Addr) (v : V), vs = [.ref a, v] ∧ H a = some (exo a C none) ∧ OexE K C ∧ PySem.W.findIn K (.ref C) f = some none ∧
  ∀ dx, H dx = none → dx ≠ a → Q .non (upd (upd H dx (exd dx [(f, v)])) a (exo a C (some dx)))
/-- an own exception class with the one attribute f, named x -/
structure XF (x f : Str) (P : Program) (w : World) (K : PySem.W.Frag) (mg : Str → Option Value) (base : Heap) (C : Addr) : Prop where
  T : OexE K C
  xf : XfC K C
  no : PySem.W.findIn K (.ref C) f = some none
  hm : mg x = some (.ref C)
  me : PySem.W.exmOne K (.ref C) (.ref C) = some true
  ini : ∃ (fI : Addr) (fd : FuncData), PySem.W.findIn K (.ref C) "__init__" = some (some (.ref fI)) ∧ PySem.W.typeIn K (.ref fI) = some (.type "function") ∧ FnOk P w K mg base CX0 1 fI fd ["self", f] (spInitF K f) ∧ Binds K fd ["self", f] []
theorem pmk_F {X : Cx} {x f : Str} {C : Addr} {n : Nat} {e : Expr} {te : TE} {p pos : Pos} (xt : XF x f X.prog X.w X.K X.mg X.base C) (hr : Room n X.A) (he : PE X e te) (hn : 2 ≤ n := by decide) (hg : Gl X x := by rfl)
    (hdb : (x == ("__debug__" : Str)) = false := by decide) (he2 : starEach [e] X.env = (false, eval e X.env) :: starEach [] X.env := by rfl) : PMk X (.Call (.Name x p) [e] [] pos) (tMkO C (spInitF X.K f) [] (tCons te tNil)) := by
  obtain ⟨fI, fd, h1, h2, h3, h4⟩ := xt.ini
  exact pmk_E xt.T h1 h2 h3 (hr.mono hn) h4 pass0 xt.hm (pa_cons he pa_nil he2) hg hdb he2 (by rfl)
theorem names_F {x f : Str} {P : Program} {w : World} {K : PySem.W.Frag} {mg : Str → Option Value} {base : Heap} {X : Cx} {C : Addr} (xt : XF x f P w K mg base C) (hm : X.mg = mg := by rfl) (hg : Gl X x := by rfl) (hd : (x == ("__debug__" : Str)) = false := by decide) : Names X x (.ref C) := ⟨hg, hd, .inl (by rw [hm]; exact xt.hm)⟩
def ThrownF (K : PySem.W.Frag) (f : Str) (C : Addr) (vs : List V) (H1 : Hp) (Q : XK) : Prop := vs.length ≤ 1000 ∧ ∀ a, H1 a = none → spInitF K f (.ref a :: (vs ++ [])) (upd H1 a (exo a C none))
  (fun v H2 => v = .non ∧ ∃ (d : Addr) (fs : List (Str × V)), H2 a = some (exo a C (some d)) ∧ H2 d = some (exd d fs) ∧ H1 d = none ∧ Q (.ref C) (some d) (upd (del H2 a) d (.xd fs))) (fun _ _ _ => False)
theorem i_mkF {K : PySem.W.Frag} {f : Str} {C : Addr} {ta : TA} {σ : L2.St} {H : Hp} {Q : XK} (h : ta σ H fun vs H1 => ThrownF K f C vs H1 Q) : tMkO C (spInitF K f) [] ta σ H Q := h
theorem i_thrownF {K : PySem.W.Frag} {f : Str} {C : Addr} {v : V} {H1 : Hp} {Q : XK} (T : OexE K C) (no : PySem.W.findIn K (.ref C) f = some none) (h : ∀ dx, H1 dx = none → Q (.ref C) (some dx) (upd H1 dx (.xd [(f, v)]))) : ThrownF K f C [v] H1 Q := by
  refine ⟨by simp, fun a na => ⟨a, C, v, rfl, upd_same, T, no, fun dx nx ne => ⟨rfl, dx, [(f, v)], upd_same, ?_, ?_, ?_⟩⟩⟩
  · rw [upd_ne ne, upd_same]
  · rw [upd_ne ne] at nx; exact nx
  · rw [upd_ne ne] at nx
    have e : upd (del (upd (upd (upd H1 a (exo a C none)) dx (exd dx [(f, v)])) a (exo a C (some dx))) a) dx (.xd [(f, v)]) = upd H1 dx (.xd [(f, v)]) := by
      funext b
      by_cases c : b = dx
      · rw [c, upd_same, upd_same]
      · rw [upd_ne c, upd_ne c]
        by_cases c2 : b = a
        · rw [c2, del_same, na]
        · rw [del_ne c2, upd_ne c2, upd_ne c, upd_ne c2]
    rw [e]
    exact h dx nx
theorem i_notNr {a : Addr} {H : Hp} {Q : VK} (h : Q (.bl true) H) : (V.non = V.non ∧ Q (.bl (!decide (V.ref a = V.non))) H) := ⟨rfl, by rw [decide_eq_false (show ¬ V.ref a = V.non from fun e => by cases e)]; exact h⟩
theorem i_notNn {H : Hp} {Q : VK} (h : Q (.bl false) H) : (V.non = V.non ∧ Q (.bl (!decide (V.non = V.non))) H) := ⟨rfl, by rw [decide_eq_true rfl]; exact h⟩
def rNotInDt : R2 := fun x y H Q => ∃ a o, y = .ref a ∧ DGet H a x o ∧ Q (.bl (!o.isSome)) H
theorem op_notInDt {X : Cx} (hu : X.A.units + 64 < cLine) : OpR X (compareOp .NotIn) rNotInDt := by
  intro pins s σ H x y v u Q I rx ry h
  obtain ⟨a, o, rfl, g, q⟩ := h
  cases (show u = Value.ref a from ry)
  exact d_notIn (room1 hu) I g rx fun s' I' => ⟨.bl (!o.isSome), H, I', rfl, q⟩
theorem i_notInDt {a b : Addr} {kvs : List (List Key × V)} {ks : List Key} {H : Hp} {Q : VK} (e : H a = some (.dT kvs)) (eb : H b = some (.tup (ks.map kV))) (q : Q (.bl (!(valV kvs ks).isSome)) H) : rNotInDt (.ref b) (.ref a) H Q := ⟨a, _, rfl, DGet.t e eb, q⟩
/-- no built-in kind is of the class at C -/
structure NoC (K : PySem.W.Frag) (C : Addr) : Prop where
  non : PySem.W.kitOne K (.type "NoneType") (.ref C) = some false
  bl : PySem.W.kitOne K (.type "bool") (.ref C) = some false
  int : PySem.W.kitOne K (.type "int") (.ref C) = some false
  str : PySem.W.kitOne K (.type "str") (.ref C) = some false
  lst : PySem.W.kitOne K (.type "list") (.ref C) = some false
  tup : PySem.W.kitOne K (.type "tuple") (.ref C) = some false
  dict : PySem.W.kitOne K (.type "dict") (.ref C) = some false
theorem De.isiC {K : PySem.W.Frag} {C : Addr} {H : Hp} {v : V} {d : PyData} {Q : VK} (nc : NoC K C) (h : De K H v d) (k : Q (.bl false) H) : rIsi K [v, .ref C] H Q := by
  cases h with
  | non => exact ⟨_, _, _, _, _, rfl, .own _, .base .non, nc.non, k⟩
  | bl b => exact ⟨_, _, _, _, _, rfl, .own _, .base (.bl _), nc.bl, k⟩
  | int i => exact ⟨_, _, _, _, _, rfl, .own _, .base (.int _), nc.int, k⟩
  | str x => exact ⟨_, _, _, _, _, rfl, .own _, .base (.str _), nc.str, k⟩
  | lst h1 _ h2 => exact ⟨_, _, _, _, _, rfl, .own _, .base (.lst h1), nc.lst, k⟩
  | tup h1 h2 => exact ⟨_, _, _, _, _, rfl, .own _, tyx_tup h1, nc.tup, k⟩
  | dict h1 h2 => exact ⟨_, _, _, _, _, rfl, .own _, .base (.dK h1), nc.dict, k⟩
theorem i_isC {K : PySem.W.Frag} {C a dx : Addr} {fs : List (Str × V)} {H : Hp} {Q : VK} (c : C8.InsC K C) (ha : H a = some (.ins C dx fs)) (k : Q (.bl true) H) : rIsi K [.ref a, .ref C] H Q :=
  ⟨_, _, _, _, _, rfl, .own _, .base (TyOf.ins ha c.cl c.ha c.hn c.htk c.hm), c.me, k⟩
theorem pe_fldB {X : Cx} {K : PySem.W.Frag} (k : X.K = K) {e : Expr} {f : Str} {pos : Pos} {ta : TE} (he : PE X e ta) (hb : attributeBase e f X.env (eval e X.env) = eval e X.env) : PE X (.Attribute e f pos) (tFld K ta f) := by
  subst k
  exact pe_fld he hb
end Sw
namespace Sw.EnT
open PySem
open Sem (wp)
set_option maxHeartbeats 4000000 in
theorem new_tup (t : Addr) (items : Array Value) :
    Meets (Builtin.«enumerate.__new__» ⟨[.type "enumerate", .ref t], []⟩) (fun _ R s => s.heap.IsTuple t items ∧
      R (.ok (.ret (.ref (s.heap.push { cls := .type "tuple_iterator", data := .fields #[.ref t, .int 0 0] }).objs.size)))
        { s with heap := (s.heap.push { cls := .type "tuple_iterator", data := .fields #[.ref t, .int 0 0] }).push { cls := .type "enumerate", data := .fields #[.none, .bool false, .ref s.heap.objs.size, rawInt 0, .none, .none] } }) :=
  .of_wp fun prog w A R s h => by
    obtain ⟨hp, g, d, tk, os⟩ := s; obtain ⟨h1, h⟩ := h
    have hsub := sub_enumerate
    have q1 : ∀ {A' : Around} {E : Value → Shared → Prop} {Q : Value → Shared → Prop}, Q (.ref hp.objs.size) ⟨hp.push { cls := .type "tuple_iterator", data := .fields #[.ref t, .int 0 0] }, g, d, tk, os⟩ → wpAny (model prog w) A' (pyIter (.ref t)) Q E ⟨hp, g, d, tk, os⟩ :=
      fun q => wpAny_pyIter_tuple h1 q
    wp_walk using q1
    refine wpAny_stack_any fun st => wpAny_pure ?_
    split
    · rename_i c _ _ _ _ _
      cases (c == Value.type "enumerate")
      · wp_walk using q1
        exact ⟨_, rfl, h⟩
      · wp_walk using q1
        exact ⟨_, rfl, h⟩
    · wp_walk using q1
      exact ⟨_, rfl, h⟩
theorem call_tup {prog : Program} {w : World} {A : Around} {E : Value → Shared → Prop} {s : Shared} {t : Addr} {items : Array Value} {Q : Value → Shared → Prop} (ht : s.heap.IsTuple t items)
    (h : ∀ h', IsEnum h' (s.heap.objs.size + 1) s.heap.objs.size 0 .none → h'.IsTupleIter s.heap.objs.size t 0 → h'.objs.size = s.heap.objs.size + 2 →
      (∀ b o, s.heap.get? b = some o → h'.get? b = some o) → Q (.ref (s.heap.objs.size + 1)) { s with heap := h' }) :
    wpAny (model prog w) A (call (.type "enumerate") [.ref t]) Q E s := by
  refine callType_new F.called_enumerate (by decide) (F.typeCall_enumerate_1 _) (F.newCall_enumerate_1 _) (fun obj => F.args_object_init_2 obj _) F.entry_enumerate_new
    (new_tup t items) ⟨ht, ?_⟩
  have hz : (s.heap.push { cls := .type "tuple_iterator", data := .fields #[.ref t, .int 0 0] }).objs.size = s.heap.objs.size + 1 := Heap.size_push ..
  show _ ∧ _
  rw [hz]
  have he : IsEnum ((s.heap.push { cls := .type "tuple_iterator", data := .fields #[.ref t, .int 0 0] }).push
      { cls := .type "enumerate", data := .fields #[.none, .bool false, .ref s.heap.objs.size, rawInt 0, .none, .none] }) (s.heap.objs.size + 1) s.heap.objs.size 0 .none := by
    have := Heap.get?_push_size (s.heap.push { cls := .type "tuple_iterator", data := .fields #[.ref t, .int 0 0] })
      (o := { cls := .type "enumerate", data := .fields #[.none, .bool false, .ref s.heap.objs.size, rawInt 0, .none, .none] }) rfl
    rw [hz] at this; exact this
  exact ⟨⟨_, he, rfl⟩, h _ he ⟨_, Heap.get?_push_of_some _ (Heap.get?_push_size _ rfl), rfl, rfl⟩ (by rw [Heap.size_push, hz]) fun b o x => Heap.get?_push_of_some _ (Heap.get?_push_of_some _ x)⟩
end Sw.EnT
namespace Sw
open PySem PySem.Spec PyProof.Rows L2
/-! ### enumerate(tuple) -/
def ItU (K : PySem.W.Frag) (a : Addr) : It :=
  ⟨fun i H => ∃ (xs : List V) (x : V), SqT K H a xs ∧ xs[i]? = some x, fun i H v H' => ∃ T x, v = .ref T ∧ H T = none ∧ H' = upd H T (.tup [.int (i : Nat), x]) ∧ ∀ xs, SqT K H a xs → xs[i]? = some x, fun i H => ∃ xs : List V, SqT K H a xs ∧ i = xs.length⟩
theorem turn_enumT {P : Program} {w : World} {K : PySem.W.Frag} {elts : List Expr} {kk : Nat} {tpos : Pos} (a e it : Addr) :
    Turn P w K (.Tuple elts kk tpos) (ItU K a) [e, it] e (fun i h => (∃ old, IsEnum h e it ((i : Nat) : Int) old) ∧ h.IsTupleIter it a i ∧ e ≠ it ∧ a ≠ it) := by
  refine ⟨by simp, fun i h st b hb => ?_, fun i h h' st k => ?_, ?_, ?_, fun A i s Q E st h => ?_⟩
  · obtain ⟨⟨old, he⟩, ⟨o, ho, hc, hd⟩, _⟩ := st
    have e' : b = e ∨ b = it := by simpa using hb
    rcases e' with rfl | rfl
    · exact ⟨_, he, fun v q => nomatch q⟩
    · exact ⟨o, ho, fun v q => by rw [hd] at q; cases q⟩
  · obtain ⟨⟨old, he⟩, hi, hne⟩ := st
    exact ⟨⟨old, k e (by simp) _ he⟩, hi.at fun o q => k it (by simp) o q, hne⟩
  · rintro X rfl rfl rfl hc i pins s σ H E I hf ⟨⟨old, he⟩, hit, hne, hai⟩ ⟨xs, x, hq, hx⟩
    obtain ⟨its, rv, p, hz⟩ := I.tuple hq
    obtain ⟨u, hu, ru⟩ := rv.get hx
    have hh : X.A.in1.handled = none := I.ok.hd hc
    have ht : s.heap.IsTuple a its.toArray := p
    have nea : e ≠ a := fun z => by
      obtain ⟨o, ho, hc', _⟩ := ht
      rw [← z] at ho
      rw [show s.heap.get? e = _ from he] at ho
      cases ho
      injection hc' with q
      exact absurd q (by decide)
    have DD := Draws.tuple (prog := X.prog) (w := X.w) (A := X.A.in1) hh it a hai its.toArray
    have l1 : e < s.heap.objs.size := Heap.lt_size he
    have l2 : it < s.heap.objs.size := by obtain ⟨_, q, _⟩ := hit; exact Heap.lt_size q
    have li : i < its.toArray.size := by
      have := (List.getElem?_eq_some_iff.mp hu).1
      simpa using this
    refine wpAny_pyNext_enum_itemD DD he ⟨hit, ht⟩ li hne (by simp [hne, nea]) fun v h1 tk hv ho hit' hT hsz hk => ?_
    have ev : v = u := by
      have hv : its.toArray[i]? = some v := hv
      rw [List.getElem?_toArray, hu] at hv
      exact (Option.some.inj hv).symm
    subst ev
    refine ⟨_, rfl, wpAny_letOwnedTupleGo_enum (s := { s with heap := h1, toks := tk + 1 }) ho fun h2 he' sb => ?_⟩
    have nT := Nat.ne_of_gt l1
    have gT : h2.get? s.heap.objs.size = some { cls := .type "tuple", data := .seq #[.int i tk, v] } := (sb.2 _ nT).trans hT
    have fresh : H s.heap.objs.size = none := I.hok.fresh (Nat.le_refl _)
    have new : ObjOk X.prog X.w (upd H s.heap.objs.size (.tup [.int (i : Nat), x])) h2 s.heap.objs.size (.tup [.int (i : Nat), x]) :=
      ⟨Nat.le_of_ble_eq_true rfl, [.int i tk, v], .cons ⟨_, rfl⟩ (.cons ru .nil), _, gT, rfl, _, rfl⟩
    have J : Inv X pins σ (upd H s.heap.objs.size (.tup [.int (i : Nat), x])) { s with heap := h2, toks := tk + 1 } := by
      refine I.turnedNew (ch := [e, it]) (fun b ob hb q => ?_) hf (Nat.le_refl _) new
      have n1 : b ≠ e := fun z => hb (by simp [z])
      have n2 : b ≠ it := fun z => hb (by simp [z])
      exact (sb.2 b n1).trans (hk b ob n1 n2 q)
    refine ⟨.ref s.heap.objs.size, _, J, rfl, ⟨_, x, rfl, fresh, rfl, fun ys hy => by rw [I.tuple_inj hy hq]; exact hx⟩, ⟨⟨v, ?_⟩, ?_, hne, hai⟩, fun b hb => ?_⟩
    · rw [show ((i + 1 : Nat) : Int) = (i : Int) + 1 by omega]
      exact he'
    · obtain ⟨o, g1, g2⟩ := hit'.1
      exact ⟨o, (sb.2 it (Ne.symm hne)).trans g1, g2⟩
    · have lb : b < s.heap.objs.size := by
        have e' : b = e ∨ b = it := by simpa using hb
        rcases e' with rfl | rfl <;> assumption
      rw [upd_ne (Nat.ne_of_lt lb)]
      exact (hf b hb).1
  · rintro X rfl rfl rfl hc i pins s σ H E I hf ⟨⟨old, he⟩, hit, hne, hai⟩ ⟨xs, hq, hx⟩
    obtain ⟨its, rv, p, hz⟩ := I.tuple hq
    have hh : X.A.in1.handled = none := I.ok.hd hc
    have ht : s.heap.IsTuple a its.toArray := p
    have hl := rv.length
    obtain ⟨f0, f1, f2, f3, f4, f5⟩ := hf it (by simp)
    have DD := Draws.tuple (prog := X.prog) (w := X.w) (A := X.A.in1) hh it a hai its.toArray
    have hi : i = its.toArray.size := by rw [hx, List.size_toArray, hl]
    subst hi
    exact wpAny_pyNext_enum_endD DD he ⟨hit, ht⟩ fun h1 eb => ⟨rfl, I.turned (t' := s.toks) (fun b o hb q => eb b o hb q) f0 f1 f3 f4 f5⟩
  · obtain ⟨⟨old, he⟩, _⟩ := st
    exact wpAny_pyIter_enum he h
def iEnT (K : PySem.W.Frag) (ta : TA) : TI := fun σ H R => ta σ H fun vs H1 => ∃ a xs, vs = [.ref a] ∧ SqT K H1 a xs ∧ R (ItU K a) H1
theorem pi_enumT {X : Cx} {e : Expr} {ta : TA} {p pos tpos : Pos} {elts : List Expr} {kk : Nat} (hg : Gl X "enumerate") (hm : X.mg "enumerate" = none) (ha : PA X [e] ta) (hs : starEach [e] X.env = [(false, eval e X.env)] := by rfl) :
    PI X (.Tuple elts kk tpos) (.Call (.Name "enumerate" p) [e] [] pos) (iEnT X.K ta) := by
  constructor
  intro pins s σ H R I h
  refine Call_ (ld_blt I hg hm boot_enumerate (PyProof.Rows.callWith_type1 (thn (ha.run pos pins s σ H _ I h) fun us s1 q1 => ?_) hs rfl))
  obtain ⟨vs, H1, I1, r1, a, xs, rfl, hq, q⟩ := q1
  cases r1 with
  | cons r rr =>
    cases rr
    cases r
    obtain ⟨its, rv, p', hz⟩ := I1.tuple hq
    have ht : s1.heap.IsTuple a its.toArray := p'
    have la : a < s1.heap.objs.size := by obtain ⟨_, q, _⟩ := ht; exact Heap.lt_size q
    refine EnT.call_tup ht fun h1 he hit hsz hk => wpAny_pyIter_enum he ?_
    have J : Inv X pins σ H1 { s1 with heap := h1 } := I1.kept (t' := s1.toks) hk
    refine ⟨s1.heap.objs.size + 1, [s1.heap.objs.size + 1, s1.heap.objs.size], _, ItU X.K a, H1, rfl, J, turn_enumT a _ _, ⟨⟨.none, he⟩, hit, Nat.succ_ne_self _, Nat.ne_of_lt la⟩, fun b hb => ?_, q⟩
    have lb : s1.heap.objs.size ≤ b := by
      have e' : b = s1.heap.objs.size + 1 ∨ b = s1.heap.objs.size := by simpa using hb
      rcases e' with rfl | rfl
      · exact Nat.le_succ _
      · exact Nat.le_refl _
    exact I1.fpOk lb (I1.hok.fresh lb)
theorem walk_enumT {K : PySem.W.Frag} {a : Addr} {xs : List V} : Walk (ItU K a) xs.length (fun H => SqT K H a xs) (YPair (fun i => some (.int (i : Nat))) (fun i => xs[i]?)) := by
  refine ⟨fun i _ hi q => ⟨xs, xs[i], q, by simp [hi]⟩, fun _ q => ⟨xs, q, rfl⟩, fun i H v H' _ q y => ?_⟩
  obtain ⟨T, x, h1, h2, h3, h4⟩ := y
  exact ⟨T, .int (i : Nat), x, h1, h2, h3, rfl, h4 xs q⟩
end Sw
namespace Sw
open PySem PySem.Spec PyProof.Rows L2
theorem i_iEnT {K : PySem.W.Frag} {ta : TA} {σ : L2.St} {H : Hp} {R : It → Hp → Prop} (h : ta σ H fun vs H1 => ∃ a xs, vs = [.ref a] ∧ SqT K H1 a xs ∧ R (ItU K a) H1) : iEnT K ta σ H R := h
end Sw
namespace Lev
/-- the fewest changes between two lists of signs -/
def lev : List Nat → List Nat → Nat
  | [], ys => ys.length
  | _ :: xs, [] => xs.length + 1
  | x :: xs, y :: ys => min (lev xs ys + if x = y then 0 else 1) (min (lev xs (y :: ys) + 1) (lev (x :: xs) ys + 1))
termination_by xs ys => xs.length + ys.length

/-- some changes, told by their number -/
inductive Ed : List Nat → List Nat → Nat → Prop
  | nil : Ed [] [] 0
  | keep {a xs ys n} : Ed xs ys n → Ed (a :: xs) (a :: ys) n
  | swap {a b xs ys n} : Ed xs ys n → Ed (a :: xs) (b :: ys) (n + 1)
  | drop {a xs ys n} : Ed xs ys n → Ed (a :: xs) ys (n + 1)
  | add {b xs ys n} : Ed xs ys n → Ed xs (b :: ys) (n + 1)

theorem Ed.adds : ∀ ys : List Nat, Ed [] ys ys.length
  | [] => .nil
  | _ :: ys => .add (Ed.adds ys)
theorem Ed.drops : ∀ xs : List Nat, Ed xs [] xs.length
  | [] => .nil
  | _ :: xs => .drop (Ed.drops xs)
theorem Ed.refl : ∀ xs : List Nat, Ed xs xs 0
  | [] => .nil
  | _ :: xs => .keep (Ed.refl xs)
theorem Ed.symm {xs ys n} (h : Ed xs ys n) : Ed ys xs n := by
  induction h with
  | nil => exact .nil
  | keep _ ih => exact .keep ih
  | swap _ ih => exact .swap ih
  | drop _ ih => exact .add ih
  | add _ ih => exact .drop ih
theorem Ed.app {xs ys n} (h : Ed xs ys n) {us vs m} (k : Ed us vs m) : Ed (xs ++ us) (ys ++ vs) (n + m) := by
  induction h with
  | nil => simpa using k
  | keep _ ih => exact .keep ih
  | swap _ ih => have := Ed.swap (a := ‹_›) (b := ‹_›) ih; simp only [List.cons_append]; rw [Nat.add_right_comm]; exact .swap ih
  | drop _ ih => simp only [List.cons_append]; rw [Nat.add_right_comm]; exact .drop ih
  | add _ ih => simp only [List.cons_append]; rw [Nat.add_right_comm]; exact .add ih
theorem Ed.rev {xs ys n} (h : Ed xs ys n) : Ed xs.reverse ys.reverse n := by
  induction h with
  | nil => exact .nil
  | keep _ ih => simpa using ih.app (.keep .nil)
  | swap _ ih => simpa using ih.app (.swap .nil)
  | drop _ ih => simpa using ih.app (.drop .nil)
  | add _ ih => simpa using ih.app (.add .nil)
theorem Ed.lens {xs ys n} (h : Ed xs ys n) : xs.length ≤ ys.length + n ∧ ys.length ≤ xs.length + n := by
  induction h with
  | nil => simp
  | keep _ ih => simp only [List.length_cons]; omega
  | swap _ ih => simp only [List.length_cons]; omega
  | drop _ ih => simp only [List.length_cons]; omega
  | add _ ih => simp only [List.length_cons]; omega

theorem lev_ed : ∀ xs ys : List Nat, Ed xs ys (lev xs ys) := by
  intro xs ys
  fun_induction lev xs ys with
  | case1 ys => exact Ed.adds ys
  | case2 x xs => exact Ed.drops (x :: xs)
  | case3 x xs y ys i1 i2 i3 =>
    rcases Nat.le_total (lev xs ys + if x = y then 0 else 1) (min (lev xs (y :: ys) + 1) (lev (x :: xs) ys + 1)) with h | h
    · rw [Nat.min_eq_left h]
      by_cases e : x = y
      · subst e; simpa using Ed.keep i1
      · rw [if_neg e]; exact .swap i1
    · rw [Nat.min_eq_right h]
      rcases Nat.le_total (lev xs (y :: ys) + 1) (lev (x :: xs) ys + 1) with h | h
      · rw [Nat.min_eq_left h]; exact .drop i2
      · rw [Nat.min_eq_right h]; exact .add i3
theorem lev_nil (ys : List Nat) : lev [] ys = ys.length := by rw [lev]
theorem lev_nil' : ∀ xs : List Nat, lev xs [] = xs.length
  | [] => by rw [lev_nil]
  | x :: xs => by rw [lev]; rfl
theorem lev_cons (x y : Nat) (xs ys : List Nat) : lev (x :: xs) (y :: ys) = min (lev xs ys + if x = y then 0 else 1) (min (lev xs (y :: ys) + 1) (lev (x :: xs) ys + 1)) := by rw [lev]
theorem lev_drop (x : Nat) (xs ys : List Nat) : lev (x :: xs) ys ≤ lev xs ys + 1 := by
  cases ys with
  | nil => rw [lev_nil', lev_nil']; simp
  | cons y ys => rw [lev_cons]; omega
theorem lev_add (y : Nat) (xs ys : List Nat) : lev xs (y :: ys) ≤ lev xs ys + 1 := by
  cases xs with
  | nil => rw [lev_nil, lev_nil]; simp
  | cons x xs => rw [lev_cons]; omega
theorem lev_swap (x y : Nat) (xs ys : List Nat) : lev (x :: xs) (y :: ys) ≤ lev xs ys + 1 := by
  rw [lev_cons]; split <;> omega
/-- dropping a letter on one side changes the distance by at most one -/
theorem lev_undrop (x : Nat) (xs ys : List Nat) : lev xs ys ≤ lev (x :: xs) ys + 1 := by
  induction ys generalizing xs x with
  | nil => rw [lev_nil', lev_nil']; simp; omega
  | cons y ys ih =>
    have a := lev_cons x y xs ys
    have b := lev_add y xs ys
    have c := ih x xs
    rw [a]
    split <;> omega
theorem lev_unadd (y : Nat) (xs ys : List Nat) : lev xs ys ≤ lev xs (y :: ys) + 1 := by
  induction xs generalizing ys y with
  | nil => rw [lev_nil, lev_nil]; simp; omega
  | cons x xs ih =>
    have a := lev_cons x y xs ys
    have b := lev_drop x xs ys
    have c := ih y ys
    rw [a]
    split <;> omega
theorem lev_keep (a : Nat) (xs ys : List Nat) : lev (a :: xs) (a :: ys) = lev xs ys := by
  rw [lev_cons]
  have h1 := lev_unadd a xs ys
  have h2 := lev_undrop a xs ys
  simp
  omega
theorem lev_least {xs ys n} (h : Ed xs ys n) : lev xs ys ≤ n := by
  induction h with
  | nil => rw [lev_nil]; simp
  | keep _ ih => rw [lev_keep]; exact ih
  | swap _ ih => exact Nat.le_trans (lev_swap _ _ _ _) (by omega)
  | drop _ ih => exact Nat.le_trans (lev_drop _ _ _) (by omega)
  | add _ ih => exact Nat.le_trans (lev_add _ _ _) (by omega)
theorem lev_symm (xs ys : List Nat) : lev xs ys = lev ys xs :=
  Nat.le_antisymm (lev_least (lev_ed ys xs).symm) (lev_least (lev_ed xs ys).symm)
theorem lev_rev (xs ys : List Nat) : lev xs.reverse ys.reverse = lev xs ys :=
  Nat.le_antisymm (lev_least (lev_ed xs ys).rev) (by
    have h := lev_least (lev_ed xs.reverse ys.reverse).rev
    simpa using h)
theorem lev_self (xs : List Nat) : lev xs xs = 0 := Nat.le_zero.mp (lev_least (Ed.refl xs))
theorem lev_app (xs ys us vs : List Nat) : lev (xs ++ us) (ys ++ vs) ≤ lev xs ys + lev us vs := lev_least ((lev_ed xs ys).app (lev_ed us vs))
theorem lev_lens (xs ys : List Nat) : xs.length ≤ ys.length + lev xs ys ∧ ys.length ≤ xs.length + lev xs ys := (lev_ed xs ys).lens
theorem lev_le_max (xs ys : List Nat) : lev xs ys ≤ max xs.length ys.length := by
  induction xs generalizing ys with
  | nil => rw [lev_nil]; simp
  | cons x xs ih =>
    cases ys with
    | nil => rw [lev_nil']; simp
    | cons y ys =>
      have h := lev_swap x y xs ys
      have k := ih ys
      simp only [List.length_cons]
      omega
theorem lev_pre (a xs ys : List Nat) : lev (a ++ xs) (a ++ ys) = lev xs ys := by
  induction a with
  | nil => rfl
  | cons x a ih => rw [List.cons_append, List.cons_append, lev_keep, ih]
theorem lev_suf (a xs ys : List Nat) : lev (xs ++ a) (ys ++ a) = lev xs ys := by
  rw [← lev_rev, List.reverse_append, List.reverse_append, lev_pre, lev_rev]
/-- from behind -/
theorem lev_snoc (x y : Nat) (xs ys : List Nat) : lev (xs ++ [x]) (ys ++ [y]) = min (lev xs ys + if x = y then 0 else 1) (min (lev xs (ys ++ [y]) + 1) (lev (xs ++ [x]) ys + 1)) := by
  rw [← lev_rev (xs ++ [x]), ← lev_rev xs ys, ← lev_rev xs (ys ++ [y]), ← lev_rev (xs ++ [x]) ys]
  simp only [List.reverse_append, List.reverse_cons, List.reverse_nil, List.nil_append, List.singleton_append]
  rw [lev_cons]
/-- the triangle -/
theorem Ed.trans {xs ys n} (h : Ed xs ys n) : ∀ {zs m}, Ed ys zs m → ∃ k, k ≤ n + m ∧ Ed xs zs k := by
  induction h with
  | nil => exact fun {zs m} q => ⟨m, by omega, q⟩
  | @drop a xs ys n _ ih =>
    intro zs m q
    obtain ⟨k, h1, h2⟩ := ih q
    exact ⟨k + 1, by omega, .drop h2⟩
  | @keep a xs ys n p ih =>
    intro zs m q
    generalize e : a :: ys = ws at q
    induction q with
    | nil => cases e
    | keep q _ =>
      cases e
      obtain ⟨k, h1, h2⟩ := ih q
      exact ⟨k, h1, .keep h2⟩
    | swap q _ =>
      cases e
      obtain ⟨k, h1, h2⟩ := ih q
      exact ⟨k + 1, by omega, .swap h2⟩
    | drop q _ =>
      cases e
      obtain ⟨k, h1, h2⟩ := ih q
      exact ⟨k + 1, by omega, .drop h2⟩
    | add q jh =>
      obtain ⟨k, h1, h2⟩ := jh e
      exact ⟨k + 1, by omega, .add h2⟩
  | @swap a b xs ys n p ih =>
    intro zs m q
    generalize e : b :: ys = ws at q
    induction q with
    | nil => cases e
    | keep q _ =>
      cases e
      obtain ⟨k, h1, h2⟩ := ih q
      exact ⟨k + 1, by omega, .swap h2⟩
    | swap q _ =>
      cases e
      obtain ⟨k, h1, h2⟩ := ih q
      exact ⟨k + 1, by omega, .swap h2⟩
    | drop q _ =>
      cases e
      obtain ⟨k, h1, h2⟩ := ih q
      exact ⟨k + 1, by omega, .drop h2⟩
    | add q jh =>
      obtain ⟨k, h1, h2⟩ := jh e
      exact ⟨k + 1, by omega, .add h2⟩
  | @add b xs ys n p ih =>
    intro zs m q
    generalize e : b :: ys = ws at q
    induction q with
    | nil => cases e
    | keep q _ =>
      cases e
      obtain ⟨k, h1, h2⟩ := ih q
      exact ⟨k + 1, by omega, .add h2⟩
    | swap q _ =>
      cases e
      obtain ⟨k, h1, h2⟩ := ih q
      exact ⟨k + 1, by omega, .add h2⟩
    | drop q _ =>
      cases e
      obtain ⟨k, h1, h2⟩ := ih q
      exact ⟨k, by omega, h2⟩
    | add q jh =>
      obtain ⟨k, h1, h2⟩ := jh e
      exact ⟨k + 1, by omega, .add h2⟩
theorem lev_tri (xs ys zs : List Nat) : lev xs zs ≤ lev xs ys + lev ys zs := by
  obtain ⟨k, h1, h2⟩ := (lev_ed xs ys).trans (lev_ed ys zs)
  exact Nat.le_trans (lev_least h2) h1
end Lev
namespace Lev
/-- what stands at place k of the band behind at letters -/
def cell (M : Nat) (l r : List Nat) (at' k : Nat) : Int :=
  if M ≤ at' + k ∧ at' + k ≤ M + r.length then ((min (lev (l.take at') (r.take (at' + k - M))) (M + 1) : Nat) : Int) else (M : Int) + 1
def band (M : Nat) (l r : List Nat) (at' : Nat) : List Int := (List.range (2 * M + 1)).map (cell M l r at')
theorem band_len (M : Nat) (l r : List Nat) (a : Nat) : (band M l r a).length = 2 * M + 1 := by simp [band]
theorem band_get {M : Nat} {l r : List Nat} {a k : Nat} (h : k < 2 * M + 1) : (band M l r a)[k]? = some (cell M l r a k) := by
  simp [band, List.getElem?_map, List.getElem?_range h]
theorem cell_first {M : Nat} {l r : List Nat} {k : Nat} (h : k < 2 * M + 1) : cell M l r 0 k = if M ≤ k ∧ k ≤ M + r.length then (k : Int) - M else (M : Int) + 1 := by
  unfold cell
  by_cases c : M ≤ 0 + k ∧ 0 + k ≤ M + r.length
  · rw [if_pos c, if_pos (by omega), List.take_zero, lev_nil, List.length_take]
    omega
  · rw [if_neg c, if_neg (by omega)]
/-- the ways to a place -/
def ways (M : Nat) (l r : List Nat) (a : Nat) (x : Nat) (k : Nat) : List Int :=
  let place : Int := (a : Int) + 1 + k - M
  [(M : Int) + 1] ++ (if 0 < place ∧ place ≤ r.length then [cell M l r a k + (if some x = r[(place - 1).toNat]? then 0 else 1)] else [])
    ++ (if (0 < place ∧ place ≤ r.length) ∧ 0 < k then [cell M l r (a + 1) (k - 1) + 1] else [])
    ++ (if (0 ≤ place ∧ place ≤ r.length) ∧ k < 2 * M then [cell M l r a (k + 1) + 1] else [])
theorem take_snoc {l : List Nat} {a x : Nat} (h : l[a]? = some x) : l.take (a + 1) = l.take a ++ [x] := by
  rw [List.take_add_one, h]; rfl
theorem way_least {M : Nat} {l r : List Nat} {a x k : Nat} (hx : l[a]? = some x) (hk : k < 2 * M + 1) {m : Int} (hm : m ∈ ways M l r a x k) (hl : ∀ y, y ∈ ways M l r a x k → m ≤ y) :
    m = cell M l r (a + 1) k := by
  have ha : a < l.length := (List.getElem?_eq_some_iff.mp hx).1
  have el := take_snoc hx
  unfold ways at hm hl
  simp only [List.mem_append, List.mem_singleton] at hm hl
  by_cases c0 : a + 1 + k < M
  · -- left of the text
    have n1 : ¬ (0 < (a : Int) + 1 + k - M ∧ (a : Int) + 1 + k - M ≤ r.length) := by omega
    have n2 : ¬ (0 ≤ (a : Int) + 1 + k - M ∧ (a : Int) + 1 + k - M ≤ r.length) := by omega
    rw [if_neg n1, if_neg (fun z => n1 z.1), if_neg (fun z => n2 z.1)] at hm
    simp only [List.not_mem_nil, or_false] at hm
    unfold cell
    rw [if_neg (by omega)]; exact hm
  by_cases c1 : M + r.length < a + 1 + k
  · have n1 : ¬ (0 < (a : Int) + 1 + k - M ∧ (a : Int) + 1 + k - M ≤ r.length) := by omega
    have n2 : ¬ (0 ≤ (a : Int) + 1 + k - M ∧ (a : Int) + 1 + k - M ≤ r.length) := by omega
    rw [if_neg n1, if_neg (fun z => n1 z.1), if_neg (fun z => n2 z.1)] at hm
    simp only [List.not_mem_nil, or_false] at hm
    unfold cell
    rw [if_neg (by omega)]; exact hm
  have hc : cell M l r (a + 1) k = ((min (lev (l.take (a + 1)) (r.take (a + 1 + k - M))) (M + 1) : Nat) : Int) := by
    unfold cell; rw [if_pos (by omega)]
  by_cases c2 : a + 1 + k = M
  · -- ahead of the first letter
    have n1 : ¬ (0 < (a : Int) + 1 + k - M ∧ (a : Int) + 1 + k - M ≤ r.length) := by omega
    have n2 : (0 ≤ (a : Int) + 1 + k - M ∧ (a : Int) + 1 + k - M ≤ r.length) := by omega
    have n3 : k < 2 * M := by omega
    have e1 : cell M l r a (k + 1) = (a : Int) := by
      unfold cell
      rw [if_pos (by omega), show a + (k + 1) - M = 0 by omega, List.take_zero, lev_nil', List.length_take]
      omega
    have e2 : cell M l r (a + 1) k = (a : Int) + 1 := by
      rw [hc, show a + 1 + k - M = 0 by omega, List.take_zero, lev_nil', List.length_take]
      omega
    have n5 : ¬ ((0 < (a : Int) + 1 + k - M ∧ (a : Int) + 1 + k - M ≤ r.length) ∧ 0 < k) := fun z => n1 z.1
    have n6 : ((0 ≤ (a : Int) + 1 + k - M ∧ (a : Int) + 1 + k - M ≤ r.length) ∧ k < 2 * M) := ⟨n2, n3⟩
    simp only [if_neg n1, if_neg n5, if_pos n6, List.not_mem_nil, or_false, List.mem_singleton] at hm hl
    rw [e1] at hm hl
    rw [e2]
    have := hl _ (.inr rfl)
    have := hl _ (.inl rfl)
    omega
  · obtain ⟨p, hp⟩ : ∃ p, a + k = M + p := ⟨a + k - M, by omega⟩
    have hpr : p < r.length := by omega
    obtain ⟨y, hy⟩ : ∃ y, r[p]? = some y := ⟨r[p], List.getElem?_eq_getElem hpr⟩
    have er := take_snoc hy
    have n1 : (0 < (a : Int) + 1 + k - M ∧ (a : Int) + 1 + k - M ≤ r.length) := by omega
    have n2 : (0 ≤ (a : Int) + 1 + k - M ∧ (a : Int) + 1 + k - M ≤ r.length) := by omega
    have ep : ((a : Int) + 1 + k - M - 1).toNat = p := by omega
    have hsn := lev_snoc x y (l.take a) (r.take p)
    rw [← el, ← er] at hsn
    have e0 : cell M l r (a + 1) k = ((min (lev (l.take (a + 1)) (r.take (p + 1))) (M + 1) : Nat) : Int) := by
      rw [hc, show a + 1 + k - M = p + 1 by omega]
    have eA : cell M l r a k = ((min (lev (l.take a) (r.take p)) (M + 1) : Nat) : Int) := by
      unfold cell; rw [if_pos (by omega), show a + k - M = p by omega]
    have hlA := lev_lens (l.take a) (r.take (p + 1))
    have hlC := lev_lens (l.take (a + 1)) (r.take p)
    simp only [List.length_take] at hlA hlC
    have n3 : ((0 < (a : Int) + 1 + k - M ∧ (a : Int) + 1 + k - M ≤ r.length) ∧ 0 < k) = (0 < k) := propext ⟨And.right, fun z => ⟨n1, z⟩⟩
    have n4 : ((0 ≤ (a : Int) + 1 + k - M ∧ (a : Int) + 1 + k - M ≤ r.length) ∧ k < 2 * M) = (k < 2 * M) := propext ⟨And.right, fun z => ⟨n2, z⟩⟩
    simp only [if_pos n1, n3, n4, ep, hy, Option.some.injEq, List.mem_singleton] at hm hl
    rw [e0]
    have hδ : (if x = y then (0:Int) else 1) = ((if x = y then 0 else 1 : Nat) : Int) := by split <;> rfl
    rw [hδ, eA] at hm hl
    generalize (if x = y then 0 else 1 : Nat) = δ at *
    generalize lev (l.take a) (r.take p) = A at *
    by_cases k0 : 0 < k
    · have eC : cell M l r (a + 1) (k - 1) = ((min (lev (l.take (a + 1)) (r.take p)) (M + 1) : Nat) : Int) := by
        unfold cell; rw [if_pos (by omega), show a + 1 + (k - 1) - M = p by omega]
      rw [eC] at hm hl
      by_cases k1 : k < 2 * M
      · have eB : cell M l r a (k + 1) = ((min (lev (l.take a) (r.take (p + 1))) (M + 1) : Nat) : Int) := by
          unfold cell; rw [if_pos (by omega), show a + (k + 1) - M = p + 1 by omega]
        rw [eB] at hm hl
        simp only [k0, k1, if_true, List.mem_singleton] at hm hl
        have h1 := hl _ (.inl (.inl (.inl rfl)))
        have h2 := hl _ (.inl (.inl (.inr rfl)))
        have h3 := hl _ (.inl (.inr rfl))
        have h4 := hl _ (.inr rfl)
        clear hl
        rw [hsn]
        omega
      · simp only [k0, k1, if_true, if_false, List.not_mem_nil, or_false, List.mem_singleton] at hm hl
        have h1 := hl _ (.inl (.inl rfl))
        have h2 := hl _ (.inl (.inr rfl))
        have h3 := hl _ (.inr rfl)
        clear hl
        rw [hsn]
        omega
    · by_cases k1 : k < 2 * M
      · have eB : cell M l r a (k + 1) = ((min (lev (l.take a) (r.take (p + 1))) (M + 1) : Nat) : Int) := by
          unfold cell; rw [if_pos (by omega), show a + (k + 1) - M = p + 1 by omega]
        rw [eB] at hm hl
        simp only [k0, k1, if_true, if_false, List.not_mem_nil, or_false, List.mem_singleton] at hm hl
        have h1 := hl _ (.inl (.inl rfl))
        have h2 := hl _ (.inl (.inr rfl))
        have h3 := hl _ (.inr rfl)
        clear hl
        rw [hsn]
        omega
      · simp only [k0, k1, if_false, List.not_mem_nil, or_false, List.mem_singleton] at hm hl
        have h1 := hl _ (.inl rfl)
        have h2 := hl _ (.inr rfl)
        clear hl
        rw [hsn]
        omega
theorem band_last {M : Nat} {l r : List Nat} (h : l.length ≤ r.length) (h2 : r.length ≤ M + l.length) : (band M l r l.length)[r.length - l.length + M]? = some ((min (lev l r) (M + 1) : Nat) : Int) := by
  rw [band_get (by omega)]
  unfold cell
  rw [if_pos (by omega), show l.length + (r.length - l.length + M) - M = r.length by omega, List.take_length, List.take_length]
/-- the distance within most, or none -/
def within (xs ys : List Nat) (most : Nat) : Option Nat := if lev xs ys ≤ most then some (lev xs ys) else none
end Lev
namespace Sw
open PySem PySem.Spec PyProof.Rows L2
/-! ### zip(tuple, list) -/
def ItzT (K : PySem.W.Frag) (a b : Addr) : It :=
  ⟨fun i H => ∃ (xs ys : List V) (x y : V), SqT K H a xs ∧ SqL K H b ys ∧ xs[i]? = some x ∧ ys[i]? = some y,
    fun i H v H' => ∃ T x y, v = .ref T ∧ H T = none ∧ H' = upd H T (.tup [x, y]) ∧ (∀ xs, SqT K H a xs → xs[i]? = some x) ∧ ∀ ys, SqL K H b ys → ys[i]? = some y,
    fun i H => ∃ xs ys : List V, SqT K H a xs ∧ SqL K H b ys ∧ i ≤ xs.length ∧ i ≤ ys.length ∧ (i = xs.length ∨ i = ys.length)⟩
theorem turn_zipT {P : Program} {w : World} {K : PySem.W.Frag} {elts : List Expr} {kk : Nat} {tpos : Pos} {a b z TI TO i1 i2 : Addr} (D : ZipSep2 z TI TO i1 i2 [i1, a] [i2, b]) :
    Turn P w K (.Tuple elts kk tpos) (ItzT K a b) [z, TI, TO, i1, i2] z (fun i h => IsZip h z TI TO .none ∧ IsTupOf2 h TI (.ref i1) (.ref i2) ∧ (∃ x y, IsTupOf2 h TO x y) ∧ h.IsTupleIter i1 a i ∧ h.IsListIter i2 b i) where
  mem := by simp
  obj := fun i h st c hc => by
    obtain ⟨hz, hTI, ⟨x, y, hTO⟩, ⟨o1, e1, _, d1⟩, ⟨o2, e2, _, d2⟩⟩ := st
    have e' : c = z ∨ c = TI ∨ c = TO ∨ c = i1 ∨ c = i2 := by simpa using hc
    rcases e' with q | q | q | q | q
    · rw [q]; exact ⟨_, hz, fun v q => nomatch q⟩
    · rw [q]; exact ⟨_, hTI, fun v q => nomatch q⟩
    · rw [q]; exact ⟨_, hTO, fun v q => nomatch q⟩
    · rw [q]; exact ⟨o1, e1, fun v q => by rw [d1] at q; cases q⟩
    · rw [q]; exact ⟨o2, e2, fun v q => by rw [d2] at q; cases q⟩
  keep := fun i h h' st k => by
    obtain ⟨hz, hTI, ⟨x, y, hTO⟩, h1, h2⟩ := st
    exact ⟨k z (by simp) _ hz, k TI (by simp) _ hTI, ⟨x, y, k TO (by simp) _ hTO⟩, h1.at fun o q => k i1 (by simp) o q, h2.at fun o q => k i2 (by simp) o q⟩
  item := by
    intro X hP hw hK hc i pins s σ H E I hf st hg
    subst hP hw hK
    obtain ⟨hz, hTI, ⟨x0, y0, hTO⟩, h1, h2⟩ := st
    obtain ⟨xs, ys, x, y, hqx, hqy, hx, hy⟩ := hg
    obtain ⟨its, rv, p, _⟩ := I.tuple hqx
    obtain ⟨its2, rv2, p2, _⟩ := I.list hqy
    obtain ⟨u, hu, ru⟩ := rv.get hx
    obtain ⟨u2, hu2, ru2⟩ := rv2.get hy
    have ht : s.heap.IsTuple a its.toArray := p
    have hzl : z < s.heap.objs.size := Heap.lt_size hz
    have hh : X.A.in1.handled = none := I.ok.hd hc
    have nai : a ≠ i1 := fun q => by
      obtain ⟨o, e1, c1, _⟩ := h1
      obtain ⟨o', e2, c2, _⟩ := ht
      rw [q, e1] at e2
      cases e2
      rw [c1] at c2
      injection c2 with q2
      exact absurd q2 (by decide)
    have nbi : b ≠ i2 := fun q => by
      obtain ⟨o, e1, c1, _⟩ := h2
      obtain ⟨o', e2, c2, _⟩ := p2.isList
      rw [q, e1] at e2
      cases e2
      rw [c1] at c2
      injection c2 with q2
      exact absurd q2 (by decide)
    have D1 := Draws.tuple (prog := X.prog) (w := X.w) (A := X.A.in1) hh i1 a nai its.toArray
    have D2 := Draws.list (prog := X.prog) (w := X.w) (A := X.A.in1) hh i2 b nbi its2.toArray
    have lu : i < its.toArray.size := by have := (List.getElem?_eq_some_iff.mp hu).1; simpa using this
    have lu2 : i < its2.toArray.size := by have := (List.getElem?_eq_some_iff.mp hu2).1; simpa using this
    refine wpAny_pyNext_zipD2_item D D1 D2 hz hTI hTO ⟨h1, ht⟩ ⟨h2, p2.isList⟩ lu lu2 fun v1 v2 h' tk e1 e2 z' TO' st1' st2' hT hsz hk => ?_
    have ev1 : v1 = u := by
      have e1 : its.toArray[i]? = some v1 := e1
      rw [List.getElem?_toArray, hu] at e1
      exact (Option.some.inj e1).symm
    have ev2 : v2 = u2 := by
      have e2 : its2.toArray[i]? = some v2 := e2
      rw [List.getElem?_toArray, hu2] at e2
      exact (Option.some.inj e2).symm
    subst ev1 ev2
    refine ⟨_, rfl, wpAny_letOwnedTupleGo_zip (s := { s with heap := h', toks := tk }) z' fun h'' z'' sb => ?_⟩
    have hT2 : h''.get? s.heap.objs.size = some { cls := .type "tuple", data := .seq #[v1, v2] } := (sb.2 _ (Nat.ne_of_gt hzl)).trans hT
    have new : ObjOk X.prog X.w (upd H s.heap.objs.size (.tup [x, y])) h'' s.heap.objs.size (.tup [x, y]) :=
      ⟨by show 2 ≤ sizeLine; decide, [v1, v2], .cons ru (.cons ru2 .nil), ⟨_, hT2, rfl, _, rfl⟩⟩
    have I1 : Inv X pins σ (upd H s.heap.objs.size (.tup [x, y])) { s with heap := h'', toks := tk } :=
      I.turnedNew (t' := tk) (ch := [z, TI, TO, i1, i2]) (fun c o hb q => (sb.2 c (fun q' => hb (by simp [q']))).trans (hk c o (fun q' => hb (by simp [q'])) (fun q' => hb (by simp [q'])) (fun q' => hb (by simp [q'])) (fun q' => hb (by simp [q'])) q)) hf (Nat.le_refl _) new
    have i1z : i1 ≠ z := fun q => D.zf1 (by simp [q])
    have i2z : i2 ≠ z := fun q => D.zf2 (by simp [q])
    refine ⟨.ref s.heap.objs.size, _, I1, rfl, ⟨_, x, y, rfl, I.hok.fresh (Nat.le_refl _), rfl, fun l hl => by rw [I.tuple_inj hl hqx]; exact hx, fun l hl => by rw [I.list_inj hl hqy]; exact hy⟩, ⟨z'', ?_, ⟨v1, v2, ?_⟩, ?_, ?_⟩, fun c hcm => ?_⟩
    · exact (sb.2 _ D.TIz).trans (hk _ _ D.TIz D.TITO D.TIi1 D.TIi2 hTI)
    · exact (sb.2 _ D.TOz).trans TO'
    · exact st1'.1.at fun o q => (sb.2 _ i1z).trans q
    · exact st2'.1.at fun o q => (sb.2 _ i2z).trans q
    · have hlt : c < s.heap.objs.size := by
        have e' : c = z ∨ c = TI ∨ c = TO ∨ c = i1 ∨ c = i2 := by simpa using hcm
        rcases e' with q | q | q | q | q
        · rw [q]; exact hzl
        · rw [q]; exact Heap.lt_size hTI
        · rw [q]; exact Heap.lt_size hTO
        · rw [q]; obtain ⟨_, e1, _⟩ := h1; exact Heap.lt_size e1
        · rw [q]; obtain ⟨_, e2, _⟩ := h2; exact Heap.lt_size e2
      rw [upd_ne (Nat.ne_of_lt hlt)]
      exact (hf c hcm).1
  done := by
    intro X hP hw hK hc i pins s σ H E I hf st hg
    subst hP hw hK
    obtain ⟨hz, hTI, ⟨x0, y0, hTO⟩, h1, h2⟩ := st
    obtain ⟨xs, ys, hqx, hqy, l1, l2, hend⟩ := hg
    obtain ⟨its, rv, p, _⟩ := I.tuple hqx
    obtain ⟨its2, rv2, p2, _⟩ := I.list hqy
    have ht : s.heap.IsTuple a its.toArray := p
    have e1 := rv.length
    have e2 := rv2.length
    have hh : X.A.in1.handled = none := I.ok.hd hc
    have nai : a ≠ i1 := fun q => by
      obtain ⟨o, e1, c1, _⟩ := h1
      obtain ⟨o', e2, c2, _⟩ := ht
      rw [q, e1] at e2
      cases e2
      rw [c1] at c2
      injection c2 with q2
      exact absurd q2 (by decide)
    have nbi : b ≠ i2 := fun q => by
      obtain ⟨o, e1, c1, _⟩ := h2
      obtain ⟨o', e2, c2, _⟩ := p2.isList
      rw [q, e1] at e2
      cases e2
      rw [c1] at c2
      injection c2 with q2
      exact absurd q2 (by decide)
    have D1 := Draws.tuple (prog := X.prog) (w := X.w) (A := X.A.in1) hh i1 a nai its.toArray
    have D2 := Draws.list (prog := X.prog) (w := X.w) (A := X.A.in1) hh i2 b nbi its2.toArray
    exact wpAny_pyNext_zipD2_end D D1 D2 hz hTI hTO ⟨h1, ht⟩ ⟨h2, p2.isList⟩ (by simp; omega) (by simp; omega) (by simp; omega) fun h' tk hk => ⟨rfl, I.turnedL (t' := tk) (ch := [z, TI, TO, i1, i2]) (fun c o hb q =>
      hk c o (fun q' => hb (by simp [q'])) (fun q' => hb (by simp [q'])) (fun q' => hb (by simp [q'])) (fun q' => hb (by simp [q'])) q) hf⟩
  self := fun A i s Q E st h => wpAny_pyIter_zip st.1 h
def iZipT (K : PySem.W.Frag) (ta : TA) : TI := fun σ H R => ta σ H fun vs H1 => ∃ a b xs ys, vs = [.ref a, .ref b] ∧ SqT K H1 a xs ∧ SqL K H1 b ys ∧ R (ItzT K a b) H1
theorem i_iZipT {K : PySem.W.Frag} {ta : TA} {σ : L2.St} {H : Hp} {R : It → Hp → Prop} (h : ta σ H fun vs H1 => ∃ a b xs ys, vs = [.ref a, .ref b] ∧ SqT K H1 a xs ∧ SqL K H1 b ys ∧ R (ItzT K a b) H1) : iZipT K ta σ H R := h
theorem pi_zipT {X : Cx} {e e2 : Expr} {ta : TA} {p pos tpos : Pos} {elts : List Expr} {kk : Nat} (hg : Gl X "zip") (hm : X.mg "zip" = none) (ha : PA X [e, e2] ta)
    (hs : starEach [e, e2] X.env = (false, eval e X.env) :: starEach [e2] X.env := by rfl) (hpl : (backTo pos (starEach [e2] X.env)).any (·.1) = false := by rfl) :
    PI X (.Tuple elts kk tpos) (.Call (.Name "zip" p) [e, e2] [] pos) (iZipT X.K ta) := by
  refine ⟨fun pins s σ H R I h => ?_⟩
  refine Call_ (ld_blt I hg hm PyProof.Rows.boot_zip (PyProof.Rows.callWith_type1 (thn (ha.run pos pins s σ H _ I h) fun us s1 ⟨vs, H1, I1, r1, q1⟩ => ?_) hs hpl))
  obtain ⟨a, b, xs, ys, ex, hqx, hqy, q⟩ := q1
  subst ex
  cases r1 with
  | cons r rr =>
    cases rr with
    | cons r' rr =>
      cases rr
      cases r
      cases r'
      obtain ⟨its, rv, p1, _⟩ := I1.tuple hqx
      obtain ⟨its2, rv2, p2, _⟩ := I1.list hqy
      have ht : s1.heap.IsTuple a its.toArray := p1
      have la : a < s1.heap.objs.size := by obtain ⟨_, q, _⟩ := ht; exact Heap.lt_size q
      have lb : b < s1.heap.objs.size := p2.lt
      refine zip_begins2 (begins_tuple a its.toArray) (begins_list b its2.toArray) ht p2.isList fun h' hz hTI hTO h1 h2 hsz hk => wpAny_pyIter_zip hz ?_
      have I2 : Inv X pins σ H1 { s1 with heap := h' } := I1.kept (t' := s1.toks) hk
      have S : ZipSep2 (s1.heap.objs.size + 4) (s1.heap.objs.size + 2) (s1.heap.objs.size + 3) s1.heap.objs.size (s1.heap.objs.size + 1) [s1.heap.objs.size, a] [s1.heap.objs.size + 1, b] := zip_sep2 (fp1 := [a]) (fp2 := [b]) (by simpa using la) (by simpa using lb)
      refine ⟨s1.heap.objs.size + 4, [s1.heap.objs.size + 4, s1.heap.objs.size + 2, s1.heap.objs.size + 3, s1.heap.objs.size, s1.heap.objs.size + 1], _, _, H1, rfl, I2, turn_zipT S, ⟨hz, hTI, ⟨_, _, hTO⟩, ⟨_, h1, rfl, rfl⟩, ⟨_, h2, rfl, rfl⟩⟩, fun c hcm => ?_, q⟩
      have e' : c = s1.heap.objs.size + 4 ∨ c = s1.heap.objs.size + 2 ∨ c = s1.heap.objs.size + 3 ∨ c = s1.heap.objs.size ∨ c = s1.heap.objs.size + 1 := by simpa using hcm
      have hle : s1.heap.objs.size ≤ c := by
        rcases e' with z | z | z | z | z <;> rw [z] <;> omega
      exact I1.fpOk hle (I1.hok.fresh hle)
theorem walk_zipT {K : PySem.W.Frag} {a b : Addr} {xs ys : List V} (hl : xs.length = ys.length) : Walk (ItzT K a b) xs.length (fun H => SqT K H a xs ∧ SqL K H b ys) (YPair (fun i => xs[i]?) (fun i => ys[i]?)) := by
  refine ⟨fun i _ hi q => ?_, fun _ q => ⟨xs, ys, q.1, q.2, Nat.le_refl _, Nat.le_of_eq hl, .inl rfl⟩, fun i H v H' _ q y => ?_⟩
  · have h2 : i < ys.length := by omega
    exact ⟨xs, ys, xs[i], ys[i], q.1, q.2, by simp [hi], by simp [h2]⟩
  · obtain ⟨T, x, z, h1, h2, h3, h4, h5⟩ := y
    exact ⟨T, x, z, h1, h2, h3, h4 xs q.1, h5 ys q.2⟩
theorem pa_starK {X : Cx} {K : PySem.W.Frag} {e : Expr} {es : List Expr} {p : Pos} {te : TE} {t : TA} (ek : X.K = K) (he : PE X e te) (hr : PA X es t) (hs : starEach (.Starred e p :: es) X.env = (true, eval e X.env) :: starEach es X.env := by rfl) : PA X (.Starred e p :: es) (StX.tStar K te t) := by
  subst ek
  exact StX.pa_star he hr hs
end Sw
namespace Sw
open PySem PySem.Spec PyProof.Rows L2
local macro_rules | `(tactic| walk_at "hp") => `(tactic| first
  | (with_reducible assumption) | (with_reducible exact upd_same)
  | ((with_reducible refine' upd_old ?q1 ?q2); (case q1 => (with_reducible assumption)); (case q2 => walk_at "hp"))
  | ((with_reducible refine' Same.at ?q1 ?q2); (case q1 => (with_reducible assumption)); (case q2 => walk_at "hp"))
  | ((with_reducible refine' upd_skip ?q1 ?q2); (case q1 => walk_at "ne"); (case q2 => walk_at "hp"))
  | fail)
local macro_rules | `(tactic| walk_at "ne") => `(tactic| first
  | (with_reducible assumption) | (with_reducible exact Ne.symm (by assumption))
  | ((with_reducible refine' ne_of_none ?q1 ?q2); (case q2 => (with_reducible assumption)); (case q1 => walk_at "hp"))
  | fail)
local macro_rules | `(tactic| walk_at "ci") => `(tactic| first | assumption | (show (0 : Int) < _; first | decide | (with_reducible omega)) | exact ⟨by decide, by decide⟩ | exact .inl ⟨by decide, by decide⟩ | exact .inr ⟨by decide, by decide⟩)
local macro_rules | `(tactic| walk_at "ln") => `(tactic| first | (with_reducible assumption) | (with_reducible omega) | (simp only [List.length_append, List.length_take, List.length_drop, List.length_reverse, List.length_cons, List.length_nil]; with_reducible omega))
local macro_rules | `(tactic| walk_at "rd1") => `(tactic| first
  | (with_reducible refine i_seq ?_) | (with_reducible refine i_asg ?_) | (with_reducible refine i_ret ?_) | (with_reducible refine i_name ?_) | ((with_reducible refine' i_var ?q1 ?_); (case q1 => exact rfl)) | (with_reducible refine i_c ?_) | (with_reducible refine i_op ?_) | (with_reducible refine i_un ?_)
  | (with_reducible refine i_rI0 ?_) | (with_reducible refine i_cb ?_) | (with_reducible refine i_cons ?_) | (with_reducible refine i_nil ?_) | (with_reducible refine i_call ?_) | (with_reducible refine i_if ?_) | (with_reducible refine i_ifE ?_) | (with_reducible refine i_test ?_) | (with_reducible refine i_bl ?_)
  | (with_reducible refine i_and ?_) | (with_reducible refine i_or ?_) | (with_reducible refine i_not ?_) | (with_reducible refine i_lst ?_) | (with_reducible refine i_tup ?_) | (with_reducible refine i_next ?_) | (with_reducible refine i_drop ?_) | (with_reducible refine i_sub ?_)
  | (with_reducible refine i_bm ?_) | (with_reducible refine i_sl ?_) | (with_reducible refine i_part ?_) | (with_reducible refine i_nopart ?_) | (with_reducible refine i_exI ?_) | (with_reducible refine i_chain ?_) | ((with_reducible refine' i_aug ?q1 ?_); (case q1 => exact rfl)) | (with_reducible refine i_ip ?_)
  | (with_reducible refine i_par ?_) | (with_reducible refine i_pair ?_) | (with_reducible refine i_andV ?_) | (with_reducible refine i_orV ?_) | (with_reducible refine i_notV ?_) | (with_reducible refine i_m1 ?_) | (with_reducible refine i_str ?_)
  | (with_reducible refine iteF ?_) | (with_reducible refine iteT ?_) | (with_reducible refine iteNT ?_) | (with_reducible refine iteNF ?_) | (with_reducible refine i_tyS ?_) | (with_reducible refine i_tB ?_) | (with_reducible refine i_retN ?_) | (with_reducible refine i_par3 ?_) | (with_reducible refine i_trip ?_) | (with_reducible refine i_gCons ?_) | (with_reducible refine i_gNil ?_) | (with_reducible refine i_lstRg ?_) | (with_reducible refine i_rg1 ?_)
  | (with_reducible refine i_lc ?_) | (with_reducible refine i_for ?_) | (with_reducible refine i_iList ?_) | (with_reducible refine i_iTup ?_) | (with_reducible refine i_iStr ?_) | (with_reducible refine i_iRng1 ?_) | (with_reducible refine i_iEnS ?_)
  | ((with_reducible refine' i_ixTH ?q1 ?q2 ?_); (case q1 => walk_at "hp"); (case q2 => exact rfl))
  | ((with_reducible refine' i_ixLH ?q1 ?q2 ?_); (case q1 => walk_at "hp"); (case q2 => exact rfl))
  | ((with_reducible refine i_addS ?q1 ?_); (case q1 => walk_at "ln")) | ((with_reducible refine i_lenSS ?q1 ?_); (case q1 => walk_at "ln")) | ((with_reducible refine i_slFrom ?q1 ?q2 ?_); (case q1 => walk_at "ln"); (case q2 => walk_at "ln")) | ((with_reducible refine i_slTo ?q1 ?q2 ?_); (case q1 => walk_at "ln"); (case q2 => walk_at "ln"))
  | ((with_reducible refine' i_tyL ?q1 ?_); (case q1 => walk_at "hp"))
  | ((with_reducible refine' i_gTupH ?q1 ?q2 ?_); (case q1 => walk_at "hp"); (case q2 => exact rfl))
  | (with_reducible refine i_dnew ?_) | (with_reducible refine i_init ?_) | (with_reducible refine i_fst ?_) | (with_reducible refine i_mk ?_) | (with_reducible refine i_mkF ?_) | (with_reducible refine i_raise ?_) | (with_reducible refine i_callS ?_) | (with_reducible refine i_kwS ?_)
  | (with_reducible refine i_revT ?_) | (with_reducible refine i_kw ?_) | ((with_reducible refine' ⟨_, _, rfl, sqT_of ?q1, ?_⟩); (case q1 => walk_at "hp"))
  | (with_reducible refine i_revS ?_) | ((with_reducible refine i_revSS ?q1 ?_); (case q1 => walk_at "ln"))
  | (with_reducible refine i_startS ?_) | (with_reducible refine i_inSg ?_) | (with_reducible refine i_absN ?_) | (with_reducible refine i_min2 ?_) | (with_reducible refine i_max2 ?_) | (with_reducible refine i_min3 ?_) | (with_reducible refine i_intN ?_) | (with_reducible refine i_intNB ?_)
  | ((with_reducible refine' i_lenL ?q1 ?_); (case q1 => walk_at "hp")) | ((with_reducible refine' i_lenT ?q1 ?_); (case q1 => walk_at "hp"))
  | (with_reducible refine i_eqI ?_) | (with_reducible refine i_neI ?_) | (with_reducible refine i_eqS ?_) | (with_reducible refine i_neS ?_) | (with_reducible refine i_isNoI ?_) | (with_reducible refine i_isNoN ?_) | (with_reducible refine i_isNoR ?_)
  | ((with_reducible refine i_pow ?q1 ?q2 ?q3 ?_); (case q1 => decide); (case q2 => decide); (case q3 => (with_reducible omega)))
  | ((with_reducible refine i_rI ?q1 ?_); (case q1 => walk_at "ci"))
  | (with_reducible refine Or.inl ⟨_, rfl, ?_⟩) | (with_reducible refine Or.inr ⟨_, rfl, ?_⟩) | (with_reducible refine ⟨_, rfl, ?_⟩) | (with_reducible refine ⟨_, _, rfl, ?_⟩) | (with_reducible refine ⟨_, _, rfl, rfl, ?_⟩)
  | ((with_reducible refine' ⟨_, _, rfl, Or.inl (sqL_of ?q1), ?_⟩); (case q1 => walk_at "hp")) | ((with_reducible refine' ⟨_, _, rfl, Or.inr (sqT_of ?q1), ?_⟩); (case q1 => walk_at "hp")) | (with_reducible refine i_dget ?_) | (with_reducible refine i_disp1T ?_) | (with_reducible refine i_dcT ?_) | (with_reducible refine i_dnewT ?_) | (with_reducible refine i_fld ?_) | (with_reducible refine i_sFld ?_) | (with_reducible refine i_make ?_) | (with_reducible refine i_meth ?_) | (with_reducible refine i_star ?_) | (with_reducible refine i_isNoS ?_) | (with_reducible refine i_lc2 ?_) | (with_reducible refine i_iEnT ?_) | fail)
local macro_rules | `(tactic| walk_at "rd") => `(tactic| repeat' walk_at "rd1")

def topS (i : Nat) : Stmt := PySem.Challenge.pw_spoiltways_k55_markers_and_checks_togeth.main.body.getD i (.Pass ⟨0, 0, 0, 0⟩)
abbrev s__wall : Stmt := topS 0
abbrev n__wall : List Str := ["k"]
theorem sc__wall : FnScope n__wall ["k"] (defScope s__wall) := ⟨rfl, rfl, rfl, by decide +kernel, rfl, by decide +kernel, by decide +kernel⟩
abbrev s_is_list : Stmt := topS 15
abbrev n_is_list : List Str := ["value"]
theorem sc_is_list : FnScope n_is_list ["value"] (defScope s_is_list) := ⟨rfl, rfl, rfl, by decide +kernel, rfl, by decide +kernel, by decide +kernel⟩
abbrev s_is_integer : Stmt := topS 16
abbrev n_is_integer : List Str := ["value"]
theorem sc_is_integer : FnScope n_is_integer ["value"] (defScope s_is_integer) := ⟨rfl, rfl, rfl, by decide +kernel, rfl, by decide +kernel, by decide +kernel⟩
abbrev s_is_index : Stmt := topS 17
abbrev n_is_index : List Str := ["value", "many"]
theorem sc_is_index : FnScope n_is_index ["value", "many"] (defScope s_is_index) := ⟨rfl, rfl, rfl, by decide +kernel, rfl, by decide +kernel, by decide +kernel⟩
abbrev s_is_signs : Stmt := topS 18
abbrev n_is_signs : List Str := ["value"]
theorem sc_is_signs : FnScope n_is_signs ["value"] (defScope s_is_signs) := ⟨rfl, rfl, rfl, by decide +kernel, rfl, by decide +kernel, by decide +kernel⟩
abbrev s_is_sign : Stmt := topS 19
abbrev n_is_sign : List Str := ["value", "signs"]
theorem sc_is_sign : FnScope n_is_sign ["value", "signs"] (defScope s_is_sign) := ⟨rfl, rfl, rfl, by decide +kernel, rfl, by decide +kernel, by decide +kernel⟩
abbrev s_is_line : Stmt := topS 20
abbrev n_is_line : List Str := ["value", "signs", "sign"]
theorem sc_is_line : FnScope n_is_line ["value", "signs"] (defScope s_is_line) := ⟨rfl, rfl, rfl, by decide +kernel, rfl, by decide +kernel, by decide +kernel⟩
abbrev s_is_text : Stmt := topS 21
abbrev n_is_text : List Str := ["value", "letter"]
theorem sc_is_text : FnScope n_is_text ["value"] (defScope s_is_text) := ⟨rfl, rfl, rfl, by decide +kernel, rfl, by decide +kernel, by decide +kernel⟩
abbrev s_is_word : Stmt := topS 22
abbrev n_is_word : List Str := ["value"]
theorem sc_is_word : FnScope n_is_word ["value"] (defScope s_is_word) := ⟨rfl, rfl, rfl, by decide +kernel, rfl, by decide +kernel, by decide +kernel⟩
abbrev s_check_signs : Stmt := topS 23
abbrev n_check_signs : List Str := ["signs"]
theorem sc_check_signs : FnScope n_check_signs ["signs"] (defScope s_check_signs) := ⟨rfl, rfl, rfl, by decide +kernel, rfl, by decide +kernel, by decide +kernel⟩
abbrev s_check_line : Stmt := topS 24
abbrev n_check_line : List Str := ["line", "signs"]
theorem sc_check_line : FnScope n_check_line ["line", "signs"] (defScope s_check_line) := ⟨rfl, rfl, rfl, by decide +kernel, rfl, by decide +kernel, by decide +kernel⟩
abbrev s_is_entry : Stmt := topS 27
abbrev n_is_entry : List Str := ["value", "states"]
theorem sc_is_entry : FnScope n_is_entry ["value", "states"] (defScope s_is_entry) := ⟨rfl, rfl, rfl, by decide +kernel, rfl, by decide +kernel, by decide +kernel⟩
abbrev s_are_steps : Stmt := topS 28
abbrev n_are_steps : List Str := ["value", "signs", "row", "entry"]
theorem sc_are_steps : FnScope n_are_steps ["value", "signs"] (defScope s_are_steps) := ⟨rfl, rfl, rfl, by decide +kernel, rfl, by decide +kernel, by decide +kernel⟩
abbrev s_are_ends : Stmt := topS 29
abbrev n_are_ends : List Str := ["value", "states", "end"]
theorem sc_are_ends : FnScope n_are_ends ["value", "states"] (defScope s_are_ends) := ⟨rfl, rfl, rfl, by decide +kernel, rfl, by decide +kernel, by decide +kernel⟩
abbrev s_check_decoder : Stmt := topS 31
abbrev n_check_decoder : List Str := ["decoder"]
theorem sc_check_decoder : FnScope n_check_decoder ["decoder"] (defScope s_check_decoder) := ⟨rfl, rfl, rfl, by decide +kernel, rfl, by decide +kernel, by decide +kernel⟩
abbrev s_checked_row : Stmt := topS 34
abbrev n_checked_row : List Str := ["decoder", "size", "place", "state", "read", "total", "sign", "row", "entry", "rest"]
theorem sc_checked_row : FnScope n_checked_row ["decoder", "size", "place"] (defScope s_checked_row) := ⟨rfl, rfl, rfl, by decide +kernel, rfl, by decide +kernel, by decide +kernel⟩
abbrev s_with_check : Stmt := topS 35
abbrev n_with_check : List Str := ["decoder", "size", "places", "numbers", "rows", "row", "entry", "steps", "ends", "state", "read", "total"]
theorem sc_with_check : FnScope n_with_check ["decoder", "size"] (defScope s_with_check) := ⟨rfl, rfl, rfl, by decide +kernel, rfl, by decide +kernel, by decide +kernel⟩
abbrev s_with_marker : Stmt := topS 36
abbrev n_with_marker : List Str := ["decoder", "marks", "end", "steps", "row", "mark"]
theorem sc_with_marker : FnScope n_with_marker ["decoder"] (defScope s_with_marker) := ⟨rfl, rfl, rfl, by decide +kernel, rfl, by decide +kernel, by decide +kernel⟩
abbrev s_common_beginning : Stmt := topS 38
abbrev n_common_beginning : List Str := ["one", "other", "many"]
theorem sc_common_beginning : FnScope n_common_beginning ["one", "other"] (defScope s_common_beginning) := ⟨rfl, rfl, rfl, by decide +kernel, rfl, by decide +kernel, by decide +kernel⟩
abbrev s_without_common_ends : Stmt := topS 39
abbrev n_without_common_ends : List Str := ["one", "other", "many", "left", "right"]
theorem sc_without_common_ends : FnScope n_without_common_ends ["one", "other"] (defScope s_without_common_ends) := ⟨rfl, rfl, rfl, by decide +kernel, rfl, by decide +kernel, by decide +kernel⟩
abbrev s_next_band : Stmt := topS 40
abbrev n_next_band : List Str := ["band", "letter", "at", "other", "most", "found", "k", "place", "ways"]
theorem sc_next_band : FnScope n_next_band ["band", "letter", "at", "other"] (defScope s_next_band) := ⟨rfl, rfl, rfl, by decide +kernel, rfl, by decide +kernel, by decide +kernel⟩
abbrev s_distance_within : Stmt := topS 41
abbrev n_distance_within : List Str := ["one", "other", "most", "left", "right", "band", "k", "at", "letter", "found"]
theorem sc_distance_within : FnScope n_distance_within ["one", "other", "most"] (defScope s_distance_within) := ⟨rfl, rfl, rfl, by decide +kernel, rfl, by decide +kernel, by decide +kernel⟩
abbrev s_levenshtein : Stmt := topS 42
abbrev n_levenshtein : List Str := ["one", "other", "most", "found"]
theorem sc_levenshtein : FnScope n_levenshtein ["one", "other"] (defScope s_levenshtein) := ⟨rfl, rfl, rfl, by decide +kernel, rfl, by decide +kernel, by decide +kernel⟩
abbrev s_is_kind : Stmt := topS 44
abbrev n_is_kind : List Str := ["value", "signs", "part"]
theorem sc_is_kind : FnScope n_is_kind ["value", "signs"] (defScope s_is_kind) := ⟨rfl, rfl, rfl, by decide +kernel, rfl, by decide +kernel, by decide +kernel⟩
abbrev s_is_same : Stmt := topS 45
abbrev n_is_same : List Str := ["value", "signs"]
theorem sc_is_same : FnScope n_is_same ["value", "signs"] (defScope s_is_same) := ⟨rfl, rfl, rfl, by decide +kernel, rfl, by decide +kernel, by decide +kernel⟩
abbrev s_is_passing : Stmt := topS 46
abbrev n_is_passing : List Str := ["value", "signs", "step"]
theorem sc_is_passing : FnScope n_is_passing ["value", "signs"] (defScope s_is_passing) := ⟨rfl, rfl, rfl, by decide +kernel, rfl, by decide +kernel, by decide +kernel⟩
abbrev s_check_passing : Stmt := topS 47
abbrev n_check_passing : List Str := ["passing", "signs"]
theorem sc_check_passing : FnScope n_check_passing ["passing", "signs"] (defScope s_check_passing) := ⟨rfl, rfl, rfl, by decide +kernel, rfl, by decide +kernel, by decide +kernel⟩
abbrev s_sent : Stmt := topS 48
abbrev n_sent : List Str := ["passing", "step"]
theorem sc_sent : FnScope n_sent ["passing"] (defScope s_sent) := ⟨rfl, rfl, rfl, by decide +kernel, rfl, by decide +kernel, by decide +kernel⟩
abbrev s_came : Stmt := topS 49
abbrev n_came : List Str := ["passing", "step"]
theorem sc_came : FnScope n_came ["passing"] (defScope s_came) := ⟨rfl, rfl, rfl, by decide +kernel, rfl, by decide +kernel, by decide +kernel⟩
abbrev s_harm_of : Stmt := topS 50
abbrev n_harm_of : List Str := ["decoder", "passing", "left", "right"]
theorem sc_harm_of : FnScope n_harm_of ["decoder", "passing"] (defScope s_harm_of) := ⟨rfl, rfl, rfl, by decide +kernel, rfl, by decide +kernel, by decide +kernel⟩
abbrev s__law_cell : Stmt := topS 52
abbrev n__law_cell : List Str := ["script", "k"]
theorem sc__law_cell : FnScope n__law_cell ["script", "k"] (defScope s__law_cell) := ⟨rfl, rfl, rfl, by decide +kernel, rfl, by decide +kernel, by decide +kernel⟩
abbrev s__law_box : Stmt := topS 53
abbrev n__law_box : List Str := ["great"]
theorem sc__law_box : FnScope n__law_box ["great"] (defScope s__law_box) := ⟨rfl, rfl, rfl, by decide +kernel, rfl, by decide +kernel, by decide +kernel⟩
abbrev s__law_take : Stmt := topS 54
abbrev n__law_take : List Str := ["box", "many", "digit", "mixed"]
theorem sc__law_take : FnScope n__law_take ["box", "many"] (defScope s__law_take) := ⟨rfl, rfl, rfl, by decide +kernel, rfl, by decide +kernel, by decide +kernel⟩
abbrev s__law_free : Stmt := topS 55
abbrev n__law_free : List Str := ["box", "many", "states", "steps", "state", "row", "sign", "entry", "ends"]
theorem sc__law_free : FnScope n__law_free ["box", "many", "states"] (defScope s__law_free) := ⟨rfl, rfl, rfl, by decide +kernel, rfl, by decide +kernel, by decide +kernel⟩
abbrev s__law_plain : Stmt := topS 56
abbrev n__law_plain : List Str := ["box", "way"]
theorem sc__law_plain : FnScope n__law_plain ["box"] (defScope s__law_plain) := ⟨rfl, rfl, rfl, by decide +kernel, rfl, by decide +kernel, by decide +kernel⟩
abbrev s__law_marked : Stmt := topS 57
abbrev n__law_marked : List Str := ["plain", "marks", "end", "k"]
theorem sc__law_marked : FnScope n__law_marked ["plain"] (defScope s__law_marked) := ⟨rfl, rfl, rfl, by decide +kernel, rfl, by decide +kernel, by decide +kernel⟩
abbrev s__law_blocks : Stmt := topS 58
abbrev n__law_blocks : List Str := ["plain", "many", "found", "rows", "turn", "state", "read", "total", "row", "sign", "entry", "goal", "place"]
theorem sc__law_blocks : FnScope n__law_blocks ["plain", "many"] (defScope s__law_blocks) := ⟨rfl, rfl, rfl, by decide +kernel, rfl, by decide +kernel, by decide +kernel⟩
abbrev s__law_written : Stmt := topS 59
abbrev n__law_written : List Str := ["plain", "line", "state", "found", "sign", "entry"]
theorem sc__law_written : FnScope n__law_written ["plain", "line"] (defScope s__law_written) := ⟨rfl, rfl, rfl, by decide +kernel, rfl, by decide +kernel, by decide +kernel⟩
abbrev s__law_distance : Stmt := topS 60
abbrev n__law_distance : List Str := ["one", "other", "row", "i", "ahead", "j", "here"]
theorem sc__law_distance : FnScope n__law_distance ["one", "other"] (defScope s__law_distance) := ⟨rfl, rfl, rfl, by decide +kernel, rfl, by decide +kernel, by decide +kernel⟩
abbrev s__law_line : Stmt := topS 61
abbrev n__law_line : List Str := ["box", "plain", "most", "line", "state", "turn", "signs_on", "sign", "entry"]
theorem sc__law_line : FnScope n__law_line ["box", "plain", "most"] (defScope s__law_line) := ⟨rfl, rfl, rfl, by decide +kernel, rfl, by decide +kernel, by decide +kernel⟩
abbrev s__law_told : Stmt := topS 62
abbrev n__law_told : List Str := ["way", "thing", "many", "e"]
theorem sc__law_told : FnScope n__law_told ["way", "thing", "many"] (defScope s__law_told) := ⟨rfl, rfl, rfl, by decide +kernel, rfl, by decide +kernel, by decide +kernel⟩
abbrev s__law_is : Stmt := topS 63
abbrev n__law_is : List Str := ["made", "plain", "steps", "ends", "row"]
theorem sc__law_is : FnScope n__law_is ["made", "plain"] (defScope s__law_is) := ⟨rfl, rfl, rfl, by decide +kernel, rfl, by decide +kernel, by decide +kernel⟩
abbrev s__law_refused_right : Stmt := topS 64
abbrev n__law_refused_right : List Str := ["box", "thing", "way", "wide", "handed"]
theorem sc__law_refused_right : FnScope n__law_refused_right ["box"] (defScope s__law_refused_right) := ⟨rfl, rfl, rfl, by decide +kernel, rfl, by decide +kernel, by decide +kernel⟩
abbrev s__law_parts_right : Stmt := topS 65
abbrev n__law_parts_right : List Str := ["box", "made", "plain", "turn", "parts", "part", "line", "texts", "due"]
theorem sc__law_parts_right : FnScope n__law_parts_right ["box", "made", "plain"] (defScope s__law_parts_right) := ⟨rfl, rfl, rfl, by decide +kernel, rfl, by decide +kernel, by decide +kernel⟩
abbrev s__law_exchanged_right : Stmt := topS 66
abbrev n__law_exchanged_right : List Str := ["box", "plain", "many", "due", "checked", "line", "passing", "other", "clean", "spot", "up", "alone", "k", "block", "fresh", "down", "sign", "check", "one", "last", "texts", "wrong", "found"]
theorem sc__law_exchanged_right : FnScope n__law_exchanged_right ["box", "plain", "many"] (defScope s__law_exchanged_right) := ⟨rfl, rfl, rfl, by decide +kernel, rfl, by decide +kernel, by decide +kernel⟩
abbrev s__law_one_right : Stmt := topS 67
abbrev n__law_one_right : List Str := ["box", "choice", "plain", "many", "handed", "told", "marked", "over", "under", "made"]
theorem sc__law_one_right : FnScope n__law_one_right ["box"] (defScope s__law_one_right) := ⟨rfl, rfl, rfl, by decide +kernel, rfl, by decide +kernel, by decide +kernel⟩
abbrev s_law : Stmt := topS 68
abbrev n_law : List Str := ["script", "k"]
theorem sc_law : FnScope n_law ["script"] (defScope s_law) := ⟨rfl, rfl, rfl, by decide +kernel, rfl, by decide +kernel, by decide +kernel⟩
abbrev s_Decoder___init__ : Stmt := inClass (topS 30) 0
abbrev n_Decoder___init__ : List Str := ["self", "signs", "steps", "ends", "row"]
theorem sc_Decoder___init__ : FnScope n_Decoder___init__ ["self", "signs", "steps", "ends"] (defScope s_Decoder___init__) := ⟨rfl, rfl, rfl, by decide +kernel, rfl, by decide +kernel, by decide +kernel⟩
abbrev s_Decoder___eq__ : Stmt := inClass (topS 30) 1
abbrev n_Decoder___eq__ : List Str := ["self", "other"]
theorem sc_Decoder___eq__ : FnScope n_Decoder___eq__ ["self", "other"] (defScope s_Decoder___eq__) := ⟨rfl, rfl, rfl, by decide +kernel, rfl, by decide +kernel, by decide +kernel⟩
abbrev s_Decoder_written : Stmt := inClass (topS 30) 2
abbrev n_Decoder_written : List Str := ["self", "line", "state", "text", "sign", "entry", "end"]
theorem sc_Decoder_written : FnScope n_Decoder_written ["self", "line"] (defScope s_Decoder_written) := ⟨rfl, rfl, rfl, by decide +kernel, rfl, by decide +kernel, by decide +kernel⟩
abbrev s_Decoder_state_after : Stmt := inClass (topS 30) 3
abbrev n_Decoder_state_after : List Str := ["self", "line"]
theorem sc_Decoder_state_after : FnScope n_Decoder_state_after ["self", "line"] (defScope s_Decoder_state_after) := ⟨rfl, rfl, rfl, by decide +kernel, rfl, by decide +kernel, by decide +kernel⟩
abbrev s_Decoder_trimmed : Stmt := inClass (topS 30) 4
abbrev n_Decoder_trimmed : List Str := ["self"]
theorem sc_Decoder_trimmed : FnScope n_Decoder_trimmed ["self"] (defScope s_Decoder_trimmed) := ⟨rfl, rfl, rfl, by decide +kernel, rfl, by decide +kernel, by decide +kernel⟩
/-- names that stay the built-in ones -/
structure Z (mg : Str → Option Value) : Prop where
  abs : mg "abs" = none
  all : mg "all" = none
  bool : mg "bool" = none
  enumerate : mg "enumerate" = none
  int : mg "int" = none
  isinstance : mg "isinstance" = none
  len : mg "len" = none
  list : mg "list" = none
  max_ : mg "max" = none
  min_ : mg "min" = none
  range : mg "range" = none
  repr : mg "repr" = none
  str : mg "str" = none
  sum : mg "sum" = none
  tuple : mg "tuple" = none
  zip : mg "zip" = none
end Sw
namespace Sw
open PySem PySem.Spec PyProof.Rows L2
local macro_rules | `(tactic| walk_at "hp") => `(tactic| first
  | (with_reducible assumption) | (with_reducible exact upd_same)
  | ((with_reducible refine' upd_old ?q1 ?q2); (case q1 => (with_reducible assumption)); (case q2 => walk_at "hp"))
  | ((with_reducible refine' Same.at ?q1 ?q2); (case q1 => (with_reducible assumption)); (case q2 => walk_at "hp"))
  | ((with_reducible refine' upd_skip ?q1 ?q2); (case q1 => walk_at "ne"); (case q2 => walk_at "hp"))
  | fail)
local macro_rules | `(tactic| walk_at "ne") => `(tactic| first
  | (with_reducible assumption) | (with_reducible exact Ne.symm (by assumption))
  | ((with_reducible refine' ne_of_none ?q1 ?q2); (case q2 => (with_reducible assumption)); (case q1 => walk_at "hp"))
  | fail)
local macro_rules | `(tactic| walk_at "ci") => `(tactic| first | assumption | (show (0 : Int) < _; first | decide | (with_reducible omega)) | exact ⟨by decide, by decide⟩ | exact .inl ⟨by decide, by decide⟩ | exact .inr ⟨by decide, by decide⟩)
local macro_rules | `(tactic| walk_at "ln") => `(tactic| first | (with_reducible assumption) | (with_reducible omega) | (simp only [List.length_append, List.length_take, List.length_drop, List.length_reverse, List.length_cons, List.length_nil]; with_reducible omega))
local macro_rules | `(tactic| walk_at "rd1") => `(tactic| first
  | (with_reducible refine i_seq ?_) | (with_reducible refine i_asg ?_) | (with_reducible refine i_ret ?_) | (with_reducible refine i_name ?_) | ((with_reducible refine' i_var ?q1 ?_); (case q1 => exact rfl)) | (with_reducible refine i_c ?_) | (with_reducible refine i_op ?_) | (with_reducible refine i_un ?_)
  | (with_reducible refine i_rI0 ?_) | (with_reducible refine i_cb ?_) | (with_reducible refine i_cons ?_) | (with_reducible refine i_nil ?_) | (with_reducible refine i_call ?_) | (with_reducible refine i_if ?_) | (with_reducible refine i_ifE ?_) | (with_reducible refine i_test ?_) | (with_reducible refine i_bl ?_)
  | (with_reducible refine i_and ?_) | (with_reducible refine i_or ?_) | (with_reducible refine i_not ?_) | (with_reducible refine i_lst ?_) | (with_reducible refine i_tup ?_) | (with_reducible refine i_next ?_) | (with_reducible refine i_drop ?_) | (with_reducible refine i_sub ?_)
  | (with_reducible refine i_bm ?_) | (with_reducible refine i_sl ?_) | (with_reducible refine i_part ?_) | (with_reducible refine i_nopart ?_) | (with_reducible refine i_exI ?_) | (with_reducible refine i_chain ?_) | ((with_reducible refine' i_aug ?q1 ?_); (case q1 => exact rfl)) | (with_reducible refine i_ip ?_)
  | (with_reducible refine i_par ?_) | (with_reducible refine i_pair ?_) | (with_reducible refine i_andV ?_) | (with_reducible refine i_orV ?_) | (with_reducible refine i_notV ?_) | (with_reducible refine i_m1 ?_) | (with_reducible refine i_str ?_)
  | (with_reducible refine iteF ?_) | (with_reducible refine iteT ?_) | (with_reducible refine iteNT ?_) | (with_reducible refine iteNF ?_) | (with_reducible refine i_tyS ?_) | (with_reducible refine i_tB ?_) | (with_reducible refine i_retN ?_) | (with_reducible refine i_par3 ?_) | (with_reducible refine i_trip ?_) | (with_reducible refine i_gCons ?_) | (with_reducible refine i_gNil ?_) | (with_reducible refine i_lstRg ?_) | (with_reducible refine i_rg1 ?_)
  | (with_reducible refine i_lc ?_) | (with_reducible refine i_for ?_) | (with_reducible refine i_iList ?_) | (with_reducible refine i_iTup ?_) | (with_reducible refine i_iStr ?_) | (with_reducible refine i_iRng1 ?_) | (with_reducible refine i_iEnS ?_)
  | ((with_reducible refine' i_ixTH ?q1 ?q2 ?_); (case q1 => walk_at "hp"); (case q2 => exact rfl))
  | ((with_reducible refine' i_ixLH ?q1 ?q2 ?_); (case q1 => walk_at "hp"); (case q2 => exact rfl))
  | ((with_reducible refine i_addS ?q1 ?_); (case q1 => walk_at "ln")) | ((with_reducible refine i_lenSS ?q1 ?_); (case q1 => walk_at "ln")) | ((with_reducible refine i_slFrom ?q1 ?q2 ?_); (case q1 => walk_at "ln"); (case q2 => walk_at "ln")) | ((with_reducible refine i_slTo ?q1 ?q2 ?_); (case q1 => walk_at "ln"); (case q2 => walk_at "ln"))
  | ((with_reducible refine' i_tyL ?q1 ?_); (case q1 => walk_at "hp"))
  | ((with_reducible refine' i_gTupH ?q1 ?q2 ?_); (case q1 => walk_at "hp"); (case q2 => exact rfl))
  | (with_reducible refine i_dnew ?_) | (with_reducible refine i_init ?_) | (with_reducible refine i_fst ?_) | (with_reducible refine i_mk ?_) | (with_reducible refine i_mkF ?_) | (with_reducible refine i_raise ?_) | (with_reducible refine i_callS ?_) | (with_reducible refine i_kwS ?_)
  | (with_reducible refine i_revT ?_) | (with_reducible refine i_kw ?_) | ((with_reducible refine' ⟨_, _, rfl, sqT_of ?q1, ?_⟩); (case q1 => walk_at "hp"))
  | (with_reducible refine i_revS ?_) | ((with_reducible refine i_revSS ?q1 ?_); (case q1 => walk_at "ln"))
  | (with_reducible refine i_startS ?_) | (with_reducible refine i_inSg ?_) | (with_reducible refine i_absN ?_) | (with_reducible refine i_min2 ?_) | (with_reducible refine i_max2 ?_) | (with_reducible refine i_min3 ?_) | (with_reducible refine i_intN ?_) | (with_reducible refine i_intNB ?_)
  | ((with_reducible refine' i_lenL ?q1 ?_); (case q1 => walk_at "hp")) | ((with_reducible refine' i_lenT ?q1 ?_); (case q1 => walk_at "hp"))
  | (with_reducible refine i_eqI ?_) | (with_reducible refine i_neI ?_) | (with_reducible refine i_eqS ?_) | (with_reducible refine i_neS ?_) | (with_reducible refine i_isNoI ?_) | (with_reducible refine i_isNoN ?_) | (with_reducible refine i_isNoR ?_)
  | ((with_reducible refine i_pow ?q1 ?q2 ?q3 ?_); (case q1 => decide); (case q2 => decide); (case q3 => (with_reducible omega)))
  | ((with_reducible refine i_rI ?q1 ?_); (case q1 => walk_at "ci"))
  | (with_reducible refine Or.inl ⟨_, rfl, ?_⟩) | (with_reducible refine Or.inr ⟨_, rfl, ?_⟩) | (with_reducible refine ⟨_, rfl, ?_⟩) | (with_reducible refine ⟨_, _, rfl, ?_⟩) | (with_reducible refine ⟨_, _, rfl, rfl, ?_⟩)
  | ((with_reducible refine' ⟨_, _, rfl, Or.inl (sqL_of ?q1), ?_⟩); (case q1 => walk_at "hp")) | ((with_reducible refine' ⟨_, _, rfl, Or.inr (sqT_of ?q1), ?_⟩); (case q1 => walk_at "hp")) | (with_reducible refine i_dget ?_) | (with_reducible refine i_disp1T ?_) | (with_reducible refine i_dcT ?_) | (with_reducible refine i_dnewT ?_) | (with_reducible refine i_fld ?_) | (with_reducible refine i_sFld ?_) | (with_reducible refine i_make ?_) | (with_reducible refine i_meth ?_) | (with_reducible refine i_star ?_) | (with_reducible refine i_isNoS ?_) | (with_reducible refine i_lc2 ?_) | (with_reducible refine i_iEnT ?_) | fail)
local macro_rules | `(tactic| walk_at "rd") => `(tactic| repeat' walk_at "rd1")

section
variable {P : Program} {w : World} {K : PySem.W.Frag} {mg : Str → Option Value} {base : Heap} {f : Addr} {fd : FuncData}
theorem ok__law_take (F : Fun K "_law_take" "_law_take" s__law_take f fd) (z : Z mg) : FnOk P w K mg base CX0 1 f fd ["box", "many"] spTake := by
  refine F.ok sc__law_take (fun vs H Q E h => ?_) (fun cdv A outer s H vs Q E hr h => ?_)
  · obtain ⟨b, m, d, rfl, _⟩ := h; rfl
  · obtain ⟨b, m, d, rfl, B, hd, hm, hm2, k⟩ := h
    obtain ⟨n, g, c, e, hb, hn, hc0, hc1, he0, he1⟩ := B.ex
    have L : SqL K H b [.int n, .bl g, .int c, .int e] := .inl (.inl hb)
    refine ⟨_, (pss_cons (ps_if (PW.pt (pw_and (pt_val (pe_ix ix_list (pv 0) pe_int (fun _ _ => rfl))) (pw_and1 (pt_cmpR op_gt (pe_ix ix_list (pv 0) pe_int (fun _ _ => rfl)) pe_int (nomark _)))))
        (pss_cons (ps_set (i := 2) sc__law_take.nd rfl (.inl rfl) (pe_op op_mod (pe_callTy call_intN (by rfl) z.int (by decide +kernel) (pa_cons (pe_ix ix_list (pv 0) pe_int (fun _ _ => rfl)) pa_nil)) (pv 1)))
        (pss_cons (ps_asg (pe_op op_fdivW (pe_ix ix_list (pv 0) pe_int (fun _ _ => rfl)) (pv 1)) (pg_sub (pv 0) pe_int set_list))
        (pss_one (ps_ret (pv 2)))))
        pss_nil)
      (pss_cons (ps_asg (pe_op op_add (pe_ix ix_list (pv 0) pe_int (fun _ _ => rfl)) pe_int) (pg_sub (pv 0) pe_int set_list))
      (pss_cons (ps_set (i := 3) sc__law_take.nd rfl (.inl rfl) (pe_op op_mod (pe_callTy call_intN (by rfl) z.int (by decide +kernel) (pa_cons (pe_op op_pow (pe_op op_add (pe_op op_add (pe_ix ix_list (pv 0) pe_int (fun _ _ => rfl)) (pe_op op_mul pe_int (pe_ix ix_list (pv 0) pe_int (fun _ _ => rfl)))) pe_int) pe_int) pa_nil)) pe_int))
      (pss_one (ps_ret (pe_op op_mod (pe_op op_fdiv (pe_op op_mod (pe_callTy call_intN (by rfl) z.int (by decide +kernel) (pa_cons (pe_op op_pow (pe_op op_add (pe_op op_mul (pv 3) pe_int) (pe_op op_mul pe_int (pe_ix ix_list (pv 0) pe_int (fun _ _ => rfl)))) pe_int) pa_nil)) pe_int) pe_int) (pv 1))))))), ?_⟩
    walk_at "rd"
    refine iteC (fun hg => ?_) (fun hg => ?_)
    · walk_at "rd"
      refine iteB (fun h0 => ?_) (fun h0 => ?_)
      · walk_at "rd"
        refine i_rI (wide_div hm (by omega : m.natAbs < 2 ^ 64) (by decide) (by decide)) ?_
        walk_at "rd"
        refine i_setL hb rfl ?_
        walk_at "rd"
        refine k _ _ (Int.emod_nonneg _ (by omega)) (Int.emod_lt_of_pos _ hm) ⟨n / m, g, c, e, upd_same, Int.ediv_nonneg hn (by omega), hc0, hc1, he0, by omega⟩ SB.upd
      · walk_at "rd"
        refine i_setL hb rfl ?_
        walk_at "rd"
        exact k _ _ (Int.emod_nonneg _ (by omega)) (Int.emod_lt_of_pos _ hm) ⟨n, g, c, e + 1, upd_same, hn, hc0, hc1, by omega, by omega⟩ SB.upd
    · walk_at "rd"
      refine i_setL hb rfl ?_
      walk_at "rd"
      exact k _ _ (Int.emod_nonneg _ (by omega)) (Int.emod_lt_of_pos _ hm) ⟨n, g, c, e + 1, upd_same, hn, hc0, hc1, by omega, by omega⟩ SB.upd
theorem ok__law_box (F : Fun K "_law_box" "_law_box" s__law_box f fd) (z : Z mg) : FnOk P w K mg base CX0 1 f fd ["great"] spBox := by
  refine F.ok sc__law_box (fun vs H Q E h => ?_) (fun cdv A outer s H vs Q E hr h => ?_)
  · obtain ⟨n, rfl, _⟩ := h; rfl
  · obtain ⟨n, rfl, k⟩ := h
    refine ⟨_, (pss_one (ps_ret (pe_lst (pa_cons (pe_callB call_absN (by rfl) z.abs (by decide +kernel) (pa_cons (pv 0) pa_nil)) (pa_cons (pe_cmpR op_ge (pe_callB call_absN (by rfl) z.abs (by decide +kernel) (pa_cons (pv 0) pa_nil)) (pe_op op_pow pe_int pe_int) (nomark _)) (pa_cons (pe_op op_mod (pe_callTy call_intN (by rfl) z.int (by decide +kernel) (pa_cons (pe_callB call_absN (by rfl) z.abs (by decide +kernel) (pa_cons (pv 0) pa_nil)) pa_nil)) pe_int) (pa_cons pe_int pa_nil))))))), ?_⟩
    walk_at "rd"
    have q0 := Int.emod_nonneg (if n < 0 then -n else n) (show (2147483629 : Int) ≠ 0 by decide)
    have q1 := Int.emod_lt_of_pos (if n < 0 then -n else n) (show (0 : Int) < 2147483629 by decide)
    refine ⟨Nat.le_of_ble_eq_true rfl, fun p np => ?_⟩
    refine k p _ np (same_upd np) ⟨_, _, _, _, upd_same, by split <;> omega, q0, q1, by omega, by omega⟩
theorem ok__law_cell (F : Fun K "_law_cell" "_law_cell" s__law_cell f fd) (z : Z mg) : FnOk P w K mg base CX0 1 f fd ["script", "k"] (spCell K) := by
  refine F.ok sc__law_cell (fun vs H Q E h => ?_) (fun cdv A outer s H vs Q E hr h => ?_)
  · obtain ⟨a, ns, j, rfl, _⟩ := h; rfl
  · obtain ⟨a, ns, j, rfl, L, h0, h1, k⟩ := h
    refine ⟨_, (pss_one (ps_ret (pe_ifExp (pt_cmpR op_lt (pv 1) (pe_callB call_lenQ (by rfl) z.len PySem.boot_len (pa_cons (pv 0) pa_nil)) (nomark _)) (pe_ix ix_list (pv 0) (pv 1) (fun _ _ => rfl)) (pe_op op_add (pe_op op_mul pe_int (pv 1)) (pe_op op_mod (pe_callB (cr_sum rfl) (by rfl) z.sum (by decide +kernel) (pa_cons (pe_slice sl_list (pv 0) po_none (po_some pe_int)) pa_nil)) pe_int))))), ?_⟩
    walk_at "rd"
    refine i_lenK L ?_
    walk_at "rd"
    rw [List.length_map]
    refine iteB (fun hlt => ?_) (fun hlt => ?_)
    · walk_at "rd"
      refine i_ixL L (atI_ints h0 hlt) ?_
      exact k _ _ (Same.refl _)
    · walk_at "rd"
      refine ⟨a, _, rfl, L, fun p np => ?_⟩
      walk_at "rd"
      have e : cutV (ns.map V.int) none (some 1) = (ns.take 1).map V.int := by
        unfold cutV
        rw [show HT.sIx (ns.map V.int).length (ns.map V.int).length (some 1) = min 1 (ns.map V.int).length from HT.sIx_nat _ _ 1, HT.sIx_none, List.drop_zero, Nat.sub_zero, List.map_take]
        rcases Nat.le_total 1 (ns.map V.int).length with q | q
        · rw [Nat.min_eq_left q]
        · rw [Nat.min_eq_right q, List.take_length, List.take_of_length_le q]
      rw [e]
      refine ⟨p, ns.take 1, rfl, sqL_of upd_same, ?_⟩
      walk_at "rd"
      exact k _ _ (same_upd np)
end
end Sw
namespace Sw
open PySem PySem.Spec PyProof.Rows L2
local macro_rules | `(tactic| walk_at "hp") => `(tactic| first
  | (with_reducible assumption) | (with_reducible exact upd_same)
  | ((with_reducible refine' upd_old ?q1 ?q2); (case q1 => (with_reducible assumption)); (case q2 => walk_at "hp"))
  | ((with_reducible refine' Same.at ?q1 ?q2); (case q1 => (with_reducible assumption)); (case q2 => walk_at "hp"))
  | ((with_reducible refine' upd_skip ?q1 ?q2); (case q1 => walk_at "ne"); (case q2 => walk_at "hp"))
  | fail)
local macro_rules | `(tactic| walk_at "ne") => `(tactic| first
  | (with_reducible assumption) | (with_reducible exact Ne.symm (by assumption))
  | ((with_reducible refine' ne_of_none ?q1 ?q2); (case q2 => (with_reducible assumption)); (case q1 => walk_at "hp"))
  | fail)
local macro_rules | `(tactic| walk_at "ci") => `(tactic| first | assumption | (show (0 : Int) < _; first | decide | (with_reducible omega)) | exact ⟨by decide, by decide⟩ | exact .inl ⟨by decide, by decide⟩ | exact .inr ⟨by decide, by decide⟩)
local macro_rules | `(tactic| walk_at "ln") => `(tactic| first | (with_reducible assumption) | (with_reducible omega) | (simp only [List.length_append, List.length_take, List.length_drop, List.length_reverse, List.length_cons, List.length_nil]; with_reducible omega))
local macro_rules | `(tactic| walk_at "rd1") => `(tactic| first
  | (with_reducible refine i_seq ?_) | (with_reducible refine i_asg ?_) | (with_reducible refine i_ret ?_) | (with_reducible refine i_name ?_) | ((with_reducible refine' i_var ?q1 ?_); (case q1 => exact rfl)) | (with_reducible refine i_c ?_) | (with_reducible refine i_op ?_) | (with_reducible refine i_un ?_)
  | (with_reducible refine i_rI0 ?_) | (with_reducible refine i_cb ?_) | (with_reducible refine i_cons ?_) | (with_reducible refine i_nil ?_) | (with_reducible refine i_call ?_) | (with_reducible refine i_if ?_) | (with_reducible refine i_ifE ?_) | (with_reducible refine i_test ?_) | (with_reducible refine i_bl ?_)
  | (with_reducible refine i_and ?_) | (with_reducible refine i_or ?_) | (with_reducible refine i_not ?_) | (with_reducible refine i_lst ?_) | (with_reducible refine i_tup ?_) | (with_reducible refine i_next ?_) | (with_reducible refine i_drop ?_) | (with_reducible refine i_sub ?_)
  | (with_reducible refine i_bm ?_) | (with_reducible refine i_sl ?_) | (with_reducible refine i_part ?_) | (with_reducible refine i_nopart ?_) | (with_reducible refine i_exI ?_) | (with_reducible refine i_chain ?_) | ((with_reducible refine' i_aug ?q1 ?_); (case q1 => exact rfl)) | (with_reducible refine i_ip ?_)
  | (with_reducible refine i_par ?_) | (with_reducible refine i_pair ?_) | (with_reducible refine i_andV ?_) | (with_reducible refine i_orV ?_) | (with_reducible refine i_notV ?_) | (with_reducible refine i_m1 ?_) | (with_reducible refine i_str ?_)
  | (with_reducible refine iteF ?_) | (with_reducible refine iteT ?_) | (with_reducible refine iteNT ?_) | (with_reducible refine iteNF ?_) | (with_reducible refine i_tyS ?_) | (with_reducible refine i_tB ?_) | (with_reducible refine i_retN ?_) | (with_reducible refine i_par3 ?_) | (with_reducible refine i_trip ?_) | (with_reducible refine i_gCons ?_) | (with_reducible refine i_gNil ?_) | (with_reducible refine i_lstRg ?_) | (with_reducible refine i_rg1 ?_)
  | (with_reducible refine i_lc ?_) | (with_reducible refine i_for ?_) | (with_reducible refine i_iList ?_) | (with_reducible refine i_iTup ?_) | (with_reducible refine i_iStr ?_) | (with_reducible refine i_iRng1 ?_) | (with_reducible refine i_iEnS ?_)
  | ((with_reducible refine' i_ixTH ?q1 ?q2 ?_); (case q1 => walk_at "hp"); (case q2 => exact rfl))
  | ((with_reducible refine' i_ixLH ?q1 ?q2 ?_); (case q1 => walk_at "hp"); (case q2 => exact rfl))
  | ((with_reducible refine i_addS ?q1 ?_); (case q1 => walk_at "ln")) | ((with_reducible refine i_lenSS ?q1 ?_); (case q1 => walk_at "ln")) | ((with_reducible refine i_slFrom ?q1 ?q2 ?_); (case q1 => walk_at "ln"); (case q2 => walk_at "ln")) | ((with_reducible refine i_slTo ?q1 ?q2 ?_); (case q1 => walk_at "ln"); (case q2 => walk_at "ln"))
  | ((with_reducible refine' i_tyL ?q1 ?_); (case q1 => walk_at "hp"))
  | ((with_reducible refine' i_gTupH ?q1 ?q2 ?_); (case q1 => walk_at "hp"); (case q2 => exact rfl))
  | (with_reducible refine i_dnew ?_) | (with_reducible refine i_init ?_) | (with_reducible refine i_fst ?_) | (with_reducible refine i_mk ?_) | (with_reducible refine i_mkF ?_) | (with_reducible refine i_raise ?_) | (with_reducible refine i_callS ?_) | (with_reducible refine i_kwS ?_)
  | (with_reducible refine i_revT ?_) | (with_reducible refine i_kw ?_) | ((with_reducible refine' ⟨_, _, rfl, sqT_of ?q1, ?_⟩); (case q1 => walk_at "hp"))
  | (with_reducible refine i_revS ?_) | ((with_reducible refine i_revSS ?q1 ?_); (case q1 => walk_at "ln"))
  | (with_reducible refine i_startS ?_) | (with_reducible refine i_inSg ?_) | (with_reducible refine i_absN ?_) | (with_reducible refine i_min2 ?_) | (with_reducible refine i_max2 ?_) | (with_reducible refine i_min3 ?_) | (with_reducible refine i_intN ?_) | (with_reducible refine i_intNB ?_)
  | ((with_reducible refine' i_lenL ?q1 ?_); (case q1 => walk_at "hp")) | ((with_reducible refine' i_lenT ?q1 ?_); (case q1 => walk_at "hp"))
  | (with_reducible refine i_eqI ?_) | (with_reducible refine i_neI ?_) | (with_reducible refine i_eqS ?_) | (with_reducible refine i_neS ?_) | (with_reducible refine i_isNoI ?_) | (with_reducible refine i_isNoN ?_) | (with_reducible refine i_isNoR ?_)
  | ((with_reducible refine i_pow ?q1 ?q2 ?q3 ?_); (case q1 => decide); (case q2 => decide); (case q3 => (with_reducible omega)))
  | ((with_reducible refine i_rI ?q1 ?_); (case q1 => walk_at "ci"))
  | (with_reducible refine Or.inl ⟨_, rfl, ?_⟩) | (with_reducible refine Or.inr ⟨_, rfl, ?_⟩) | (with_reducible refine ⟨_, rfl, ?_⟩) | (with_reducible refine ⟨_, _, rfl, ?_⟩) | (with_reducible refine ⟨_, _, rfl, rfl, ?_⟩)
  | ((with_reducible refine' ⟨_, _, rfl, Or.inl (sqL_of ?q1), ?_⟩); (case q1 => walk_at "hp")) | ((with_reducible refine' ⟨_, _, rfl, Or.inr (sqT_of ?q1), ?_⟩); (case q1 => walk_at "hp")) | (with_reducible refine i_dget ?_) | (with_reducible refine i_disp1T ?_) | (with_reducible refine i_dcT ?_) | (with_reducible refine i_dnewT ?_) | (with_reducible refine i_fld ?_) | (with_reducible refine i_sFld ?_) | (with_reducible refine i_make ?_) | (with_reducible refine i_meth ?_) | (with_reducible refine i_star ?_) | (with_reducible refine i_isNoS ?_) | (with_reducible refine i_lc2 ?_) | (with_reducible refine i_iEnT ?_) | fail)
local macro_rules | `(tactic| walk_at "rd") => `(tactic| repeat' walk_at "rd1")

/-! ### the exceptions that tell a bad value -/
abbrev s_initD : Stmt := inClass (topS 3) 0
abbrev s_initS : Stmt := inClass (topS 8) 0
abbrev s_initM : Stmt := inClass (topS 10) 0
abbrev n_init : List Str := ["self", "given"]
abbrev n_initM : List Str := ["self", "count"]
theorem sc_initD : FnScope n_init ["self", "given"] (defScope s_initD) := ⟨rfl, rfl, rfl, by decide +kernel, rfl, by decide +kernel, by decide +kernel⟩
theorem sc_initS : FnScope n_init ["self", "given"] (defScope s_initS) := ⟨rfl, rfl, rfl, by decide +kernel, rfl, by decide +kernel, by decide +kernel⟩
theorem sc_initM : FnScope n_initM ["self", "count"] (defScope s_initM) := ⟨rfl, rfl, rfl, by decide +kernel, rfl, by decide +kernel, by decide +kernel⟩
section
variable {P : Program} {w : World} {K : PySem.W.Frag} {mg : Str → Option Value} {base : Heap} {f : Addr} {fd : FuncData}
theorem ok_initD {B : Addr} (F : Fun K "__init__" "InvalidDecoder.__init__" s_initD f fd) (o : Over K mg B) : FnOk P w K mg base CX0 1 f fd ["self", "given"] (spInit K) := by
  refine F.ok sc_initD (fun vs H Q E h => ?_) (fun cdv A outer s H vs Q E hr h => ?_)
  · obtain ⟨a, C, v, rfl, _⟩ := h; rfl
  · obtain ⟨a, C, v, rfl, ha, T, no, k⟩ := h
    refine ⟨_, (pss_cons (ps_expr (ps_init (by rfl) o.hm o.ga o.ty o.rd o.fi (pa_cons (pv 0) (pa_cons pe_str pa_nil))))
      (pss_one (ps_fst (pv 0) (pv 1)))), ?_⟩
    walk_at "rd"
    refine ⟨a, C, _, rfl, by simp, T, ha, ?_⟩
    walk_at "rd"
    exact ⟨a, C, rfl, T, no, ha, fun dx n ne => k dx n ne⟩
theorem ok_initS {B : Addr} (F : Fun K "__init__" "InvalidSigns.__init__" s_initS f fd) (o : Over K mg B) : FnOk P w K mg base CX0 1 f fd ["self", "given"] (spInit K) := by
  refine F.ok sc_initS (fun vs H Q E h => ?_) (fun cdv A outer s H vs Q E hr h => ?_)
  · obtain ⟨a, C, v, rfl, _⟩ := h; rfl
  · obtain ⟨a, C, v, rfl, ha, T, no, k⟩ := h
    refine ⟨_, (pss_cons (ps_expr (ps_init (by rfl) o.hm o.ga o.ty o.rd o.fi (pa_cons (pv 0) (pa_cons pe_str pa_nil))))
      (pss_one (ps_fst (pv 0) (pv 1)))), ?_⟩
    walk_at "rd"
    refine ⟨a, C, _, rfl, by simp, T, ha, ?_⟩
    walk_at "rd"
    exact ⟨a, C, rfl, T, no, ha, fun dx n ne => k dx n ne⟩
theorem ok_initM {B : Addr} (F : Fun K "__init__" "TooMany.__init__" s_initM f fd) (o : Over K mg B) : FnOk P w K mg base CX0 1 f fd ["self", "count"] (spInitF K "count") := by
  refine F.ok sc_initM (fun vs H Q E h => ?_) (fun cdv A outer s H vs Q E hr h => ?_)
  · obtain ⟨a, C, v, rfl, _⟩ := h; rfl
  · obtain ⟨a, C, v, rfl, ha, T, no, k⟩ := h
    refine ⟨_, (pss_cons (ps_expr (ps_init (by rfl) o.hm o.ga o.ty o.rd o.fi (pa_cons (pv 0) (pa_cons pe_str pa_nil))))
      (pss_one (ps_fst (pv 0) (pv 1)))), ?_⟩
    walk_at "rd"
    refine ⟨a, C, _, rfl, by simp, T, ha, ?_⟩
    walk_at "rd"
    exact ⟨a, C, rfl, T, no, ha, fun dx n ne => k dx n ne⟩
end
end Sw
namespace Sw
open PySem PySem.Spec PyProof.Rows L2
local macro_rules | `(tactic| walk_at "hp") => `(tactic| first
  | (with_reducible assumption) | (with_reducible exact upd_same)
  | ((with_reducible refine' upd_old ?q1 ?q2); (case q1 => (with_reducible assumption)); (case q2 => walk_at "hp"))
  | ((with_reducible refine' Same.at ?q1 ?q2); (case q1 => (with_reducible assumption)); (case q2 => walk_at "hp"))
  | ((with_reducible refine' upd_skip ?q1 ?q2); (case q1 => walk_at "ne"); (case q2 => walk_at "hp"))
  | fail)
local macro_rules | `(tactic| walk_at "ne") => `(tactic| first
  | (with_reducible assumption) | (with_reducible exact Ne.symm (by assumption))
  | ((with_reducible refine' ne_of_none ?q1 ?q2); (case q2 => (with_reducible assumption)); (case q1 => walk_at "hp"))
  | fail)
local macro_rules | `(tactic| walk_at "ci") => `(tactic| first | assumption | (show (0 : Int) < _; first | decide | (with_reducible omega)) | exact ⟨by decide, by decide⟩ | exact .inl ⟨by decide, by decide⟩ | exact .inr ⟨by decide, by decide⟩)
local macro_rules | `(tactic| walk_at "ln") => `(tactic| first | (with_reducible assumption) | (with_reducible omega) | (simp only [List.length_append, List.length_take, List.length_drop, List.length_reverse, List.length_cons, List.length_nil]; with_reducible omega))
local macro_rules | `(tactic| walk_at "rd1") => `(tactic| first
  | (with_reducible refine i_seq ?_) | (with_reducible refine i_asg ?_) | (with_reducible refine i_ret ?_) | (with_reducible refine i_name ?_) | ((with_reducible refine' i_var ?q1 ?_); (case q1 => exact rfl)) | (with_reducible refine i_c ?_) | (with_reducible refine i_op ?_) | (with_reducible refine i_un ?_)
  | (with_reducible refine i_rI0 ?_) | (with_reducible refine i_cb ?_) | (with_reducible refine i_cons ?_) | (with_reducible refine i_nil ?_) | (with_reducible refine i_call ?_) | (with_reducible refine i_if ?_) | (with_reducible refine i_ifE ?_) | (with_reducible refine i_test ?_) | (with_reducible refine i_bl ?_)
  | (with_reducible refine i_and ?_) | (with_reducible refine i_or ?_) | (with_reducible refine i_not ?_) | (with_reducible refine i_lst ?_) | (with_reducible refine i_tup ?_) | (with_reducible refine i_next ?_) | (with_reducible refine i_drop ?_) | (with_reducible refine i_sub ?_)
  | (with_reducible refine i_bm ?_) | (with_reducible refine i_sl ?_) | (with_reducible refine i_part ?_) | (with_reducible refine i_nopart ?_) | (with_reducible refine i_exI ?_) | (with_reducible refine i_chain ?_) | ((with_reducible refine' i_aug ?q1 ?_); (case q1 => exact rfl)) | (with_reducible refine i_ip ?_)
  | (with_reducible refine i_par ?_) | (with_reducible refine i_pair ?_) | (with_reducible refine i_andV ?_) | (with_reducible refine i_orV ?_) | (with_reducible refine i_notV ?_) | (with_reducible refine i_m1 ?_) | (with_reducible refine i_str ?_)
  | (with_reducible refine iteF ?_) | (with_reducible refine iteT ?_) | (with_reducible refine iteNT ?_) | (with_reducible refine iteNF ?_) | (with_reducible refine i_tyS ?_) | (with_reducible refine i_tB ?_) | (with_reducible refine i_retN ?_) | (with_reducible refine i_par3 ?_) | (with_reducible refine i_trip ?_) | (with_reducible refine i_gCons ?_) | (with_reducible refine i_gNil ?_) | (with_reducible refine i_lstRg ?_) | (with_reducible refine i_rg1 ?_)
  | (with_reducible refine i_lc ?_) | (with_reducible refine i_for ?_) | (with_reducible refine i_iList ?_) | (with_reducible refine i_iTup ?_) | (with_reducible refine i_iStr ?_) | (with_reducible refine i_iRng1 ?_) | (with_reducible refine i_iEnS ?_)
  | ((with_reducible refine' i_ixTH ?q1 ?q2 ?_); (case q1 => walk_at "hp"); (case q2 => exact rfl))
  | ((with_reducible refine' i_ixLH ?q1 ?q2 ?_); (case q1 => walk_at "hp"); (case q2 => exact rfl))
  | ((with_reducible refine i_addS ?q1 ?_); (case q1 => walk_at "ln")) | ((with_reducible refine i_lenSS ?q1 ?_); (case q1 => walk_at "ln")) | ((with_reducible refine i_slFrom ?q1 ?q2 ?_); (case q1 => walk_at "ln"); (case q2 => walk_at "ln")) | ((with_reducible refine i_slTo ?q1 ?q2 ?_); (case q1 => walk_at "ln"); (case q2 => walk_at "ln"))
  | ((with_reducible refine' i_tyL ?q1 ?_); (case q1 => walk_at "hp"))
  | ((with_reducible refine' i_gTupH ?q1 ?q2 ?_); (case q1 => walk_at "hp"); (case q2 => exact rfl))
  | (with_reducible refine i_dnew ?_) | (with_reducible refine i_init ?_) | (with_reducible refine i_fst ?_) | (with_reducible refine i_mk ?_) | (with_reducible refine i_mkF ?_) | (with_reducible refine i_raise ?_) | (with_reducible refine i_callS ?_) | (with_reducible refine i_kwS ?_)
  | (with_reducible refine i_revT ?_) | (with_reducible refine i_kw ?_) | ((with_reducible refine' ⟨_, _, rfl, sqT_of ?q1, ?_⟩); (case q1 => walk_at "hp"))
  | (with_reducible refine i_revS ?_) | ((with_reducible refine i_revSS ?q1 ?_); (case q1 => walk_at "ln"))
  | (with_reducible refine i_startS ?_) | (with_reducible refine i_inSg ?_) | (with_reducible refine i_absN ?_) | (with_reducible refine i_min2 ?_) | (with_reducible refine i_max2 ?_) | (with_reducible refine i_min3 ?_) | (with_reducible refine i_intN ?_) | (with_reducible refine i_intNB ?_)
  | ((with_reducible refine' i_lenL ?q1 ?_); (case q1 => walk_at "hp")) | ((with_reducible refine' i_lenT ?q1 ?_); (case q1 => walk_at "hp"))
  | (with_reducible refine i_eqI ?_) | (with_reducible refine i_neI ?_) | (with_reducible refine i_eqS ?_) | (with_reducible refine i_neS ?_) | (with_reducible refine i_isNoI ?_) | (with_reducible refine i_isNoN ?_) | (with_reducible refine i_isNoR ?_)
  | ((with_reducible refine i_pow ?q1 ?q2 ?q3 ?_); (case q1 => decide); (case q2 => decide); (case q3 => (with_reducible omega)))
  | ((with_reducible refine i_rI ?q1 ?_); (case q1 => walk_at "ci"))
  | (with_reducible refine Or.inl ⟨_, rfl, ?_⟩) | (with_reducible refine Or.inr ⟨_, rfl, ?_⟩) | (with_reducible refine ⟨_, rfl, ?_⟩) | (with_reducible refine ⟨_, _, rfl, ?_⟩) | (with_reducible refine ⟨_, _, rfl, rfl, ?_⟩)
  | ((with_reducible refine' ⟨_, _, rfl, Or.inl (sqL_of ?q1), ?_⟩); (case q1 => walk_at "hp")) | ((with_reducible refine' ⟨_, _, rfl, Or.inr (sqT_of ?q1), ?_⟩); (case q1 => walk_at "hp")) | (with_reducible refine i_dget ?_) | (with_reducible refine i_disp1T ?_) | (with_reducible refine i_dcT ?_) | (with_reducible refine i_dnewT ?_) | (with_reducible refine i_fld ?_) | (with_reducible refine i_sFld ?_) | (with_reducible refine i_make ?_) | (with_reducible refine i_meth ?_) | (with_reducible refine i_star ?_) | (with_reducible refine i_isNoS ?_) | (with_reducible refine i_lc2 ?_) | (with_reducible refine i_iEnT ?_) | fail)
local macro_rules | `(tactic| walk_at "rd") => `(tactic| repeat' walk_at "rd1")

/-- is_integer(value) -/
def spInt (K : PySem.W.Frag) : Sp := fun vs H Q _ => ∃ x d, vs = [x] ∧ De K H x d ∧ Q (.bl (isI d)) H
/-- is_index(value, many) -/
def spIdx (K : PySem.W.Frag) : Sp := fun vs H Q _ => ∃ x d m, vs = [x, .int m] ∧ De K H x d ∧ Q (.bl (isX m d)) H
/-- is_signs(value) -/
def spSg (K : PySem.W.Frag) : Sp := fun vs H Q _ => ∃ x d, vs = [x] ∧ De K H x d ∧ Q (.bl (isG d)) H
/-- is_kind(value, signs) -/
def spKind (K : PySem.W.Frag) : Sp := fun vs H Q _ => ∃ x y d e n w, vs = [x, y] ∧ De K H x d ∧ Sd n w d ∧ n ≤ 50 ∧ StOk d ∧ De K H y e ∧ ∀ H', Same H H' → Q (.bl (onG e fun m => kindB m d)) H'
theorem kindB_no {m : Int} {ds : List PyData} (h : ds.length = 2 ∨ ds.length = 3) (e : (ds.drop 1).all (isX m) = false) : kindB m (.tuple ds) = false := by
  rcases ds with _ | ⟨x1, _ | ⟨x2, _ | ⟨x3, _ | ⟨x4, ys⟩⟩⟩⟩
  · rfl
  · rfl
  · simp only [List.drop_succ_cons, List.drop_zero, List.all_cons, List.all_nil, Bool.and_true] at e
    simp only [kindB, e, Bool.false_and]
  · simp only [List.drop_succ_cons, List.drop_zero, List.all_cons, List.all_nil, Bool.and_true] at e
    simp only [kindB, e, Bool.false_and]
  · rfl
theorem eqv_int (i j : Int) : PyData.eqv (.int i) (.int j) = decide (i = j) := by
  simp only [PyData.eqv]
  by_cases h : i = j
  · rw [h, decide_eq_true rfl]; exact beq_self_eq_true _
  · rw [decide_eq_false h]; exact beq_eq_false_iff_ne.mpr h
theorem tyB_int (d : PyData) : (tyB "int" d && !tyB "bool" d) = isI d := by cases d <;> rfl
theorem De.intB {K : PySem.W.Frag} {H : Hp} {x : V} {d : PyData} (h : De K H x d) (h2 : isI d = true) : ∃ i, d = .int i ∧ x = .int i := by
  cases h with
  | int i => exact ⟨i, rfl, rfl⟩
  | _ => cases h2
section
variable {P : Program} {w : World} {K : PySem.W.Frag} {mg : Str → Option Value} {base : Heap} {f : Addr} {fd : FuncData}
theorem ok_integer (F : Fun K "is_integer" "is_integer" s_is_integer f fd) (z : Z mg) : FnOk P w K mg base CX0 1 f fd ["value"] (spInt K) := by
  refine F.ok sc_is_integer (fun vs H Q E h => ?_) (fun cdv A outer s H vs Q E hr h => ?_)
  · obtain ⟨x, d, rfl, _⟩ := h; rfl
  · obtain ⟨x, d, rfl, hx, k⟩ := h
    refine ⟨_, (pss_one (ps_ret (pe_and (pe_callB call_isi (by rfl) z.isinstance (by decide +kernel) (pa_cons (pv 0) (pa_cons (pe_bltn (v := .ty "int") (by rfl) z.int (by decide +kernel) rfl) pa_nil))) (pe_one (pe_not (pe_callB call_isi (by rfl) z.isinstance (by decide +kernel) (pa_cons (pv 0) (pa_cons (pe_bltn (v := .ty "bool") (by rfl) z.bool (by decide +kernel) rfl) pa_nil)))))))), ?_⟩
    walk_at "rd"
    refine hx.isi (by simp) ?_
    walk_at "rd"
    rcases e : tyB "int" d with _ | _
    · rw [← tyB_int, e] at k
      walk_at "rd"
      exact k
    · rw [← tyB_int, e] at k
      walk_at "rd"
      refine hx.isi (by simp) ?_
      walk_at "rd"
      exact k
theorem ok_index (F : Fun K "is_index" "is_index" s_is_index f fd) (c_is_integer : Cal P w K mg base "is_integer" ["value"] 1 (spInt K)) : FnOk P w K mg base CX0 2 f fd ["value", "many"] (spIdx K) := by
  refine F.ok sc_is_index (fun vs H Q E h => ?_) (fun cdv A outer s H vs Q E hr h => ?_)
  · obtain ⟨x, d, m, rfl, _⟩ := h; rfl
  · obtain ⟨x, d, m, rfl, hx, k⟩ := h
    refine ⟨_, (pss_one (ps_ret (pe_and (pe_cal c_is_integer hr (pa_cons (pv 0) pa_nil)) (pe_one (pe_chain op_le op_lt pe_int (pv 0) (pv 1)))))), ?_⟩
    walk_at "rd"
    refine ⟨x, d, rfl, hx, ?_⟩
    walk_at "rd"
    rcases e : isI d with _ | _
    · have : isX m d = false := by cases d <;> first | rfl | cases e
      rw [this] at k
      walk_at "rd"
      exact k
    · obtain ⟨i, rfl, rfl⟩ := hx.intB e
      walk_at "rd"
      simp only [isX] at k
      refine iteB (fun q => ?_) (fun q => ?_)
      · rw [decide_eq_true q] at k
        walk_at "rd"
        exact k
      · rw [decide_eq_false q] at k
        exact k
theorem ok_signs (F : Fun K "is_signs" "is_signs" s_is_signs f fd) (c_is_integer : Cal P w K mg base "is_integer" ["value"] 1 (spInt K)) {t5 : Tok} (g_MOST_SIGNS : mg "MOST_SIGNS" = some (.int 5 t5)) : FnOk P w K mg base CX0 2 f fd ["value"] (spSg K) := by
  refine F.ok sc_is_signs (fun vs H Q E h => ?_) (fun cdv A outer s H vs Q E hr h => ?_)
  · obtain ⟨x, d, rfl, _⟩ := h; rfl
  · obtain ⟨x, d, rfl, hx, k⟩ := h
    refine ⟨_, (pss_one (ps_ret (pe_and (pe_cal c_is_integer hr (pa_cons (pv 0) pa_nil)) (pe_one (pe_chain op_le op_le pe_int (pv 0) (pe_glob (v := .int 5) rfl g_MOST_SIGNS ⟨_, rfl⟩)))))), ?_⟩
    walk_at "rd"
    refine ⟨x, d, rfl, hx, ?_⟩
    walk_at "rd"
    rcases e : isI d with _ | _
    · have : isG d = false := by cases d <;> first | rfl | cases e
      rw [this] at k
      walk_at "rd"
      exact k
    · obtain ⟨i, rfl, rfl⟩ := hx.intB e
      walk_at "rd"
      simp only [isG] at k
      refine iteB (fun q => ?_) (fun q => ?_)
      · rw [decide_eq_true q] at k
        walk_at "rd"
        exact k
      · rw [decide_eq_false q] at k
        exact k
theorem ok_sign (F : Fun K "is_sign" "is_sign" s_is_sign f fd) (c_is_index : Cal P w K mg base "is_index" ["value", "many"] 2 (spIdx K)) : FnOk P w K mg base CX0 3 f fd ["value", "signs"] (spIdx K) := by
  refine F.ok sc_is_sign (fun vs H Q E h => ?_) (fun cdv A outer s H vs Q E hr h => ?_)
  · obtain ⟨x, d, m, rfl, _⟩ := h; rfl
  · obtain ⟨x, d, m, rfl, hx, k⟩ := h
    refine ⟨_, (pss_one (ps_ret (pe_cal c_is_index hr (pa_cons (pv 0) (pa_cons (pv 1) pa_nil))))), ?_⟩
    walk_at "rd"
    exact ⟨x, d, m, rfl, hx, k⟩
end
end Sw
namespace Sw
open PySem PySem.Spec PyProof.Rows L2
local macro_rules | `(tactic| walk_at "hp") => `(tactic| first
  | (with_reducible assumption) | (with_reducible exact upd_same)
  | ((with_reducible refine' upd_old ?q1 ?q2); (case q1 => (with_reducible assumption)); (case q2 => walk_at "hp"))
  | ((with_reducible refine' Same.at ?q1 ?q2); (case q1 => (with_reducible assumption)); (case q2 => walk_at "hp"))
  | ((with_reducible refine' upd_skip ?q1 ?q2); (case q1 => walk_at "ne"); (case q2 => walk_at "hp"))
  | fail)
local macro_rules | `(tactic| walk_at "ne") => `(tactic| first
  | (with_reducible assumption) | (with_reducible exact Ne.symm (by assumption))
  | ((with_reducible refine' ne_of_none ?q1 ?q2); (case q2 => (with_reducible assumption)); (case q1 => walk_at "hp"))
  | fail)
local macro_rules | `(tactic| walk_at "ci") => `(tactic| first | assumption | (show (0 : Int) < _; first | decide | (with_reducible omega)) | exact ⟨by decide, by decide⟩ | exact .inl ⟨by decide, by decide⟩ | exact .inr ⟨by decide, by decide⟩)
local macro_rules | `(tactic| walk_at "ln") => `(tactic| first | (with_reducible assumption) | (with_reducible omega) | (simp only [List.length_append, List.length_take, List.length_drop, List.length_reverse, List.length_cons, List.length_nil]; with_reducible omega))
local macro_rules | `(tactic| walk_at "rd1") => `(tactic| first
  | (with_reducible refine i_seq ?_) | (with_reducible refine i_asg ?_) | (with_reducible refine i_ret ?_) | (with_reducible refine i_name ?_) | ((with_reducible refine' i_var ?q1 ?_); (case q1 => exact rfl)) | (with_reducible refine i_c ?_) | (with_reducible refine i_op ?_) | (with_reducible refine i_un ?_)
  | (with_reducible refine i_rI0 ?_) | (with_reducible refine i_cb ?_) | (with_reducible refine i_cons ?_) | (with_reducible refine i_nil ?_) | (with_reducible refine i_call ?_) | (with_reducible refine i_if ?_) | (with_reducible refine i_ifE ?_) | (with_reducible refine i_test ?_) | (with_reducible refine i_bl ?_)
  | (with_reducible refine i_and ?_) | (with_reducible refine i_or ?_) | (with_reducible refine i_not ?_) | (with_reducible refine i_lst ?_) | (with_reducible refine i_tup ?_) | (with_reducible refine i_next ?_) | (with_reducible refine i_drop ?_) | (with_reducible refine i_sub ?_)
  | (with_reducible refine i_bm ?_) | (with_reducible refine i_sl ?_) | (with_reducible refine i_part ?_) | (with_reducible refine i_nopart ?_) | (with_reducible refine i_exI ?_) | (with_reducible refine i_chain ?_) | ((with_reducible refine' i_aug ?q1 ?_); (case q1 => exact rfl)) | (with_reducible refine i_ip ?_)
  | (with_reducible refine i_par ?_) | (with_reducible refine i_pair ?_) | (with_reducible refine i_andV ?_) | (with_reducible refine i_orV ?_) | (with_reducible refine i_notV ?_) | (with_reducible refine i_m1 ?_) | (with_reducible refine i_str ?_)
  | (with_reducible refine iteF ?_) | (with_reducible refine iteT ?_) | (with_reducible refine iteNT ?_) | (with_reducible refine iteNF ?_) | (with_reducible refine i_tyS ?_) | (with_reducible refine i_tB ?_) | (with_reducible refine i_retN ?_) | (with_reducible refine i_par3 ?_) | (with_reducible refine i_trip ?_) | (with_reducible refine i_gCons ?_) | (with_reducible refine i_gNil ?_) | (with_reducible refine i_lstRg ?_) | (with_reducible refine i_rg1 ?_)
  | (with_reducible refine i_lc ?_) | (with_reducible refine i_for ?_) | (with_reducible refine i_iList ?_) | (with_reducible refine i_iTup ?_) | (with_reducible refine i_iStr ?_) | (with_reducible refine i_iRng1 ?_) | (with_reducible refine i_iEnS ?_)
  | ((with_reducible refine' i_ixTH ?q1 ?q2 ?_); (case q1 => walk_at "hp"); (case q2 => exact rfl))
  | ((with_reducible refine' i_ixLH ?q1 ?q2 ?_); (case q1 => walk_at "hp"); (case q2 => exact rfl))
  | ((with_reducible refine i_addS ?q1 ?_); (case q1 => walk_at "ln")) | ((with_reducible refine i_lenSS ?q1 ?_); (case q1 => walk_at "ln")) | ((with_reducible refine i_slFrom ?q1 ?q2 ?_); (case q1 => walk_at "ln"); (case q2 => walk_at "ln")) | ((with_reducible refine i_slTo ?q1 ?q2 ?_); (case q1 => walk_at "ln"); (case q2 => walk_at "ln"))
  | ((with_reducible refine' i_tyL ?q1 ?_); (case q1 => walk_at "hp"))
  | ((with_reducible refine' i_gTupH ?q1 ?q2 ?_); (case q1 => walk_at "hp"); (case q2 => exact rfl))
  | (with_reducible refine i_dnew ?_) | (with_reducible refine i_init ?_) | (with_reducible refine i_fst ?_) | (with_reducible refine i_mk ?_) | (with_reducible refine i_mkF ?_) | (with_reducible refine i_raise ?_) | (with_reducible refine i_callS ?_) | (with_reducible refine i_kwS ?_)
  | (with_reducible refine i_revT ?_) | (with_reducible refine i_kw ?_) | ((with_reducible refine' ⟨_, _, rfl, sqT_of ?q1, ?_⟩); (case q1 => walk_at "hp"))
  | (with_reducible refine i_revS ?_) | ((with_reducible refine i_revSS ?q1 ?_); (case q1 => walk_at "ln"))
  | (with_reducible refine i_startS ?_) | (with_reducible refine i_inSg ?_) | (with_reducible refine i_absN ?_) | (with_reducible refine i_min2 ?_) | (with_reducible refine i_max2 ?_) | (with_reducible refine i_min3 ?_) | (with_reducible refine i_intN ?_) | (with_reducible refine i_intNB ?_)
  | ((with_reducible refine' i_lenL ?q1 ?_); (case q1 => walk_at "hp")) | ((with_reducible refine' i_lenT ?q1 ?_); (case q1 => walk_at "hp"))
  | (with_reducible refine i_eqI ?_) | (with_reducible refine i_neI ?_) | (with_reducible refine i_eqS ?_) | (with_reducible refine i_neS ?_) | (with_reducible refine i_isNoI ?_) | (with_reducible refine i_isNoN ?_) | (with_reducible refine i_isNoR ?_)
  | ((with_reducible refine i_pow ?q1 ?q2 ?q3 ?_); (case q1 => decide); (case q2 => decide); (case q3 => (with_reducible omega)))
  | ((with_reducible refine i_rI ?q1 ?_); (case q1 => walk_at "ci"))
  | (with_reducible refine Or.inl ⟨_, rfl, ?_⟩) | (with_reducible refine Or.inr ⟨_, rfl, ?_⟩) | (with_reducible refine ⟨_, rfl, ?_⟩) | (with_reducible refine ⟨_, _, rfl, ?_⟩) | (with_reducible refine ⟨_, _, rfl, rfl, ?_⟩)
  | ((with_reducible refine' ⟨_, _, rfl, Or.inl (sqL_of ?q1), ?_⟩); (case q1 => walk_at "hp")) | ((with_reducible refine' ⟨_, _, rfl, Or.inr (sqT_of ?q1), ?_⟩); (case q1 => walk_at "hp")) | (with_reducible refine i_dget ?_) | (with_reducible refine i_disp1T ?_) | (with_reducible refine i_dcT ?_) | (with_reducible refine i_dnewT ?_) | (with_reducible refine i_fld ?_) | (with_reducible refine i_sFld ?_) | (with_reducible refine i_make ?_) | (with_reducible refine i_meth ?_) | (with_reducible refine i_star ?_) | (with_reducible refine i_isNoS ?_) | (with_reducible refine i_lc2 ?_) | (with_reducible refine i_iEnT ?_) | fail)
local macro_rules | `(tactic| walk_at "rd") => `(tactic| repeat' walk_at "rd1")

def lineB (m : Int) : PyData → Bool
  | .tuple ds => ds.all (isX m)
  | _ => false
def seqB (d : PyData) : Bool := tyB "list" d || tyB "tuple" d
def LenOk (d : PyData) : Prop := ∀ ds, (d = .list ds ∨ d = .tuple ds) → ds.length ≤ 100000
/-- is_list(value), a list or a tuple -/
def spSeq (K : PySem.W.Frag) : Sp := fun vs H Q _ => ∃ a xs, vs = [.ref a] ∧ (H a = some (.lst xs) ∨ H a = some (.tup xs)) ∧ ∀ H', Same H H' → Q (.bl true) H'
/-- is_line(value, signs) -/
def spLine (K : PySem.W.Frag) : Sp := fun vs H Q _ => ∃ x d m, vs = [x, .int m] ∧ De K H x d ∧ LenOk d ∧ ∀ H', Same H H' → Q (.bl (lineB m d)) H'
/-- check_line(line, signs), a line -/
def spCkL (K : PySem.W.Frag) : Sp := fun vs H Q E => ∃ x d m, vs = [x, .int m] ∧ De K H x d ∧ LenOk d ∧ lineB m d = true ∧ ∀ H', Same H H' → Q .non H'
/-- check_signs(signs) -/
def spCkS (K : PySem.W.Frag) (C : Addr) : Sp := fun vs H Q E => ∃ x d, vs = [x] ∧ De K H x d ∧ (isG d = true → ∀ H', Same H H' → Q .non H') ∧
  (isG d = false → ∀ dx H', H dx = none → Same H H' → H' dx = some (.xd [("given", x)]) → E (.ref C) (some dx) H')
/-- check_signs(signs), a number of signs -/
def spCkS0 : Sp := fun vs H Q E => ∃ n : Nat, vs = [.int n] ∧ 1 ≤ n ∧ n ≤ 5 ∧ ∀ H', Same H H' → Q .non H'
abbrev tAZ : List Nat := [97, 98, 99, 100, 101, 102, 103, 104, 105, 106, 107, 108, 109, 110, 111, 112, 113, 114, 115, 116, 117, 118, 119, 120, 121, 122]
def azW (l : List Nat) : Prop := ∀ c ∈ l, 97 ≤ c ∧ c ≤ 122
/-- is_text(value), a text -/
def spTxt : Sp := fun vs H Q _ => ∃ l : List Nat, vs = [.str (S l)] ∧ azW l ∧ l.length ≤ 1000 ∧ ∀ H', Same H H' → Q (.bl true) H'
/-- is_word(value), a word -/
def spWd : Sp := fun vs H Q _ => ∃ l : List Nat, vs = [.str (S l)] ∧ azW l ∧ l.length ≤ 3 ∧ ∀ H', Same H H' → Q (.bl true) H'
/-- letter_of(place) -/
def spLet : Sp := fun vs H Q _ => ∃ n : Nat, vs = [.int n] ∧ n < 26 ∧ Q (.str (S [97 + n])) H
theorem az_get {n : Nat} (h : n < 26) : tAZ[n]? = some (97 + n) := by
  have : ∀ n : Fin 26, tAZ[n.val]? = some (97 + n.val) := by decide
  exact this ⟨n, h⟩
section
variable {P : Program} {w : World} {K : PySem.W.Frag} {mg : Str → Option Value} {base : Heap} {f : Addr} {fd : FuncData}
theorem ok_list (F : Fun K "is_list" "is_list" s_is_list f fd) (z : Z mg) : FnOk P w K mg base CX0 1 f fd ["value"] (spSeq K) := by
  refine F.ok sc_is_list (fun vs H Q E h => ?_) (fun cdv A outer s H vs Q E hr h => ?_)
  · obtain ⟨a, xs, rfl, _⟩ := h; rfl
  · obtain ⟨a, xs, rfl, hx, k⟩ := h
    refine ⟨_, (pss_one (ps_ret (pe_callB call_isiT (by rfl) z.isinstance (by decide +kernel) (pa_cons (pv 0) (pa_cons (pe_tup (pa_cons (pe_bltn (v := .ty "list") (by rfl) z.list (by decide +kernel) rfl) (pa_cons (pe_bltn (v := .ty "tuple") (by rfl) z.tuple (by decide +kernel) rfl) pa_nil))) pa_nil))))), ?_⟩
    walk_at "rd"
    refine ⟨Nat.le_of_ble_eq_true rfl, fun p np => ?_⟩
    walk_at "rd"
    rcases hx with hx | hx
    · exact Sw.isiLT (.base (.lst (same_upd np _ _ hx))) upd_same (kit_ty (show _ = some true by decide +kernel)) (kit_ty (show _ = some false by decide +kernel)) (k _ (same_upd np))
    · exact Sw.isiLT (.base (.tup (same_upd np _ _ hx))) upd_same (kit_ty (show _ = some false by decide +kernel)) (kit_ty (show _ = some true by decide +kernel)) (k _ (same_upd np))
theorem ok_line (F : Fun K "is_line" "is_line" s_is_line f fd) (z : Z mg) (c_is_index : Cal P w K mg base "is_index" ["value", "many"] 2 (spIdx K)) : FnOk P w K mg base CX0 3 f fd ["value", "signs"] (spLine K) := by
  refine F.ok sc_is_line (fun vs H Q E h => ?_) (fun cdv A outer s H vs Q E hr h => ?_)
  · obtain ⟨x, d, m, rfl, _⟩ := h; rfl
  · obtain ⟨x, d, m, rfl, hx, lok, k⟩ := h
    refine ⟨_, (pss_one (ps_ret (pe_and (pe_callB call_isi (by rfl) z.isinstance (by decide +kernel) (pa_cons (pv 0) (pa_cons (pe_bltn (v := .ty "tuple") (by rfl) z.tuple (by decide +kernel) rfl) pa_nil))) (pe_one (pe_callB (cr_all rfl) (by rfl) z.all (by decide +kernel) (pa_cons (pe_lc (own := [("sign", 2)]) (g := gName 2) (tt := tYes) rfl sc_is_line.nd (pi_tup (pv 0)) (blkOk_by (own := [("sign", 2)]) (N := n_is_line) (sc := defScope s_is_line) (by decide +kernel)) (fun _ _ _ _ _ => (pg_name (i := 2) sc_is_line.nd rfl (.inl rfl))) (fun _ _ _ _ _ => pts_nil) (fun _ _ _ _ _ => (pe_cal c_is_index hr (pa_cons (pv 2) (pa_cons (pv 1) pa_nil))))) pa_nil)))))), ?_⟩
    walk_at "rd"
    refine hx.isi (n := "tuple") (.inr (.inr (.inr (.inr rfl)))) ?_
    by_cases ht : ∃ ds, d = .tuple ds
    · obtain ⟨ds, rfl⟩ := ht
      obtain ⟨a, xs, rfl, ha, hxs⟩ := hx.tupI
      rw [show tyB "tuple" (.tuple ds) = true from rfl]
      walk_at "rd"
      refine ⟨⟨_, ha⟩, ?_⟩
      have lx := hxs.len
      refine go_map (walk_tup (xs := xs)) (fun i => V.bl (isX m (ds.getD i .none))) (by have := lok _ (.inr rfl); omega) (fun H s => Same.sqT s ha) (fun j v H6 H7 hj s6 y R2 hR2 => ?_) mono_name (fun pj H6 npj s6 ej => ?_)
      · obtain ⟨rfl, hv⟩ := y
        walk_at "rd"
        refine ⟨rfl, ?_⟩
        walk_at "rd"
        exact ⟨v, _, m, rfl, (hxs.getD hv).same s6, hR2 _ (Same.refl _)⟩
      · rw [lx, map_getD ds (fun d => V.bl (isX m d)), show ds.map (fun d => V.bl (isX m d)) = (ds.map (isX m)).map V.bl by rw [List.map_map]; rfl] at ej
        walk_at "rd"
        refine i_all ej ?_
        rw [List.all_map, show (id ∘ isX m) = isX m from rfl]
        exact k _ s6
    · have e : tyB "tuple" d = false := by cases d <;> first | rfl | exact (ht ⟨_, rfl⟩).elim
      have e2 : lineB m d = false := by cases d <;> first | rfl | exact (ht ⟨_, rfl⟩).elim
      rw [e]
      rw [e2] at k
      walk_at "rd"
      exact k _ (Same.refl _)
theorem ok_ckL (F : Fun K "check_line" "check_line" s_check_line f fd) (c_is_line : Cal P w K mg base "is_line" ["value", "signs"] 3 (spLine K)) : FnOk P w K mg base CX0 4 f fd ["line", "signs"] (spCkL K) := by
  refine F.ok sc_check_line (fun vs H Q E h => ?_) (fun cdv A outer s H vs Q E hr h => ?_)
  · obtain ⟨x, d, m, rfl, _⟩ := h; rfl
  · obtain ⟨x, d, m, rfl, hx, lok, e, k⟩ := h
    refine ⟨_, (pss_one (ps_if (pt_not (pt_val (pe_cal c_is_line hr (pa_cons (pv 0) (pa_cons (pv 1) pa_nil)))))
        (pss_one ps_never)
        pss_nil)), ?_⟩
    walk_at "rd"
    refine ⟨x, d, m, rfl, hx, lok, fun H1 s1 => ?_⟩
    rw [e]
    walk_at "rd"
    exact k _ s1
theorem ok_ckS0 (F : Fun K "check_signs" "check_signs" s_check_signs f fd) (c_is_signs : Cal P w K mg base "is_signs" ["value"] 2 (spSg K)) : FnOk P w K mg base CX0 3 f fd ["signs"] spCkS0 := by
  refine F.ok sc_check_signs (fun vs H Q E h => ?_) (fun cdv A outer s H vs Q E hr h => ?_)
  · obtain ⟨n, rfl, _⟩ := h; rfl
  · obtain ⟨n, rfl, n1, n5, k⟩ := h
    refine ⟨_, (pss_one (ps_if (pt_not (pt_val (pe_cal c_is_signs hr (pa_cons (pv 0) pa_nil))))
        (pss_one ps_never)
        pss_nil)), ?_⟩
    walk_at "rd"
    refine ⟨_, .int n, rfl, .int _, ?_⟩
    rw [show isG (.int (n : Int)) = true by simp only [isG, Bool.and_eq_true, decide_eq_true_eq]; omega]
    walk_at "rd"
    exact k _ (Same.refl _)
theorem ok_text (F : Fun K "is_text" "is_text" s_is_text f fd) (z : Z mg) {tz : Tok} (g_LETTERS : mg "LETTERS" = some (.str ("abcdefghijklmnopqrstuvwxyz" : Str) tz)) : FnOk P w K mg base CX0 1 f fd ["value"] spTxt := by
  refine F.ok sc_is_text (fun vs H Q E h => ?_) (fun cdv A outer s H vs Q E hr h => ?_)
  · obtain ⟨l, rfl, _⟩ := h; rfl
  · obtain ⟨l, rfl, az, ll, k⟩ := h
    refine ⟨_, (pss_one (ps_ret (pe_and (pe_callB call_isi (by rfl) z.isinstance (by decide +kernel) (pa_cons (pv 0) (pa_cons (pe_bltn (v := .ty "str") (by rfl) z.str (by decide +kernel) rfl) pa_nil))) (pe_one (pe_callB (cr_all rfl) (by rfl) z.all (by decide +kernel) (pa_cons (pe_lc (own := [("letter", 1)]) (g := gName 1) (tt := tYes) rfl sc_is_text.nd (pi_str (pv 0)) (blkOk_by (own := [("letter", 1)]) (N := n_is_text) (sc := defScope s_is_text) (by decide +kernel)) (fun _ _ _ _ _ => (pg_name (i := 1) sc_is_text.nd rfl (.inl rfl))) (fun _ _ _ _ _ => pts_nil) (fun _ _ _ _ _ => (pe_cmpR op_inSg (pv 1) (pe_glob (v := .str ("abcdefghijklmnopqrstuvwxyz" : Str)) rfl g_LETTERS ⟨_, rfl⟩) rfl))) pa_nil)))))), ?_⟩
    walk_at "rd"
    refine i_isi true (.base (.str _)) (kit_ty (by decide +kernel)) ?_
    walk_at "rd"
    refine go_map walk_S (fun i => V.bl true) (by omega) (fun _ _ => trivial) (fun i x H2 H3 hi s2 y R hR => ?_) mono_name (fun p H2 np s2 e2 => ?_)
    · obtain ⟨rfl, c, hc, rfl⟩ := y
      walk_at "rd"
      refine ⟨rfl, ?_⟩
      walk_at "rd"
      rw [az_in, decide_eq_true (az c (List.mem_of_getElem? hc))]
      exact hR _ (Same.refl _)
    · walk_at "rd"
      have e3 : H2 p = some (.lst (((List.range l.length).map fun i => true).map V.bl)) := by
        rw [e2, List.map_map]
        rfl
      refine i_all e3 ?_
      rw [show (((List.range l.length).map fun i => true).all id) = true by rw [List.all_map]; simp]
      exact k _ s2
theorem ok_word (F : Fun K "is_word" "is_word" s_is_word f fd) (z : Z mg) {t3 : Tok} (g_MOST_LETTERS : mg "MOST_LETTERS" = some (.int 3 t3)) (c_is_text : Cal P w K mg base "is_text" ["value"] 1 spTxt) : FnOk P w K mg base CX0 2 f fd ["value"] spWd := by
  refine F.ok sc_is_word (fun vs H Q E h => ?_) (fun cdv A outer s H vs Q E hr h => ?_)
  · obtain ⟨l, rfl, _⟩ := h; rfl
  · obtain ⟨l, rfl, az, ll, k⟩ := h
    refine ⟨_, (pss_one (ps_ret (pe_and (pe_cal c_is_text hr (pa_cons (pv 0) pa_nil)) (pe_one (pe_cmpR op_le (pe_callB call_lenS (by rfl) z.len PySem.boot_len (pa_cons (pv 0) pa_nil)) (pe_glob (v := .int 3) rfl g_MOST_LETTERS ⟨_, rfl⟩) (nomark _)))))), ?_⟩
    walk_at "rd"
    refine ⟨l, rfl, az, by omega, fun H1 s1 => ?_⟩
    walk_at "rd"
    rw [decide_eq_true (show (l.length : Int) ≤ 3 by omega)]
    exact k _ s1
end
end Sw
namespace Sw
open PySem PySem.Spec PyProof.Rows L2
local macro_rules | `(tactic| walk_at "hp") => `(tactic| first
  | (with_reducible assumption) | (with_reducible exact upd_same)
  | ((with_reducible refine' upd_old ?q1 ?q2); (case q1 => (with_reducible assumption)); (case q2 => walk_at "hp"))
  | ((with_reducible refine' Same.at ?q1 ?q2); (case q1 => (with_reducible assumption)); (case q2 => walk_at "hp"))
  | ((with_reducible refine' upd_skip ?q1 ?q2); (case q1 => walk_at "ne"); (case q2 => walk_at "hp"))
  | fail)
local macro_rules | `(tactic| walk_at "ne") => `(tactic| first
  | (with_reducible assumption) | (with_reducible exact Ne.symm (by assumption))
  | ((with_reducible refine' ne_of_none ?q1 ?q2); (case q2 => (with_reducible assumption)); (case q1 => walk_at "hp"))
  | fail)
local macro_rules | `(tactic| walk_at "ci") => `(tactic| first | assumption | (show (0 : Int) < _; first | decide | (with_reducible omega)) | exact ⟨by decide, by decide⟩ | exact .inl ⟨by decide, by decide⟩ | exact .inr ⟨by decide, by decide⟩)
local macro_rules | `(tactic| walk_at "ln") => `(tactic| first | (with_reducible assumption) | (with_reducible omega) | (simp only [List.length_append, List.length_take, List.length_drop, List.length_reverse, List.length_cons, List.length_nil]; with_reducible omega))
local macro_rules | `(tactic| walk_at "rd1") => `(tactic| first
  | (with_reducible refine i_seq ?_) | (with_reducible refine i_asg ?_) | (with_reducible refine i_ret ?_) | (with_reducible refine i_name ?_) | ((with_reducible refine' i_var ?q1 ?_); (case q1 => exact rfl)) | (with_reducible refine i_c ?_) | (with_reducible refine i_op ?_) | (with_reducible refine i_un ?_)
  | (with_reducible refine i_rI0 ?_) | (with_reducible refine i_cb ?_) | (with_reducible refine i_cons ?_) | (with_reducible refine i_nil ?_) | (with_reducible refine i_call ?_) | (with_reducible refine i_if ?_) | (with_reducible refine i_ifE ?_) | (with_reducible refine i_test ?_) | (with_reducible refine i_bl ?_)
  | (with_reducible refine i_and ?_) | (with_reducible refine i_or ?_) | (with_reducible refine i_not ?_) | (with_reducible refine i_lstM ?_) | (with_reducible refine i_lstLM ?_) | (with_reducible refine i_tupM ?_) | (with_reducible refine i_next ?_) | (with_reducible refine i_drop ?_) | (with_reducible refine i_sub ?_)
  | (with_reducible refine i_bm ?_) | (with_reducible refine i_sl ?_) | (with_reducible refine i_part ?_) | (with_reducible refine i_nopart ?_) | (with_reducible refine i_exI ?_) | (with_reducible refine i_chain ?_) | ((with_reducible refine' i_aug ?q1 ?_); (case q1 => exact rfl)) | (with_reducible refine i_ip ?_)
  | (with_reducible refine i_par ?_) | (with_reducible refine i_pair ?_) | (with_reducible refine i_andV ?_) | (with_reducible refine i_orV ?_) | (with_reducible refine i_notV ?_) | (with_reducible refine i_m1 ?_) | (with_reducible refine i_str ?_)
  | (with_reducible refine iteF ?_) | (with_reducible refine iteT ?_) | (with_reducible refine iteNT ?_) | (with_reducible refine iteNF ?_) | (with_reducible refine i_tyS ?_) | (with_reducible refine i_tB ?_) | (with_reducible refine i_retN ?_) | (with_reducible refine i_par3 ?_) | (with_reducible refine i_trip ?_) | (with_reducible refine i_gCons ?_) | (with_reducible refine i_gNil ?_) | (with_reducible refine i_lstRg ?_) | (with_reducible refine i_rg1 ?_)
  | (with_reducible refine i_lc ?_) | (with_reducible refine i_for ?_) | (with_reducible refine i_iList ?_) | (with_reducible refine i_iTup ?_) | (with_reducible refine i_iStr ?_) | (with_reducible refine i_iRng1 ?_) | (with_reducible refine i_iEnS ?_)
  | ((with_reducible refine' i_ixTH ?q1 ?q2 ?_); (case q1 => walk_at "hp"); (case q2 => exact rfl))
  | ((with_reducible refine' i_ixLH ?q1 ?q2 ?_); (case q1 => walk_at "hp"); (case q2 => exact rfl))
  | ((with_reducible refine i_addS ?q1 ?_); (case q1 => walk_at "ln")) | ((with_reducible refine i_lenSS ?q1 ?_); (case q1 => walk_at "ln")) | ((with_reducible refine i_slFrom ?q1 ?q2 ?_); (case q1 => walk_at "ln"); (case q2 => walk_at "ln")) | ((with_reducible refine i_slTo ?q1 ?q2 ?_); (case q1 => walk_at "ln"); (case q2 => walk_at "ln"))
  | ((with_reducible refine' i_tyL ?q1 ?_); (case q1 => walk_at "hp"))
  | ((with_reducible refine' i_gTupH ?q1 ?q2 ?_); (case q1 => walk_at "hp"); (case q2 => exact rfl))
  | (with_reducible refine i_dnewM ?_) | (with_reducible refine i_init ?_) | (with_reducible refine i_fst ?_) | (with_reducible refine i_mk ?_) | (with_reducible refine i_mkF ?_) | (with_reducible refine i_raise ?_) | (with_reducible refine i_callS ?_) | (with_reducible refine i_kwS ?_)
  | (with_reducible refine i_revT ?_) | (with_reducible refine i_kw ?_) | ((with_reducible refine' ⟨_, _, rfl, sqT_of ?q1, ?_⟩); (case q1 => walk_at "hp"))
  | (with_reducible refine i_revS ?_) | ((with_reducible refine i_revSS ?q1 ?_); (case q1 => walk_at "ln"))
  | (with_reducible refine i_startS ?_) | (with_reducible refine i_inSg ?_) | (with_reducible refine i_absN ?_) | (with_reducible refine i_min2 ?_) | (with_reducible refine i_max2 ?_) | (with_reducible refine i_min3 ?_) | (with_reducible refine i_intN ?_) | (with_reducible refine i_intNB ?_)
  | ((with_reducible refine' i_lenL ?q1 ?_); (case q1 => walk_at "hp")) | ((with_reducible refine' i_lenT ?q1 ?_); (case q1 => walk_at "hp"))
  | (with_reducible refine i_eqI ?_) | (with_reducible refine i_neI ?_) | (with_reducible refine i_eqS ?_) | (with_reducible refine i_neS ?_) | (with_reducible refine i_isNoI ?_) | (with_reducible refine i_isNoN ?_) | (with_reducible refine i_isNoR ?_)
  | ((with_reducible refine i_pow ?q1 ?q2 ?q3 ?_); (case q1 => decide); (case q2 => decide); (case q3 => (with_reducible omega)))
  | ((with_reducible refine i_rI ?q1 ?_); (case q1 => walk_at "ci"))
  | (with_reducible refine Or.inl ⟨_, rfl, ?_⟩) | (with_reducible refine Or.inr ⟨_, rfl, ?_⟩) | (with_reducible refine ⟨_, rfl, ?_⟩) | (with_reducible refine ⟨_, _, rfl, ?_⟩) | (with_reducible refine ⟨_, _, rfl, rfl, ?_⟩)
  | ((with_reducible refine' ⟨_, _, rfl, Or.inl (sqL_of ?q1), ?_⟩); (case q1 => walk_at "hp")) | ((with_reducible refine' ⟨_, _, rfl, Or.inr (sqT_of ?q1), ?_⟩); (case q1 => walk_at "hp")) | (with_reducible refine i_dget ?_) | (with_reducible refine i_disp1T ?_) | (with_reducible refine i_dcT ?_) | (with_reducible refine i_dnewT ?_) | (with_reducible refine i_fld ?_) | (with_reducible refine i_sFld ?_) | (with_reducible refine i_make ?_) | (with_reducible refine i_meth ?_) | (with_reducible refine i_star ?_) | (with_reducible refine i_isNoS ?_) | (with_reducible refine i_lc2 ?_) | (with_reducible refine i_iEnT ?_) | (with_reducible refine i_iZipT ?_) | fail)
local macro_rules | `(tactic| walk_at "rd") => `(tactic| repeat' walk_at "rd1")

/-! ### decoders -/
abbrev iV (n : Nat) : V := .int (n : Int)
abbrev Ent := Option (Nat × List Nat)
def entD : Ent → PyData
  | none => .none
  | some (q, w) => .tuple [.int (q : Nat), .str (S w)]
def EntAt (H : Hp) (v : V) : Ent → Prop
  | none => v = .non
  | some (q, w) => ∃ t, v = .ref t ∧ H t = some (.tup [iV q, .str (S w)])
def RowAt (H : Hp) (v : V) (row : List Ent) : Prop := ∃ r vs, v = .ref r ∧ H r = some (.lst vs) ∧ Paired (EntAt H) vs row
def StAt (H : Hp) (v : V) (st : List (List Ent)) : Prop := ∃ p vs, v = .ref p ∧ H p = some (.lst vs) ∧ Paired (RowAt H) vs st
abbrev endV : Option (List Nat) → V
  | none => .non
  | some w => .str (S w)
/-- the ends, as a list or as a tuple -/
def EnAt (H : Hp) (v : V) (en : List (Option (List Nat))) : Prop := ∃ p, v = .ref p ∧ (H p = some (.lst (en.map endV)) ∨ H p = some (.tup (en.map endV)))
def TRow (H : Hp) (v : V) (row : List Ent) : Prop := ∃ r vs, v = .ref r ∧ H r = some (.tup vs) ∧ Paired (EntAt H) vs row
def TSt (H : Hp) (v : V) (st : List (List Ent)) : Prop := ∃ p vs, v = .ref p ∧ H p = some (.tup vs) ∧ Paired (TRow H) vs st
theorem EntAt.same {H H' : Hp} (s : Same H H') {v : V} {e : Ent} (h : EntAt H v e) : EntAt H' v e := by
  rcases e with _ | ⟨q, w⟩
  · exact h
  · obtain ⟨t, e, h⟩ := h; exact ⟨t, e, s _ _ h⟩
theorem RowAt.same {H H' : Hp} (s : Same H H') {v : V} {r : List Ent} (h : RowAt H v r) : RowAt H' v r := by
  obtain ⟨p, vs, e, h1, h2⟩ := h; exact ⟨p, vs, e, s _ _ h1, Paired.mapP h2 fun _ _ z => z.same s⟩
theorem StAt.same {H H' : Hp} (s : Same H H') {v : V} {r : List (List Ent)} (h : StAt H v r) : StAt H' v r := by
  obtain ⟨p, vs, e, h1, h2⟩ := h; exact ⟨p, vs, e, s _ _ h1, Paired.mapP h2 fun _ _ z => z.same s⟩
theorem EnAt.same {H H' : Hp} (s : Same H H') {v : V} {r : List (Option (List Nat))} (h : EnAt H v r) : EnAt H' v r := by
  obtain ⟨p, e, h1⟩ := h; exact ⟨p, e, h1.imp (s _ _) (s _ _)⟩
theorem TRow.same {H H' : Hp} (s : Same H H') {v : V} {r : List Ent} (h : TRow H v r) : TRow H' v r := by
  obtain ⟨p, vs, e, h1, h2⟩ := h; exact ⟨p, vs, e, s _ _ h1, Paired.mapP h2 fun _ _ z => z.same s⟩
theorem TSt.same {H H' : Hp} (s : Same H H') {v : V} {r : List (List Ent)} (h : TSt H v r) : TSt H' v r := by
  obtain ⟨p, vs, e, h1, h2⟩ := h; exact ⟨p, vs, e, s _ _ h1, Paired.mapP h2 fun _ _ z => z.same s⟩
theorem pairedAt {α β : Type} {F : α → β → Prop} : ∀ {l1 : List α} {l2 : List β}, Paired F l1 l2 → ∀ {i : Nat} {x : α}, l1[i]? = some x → ∃ y, l2[i]? = some y ∧ F x y := by
  intro l1 l2 h
  induction h with
  | nil => intro i x e; simp at e
  | @cons a b as bs r t ih =>
    intro i x e
    rcases i with _ | i
    · cases e; exact ⟨b, rfl, r⟩
    · exact ih e
theorem pairedAt2 {α β : Type} {F : α → β → Prop} : ∀ {l1 : List α} {l2 : List β}, Paired F l1 l2 → ∀ {i : Nat} {y : β}, l2[i]? = some y → ∃ x, l1[i]? = some x ∧ F x y := by
  intro l1 l2 h
  induction h with
  | nil => intro i x e; simp at e
  | @cons a b as bs r t ih =>
    intro i x e
    rcases i with _ | i
    · cases e; exact ⟨a, rfl, r⟩
    · exact ih e
/-- a good entry, end, decoder -/
def entOk (m : Nat) : Ent → Prop
  | none => True
  | some (q, w) => q < m ∧ azW w ∧ w.length ≤ 3
def endOk : Option (List Nat) → Prop
  | none => True
  | some w => azW w ∧ w.length ≤ 3
structure Good (n : Nat) (st : List (List Ent)) (en : List (Option (List Nat))) : Prop where
  n1 : 1 ≤ n
  n5 : n ≤ 5
  s1 : 1 ≤ st.length
  s6 : st.length ≤ 40
  row : ∀ r ∈ st, r.length = n
  ent : ∀ r ∈ st, ∀ e ∈ r, entOk st.length e
  le : en.length = st.length
  enk : ∀ e ∈ en, endOk e
theorem i_ixTz {K : PySem.W.Frag} {p : Addr} {xs : List V} {i : Int} {k : Nat} {v : V} {H : Hp} {Q : VK} (h1 : SqT K H p xs) (e : i = (k : Int)) (h2 : xs[k]? = some v) (h : Q v H) : rIxT K (.ref p) (.int i) H Q := by
  subst e; exact i_ixTn h1 h2 h
/-- is_entry(value, states) -/
def spEnt : Sp := fun vs H Q _ => ∃ (v : V) (m : Nat) (e : Ent), vs = [v, iV m] ∧ EntAt H v e ∧ entOk m e ∧ ∀ H', Same H H' → Q (.bl true) H'
/-- are_steps(value, signs) -/
def spStp : Sp := fun vs H Q _ => ∃ (v : V) (n : Nat) (st : List (List Ent)), vs = [v, iV n] ∧ StAt H v st ∧ n ≤ 5 ∧ 1 ≤ st.length ∧ st.length ≤ 40 ∧ (∀ r ∈ st, r.length = n) ∧ (∀ r ∈ st, ∀ e ∈ r, entOk st.length e) ∧ ∀ H', Same H H' → Q (.bl true) H'
/-- are_ends(value, states) -/
def spEns : Sp := fun vs H Q _ => ∃ (v : V) (m : Nat) (en : List (Option (List Nat))), vs = [v, iV m] ∧ EnAt H v en ∧ en.length = m ∧ m ≤ 40 ∧ (∀ e ∈ en, endOk e) ∧ ∀ H', Same H H' → Q (.bl true) H'
section
variable {P : Program} {w : World} {K : PySem.W.Frag} {mg : Str → Option Value} {base : Heap} {f : Addr} {fd : FuncData}
theorem ok_entry (F : Fun K "is_entry" "is_entry" s_is_entry f fd) (z : Z mg) (c_is_index : Cal P w K mg base "is_index" ["value", "many"] 2 (spIdx K)) (c_is_word : Cal P w K mg base "is_word" ["value"] 2 spWd) : FnOk P w K mg base CX0 3 f fd ["value", "states"] spEnt := by
  refine F.ok sc_is_entry (fun vs H Q E h => ?_) (fun cdv A outer s H vs Q E hr h => ?_)
  · obtain ⟨v, m, e, rfl, _⟩ := h; rfl
  · obtain ⟨v, m, e, rfl, he, ok, k⟩ := h
    refine ⟨_, (pss_cons (ps_if (pt_cmpR op_isNo (pv 0) pe_non (nomark _))
        (pss_one (ps_ret pe_bl))
        pss_nil)
      (pss_cons (ps_if (PW.pt (pw_or (pt_not (pt_val (pe_callB call_isi (by rfl) z.isinstance (by decide +kernel) (pa_cons (pv 0) (pa_cons (pe_bltn (v := .ty "tuple") (by rfl) z.tuple (by decide +kernel) rfl) pa_nil))))) (pw_or1 (pt_cmpR op_ne (pe_callB call_lenQ (by rfl) z.len PySem.boot_len (pa_cons (pv 0) pa_nil)) pe_int (nomark _)))))
        (pss_one (ps_ret pe_bl))
        pss_nil)
      (pss_one (ps_ret (pe_and (pe_cal c_is_index hr (pa_cons (pe_ix ix_tup (pv 0) pe_int (fun _ _ => rfl)) (pa_cons (pv 1) pa_nil))) (pe_one (pe_cal c_is_word hr (pa_cons (pe_ix ix_tup (pv 0) pe_int (fun _ _ => rfl)) pa_nil)))))))), ?_⟩
    rcases e with _ | ⟨q, wd⟩
    · cases (show v = V.non from he)
      walk_at "rd"
      exact k _ (Same.refl _)
    · obtain ⟨t, rfl, et⟩ := he
      obtain ⟨hq, az, lw⟩ := ok
      walk_at "rd"
      refine i_isi true (.base (.tup et)) (kit_ty (by decide +kernel)) ?_
      walk_at "rd"
      rw [show decide ((([iV q, V.str (S wd)] : List V).length : Int) = 2) = true from rfl]
      walk_at "rd"
      refine ⟨_, .int q, m, rfl, .int _, ?_⟩
      rw [show isX m (.int (q : Int)) = true by simp only [isX, Bool.and_eq_true, decide_eq_true_eq]; omega]
      walk_at "rd"
      exact ⟨wd, rfl, az, lw, k⟩
theorem ok_steps (F : Fun K "are_steps" "are_steps" s_are_steps f fd) (z : Z mg) {t40 : Tok} (g_MOST_STATES : mg "MOST_STATES" = some (.int 40 t40)) (c_is_list : Cal P w K mg base "is_list" ["value"] 1 (spSeq K)) (c_is_entry : Cal P w K mg base "is_entry" ["value", "states"] 3 spEnt) : FnOk P w K mg base CX0 4 f fd ["value", "signs"] spStp := by
  refine F.ok sc_are_steps (fun vs H Q E h => ?_) (fun cdv A outer s H vs Q E hr h => ?_)
  · obtain ⟨v, n, st, rfl, _⟩ := h; rfl
  · obtain ⟨v, n, st, rfl, ⟨p, vs, rfl, ep, pr⟩, n5, s1, s6, hrow, hent, k⟩ := h
    refine ⟨_, (pss_cons (ps_if (PW.pt (pw_or (pt_not (pt_val (pe_cal c_is_list hr (pa_cons (pv 0) pa_nil)))) (pw_or1 (pt_not (pt_chain op_le op_le pe_int (pe_callB call_lenQ (by rfl) z.len PySem.boot_len (pa_cons (pv 0) pa_nil)) (pe_glob (v := .int 40) rfl g_MOST_STATES ⟨_, rfl⟩))))))
        (pss_one (ps_ret pe_bl))
        pss_nil)
      (pss_cons (ps_if (pt_not (pt_val (pe_callB (cr_all rfl) (by rfl) z.all (by decide +kernel) (pa_cons (pe_lc (own := [("row", 2)]) (g := gName 2) (tt := tYes) rfl sc_are_steps.nd (pi_list (pv 0)) (blkOk_by (own := [("row", 2)]) (N := n_are_steps) (sc := defScope s_are_steps) (by decide +kernel)) (fun _ _ _ _ _ => (pg_name (i := 2) sc_are_steps.nd rfl (.inl rfl))) (fun _ _ _ _ _ => pts_nil) (fun _ _ _ _ _ => (pe_and (pe_cal c_is_list hr (pa_cons (pv 2) pa_nil)) (pe_one (pe_cmpR op_eq (pe_callB (call_lenQB (K := K) rfl) (by rfl) z.len PySem.boot_len (pa_cons (pv 2) pa_nil)) (pv 1) (nomark _)))))) pa_nil))))
        (pss_one (ps_ret pe_bl))
        pss_nil)
      (pss_one (ps_ret (pe_callB (cr_all rfl) (by rfl) z.all (by decide +kernel) (pa_cons (pe_lc2 (own := [("row", 2), ("entry", 3)]) (vs1 := [3]) (g := gName 2) (g1 := gName 3) (tt := tYes) (tt1 := tYes) rfl sc_are_steps.nd (pi_list (pv 0)) (blkOk_by (own := [("row", 2), ("entry", 3)]) (N := n_are_steps) (sc := defScope s_are_steps) (by decide +kernel)) (by decide) (fun _ _ _ _ _ => (pg_name (i := 2) sc_are_steps.nd rfl (.inl rfl))) (fun _ _ _ _ _ => pts_nil) (fun _ _ _ _ _ => (pi_listK (K := K) rfl (pv 2))) (fun _ _ _ _ _ => (pg_name (i := 3) sc_are_steps.nd rfl (.inl rfl))) (fun _ _ _ _ _ => pts_nil) (fun _ _ _ _ _ => (pe_cal c_is_entry hr (pa_cons (pv 3) (pa_cons (pe_callB (call_lenQB (K := K) rfl) (by rfl) z.len PySem.boot_len (pa_cons (pv 0) pa_nil)) pa_nil))))) pa_nil)))))), ?_⟩
    have lv : vs.length = st.length := Paired.length pr
    walk_at "rd"
    refine ⟨p, vs, rfl, .inl ep, fun H1 u1 => ?_⟩
    have ep1 := u1 _ _ ep
    walk_at "rd"
    rw [decide_eq_true (show (1 : Int) ≤ (vs.length : Int) by omega)]
    walk_at "rd"
    rw [decide_eq_true (show (vs.length : Int) ≤ 40 by omega)]
    walk_at "rd"
    refine ⟨⟨_, sqL_of ep1⟩, ?_⟩
    refine go_map (walk_list (xs := vs)) (fun i => V.bl true) (by omega) (fun H s => sqL_of (s _ _ ep1)) (fun j v H6 H7 hj s6 y R2 hR2 => ?_) mono_name (fun pj H6 npj s6 ej => ?_)
    · obtain ⟨rfl, hv⟩ := y
      obtain ⟨row, gr, rp, rs, rfl, er, prr⟩ := pairedAt pr hv
      have er := s6 _ _ (u1 _ _ er)
      have lr : rs.length = n := by rw [Paired.length prr]; exact hrow row (List.mem_of_getElem? gr)
      walk_at "rd"
      refine ⟨rfl, ?_⟩
      walk_at "rd"
      refine ⟨rp, rs, rfl, .inl er, fun H8 s8 => ?_⟩
      have er8 := s8 _ _ er
      walk_at "rd"
      rw [lr, decide_eq_true rfl]
      exact hR2 _ s8
    · walk_at "rd"
      have e3 : H6 pj = some (.lst (((List.range vs.length).map fun i => true).map V.bl)) := by
        rw [ej, List.map_map]; rfl
      refine i_all e3 ?_
      rw [show (((List.range vs.length).map fun i => true).all id) = true by rw [List.all_map]; simp]
      have u16 := u1.trans s6
      walk_at "rd"
      refine ⟨⟨_, sqL_of (u16 _ _ ep)⟩, ?_⟩
      refine go_lc2 (walk_list (xs := vs)) (fun p i Hx => ∃ m : Nat, m ≤ 5 * i ∧ Hx p = some (.lst ((List.replicate m true).map V.bl)) ∧ Same H6 Hx)
        (fun p np => ⟨0, Nat.zero_le _, upd_same, same_upd np⟩) (fun p i Hx hi q => sqL_of (q.choose_spec.2.2 _ _ (u16 _ _ ep))) (fun p' np i v H8 H9 hi q y => ?_) (fun p8 H8 np8 q => ?_) (fun σ2 H3 R R' h q => ?_) mono_name mono_yes
      · obtain ⟨m, hm, em, sx⟩ := q
        obtain ⟨rfl, hv⟩ := y
        obtain ⟨row, gr, rp, rs, rfl, er0, prr⟩ := pairedAt pr hv
        have er := sx _ _ (u16 _ _ er0)
        have lr : rs.length = n := by rw [Paired.length prr]; exact hrow row (List.mem_of_getElem? gr)
        walk_at "rd"
        refine ⟨rfl, i_yes (iteT ?_)⟩
        walk_at "rd"
        refine ⟨⟨_, sqL_of er⟩, ?_⟩
        refine ⟨rs.length, _, _, fun j Hx => ∃ m : Nat, m ≤ 5 * i + j ∧ Hx p' = some (.lst ((List.replicate m true).map V.bl)) ∧ Same H6 Hx, walk_list (xs := rs), ⟨m, by omega, em, sx⟩, fun j Hx hj q => sqL_of (q.choose_spec.2.2 _ _ (u16 _ _ er0)), fun j x Hx Hy hj q y => ?_, fun Hx q => ?_⟩
        · obtain ⟨m2, hm2, em2, sx2⟩ := q
          obtain ⟨rfl, hv2⟩ := y
          obtain ⟨e, ge, he⟩ := pairedAt prr hv2
          have he := (he.same u16).same sx2
          have ep2 := sx2 _ _ (u16 _ _ ep)
          have oke := hent row (List.mem_of_getElem? gr) e (List.mem_of_getElem? ge)
          walk_at "rd"
          refine ⟨rfl, i_yes (iteT ?_)⟩
          walk_at "rd"
          rw [lv]
          refine ⟨x, st.length, e, rfl, he, oke, fun H10 s10 => ?_⟩
          refine ⟨_, s10 _ _ em2, Nat.lt_of_le_of_lt (by rw [List.length_map, List.length_replicate]; omega) (Nat.lt_of_lt_of_le (by decide : 1000 < 100000) (Nat.le_of_ble_eq_true rfl)), m2 + 1, by omega, ?_, Same.set_new (sx2.trans s10) np⟩
          rw [upd_same, List.replicate_succ', List.map_append]; rfl
        · obtain ⟨m2, hm2, em2, sx2⟩ := q
          exact ⟨m2, by omega, em2, sx2⟩
      · obtain ⟨m, hm, em, sx⟩ := q
        walk_at "rd"
        refine i_all em ?_
        rw [show ((List.replicate m true).all id) = true by simp]
        exact k _ (u16.trans sx)
      · obtain ⟨v, e, a, rfl, hx, r⟩ := q
        exact ⟨_, e, a, rfl, hx, h _ _ r⟩
theorem ok_ends (F : Fun K "are_ends" "are_ends" s_are_ends f fd) (z : Z mg) (c_is_list : Cal P w K mg base "is_list" ["value"] 1 (spSeq K)) (c_is_word : Cal P w K mg base "is_word" ["value"] 2 spWd) : FnOk P w K mg base CX0 3 f fd ["value", "states"] spEns := by
  refine F.ok sc_are_ends (fun vs H Q E h => ?_) (fun cdv A outer s H vs Q E hr h => ?_)
  · obtain ⟨v, m, en, rfl, _⟩ := h; rfl
  · obtain ⟨v, m, en, rfl, ⟨p, rfl, ep⟩, rfl, m6, hen, k⟩ := h
    refine ⟨_, (pss_one (ps_ret (pe_and (pe_cal c_is_list hr (pa_cons (pv 0) pa_nil)) (pe_and (pe_cmpR op_eq (pe_callB call_lenQ (by rfl) z.len PySem.boot_len (pa_cons (pv 0) pa_nil)) (pv 1) (nomark _)) (pe_one (pe_callB (cr_all rfl) (by rfl) z.all (by decide +kernel) (pa_cons (pe_lc (own := [("end", 2)]) (g := gName 2) (tt := tYes) rfl sc_are_ends.nd (pi_seqV (pv 0)) (blkOk_by (own := [("end", 2)]) (N := n_are_ends) (sc := defScope s_are_ends) (by decide +kernel)) (fun _ _ _ _ _ => (pg_name (i := 2) sc_are_ends.nd rfl (.inl rfl))) (fun _ _ _ _ _ => pts_nil) (fun _ _ _ _ _ => (pe_or (pe_cmpR op_isNo (pv 2) pe_non (nomark _)) (pe_one (pe_cal c_is_word hr (pa_cons (pv 2) pa_nil)))))) pa_nil))))))), ?_⟩
    walk_at "rd"
    refine ⟨p, _, rfl, ep, fun H1 u1 => ?_⟩
    have sq : SqL K H1 p (en.map endV) ∨ SqT K H1 p (en.map endV) := ep.imp (fun q => sqL_of (u1 _ _ q)) (fun q => sqT_of (u1 _ _ q))
    walk_at "rd"
    refine ⟨p, _, rfl, sq, ?_⟩
    walk_at "rd"
    rw [List.length_map, decide_eq_true rfl]
    walk_at "rd"
    refine i_seqV rfl sq fun J wJ => ?_
    refine go_map wJ (fun i => V.bl true) (by rw [List.length_map]; omega) (fun H s => s) (fun j v H6 H7 hj s6 y R2 hR2 => ?_) mono_name (fun pj H6 npj s6 ej => ?_)
    · obtain ⟨rfl, hv⟩ := y
      obtain ⟨e, he, rfl⟩ : ∃ e, e ∈ en ∧ v = endV e := by
        obtain ⟨e, he, rfl⟩ := List.mem_map.mp (List.mem_of_getElem? hv)
        exact ⟨e, he, rfl⟩
      walk_at "rd"
      refine ⟨rfl, ?_⟩
      rcases e with _ | wd
      · walk_at "rd"
        exact hR2 _ (Same.refl _)
      · have ok := hen _ he
        walk_at "rd"
        exact ⟨wd, rfl, ok.1, ok.2, fun H8 s8 => hR2 _ s8⟩
    · walk_at "rd"
      have e3 : H6 pj = some (.lst (((List.range (en.map endV).length).map fun i => true).map V.bl)) := by
        rw [ej, List.map_map]; rfl
      refine i_all e3 ?_
      rw [show (((List.range (en.map endV).length).map fun i => true).all id) = true by rw [List.all_map]; simp]
      exact k _ (u1.trans s6)
end
end Sw
namespace Sw
open PySem PySem.Spec PyProof.Rows L2
local macro_rules | `(tactic| walk_at "hp") => `(tactic| first
  | (with_reducible assumption) | (with_reducible exact upd_same)
  | ((with_reducible refine' upd_old ?q1 ?q2); (case q1 => (with_reducible assumption)); (case q2 => walk_at "hp"))
  | ((with_reducible refine' Same.at ?q1 ?q2); (case q1 => (with_reducible assumption)); (case q2 => walk_at "hp"))
  | ((with_reducible refine' upd_skip ?q1 ?q2); (case q1 => walk_at "ne"); (case q2 => walk_at "hp"))
  | fail)
local macro_rules | `(tactic| walk_at "ne") => `(tactic| first
  | (with_reducible assumption) | (with_reducible exact Ne.symm (by assumption))
  | ((with_reducible refine' ne_of_none ?q1 ?q2); (case q2 => (with_reducible assumption)); (case q1 => walk_at "hp"))
  | fail)
local macro_rules | `(tactic| walk_at "ci") => `(tactic| first | assumption | (show (0 : Int) < _; first | decide | (with_reducible omega)) | exact ⟨by decide, by decide⟩ | exact .inl ⟨by decide, by decide⟩ | exact .inr ⟨by decide, by decide⟩)
local macro_rules | `(tactic| walk_at "ln") => `(tactic| first | (with_reducible assumption) | (with_reducible omega) | (simp only [List.length_append, List.length_take, List.length_drop, List.length_reverse, List.length_cons, List.length_nil]; with_reducible omega))
local macro_rules | `(tactic| walk_at "rd1") => `(tactic| first
  | (with_reducible refine i_seq ?_) | (with_reducible refine i_asg ?_) | (with_reducible refine i_ret ?_) | (with_reducible refine i_name ?_) | ((with_reducible refine' i_var ?q1 ?_); (case q1 => exact rfl)) | (with_reducible refine i_c ?_) | (with_reducible refine i_op ?_) | (with_reducible refine i_un ?_)
  | (with_reducible refine i_rI0 ?_) | (with_reducible refine i_cb ?_) | (with_reducible refine i_cons ?_) | (with_reducible refine i_nil ?_) | (with_reducible refine i_call ?_) | (with_reducible refine i_if ?_) | (with_reducible refine i_ifE ?_) | (with_reducible refine i_test ?_) | (with_reducible refine i_bl ?_)
  | (with_reducible refine i_and ?_) | (with_reducible refine i_or ?_) | (with_reducible refine i_not ?_) | (with_reducible refine i_lstM ?_) | (with_reducible refine i_lstLM ?_) | (with_reducible refine i_tupM ?_) | (with_reducible refine i_next ?_) | (with_reducible refine i_drop ?_) | (with_reducible refine i_sub ?_)
  | (with_reducible refine i_bm ?_) | (with_reducible refine i_sl ?_) | (with_reducible refine i_part ?_) | (with_reducible refine i_nopart ?_) | (with_reducible refine i_exI ?_) | (with_reducible refine i_chain ?_) | ((with_reducible refine' i_aug ?q1 ?_); (case q1 => exact rfl)) | (with_reducible refine i_ip ?_)
  | (with_reducible refine i_par ?_) | (with_reducible refine i_pair ?_) | (with_reducible refine i_andV ?_) | (with_reducible refine i_orV ?_) | (with_reducible refine i_notV ?_) | (with_reducible refine i_m1 ?_) | (with_reducible refine i_str ?_)
  | (with_reducible refine iteF ?_) | (with_reducible refine iteT ?_) | (with_reducible refine iteNT ?_) | (with_reducible refine iteNF ?_) | (with_reducible refine i_tyS ?_) | (with_reducible refine i_tB ?_) | (with_reducible refine i_retN ?_) | (with_reducible refine i_par3 ?_) | (with_reducible refine i_trip ?_) | (with_reducible refine i_gCons ?_) | (with_reducible refine i_gNil ?_) | (with_reducible refine i_lstRg ?_) | (with_reducible refine i_rg1 ?_)
  | (with_reducible refine i_lc ?_) | (with_reducible refine i_for ?_) | (with_reducible refine i_iList ?_) | (with_reducible refine i_iTup ?_) | (with_reducible refine i_iStr ?_) | (with_reducible refine i_iRng1 ?_) | (with_reducible refine i_iEnS ?_)
  | ((with_reducible refine' i_ixTH ?q1 ?q2 ?_); (case q1 => walk_at "hp"); (case q2 => exact rfl))
  | ((with_reducible refine' i_ixLH ?q1 ?q2 ?_); (case q1 => walk_at "hp"); (case q2 => exact rfl))
  | ((with_reducible refine i_addS ?q1 ?_); (case q1 => walk_at "ln")) | ((with_reducible refine i_lenSS ?q1 ?_); (case q1 => walk_at "ln")) | ((with_reducible refine i_slFrom ?q1 ?q2 ?_); (case q1 => walk_at "ln"); (case q2 => walk_at "ln")) | ((with_reducible refine i_slTo ?q1 ?q2 ?_); (case q1 => walk_at "ln"); (case q2 => walk_at "ln"))
  | ((with_reducible refine' i_tyL ?q1 ?_); (case q1 => walk_at "hp"))
  | ((with_reducible refine' i_gTupH ?q1 ?q2 ?_); (case q1 => walk_at "hp"); (case q2 => exact rfl))
  | (with_reducible refine i_dnewM ?_) | (with_reducible refine i_init ?_) | (with_reducible refine i_fst ?_) | (with_reducible refine i_mk ?_) | (with_reducible refine i_mkF ?_) | (with_reducible refine i_raise ?_) | (with_reducible refine i_callS ?_) | (with_reducible refine i_kwS ?_)
  | (with_reducible refine i_revT ?_) | (with_reducible refine i_kw ?_) | ((with_reducible refine' ⟨_, _, rfl, sqT_of ?q1, ?_⟩); (case q1 => walk_at "hp"))
  | (with_reducible refine i_revS ?_) | ((with_reducible refine i_revSS ?q1 ?_); (case q1 => walk_at "ln"))
  | (with_reducible refine i_startS ?_) | (with_reducible refine i_inSg ?_) | (with_reducible refine i_absN ?_) | (with_reducible refine i_min2 ?_) | (with_reducible refine i_max2 ?_) | (with_reducible refine i_min3 ?_) | (with_reducible refine i_intN ?_) | (with_reducible refine i_intNB ?_)
  | ((with_reducible refine' i_lenL ?q1 ?_); (case q1 => walk_at "hp")) | ((with_reducible refine' i_lenT ?q1 ?_); (case q1 => walk_at "hp"))
  | (with_reducible refine i_eqI ?_) | (with_reducible refine i_neI ?_) | (with_reducible refine i_eqS ?_) | (with_reducible refine i_neS ?_) | (with_reducible refine i_isNoI ?_) | (with_reducible refine i_isNoN ?_) | (with_reducible refine i_isNoR ?_)
  | ((with_reducible refine i_pow ?q1 ?q2 ?q3 ?_); (case q1 => decide); (case q2 => decide); (case q3 => (with_reducible omega)))
  | ((with_reducible refine i_rI ?q1 ?_); (case q1 => walk_at "ci"))
  | (with_reducible refine Or.inl ⟨_, rfl, ?_⟩) | (with_reducible refine Or.inr ⟨_, rfl, ?_⟩) | (with_reducible refine ⟨_, rfl, ?_⟩) | (with_reducible refine ⟨_, _, rfl, ?_⟩) | (with_reducible refine ⟨_, _, rfl, rfl, ?_⟩)
  | ((with_reducible refine' ⟨_, _, rfl, Or.inl (sqL_of ?q1), ?_⟩); (case q1 => walk_at "hp")) | ((with_reducible refine' ⟨_, _, rfl, Or.inr (sqT_of ?q1), ?_⟩); (case q1 => walk_at "hp")) | (with_reducible refine i_dget ?_) | (with_reducible refine i_disp1T ?_) | (with_reducible refine i_dcT ?_) | (with_reducible refine i_dnewT ?_) | (with_reducible refine i_fld ?_) | (with_reducible refine i_sFld ?_) | (with_reducible refine i_make ?_) | (with_reducible refine i_meth ?_) | (with_reducible refine i_star ?_) | (with_reducible refine i_isNoS ?_) | (with_reducible refine i_lc2 ?_) | (with_reducible refine i_iEnT ?_) | (with_reducible refine i_iZipT ?_) | fail)
local macro_rules | `(tactic| walk_at "rd") => `(tactic| repeat' walk_at "rd1")

/-- the class Decoder at C: what is asked of its names -/
structure DcC (K : PySem.W.Frag) (C : Addr) : Prop where
  cl : Cls K C
  a1 : NoAttr K C "signs"
  a2 : NoAttr K C "states"
  a3 : NoAttr K C "steps"
  a4 : NoAttr K C "ends"
def dFs (n : Nat) (k : Nat) (p1 p2 : Addr) : List (Str × V) := [("signs", iV n), ("states", iV k), ("steps", .ref p1), ("ends", .ref p2)]
/-- a decoder at v -/
def DAt (C : Addr) (H : Hp) (v : V) (n : Nat) (st : List (List Ent)) (en : List (Option (List Nat))) : Prop := ∃ a dx p1 p2, v = .ref a ∧ H a = some (.ins C dx (dFs n st.length p1 p2)) ∧ TSt H (.ref p1) st ∧ H p2 = some (.tup (en.map endV))
theorem DAt.same {C : Addr} {H H' : Hp} (s : Same H H') {v : V} {n : Nat} {st : List (List Ent)} {en : List (Option (List Nat))} (h : DAt C H v n st en) : DAt C H' v n st en := by
  obtain ⟨a, dx, p1, p2, e, h1, h2, h3⟩ := h; exact ⟨a, dx, p1, p2, e, s _ _ h1, h2.same s, s _ _ h3⟩
theorem insdel {H : Hp} {a p : Addr} {o : HO} {C dx : Addr} {fs : List (Str × V)} (hi : H a = some (.ins C dx fs)) (e : H p = some o) (no : ∀ C dx fs, o ≠ .ins C dx fs) : L2.del H a p = some o := by
  rw [L2.del_ne fun q => ?_]
  · exact e
  · rw [q, hi] at e; cases e; exact no _ _ _ rfl
theorem EntAt.del {H : Hp} {a C dx : Addr} {fs : List (Str × V)} (hi : H a = some (.ins C dx fs)) {v : V} {e : Ent} (h : EntAt H v e) : EntAt (L2.del H a) v e := by
  rcases e with _ | ⟨q, w⟩
  · exact h
  · obtain ⟨t, e, h⟩ := h; exact ⟨t, e, insdel hi h fun _ _ _ => HO.noConfusion⟩
theorem RowAt.del {H : Hp} {a C dx : Addr} {fs : List (Str × V)} (hi : H a = some (.ins C dx fs)) {v : V} {r : List Ent} (h : RowAt H v r) : RowAt (L2.del H a) v r := by
  obtain ⟨p, vs, e, h1, h2⟩ := h; exact ⟨p, vs, e, insdel hi h1 fun _ _ _ => HO.noConfusion, Paired.mapP h2 fun _ _ z => z.del hi⟩
theorem StAt.del {H : Hp} {a C dx : Addr} {fs : List (Str × V)} (hi : H a = some (.ins C dx fs)) {v : V} {r : List (List Ent)} (h : StAt H v r) : StAt (L2.del H a) v r := by
  obtain ⟨p, vs, e, h1, h2⟩ := h; exact ⟨p, vs, e, insdel hi h1 fun _ _ _ => HO.noConfusion, Paired.mapP h2 fun _ _ z => z.del hi⟩
theorem delSub {b : Addr} {H : Hp} : Same (L2.del H b) H := fun a o e => by
  by_cases c : a = b
  · rw [c, L2.del_same] at e; cases e
  · rwa [L2.del_ne c] at e
theorem putF_len (f : Str) (v : V) : ∀ fs : List (Str × V), (putF f v fs).length ≤ fs.length + 1
  | [] => Nat.le_refl _
  | (g, x) :: r => by
    unfold putF
    split
    · simp
    · have := putF_len f v r; simp; omega
theorem putF3 (f1 f2 f3 : Str) (v1 v2 v3 : V) : (putF f3 v3 (putF f2 v2 (putF f1 v1 []))).length < 1000 := by
  have h1 := putF_len f1 v1 []
  have h2 := putF_len f2 v2 (putF f1 v1 [])
  have h3 := putF_len f3 v3 (putF f2 v2 (putF f1 v1 []))
  simp at h1; omega
theorem putF2 (f1 f2 : Str) (v1 v2 : V) : (putF f2 v2 (putF f1 v1 [])).length < 1000 := by
  have h1 := putF_len f1 v1 []
  have h2 := putF_len f2 v2 (putF f1 v1 [])
  simp at h1; omega
theorem putF1 (f1 : Str) (v1 : V) : (putF f1 v1 []).length < 1000 := by
  have h1 := putF_len f1 v1 []
  simp at h1; omega
def TK (H H' : Hp) : Prop := ∀ a xs, H a = some (.tup xs) → H' a = some (.tup xs)
theorem TK.of {H H' : Hp} (s : Same H H') : TK H H' := fun a xs e => s _ _ e
theorem TK.lst {H : Hp} {p : Addr} {xs ys : List V} (e : H p = some (.lst xs)) : TK H (upd H p (.lst ys)) := fun a zs ea => by
  rw [upd_ne (fun q => by rw [q, e] at ea; cases ea)]; exact ea
theorem TK.ins {H : Hp} {p C dx : Addr} {fs gs : List (Str × V)} (e : H p = some (.ins C dx fs)) : TK H (upd H p (.ins C dx gs)) := fun a zs ea => by
  rw [upd_ne (fun q => by rw [q, e] at ea; cases ea)]; exact ea
theorem TK.trans {H1 H2 H3 : Hp} (s : TK H1 H2) (t : TK H2 H3) : TK H1 H3 := fun a xs e => t _ _ (s _ _ e)
theorem EntAt.tk {H H' : Hp} (s : TK H H') {v : V} {e : Ent} (h : EntAt H v e) : EntAt H' v e := by
  rcases e with _ | ⟨q, w⟩
  · exact h
  · obtain ⟨t, e, h⟩ := h; exact ⟨t, e, s _ _ h⟩
theorem TRow.tk {H H' : Hp} (s : TK H H') {v : V} {r : List Ent} (h : TRow H v r) : TRow H' v r := by
  obtain ⟨p, vs, e, h1, h2⟩ := h; exact ⟨p, vs, e, s _ _ h1, Paired.mapP h2 fun _ _ z => z.tk s⟩
theorem TSt.tk {H H' : Hp} (s : TK H H') {v : V} {r : List (List Ent)} (h : TSt H v r) : TSt H' v r := by
  obtain ⟨p, vs, e, h1, h2⟩ := h; exact ⟨p, vs, e, s _ _ h1, Paired.mapP h2 fun _ _ z => z.tk s⟩
theorem sm100 {n : Nat} (h : n ≤ 1000) : n < sizeLine := Nat.lt_of_le_of_lt h (Nat.lt_of_lt_of_le (by decide : 1000 < 100000) (Nat.le_of_ble_eq_true rfl))
theorem ints_de {K : PySem.W.Frag} {H : Hp} : ∀ l : List Nat, DeAll K H (l.map iV) (l.map fun (n : Nat) => PyData.int (n : Int))
  | [] => .nil
  | n :: l => .cons (.int _) (ints_de l)
theorem line_ok {n : Nat} {l : List Nat} (h : ∀ x ∈ l, x < n) : lineB n (.tuple (l.map fun (n : Nat) => PyData.int (n : Int))) = true := by
  simp only [lineB, List.all_map, List.all_eq_true]
  intro x hx
  have := h x hx
  simp only [Function.comp, isX, Bool.and_eq_true, decide_eq_true_eq]; omega
theorem line_len {l : List Nat} (h : l.length ≤ 1000) : LenOk (.tuple (l.map fun (n : Nat) => PyData.int (n : Int))) := by
  rintro ds (e | e)
  · cases e
  · cases e; rw [List.length_map]; omega
mutual
theorem eqv_self : ∀ (d : PyData), d.hasDict = false → PyData.eqv d d = true
  | .none, _ => by simp only [PyData.eqv]
  | .bool b, _ => by simp only [PyData.eqv]; exact beq_self_eq_true _
  | .int i, _ => by simp only [PyData.eqv]; exact beq_self_eq_true _
  | .str x, _ => by simp only [PyData.eqv]; exact beq_self_eq_true _
  | .list ds, h => by
    simp only [PyData.eqv]
    exact eqvAll_self ds (by simpa only [PyData.hasDict] using h)
  | .tuple ds, h => by
    simp only [PyData.eqv]
    exact eqvAll_self ds (by simpa only [PyData.hasDict] using h)
  | .dict _, h => by simp only [PyData.hasDict] at h; cases h
theorem eqvAll_self : ∀ (ds : List PyData), PyData.hasDictAll ds = false → PyData.eqvAll ds ds = true
  | [], _ => by simp only [PyData.eqvAll]
  | d :: ds, h => by
    simp only [PyData.hasDictAll, Bool.or_eq_false_iff] at h
    simp only [PyData.eqvAll, eqv_self d h.1, eqvAll_self ds h.2, Bool.and_self]
end
def rowD (r : List Ent) : PyData := .tuple (r.map entD)
def stD (st : List (List Ent)) : PyData := .tuple (st.map rowD)
def endD : Option (List Nat) → PyData
  | none => .none
  | some w => .str (S w)
def enD (en : List (Option (List Nat))) : PyData := .tuple (en.map endD)
theorem EntAt.de {K : PySem.W.Frag} {H : Hp} {v : V} {e : Ent} (h : EntAt H v e) : De K H v (entD e) := by
  rcases e with _ | ⟨q, w⟩
  · cases (show v = V.non from h); exact .non
  · obtain ⟨t, rfl, e⟩ := h
    exact .tup (sqT_of e) (.cons (.int _) (.cons (.str _) .nil))
theorem ents_de {K : PySem.W.Frag} {H : Hp} {vs : List V} {r : List Ent} (h : Paired (EntAt H) vs r) : DeAll K H vs (r.map entD) := by
  induction h with
  | nil => exact .nil
  | cons h _ ih => exact .cons h.de ih
theorem TRow.de {K : PySem.W.Frag} {H : Hp} {v : V} {r : List Ent} (h : TRow H v r) : De K H v (rowD r) := by
  obtain ⟨p, vs, rfl, e, pr⟩ := h
  exact .tup (sqT_of e) (ents_de pr)
theorem rows_de {K : PySem.W.Frag} {H : Hp} {vs : List V} {st : List (List Ent)} (h : Paired (TRow H) vs st) : DeAll K H vs (st.map rowD) := by
  induction h with
  | nil => exact .nil
  | cons h _ ih => exact .cons h.de ih
theorem TSt.de {K : PySem.W.Frag} {H : Hp} {v : V} {st : List (List Ent)} (h : TSt H v st) : De K H v (stD st) := by
  obtain ⟨p, vs, rfl, e, pr⟩ := h
  exact .tup (sqT_of e) (rows_de pr)
theorem ends_de {K : PySem.W.Frag} {H : Hp} : ∀ en : List (Option (List Nat)), DeAll K H (en.map endV) (en.map endD)
  | [] => .nil
  | none :: en => .cons .non (ends_de en)
  | some w :: en => .cons (.str _) (ends_de en)
theorem entD_flat (e : Ent) : (entD e).hasDict = false := by rcases e with _ | ⟨q, w⟩ <;> simp [entD, PyData.hasDict, PyData.hasDictAll]
theorem rowD_flat (r : List Ent) : (rowD r).hasDict = false := hasDict_tup.mpr fun y hy => by
  obtain ⟨e, _, rfl⟩ := List.mem_map.mp hy; exact entD_flat e
theorem stD_flat (st : List (List Ent)) : (stD st).hasDict = false := hasDict_tup.mpr fun y hy => by
  obtain ⟨e, _, rfl⟩ := List.mem_map.mp hy; exact rowD_flat e
theorem enD_flat (en : List (Option (List Nat))) : (enD en).hasDict = false := hasDict_tup.mpr fun y hy => by
  obtain ⟨e, _, rfl⟩ := List.mem_map.mp hy
  rcases e with _ | w <;> simp [endD, PyData.hasDict]
theorem azW_le {w : List Nat} (h : azW w) : ∀ c ∈ w, c ≤ 1000 := fun c hc => by have := h c hc; omega
theorem entD_sd {m : Nat} {e : Ent} (h : entOk m e) (hm : m ≤ 400) : Sd 1 20 (entD e) := by
  rcases e with _ | ⟨q, w⟩
  · exact sd_non.mono (by omega) (by omega)
  · obtain ⟨h1, h2, h3⟩ := h
    exact (sd_tup' (.cons (sd_int9 (by omega)) (.cons ((sd_str (azW_le h2)).mono (Nat.le_refl _) h3) .nil))).mono (by omega) (by omega)
theorem Good.stSd {n : Nat} {st : List (List Ent)} {en : List (Option (List Nat))} (g : Good n st en) : Sd 3 5000 (stD st) := by
  have h1 : ∀ d ∈ st.map rowD, Sd 2 105 d := fun d hd => by
    obtain ⟨r, hr, rfl⟩ := List.mem_map.mp hd
    have := sd_tup (n := 1) (w := 20) (ds := r.map entD) fun d hd => by
      obtain ⟨e, he, rfl⟩ := List.mem_map.mp hd
      exact entD_sd (g.ent r hr e he) (by have := g.s6; omega)
    rw [List.length_map, g.row r hr] at this
    have h5 := g.n5
    exact this.mono (by omega) (by omega)
  have := sd_tup h1
  rw [List.length_map] at this
  have h6 := g.s6
  exact this.mono (by omega) (by omega)
theorem Good.enSd {n : Nat} {st : List (List Ent)} {en : List (Option (List Nat))} (g : Good n st en) : Sd 1 200 (enD en) := by
  have h1 : ∀ d ∈ en.map endD, Sd 0 3 d := fun d hd => by
    obtain ⟨e, he, rfl⟩ := List.mem_map.mp hd
    rcases e with _ | w
    · exact sd_non.mono (by omega) (by omega)
    · have := g.enk _ he
      exact (sd_str (azW_le this.1)).mono (Nat.le_refl _) this.2
  have := sd_tup h1
  rw [List.length_map, g.le] at this
  have h6 := g.s6
  exact this.mono (by omega) (by omega)
def runD (st : List (List Ent)) : Nat → List Nat → List Nat → Option (Nat × List Nat)
  | q, t, [] => some (q, t)
  | q, t, x :: l => match (st.getD q []).getD x none with
    | none => none
    | some (q', w) => runD st q' (t ++ w) l
def writD (st : List (List Ent)) (en : List (Option (List Nat))) (l : List Nat) : Option (List Nat) := match runD st 0 [] l with
  | none => none
  | some (q, t) => match en.getD q none with
    | none => none
    | some w => some (t ++ w)
theorem runD_app (st : List (List Ent)) : ∀ (l1 l2 : List Nat) (q : Nat) (t : List Nat), runD st q t (l1 ++ l2) = match runD st q t l1 with | none => none | some (q', t') => runD st q' t' l2
  | [], l2, q, t => rfl
  | x :: l1, l2, q, t => by
    simp only [List.cons_append, runD]
    cases (st.getD q []).getD x none with
    | none => rfl
    | some e => exact runD_app st l1 l2 _ _
/-- __init__(self, signs, steps, ends), good ones -/
def spIni (C : Addr) : Sp := fun vs H Q _ => ∃ (a dx : Addr) (v1 v2 : V) (n : Nat) (st : List (List Ent)) (en : List (Option (List Nat))), vs = [.ref a, iV n, v1, v2] ∧ H a = some (.ins C dx []) ∧ StAt H v1 st ∧ EnAt H v2 en ∧ Good n st en ∧
  ∀ p1 p2 H', SB a H H' → H' a = some (.ins C dx (dFs n st.length p1 p2)) → TSt H' (.ref p1) st → H' p2 = some (.tup (en.map endV)) → Q .non H'
/-- self == other, equal ones -/
def spEqD (C : Addr) : Sp := fun vs H Q _ => ∃ (v1 v2 : V) (n : Nat) (st : List (List Ent)) (en : List (Option (List Nat))), vs = [v1, v2] ∧ DAt C H v1 n st en ∧ DAt C H v2 n st en ∧ Good n st en ∧ ∀ H', Same H H' → Q (.bl true) H'
/-- a line -/
def LnAt (K : PySem.W.Frag) (H : Hp) (v : V) (l : List Nat) : Prop := ∃ a, v = .ref a ∧ SqT K H a (l.map iV)
/-- written(self, line) -/
def spWr (K : PySem.W.Frag) (C : Addr) : Sp := fun vs H Q _ => ∃ (v1 v2 : V) (n : Nat) (st : List (List Ent)) (en : List (Option (List Nat))) (l : List Nat), vs = [v1, v2] ∧ DAt C H v1 n st en ∧ Good n st en ∧ LnAt K H v2 l ∧ l.length ≤ 100 ∧ (∀ x ∈ l, x < n) ∧ ∀ H', Same H H' → Q (endV (writD st en l)) H'
section
variable {P : Program} {w : World} {K : PySem.W.Frag} {mg : Str → Option Value} {base : Heap} {f : Addr} {fd : FuncData}
theorem i_fldD {C a dx : Addr} {n k : Nat} {p1 p2 : Addr} {x : Str} {v : V} {H : Hp} {Q : VK} (c : Cls K C) (na : NoAttr K C x) (e : H a = some (.ins C dx (dFs n k p1 p2))) (l : (dFs n k p1 p2).lookup x = some v) (q : Q v H) : rFldR K x (.ref a) H Q := ⟨a, C, dx, _, v, rfl, e, c, na, l, q⟩
theorem i_sFldD {C a dx : Addr} {fs : List (Str × V)} {x : Str} {y : V} {H : Hp} {R : Hp → Prop} (c : Cls K C) (na : NoAttr K C x) (e : H a = some (.ins C dx fs)) (l : fs.length < 1000) (q : R (upd H a (.ins C dx (putF x y fs)))) : rSFld K x y (.ref a) H R := ⟨a, C, dx, fs, rfl, e, c, na, l, q⟩
theorem ok_ini {C : Addr} (F : Fun K "__init__" "Decoder.__init__" s_Decoder___init__ f fd) (z : Z mg) (dc : DcC K C) (c_check_signs : Cal P w K mg base "check_signs" ["signs"] 3 spCkS0) (c_are_steps : Cal P w K mg base "are_steps" ["value", "signs"] 4 spStp) (c_are_ends : Cal P w K mg base "are_ends" ["value", "states"] 3 spEns) : FnOk P w K mg base CX0 5 f fd ["self", "signs", "steps", "ends"] (spIni C) := by
  refine F.ok sc_Decoder___init__ (fun vs H Q E h => ?_) (fun cdv A outer s H vs Q E hr h => ?_)
  · obtain ⟨a, dx, v1, v2, n, st, en, rfl, _⟩ := h; rfl
  · obtain ⟨a, dx, v1, v2, n, st, en, rfl, ha, hst, hen, g, k⟩ := h
    refine ⟨_, (pss_cons (ps_expr (pe_cal c_check_signs hr (pa_cons (pv 1) pa_nil)))
      (pss_cons (ps_if (pt_not (pt_val (pe_cal c_are_steps hr (pa_cons (pv 2) (pa_cons (pv 1) pa_nil)))))
        (pss_one ps_never)
        pss_nil)
      (pss_cons (ps_if (pt_not (pt_val (pe_cal c_are_ends hr (pa_cons (pv 3) (pa_cons (pe_callB call_lenQ (by rfl) z.len PySem.boot_len (pa_cons (pv 2) pa_nil)) pa_nil)))))
        (pss_one ps_never)
        pss_nil)
      (pss_cons (ps_fld (pv 0) (pv 1) (by rfl))
      (pss_cons (ps_fld (pv 0) (pe_callB call_lenQ (by rfl) z.len PySem.boot_len (pa_cons (pv 2) pa_nil)) (by rfl))
      (pss_cons (ps_fld (pv 0) (pe_callTy call_tuple_of (by rfl) z.tuple (by decide +kernel) (pa_cons (pe_lc (own := [("row", 4)]) (g := gName 4) (tt := tYes) rfl sc_Decoder___init__.nd (pi_list (pv 2)) (blkOk_by (own := [("row", 4)]) (N := n_Decoder___init__) (sc := defScope s_Decoder___init__) (by decide +kernel)) (fun _ _ _ _ _ => (pg_name (i := 4) sc_Decoder___init__.nd rfl (.inl rfl))) (fun _ _ _ _ _ => pts_nil) (fun _ _ _ _ _ => (pe_callTy (call_tuple_ofB (K := K) rfl) (by rfl) z.tuple (by decide +kernel) (pa_cons (pv 4) pa_nil)))) pa_nil)) (by rfl))
      (pss_one (ps_fld (pv 0) (pe_callTy call_tuple_of (by rfl) z.tuple (by decide +kernel) (pa_cons (pv 3) pa_nil)) (by rfl))))))))), ?_⟩
    walk_at "rd"
    refine ⟨n, rfl, g.n1, g.n5, fun H1 s1 => ?_⟩
    walk_at "rd"
    refine ⟨v1, n, st, rfl, hst.same s1, g.n5, g.s1, g.s6, g.row, g.ent, fun H2 s2 => ?_⟩
    have s12 := s1.trans s2
    obtain ⟨p, vs, rfl, ep, pr⟩ := hst.same s12
    have lv : vs.length = st.length := Paired.length pr
    walk_at "rd"
    rw [lv]
    refine ⟨v2, st.length, en, rfl, hen.same s12, g.le, g.s6, g.enk, fun H3 s3 => ?_⟩
    have s13 := s12.trans s3
    have ha3 := s13 _ _ ha
    walk_at "rd"
    refine i_sFldD dc.cl dc.a1 ha3 (by simp) ?_
    have e4 := upd_same (H := H3) (a := a) (o := .ins C dx (putF "signs" (iV n) []))
    have d4 := SB.upd (b := a) (H := H3) (o := .ins C dx (putF "signs" (iV n) []))
    generalize upd H3 a (.ins C dx (putF "signs" (iV n) [])) = H4 at *
    obtain ⟨p', vs', epp, ep3, pr3⟩ := (hst.same s13).del ha3
    cases epp
    have lv' : vs'.length = st.length := Paired.length pr3
    have ep4 := delSub _ _ (del_sb d4 _ _ ep3)
    walk_at "rd"
    rw [lv']
    refine i_sFldD dc.cl dc.a2 e4 (putF1 _ _) ?_
    have e5 := upd_same (H := H4) (a := a) (o := .ins C dx (putF "states" (.int (st.length : Int)) (putF "signs" (iV n) [])))
    have d5 := d4.trans (SB.upd (b := a) (H := H4) (o := .ins C dx (putF "states" (.int (st.length : Int)) (putF "signs" (iV n) []))))
    generalize upd H4 a (.ins C dx (putF "states" (.int (st.length : Int)) (putF "signs" (iV n) []))) = H5 at *
    have ep5 := delSub _ _ (del_sb d5 _ _ ep3)
    walk_at "rd"
    refine ⟨⟨_, sqL_of ep5⟩, ?_⟩
    have D5 := del_sb d5
    refine go_lc (walk_list (xs := vs')) (fun p' i Hx => ∃ ws, Hx p' = some (.lst ws) ∧ Paired (TRow Hx) ws (st.take i) ∧ Same H5 Hx) (fun p' np => ⟨[], upd_same, .nil, same_upd np⟩) (fun p' i Hx hi q => sqL_of (q.choose_spec.2.2 _ _ ep5)) (fun p' np i v Hx Hy hi q y => ?_) (fun lp H6 nlp q => ?_)
    · obtain ⟨ws, ew, pw, sx⟩ := q
      obtain ⟨rfl, hv⟩ := y
      obtain ⟨row, gr, rp, rs, rfl, er, prr⟩ := pairedAt pr3 hv
      have er := sx _ _ (delSub _ _ (D5 _ _ er))
      have prr := Paired.mapP prr fun _ _ zz => ((zz.same D5).same delSub).same sx
      have lw : ws.length ≤ 40 := by have := Paired.length pw; rw [List.length_take] at this; have := g.s6; omega
      rw [List.take_add_one, gr]
      walk_at "rd"
      refine ⟨rfl, i_yes (iteT ?_)⟩
      walk_at "rd"
      refine ⟨rp, rs, rfl, .inl ⟨sqL_of er, fun t nt => ?_⟩⟩
      have st' := same_upd (o := .tup rs) nt
      have et := upd_same (H := Hy) (a := t) (o := .tup rs)
      generalize upd Hy t (.tup rs) = H7 at *
      have tk := (TK.of st').trans (TK.lst (ys := ws ++ [.ref t]) (st' _ _ ew))
      exact ⟨ws, st' _ _ ew, sm100 (by omega), _, upd_same, Paired.snoc (Paired.mapP pw fun _ _ zz => zz.tk tk) ⟨t, rs, rfl, TK.lst (st' _ _ ew) _ _ et, Paired.mapP prr fun _ _ zz => zz.tk tk⟩, Same.set_new (sx.trans st') np⟩
    obtain ⟨ws, ew, pw, s6⟩ := q
    rw [lv', List.take_length] at pw
    walk_at "rd"
    refine ⟨lp, ws, rfl, .inl ⟨sqL_of ew, fun p1 np1 => ?_⟩⟩
    have s7 := same_upd (o := .tup ws) np1
    have e7 := upd_same (H := H6) (a := p1) (o := .tup ws)
    generalize upd H6 p1 (.tup ws) = H7 at *
    have T7 : TSt H7 (.ref p1) st := ⟨p1, ws, rfl, e7, Paired.mapP pw fun _ _ zz => zz.same s7⟩
    have e57 := s7 _ _ (s6 _ _ e5)
    walk_at "rd"
    refine i_sFldD dc.cl dc.a3 e57 (putF2 _ _ _ _) ?_
    have T8 := T7.tk (TK.ins (gs := putF "steps" (.ref p1) (putF "states" (.int (st.length : Int)) (putF "signs" (iV n) []))) e57)
    have e8 := upd_same (H := H7) (a := a) (o := .ins C dx (putF "steps" (.ref p1) (putF "states" (.int (st.length : Int)) (putF "signs" (iV n) []))))
    have d8 := d5.trans ((SB.of (s6.trans s7)).trans (SB.upd (b := a) (H := H7) (o := .ins C dx (putF "steps" (.ref p1) (putF "states" (.int (st.length : Int)) (putF "signs" (iV n) []))))))
    generalize upd H7 a (.ins C dx (putF "steps" (.ref p1) (putF "states" (.int (st.length : Int)) (putF "signs" (iV n) [])))) = H8 at *
    obtain ⟨ep', rfl, een⟩ := hen.same s13
    have een8 : H8 ep' = some (.lst (en.map endV)) ∨ H8 ep' = some (.tup (en.map endV)) := een.imp (fun een => d8 _ _ (fun q => by rw [q, ha3] at een; cases een) een) (fun een => d8 _ _ (fun q => by rw [q, ha3] at een; cases een) een)
    walk_at "rd"
    rcases een8 with een8 | een8
    · refine ⟨ep', _, rfl, .inl ⟨sqL_of een8, fun p2 np2 => ?_⟩⟩
      have s9 := same_upd (o := .tup (en.map endV)) np2
      have e9 := upd_same (H := H8) (a := p2) (o := .tup (en.map endV))
      generalize upd H8 p2 (.tup (en.map endV)) = H9 at *
      have e89 := s9 _ _ e8
      have ne2 : p2 ≠ a := fun q => by rw [q, e89] at e9; cases e9
      walk_at "rd"
      refine i_sFldD dc.cl dc.a4 e89 (putF3 _ _ _ _ _ _) ?_
      have d10 := (SB.of (b := a) s13).trans (d8.trans ((SB.of s9).trans (SB.upd (b := a) (H := H9) (o := .ins C dx (putF "ends" (.ref p2) (putF "steps" (.ref p1) (putF "states" (.int (st.length : Int)) (putF "signs" (iV n) []))))))))
      exact k p1 p2 _ d10 upd_same ((T8.same s9).tk (TK.ins e89)) (by rw [upd_ne ne2]; exact e9)
    · refine ⟨ep', _, rfl, .inr ⟨sqT_of een8, ?_⟩⟩
      have ne2 : ep' ≠ a := fun q => by rw [q, e8] at een8; cases een8
      walk_at "rd"
      refine i_sFldD dc.cl dc.a4 e8 (putF3 _ _ _ _ _ _) ?_
      have d10 := (SB.of (b := a) s13).trans (d8.trans (SB.upd (b := a) (H := H8) (o := .ins C dx (putF "ends" (.ref ep') (putF "steps" (.ref p1) (putF "states" (.int (st.length : Int)) (putF "signs" (iV n) [])))))))
      exact k p1 ep' _ d10 upd_same (T8.tk (TK.ins e8)) (by rw [upd_ne ne2]; exact een8)
theorem ok_eq {C : Addr} (F : Fun K "__eq__" "Decoder.__eq__" s_Decoder___eq__ f fd) (z : Z mg) (hmD : mg "Decoder" = some (.ref C)) (dc : DcC K C) (ic_Decoder : C8.InsC K C) : FnOk P w K mg base CX0 1 f fd ["self", "other"] (spEqD C) := by
  refine F.ok sc_Decoder___eq__ (fun vs H Q E h => ?_) (fun cdv A outer s H vs Q E hr h => ?_)
  · obtain ⟨v1, v2, n, st, en, rfl, _⟩ := h; rfl
  · obtain ⟨v1, v2, n, st, en, rfl, ⟨a, dx, p1, p2, rfl, ha, hp1, hp2⟩, ⟨b, dy, q1, q2, rfl, hb, hq1, hq2⟩, g, k⟩ := h
    refine ⟨_, (pss_one (ps_ret (pe_and (pe_callB (C8.call_isC ic_Decoder) (by rfl) z.isinstance (by decide +kernel) (pa_cons (pv 1) (pa_cons (pe_glob (v := .ref C) rfl hmD rfl) pa_nil))) (pe_and (pe_cmpR op_eq (pe_fld (pv 0) (by rfl)) (pe_fld (pv 1) (by rfl)) (nomark _)) (pe_and (pe_cmpR (op_eqD hr.units) (pe_fld (pv 0) (by rfl)) (pe_fld (pv 1) (by rfl)) (nomark _)) (pe_one (pe_cmpR (op_eqD hr.units) (pe_fld (pv 0) (by rfl)) (pe_fld (pv 1) (by rfl)) (nomark _)))))))), ?_⟩
    walk_at "rd"
    refine ⟨b, dy, _, rfl, hb, ?_⟩
    walk_at "rd"
    refine i_fldD dc.cl dc.a1 ha rfl ?_
    walk_at "rd"
    refine i_fldD dc.cl dc.a1 hb rfl ?_
    walk_at "rd"
    rw [decide_eq_true rfl]
    walk_at "rd"
    refine i_fldD dc.cl dc.a3 ha rfl ?_
    walk_at "rd"
    refine i_fldD dc.cl dc.a3 hb rfl ?_
    walk_at "rd"
    refine i_eqE hp1.de hq1.de g.stSd g.stSd (stD_flat _) (stD_flat _) ?_
    rw [eqv_self _ (stD_flat _)]
    walk_at "rd"
    refine i_fldD dc.cl dc.a4 ha rfl ?_
    walk_at "rd"
    refine i_fldD dc.cl dc.a4 hb rfl ?_
    walk_at "rd"
    refine i_eqE (d := enD en) (e := enD en) (.tup (sqT_of hp2) (ends_de en)) (.tup (sqT_of hq2) (ends_de en)) g.enSd g.enSd (enD_flat _) (enD_flat _) ?_
    rw [eqv_self _ (enD_flat _)]
    exact k _ (Same.refl _)
theorem ok_wr {C : Addr} (F : Fun K "written" "Decoder.written" s_Decoder_written f fd) (z : Z mg) (dc : DcC K C) (c_check_line : Cal P w K mg base "check_line" ["line", "signs"] 4 (spCkL K)) : FnOk P w K mg base CX0 5 f fd ["self", "line"] (spWr K C) := by
  refine F.ok sc_Decoder_written (fun vs H Q E h => ?_) (fun cdv A outer s H vs Q E hr h => ?_)
  · obtain ⟨v1, v2, n, st, en, l, rfl, _⟩ := h; rfl
  · obtain ⟨v1, v2, n, st, en, l, rfl, ⟨a, dx, p1, p2, rfl, ha, hp1, hp2⟩, g, ⟨lp, rfl, hl⟩, ll, ln, k⟩ := h
    refine ⟨_, (pss_cons (ps_expr (pe_cal c_check_line hr (pa_cons (pv 1) (pa_cons (pe_fld (pv 0) (by rfl)) pa_nil))))
      (pss_cons (ps_asg (pe_tup (pa_cons pe_int (pa_cons (pe_strS (l := []) (by decide +kernel)) pa_nil))) (pg_tup rfl (pgs_cons (pg_name (i := 2) sc_Decoder_written.nd rfl (.inl rfl)) (pgs_cons (pg_name (i := 3) sc_Decoder_written.nd rfl (.inl rfl)) pgs_nil))))
      (pss_cons (ps_for PassesOwn.never rfl (pi_tup (pv 1)) (pg_name (i := 4) sc_Decoder_written.nd rfl (.inl rfl))
        (pss_cons (ps_set (i := 5) sc_Decoder_written.nd rfl (.inl rfl) (pe_ix ix_tup (pe_ix ix_tup (pe_fld (pv 0) (by rfl)) (pv 2) (fun _ _ => rfl)) (pv 4) (fun _ _ => rfl)))
        (pss_cons (ps_if (pt_cmpR op_isNo (pv 5) pe_non (nomark _))
          (pss_one (ps_ret pe_non))
          pss_nil)
        (pss_cons (ps_set (i := 2) sc_Decoder_written.nd rfl (.inl rfl) (pe_ix ix_tup (pv 5) pe_int (fun _ _ => rfl)))
        (pss_one (ps_set (i := 3) sc_Decoder_written.nd rfl (.inl rfl) (pe_op op_addS (pv 3) (pe_ix ix_tup (pv 5) pe_int (fun _ _ => rfl)))))))))
      (pss_cons (ps_set (i := 6) sc_Decoder_written.nd rfl (.inl rfl) (pe_ix ix_tup (pe_fld (pv 0) (by rfl)) (pv 2) (fun _ _ => rfl)))
      (pss_one (ps_ret (pe_ifExp (pt_cmpR op_isNo (pv 6) pe_non (nomark _)) pe_non (pe_op op_addS (pv 3) (pv 6))))))))), ?_⟩
    walk_at "rd"
    refine i_fldD dc.cl dc.a1 ha rfl ?_
    walk_at "rd"
    refine ⟨.ref lp, .tuple (l.map fun (n : Nat) => PyData.int (n : Int)), n, rfl, .tup hl (ints_de l), line_len (by omega), line_ok ln, fun H1 s1 => ?_⟩
    walk_at "rd"
    refine newT0 (Nat.le_of_ble_eq_true rfl) fun t0 H2 nt0 s2 e0 => ?_
    refine ⟨t0, _, rfl, sqT_of e0, rfl, ?_⟩
    walk_at "rd"
    have s12 := s1.trans s2
    refine ⟨⟨_, Same.sqT s12 hl⟩, ?_⟩
    refine go_for (walk_tup (xs := l.map iV)) (fun i σ Hx => ∃ (q : Nat) (t : List Nat) (u4 u5 u6 : Option V), σ = [some (.ref a), some (.ref lp), some (iV q), some (.str (S t)), u4, u5, u6] ∧ runD st 0 [] (l.take i) = some (q, t) ∧ q < st.length ∧ t.length ≤ 3 * i ∧ Same H Hx)
      ⟨0, [], none, none, none, rfl, by rw [List.take_zero]; rfl, g.s1, by simp, s12⟩ (fun i σ Hx hi h => Same.sqT h.choose_spec.choose_spec.choose_spec.choose_spec.choose_spec.2.2.2.2 hl) (fun i v σ Hx Hy hi h y => ?_) (fun σ Hx h => ?_)
    · obtain ⟨q, t, u4, u5, u6, rfl, run, hq, lt, sx⟩ := h
      obtain ⟨rfl, hv⟩ := y
      rw [List.length_map] at hi
      have gx : l[i]? = some l[i] := List.getElem?_eq_getElem hi
      rw [List.getElem?_map, gx] at hv
      cases hv
      have hx : l[i] < n := ln _ (List.getElem_mem hi)
      generalize l[i] = x at *
      have run' : ∀ e, (st.getD q []).getD x none = e → runD st 0 [] (l.take (i + 1)) = match e with | none => none | some (q', w) => some (q', t ++ w) := fun e he => by
        rw [List.take_add_one, gx, runD_app, run]
        simp only [Option.toList, runD]
        rw [he]
      have hax := sx _ _ ha
      obtain ⟨p1', vs, e1, ep1, pr1⟩ := hp1.same sx
      cases e1
      have gq : st[q]? = some (st.getD q []) := by rw [List.getD_eq_getElem?_getD, List.getElem?_eq_getElem hq]; rfl
      have mq := List.mem_of_getElem? gq
      have lq := g.row _ mq
      have eq := g.ent _ mq
      obtain ⟨vr, gvr, rp, rs, rfl, erp, prr⟩ := pairedAt2 pr1 gq
      have gxr : (st.getD q [])[x]? = some ((st.getD q []).getD x none) := by rw [List.getD_eq_getElem?_getD (l := st.getD q []), List.getElem?_eq_getElem (by rw [lq]; exact hx)]; rfl
      have ex := eq _ (List.mem_of_getElem? gxr)
      obtain ⟨ve, gve, hve⟩ := pairedAt2 prr gxr
      generalize (st.getD q []).getD x none = ee at *
      walk_at "rd"
      refine i_fldD dc.cl dc.a3 hax rfl ?_
      walk_at "rd"
      refine i_ixTn (k := q) (sqT_of ep1) gvr ?_
      walk_at "rd"
      refine i_ixTn (k := x) (sqT_of erp) gve ?_
      walk_at "rd"
      rcases ee with _ | ⟨q', wd⟩
      · cases (show ve = V.non from hve)
        walk_at "rd"
        have : writD st en l = none := by
          unfold writD
          have := run' none rfl
          rw [show l = l.take (i + 1) ++ l.drop (i + 1) by rw [List.take_append_drop], runD_app, this]
        rw [this] at k
        exact k _ sx
      · obtain ⟨tp, rfl, etp⟩ := hve
        obtain ⟨hq', az, lw⟩ := ex
        have run2 := run' _ rfl
        walk_at "rd"
        exact ⟨q', t ++ wd, _, _, _, rfl, run2, hq', by rw [List.length_append]; omega, sx⟩
    · obtain ⟨q, t, u4, u5, u6, rfl, run, hq, lt, sx⟩ := h
      rw [List.length_map, List.take_length] at run
      have hax := sx _ _ ha
      have gq : en[q]? = some (en.getD q none) := by rw [List.getD_eq_getElem?_getD, List.getElem?_eq_getElem (by rw [g.le]; exact hq)]; rfl
      have gqv : (en.map endV)[q]? = some (endV (en.getD q none)) := by rw [List.getElem?_map, gq]; rfl
      have okq := g.enk _ (List.mem_of_getElem? gq)
      have wr : writD st en l = match en.getD q none with | none => none | some w => some (t ++ w) := by unfold writD; rw [run]
      rw [wr] at k
      rw [List.length_map] at lt
      generalize en.getD q none = ee at *
      walk_at "rd"
      refine i_fldD dc.cl dc.a4 hax rfl ?_
      walk_at "rd"
      refine i_ixTn (k := q) (sqT_of (sx _ _ hp2)) gqv ?_
      walk_at "rd"
      rcases ee with _ | wd
      · walk_at "rd"
        exact k _ sx
      · walk_at "rd"
        refine i_addS (by have := okq.2; omega) ?_
        exact k _ sx
end
end Sw
namespace Sw.Bf
/-! ### places, their rows, all that are come to -/
abbrev Pl := Nat × Nat × Nat
abbrev PEnt := Option (Pl × List Nat)
abbrev Ent' := Option (Nat × List Nat)
def entP (st : List (List Ent')) (n m : Nat) (p : Pl) (s : Nat) : PEnt :=
  if p.2.1 = m then (if s = p.2.2 then some ((p.1, 0, 0), []) else none) else ((st.getD p.1 []).getD s none).map fun e => ((e.1, p.2.1 + 1, (p.2.2 + s) % n), e.2)
def rowP (st : List (List Ent')) (n m : Nat) (p : Pl) : List PEnt := (List.range n).map (entP st n m p)
def addP (ps : List Pl) : PEnt → List Pl
  | none => ps
  | some (g, _) => if g ∈ ps then ps else ps ++ [g]
def bfs (F : Pl → List PEnt) : Nat → List Pl
  | 0 => [(0, 0, 0)]
  | k + 1 => match (bfs F k)[k]? with
    | none => bfs F k
    | some p => (F p).foldl addP (bfs F k)
theorem add_pre (ps : List Pl) (e : PEnt) : ∃ zs, addP ps e = ps ++ zs := by
  rcases e with _ | ⟨g, w⟩
  · exact ⟨[], by simp [addP]⟩
  · by_cases h : g ∈ ps
    · exact ⟨[], by simp [addP, h]⟩
    · exact ⟨[g], by simp [addP, h]⟩
theorem fold_pre : ∀ (es : List PEnt) (ps : List Pl), ∃ zs, es.foldl addP ps = ps ++ zs
  | [], ps => ⟨[], by simp⟩
  | e :: es, ps => by
    obtain ⟨z1, h1⟩ := add_pre ps e
    obtain ⟨z2, h2⟩ := fold_pre es (addP ps e)
    exact ⟨z1 ++ z2, by rw [List.foldl_cons, h2, h1, List.append_assoc]⟩
theorem bfs_succ (F : Pl → List PEnt) (k : Nat) : ∃ zs, bfs F (k + 1) = bfs F k ++ zs := by
  simp only [bfs]
  cases (bfs F k)[k]? with
  | none => exact ⟨[], by simp⟩
  | some p => exact fold_pre _ _
theorem bfs_pre (F : Pl → List PEnt) {j k : Nat} (h : j ≤ k) : ∃ zs, bfs F k = bfs F j ++ zs := by
  induction h with
  | refl => exact ⟨[], by simp⟩
  | step _ ih =>
    obtain ⟨z1, h1⟩ := ih
    obtain ⟨z2, h2⟩ := bfs_succ F _
    exact ⟨z1 ++ z2, by rw [h2, h1, List.append_assoc]⟩
theorem add_nodup {ps : List Pl} {e : PEnt} (h : ps.Nodup) : (addP ps e).Nodup := by
  rcases e with _ | ⟨g, w⟩
  · exact h
  · by_cases c : g ∈ ps
    · simpa [addP, c] using h
    · simp only [addP, if_neg c]
      refine List.nodup_append.mpr ⟨h, by simp, fun a ha b hb => ?_⟩
      rw [List.mem_singleton.mp hb]
      rintro rfl
      exact c ha
theorem fold_nodup : ∀ (es : List PEnt) (ps : List Pl), ps.Nodup → (es.foldl addP ps).Nodup
  | [], _, h => h
  | e :: es, ps, h => fold_nodup es _ (add_nodup h)
theorem bfs_nodup (F : Pl → List PEnt) : ∀ k, (bfs F k).Nodup
  | 0 => by simp [bfs]
  | k + 1 => by
    simp only [bfs]
    cases (bfs F k)[k]? with
    | none => exact bfs_nodup F k
    | some p => exact fold_nodup _ _ (bfs_nodup F k)
theorem add_all {G : Pl → Prop} {ps : List Pl} {e : PEnt} (h : ∀ p ∈ ps, G p) (he : ∀ g w, e = some (g, w) → G g) : ∀ p ∈ addP ps e, G p := by
  rcases e with _ | ⟨g, w⟩
  · exact h
  · intro p hp
    by_cases c : g ∈ ps
    · simp only [addP, if_pos c] at hp; exact h p hp
    · simp only [addP, if_neg c] at hp
      rcases List.mem_append.mp hp with hp | hp
      · exact h p hp
      · rw [List.mem_singleton.mp hp]; exact he g w rfl
theorem fold_all {G : Pl → Prop} : ∀ (es : List PEnt) (ps : List Pl), (∀ p ∈ ps, G p) → (∀ e ∈ es, ∀ g w, e = some (g, w) → G g) → ∀ p ∈ es.foldl addP ps, G p
  | [], _, h, _ => h
  | e :: es, ps, h, he => fold_all es _ (add_all h (he e List.mem_cons_self)) fun e' h' => he e' (List.mem_cons_of_mem _ h')
theorem bfs_all {F : Pl → List PEnt} {G : Pl → Prop} (h0 : G (0, 0, 0)) (hF : ∀ p, G p → ∀ e ∈ F p, ∀ g w, e = some (g, w) → G g) : ∀ k, ∀ p ∈ bfs F k, G p
  | 0 => fun p hp => by rw [List.mem_singleton.mp hp]; exact h0
  | k + 1 => by
    simp only [bfs]
    cases q : (bfs F k)[k]? with
    | none => exact bfs_all h0 hF k
    | some p => exact fold_all _ _ (bfs_all h0 hF k) (hF p (bfs_all h0 hF k p (List.mem_of_getElem? q)))
theorem add_mem {ps : List Pl} {g : Pl} {w : List Nat} : g ∈ addP ps (some (g, w)) := by
  by_cases c : g ∈ ps
  · simp only [addP, if_pos c]; exact c
  · simp only [addP, if_neg c]; exact List.mem_append_right _ (List.mem_singleton.mpr rfl)
theorem fold_mem : ∀ (es : List PEnt) (ps : List Pl) {g : Pl} {w : List Nat}, some (g, w) ∈ es → g ∈ es.foldl addP ps
  | e :: es, ps, g, w, h => by
    rcases List.mem_cons.mp h with rfl | h
    · obtain ⟨zs, hz⟩ := fold_pre es (addP ps (some (g, w)))
      rw [List.foldl_cons, hz]
      exact List.mem_append_left _ add_mem
    · exact fold_mem es _ h
theorem bfs_stop {F : Pl → List PEnt} {k : Nat} (h : (bfs F k).length ≤ k) : ∀ j, k ≤ j → bfs F j = bfs F k := by
  intro j hj
  induction hj with
  | refl => rfl
  | @step j hj ih =>
    have hj : k ≤ j := hj
    simp only [bfs]
    rw [List.getElem?_eq_none (by rw [ih]; omega)]
    exact ih
theorem bfs_at {F : Pl → List PEnt} {K k : Nat} {p : Pl} (hK : k ≤ K) (e : (bfs F K)[k]? = some p) : (bfs F k)[k]? = some p := by
  by_cases c : (bfs F k).length ≤ k
  · rw [bfs_stop c K hK] at e; exact e
  · obtain ⟨zs, hz⟩ := bfs_pre F hK
    rw [hz, List.getElem?_append_left (by omega)] at e
    exact e
theorem bfs_closed {F : Pl → List PEnt} {K : Nat} (hK : (bfs F K).length ≤ K) {p g : Pl} {w : List Nat} (hp : p ∈ bfs F K) (he : some (g, w) ∈ F p) : g ∈ bfs F K := by
  obtain ⟨k, e⟩ := List.mem_iff_getElem?.mp hp
  have lk : k < (bfs F K).length := (List.getElem?_eq_some_iff.mp e).1
  have hk : k + 1 ≤ K := by omega
  have ek := bfs_at (Nat.le_of_succ_le hk) e
  obtain ⟨zs, hz⟩ := bfs_pre F hk
  rw [hz]
  refine List.mem_append_left _ ?_
  simp only [bfs, ek]
  exact fold_mem _ _ he
/-- few places -/
def InB (S n m : Nat) (p : Pl) : Prop := p.1 < S ∧ p.2.1 ≤ m ∧ p.2.2 < n
theorem bfs_few {F : Pl → List PEnt} {S n m : Nat} (h : ∀ k, ∀ p ∈ bfs F k, InB S n m p) (hS : S ≤ 4) (hn : n ≤ 5) (hm : m ≤ 2) (k : Nat) : (bfs F k).length ≤ 75 := by
  have nd := (bfs_nodup F k)
  have hm' : ((bfs F k).map fun p => (p.1 * 3 + p.2.1) * 5 + p.2.2).Nodup := by
    refine (List.pairwise_map.mpr ?_)
    refine List.Pairwise.imp_of_mem (fun {a b} ha hb hab e => hab ?_) nd
    obtain ⟨a1, a2, a3⟩ := h k a ha
    obtain ⟨b1, b2, b3⟩ := h k b hb
    obtain ⟨x1, x2, x3⟩ := a
    obtain ⟨y1, y2, y3⟩ := b
    simp only at *
    obtain ⟨e1, e2, e3⟩ : x1 = y1 ∧ x2 = y2 ∧ x3 = y3 := by omega
    rw [e1, e2, e3]
  have sub : ((bfs F k).map fun p => (p.1 * 3 + p.2.1) * 5 + p.2.2) ⊆ List.range 75 := by
    intro x hx
    obtain ⟨p, hp, rfl⟩ := List.mem_map.mp hx
    obtain ⟨p1, p2, p3⟩ := h k p hp
    rw [List.mem_range]
    omega
  have := List.Nodup.length_le_of_subset hm' sub
  rwa [List.length_map, List.length_range] at this
theorem bfs_fin {F : Pl → List PEnt} (h : ∀ k, (bfs F k).length ≤ 75) {k : Nat} (hk : (bfs F k).length ≤ k) : bfs F 200 = bfs F k := by
  by_cases c : k ≤ 200
  · exact bfs_stop hk 200 c
  · have h1 := bfs_stop (F := F) (k := 75) (h 75)
    rw [h1 200 (by omega), h1 k (by omega)]
end Sw.Bf
namespace Sw
open PySem PySem.Spec PyProof.Rows L2
open Sw.Bf (Pl PEnt entP rowP addP bfs InB)
/-! ### the decoder with checks, the law's reading -/
@[irreducible] def finP (st : List (List Ent)) (n m : Nat) : List Pl := bfs (rowP st n m) 200
def stC (st : List (List Ent)) (n m : Nat) : List (List Ent) := (finP st n m).map fun p => (rowP st n m p).map (Option.map fun e => ((finP st n m).idxOf e.1, e.2))
def enC (st : List (List Ent)) (en : List (Option (List Nat))) (n m : Nat) : List (Option (List Nat)) := (finP st n m).map fun p => if p.2.1 = 0 then en.getD p.1 none else none
def readB (st : List (List Ent)) (n m : Nat) : Nat → Nat → List Nat → List Nat → Option (Nat × List Nat)
  | 0, q, t, _ => some (q, t)
  | k + 1, q, t, l => match runD st q t (l.take m) with
    | none => none
    | some (q', t') => if l.getD m 0 = (l.take m).sum % n then readB st n m k q' t' (l.drop (m + 1)) else none
def endR (en : List (Option (List Nat))) : Option (Nat × List Nat) → Option (List Nat)
  | none => none
  | some (q, t) => match en.getD q none with
    | none => none
    | some w => some (t ++ w)
def readP (st : List (List Ent)) (en : List (Option (List Nat))) (n m : Nat) (l : List Nat) : Option (List Nat) :=
  if l.length % (m + 1) = 0 then endR en (readB st n m (l.length / (m + 1)) 0 [] l) else none
def runA (st : List (List Ent)) (n m : Nat) : Pl → List Nat → List Nat → Option (Pl × List Nat)
  | p, t, [] => some (p, t)
  | p, t, x :: l => match entP st n m p x with
    | none => none
    | some (g, w) => runA st n m g (t ++ w) l
theorem runA_app (st : List (List Ent)) (n m : Nat) : ∀ (l1 l2 : List Nat) (p : Pl) (t : List Nat), runA st n m p t (l1 ++ l2) = match runA st n m p t l1 with | none => none | some (p', t') => runA st n m p' t' l2
  | [], l2, p, t => rfl
  | x :: l1, l2, p, t => by
    simp only [List.cons_append, runA]
    cases entP st n m p x with
    | none => rfl
    | some e => exact runA_app st n m l1 l2 _ _
/-- the states of a decoder with checks are few -/
structure Few (st : List (List Ent)) (n m : Nat) : Prop where
  inb : ∀ k, ∀ p ∈ bfs (rowP st n m) k, InB st.length n m p
  few : ∀ k, (bfs (rowP st n m) k).length ≤ 75
theorem ent_get {n : Nat} {st : List (List Ent)} {en : List (Option (List Nat))} (g : Good n st en) {q s : Nat} (hq : q < st.length) {e : Nat × List Nat} (h : (st.getD q []).getD s none = some e) : entOk st.length (some e) := by
  have h1 : st.getD q [] ∈ st := by rw [List.getD_eq_getElem?_getD, List.getElem?_eq_getElem hq]; exact List.getElem_mem _
  have h2 : s < (st.getD q []).length := by
    rcases Nat.lt_or_ge s (st.getD q []).length with c | c
    · exact c
    · rw [List.getD_eq_getElem?_getD, List.getElem?_eq_none c] at h; cases h
  have h3 : some e ∈ st.getD q [] := by rw [← h, List.getD_eq_getElem?_getD (l := st.getD q []), List.getElem?_eq_getElem h2]; exact List.getElem_mem _
  exact g.ent _ h1 _ h3
theorem entP_ok {n m : Nat} {st : List (List Ent)} {en : List (Option (List Nat))} (g : Good n st en) {p : Pl} (hp : InB st.length n m p) {s : Nat} {q : Pl} {w : List Nat} (h : entP st n m p s = some (q, w)) : InB st.length n m q ∧ azW w ∧ w.length ≤ 3 := by
  obtain ⟨p1, p2, p3⟩ := hp
  have n1 := g.n1
  unfold entP at h
  split at h
  · split at h
    · cases h
      exact ⟨⟨p1, Nat.zero_le _, n1⟩, (fun c hc => by cases hc), by simp⟩
    · cases h
  · rename_i c
    rcases e : (st.getD p.1 []).getD s none with _ | ⟨q', w'⟩
    · rw [e] at h; cases h
    · rw [e] at h
      cases h
      obtain ⟨h1, h2, h3⟩ := ent_get g p1 e
      exact ⟨⟨h1, by show p.2.1 + 1 ≤ m; omega, Nat.mod_lt _ (by omega)⟩, h2, h3⟩
theorem few_of {n m : Nat} {st : List (List Ent)} {en : List (Option (List Nat))} (g : Good n st en) (hS : st.length ≤ 4) (hn : n ≤ 5) (hm : m ≤ 2) : Few st n m := by
  have inb : ∀ k, ∀ p ∈ bfs (rowP st n m) k, InB st.length n m p := Bf.bfs_all ⟨g.s1, Nat.zero_le _, g.n1⟩ fun p hp e he q w ee => by
    subst ee
    obtain ⟨s, _, hs⟩ := List.mem_map.mp he
    exact (entP_ok g hp hs).1
  exact ⟨inb, Bf.bfs_few inb hS hn hm⟩
section
variable {n m : Nat} {st : List (List Ent)} {en : List (Option (List Nat))}
theorem fin_def (st : List (List Ent)) (n m : Nat) : finP st n m = bfs (rowP st n m) 200 := by unfold finP; rfl
theorem Few.stop (f : Few st n m) : (finP st n m).length ≤ 200 := by rw [fin_def]; exact Nat.le_trans (f.few 200) (by omega)
theorem fin_head (st : List (List Ent)) (n m : Nat) : ∃ zs, finP st n m = (0, 0, 0) :: zs := by
  obtain ⟨zs, h⟩ := Bf.bfs_pre (rowP st n m) (Nat.zero_le 200)
  rw [fin_def]
  exact ⟨zs, h⟩
theorem fin_of (f : Few st n m) {k : Nat} (h : (bfs (rowP st n m) k).length ≤ k) : finP st n m = bfs (rowP st n m) k := by rw [fin_def]; exact Bf.bfs_fin f.few h
theorem fin_in (f : Few st n m) : ∀ p ∈ finP st n m, InB st.length n m p := by rw [fin_def]; exact f.inb 200
theorem fin_75 (f : Few st n m) : (finP st n m).length ≤ 75 := by rw [fin_def]; exact f.few 200
theorem fin_nodup (st : List (List Ent)) (n m : Nat) : (finP st n m).Nodup := by rw [fin_def]; exact Bf.bfs_nodup _ _
theorem fin_closed (f : Few st n m) {p g : Pl} {w : List Nat} (hp : p ∈ finP st n m) (he : some (g, w) ∈ rowP st n m p) : g ∈ finP st n m := by
  have h := f.stop
  rw [fin_def] at *
  exact Bf.bfs_closed h hp he
theorem fin_pre {st : List (List Ent)} {n m k : Nat} (h : k ≤ 200) : ∃ zs, finP st n m = bfs (rowP st n m) k ++ zs := by rw [fin_def]; exact Bf.bfs_pre _ h
theorem get_idx {l : List Pl} {p : Pl} (h : p ∈ l) : l[l.idxOf p]? = some p := by
  rw [List.getElem?_eq_getElem (List.idxOf_lt_length_iff.mpr h), List.getElem_idxOf]
theorem stC_get (f : Few st n m) {p : Pl} (hp : p ∈ finP st n m) {x : Nat} (hx : x < n) : ((stC st n m).getD ((finP st n m).idxOf p) []).getD x none = (entP st n m p x).map fun e => ((finP st n m).idxOf e.1, e.2) := by
  have h1 : (stC st n m).getD ((finP st n m).idxOf p) [] = (rowP st n m p).map (Option.map fun e => ((finP st n m).idxOf e.1, e.2)) := by
    rw [List.getD_eq_getElem?_getD, stC, List.getElem?_map, get_idx hp]; rfl
  rw [h1, List.getD_eq_getElem?_getD, List.getElem?_map, rowP, List.getElem?_map, List.getElem?_range hx]; rfl
theorem simA (f : Few st n m) : ∀ (l : List Nat) (p : Pl) (t : List Nat), p ∈ finP st n m → (∀ x ∈ l, x < n) →
    runD (stC st n m) ((finP st n m).idxOf p) t l = (runA st n m p t l).map (fun r => ((finP st n m).idxOf r.1, r.2)) ∧ ∀ r, runA st n m p t l = some r → r.1 ∈ finP st n m
  | [], p, t, hp, _ => ⟨rfl, fun r h => by cases h; exact hp⟩
  | x :: l, p, t, hp, hl => by
    have hx := hl x List.mem_cons_self
    simp only [runD, runA, stC_get f hp hx]
    rcases e : entP st n m p x with _ | ⟨g, w⟩
    · exact ⟨rfl, fun r h => by cases h⟩
    · have hg : g ∈ finP st n m := fin_closed f hp (w := w) (List.mem_map.mpr ⟨x, List.mem_range.mpr hx, e⟩)
      exact simA f l g (t ++ w) hg fun y hy => hl y (List.mem_cons_of_mem _ hy)
theorem writ_A (f : Few st n m) {l : List Nat} (hl : ∀ x ∈ l, x < n) : writD (stC st n m) (enC st en n m) l = match runA st n m (0, 0, 0) [] l with
    | none => none
    | some (p, t) => if p.2.1 = 0 then endR en (some (p.1, t)) else none := by
  obtain ⟨zs, hz⟩ := fin_head st n m
  have h0 : (0, 0, 0) ∈ finP st n m := by rw [hz]; exact List.mem_cons_self
  have hi : (finP st n m).idxOf (0, 0, 0) = 0 := by rw [hz]; simp
  obtain ⟨h1, h2⟩ := simA f l (0, 0, 0) [] h0 hl
  rw [hi] at h1
  unfold writD
  rw [h1]
  rcases e : runA st n m (0, 0, 0) [] l with _ | ⟨p, t⟩
  · rfl
  · have hp := h2 _ e
    have : (enC st en n m).getD ((finP st n m).idxOf p) none = if p.2.1 = 0 then en.getD p.1 none else none := by
      rw [List.getD_eq_getElem?_getD, enC, List.getElem?_map, get_idx hp]; rfl
    simp only [Option.map, this]
    by_cases c : p.2.1 = 0
    · simp only [if_pos c, endR]
      try rfl
    · simp only [if_neg c]
theorem runA_blk (hn : 1 ≤ n) : ∀ (b : List Nat) (q r tot : Nat) (t : List Nat), r + b.length ≤ m → tot < n → runA st n m (q, r, tot) t b = (runD st q t b).map fun x => ((x.1, r + b.length, (tot + b.sum) % n), x.2)
  | [], q, r, tot, t, _, ht => by simp [runA, runD, Nat.mod_eq_of_lt ht]
  | x :: b, q, r, tot, t, hr, ht => by
    rw [List.length_cons] at hr
    have c : ¬ r = m := by omega
    simp only [runA, runD, entP, if_neg c]
    rcases e : (st.getD q []).getD x none with _ | ⟨q', w⟩
    · rfl
    · simp only [Option.map]
      rw [runA_blk hn b q' (r + 1) ((tot + x) % n) (t ++ w) (by omega) (Nat.mod_lt _ (by omega))]
      rw [List.length_cons, List.sum_cons, Nat.mod_add_mod, show r + 1 + b.length = r + (b.length + 1) by omega, Nat.add_assoc]
      rfl
theorem runA_read (hn : 1 ≤ n) : ∀ (k : Nat) (l : List Nat) (r q : Nat) (t : List Nat), r ≤ m → l.length = k * (m + 1) + r →
    (r = 0 → runA st n m (q, 0, 0) t l = (readB st n m k q t l).map fun x => ((x.1, 0, 0), x.2)) ∧ (r ≠ 0 → ∀ y, runA st n m (q, 0, 0) t l = some y → y.1.2.1 ≠ 0)
  | 0, l, r, q, t, hr, hl => by
    have hl : l.length = r := by simpa using hl
    refine ⟨fun c => ?_, fun c y hy => ?_⟩
    · subst c
      rw [List.length_eq_zero_iff.mp hl]; rfl
    · rw [runA_blk hn l q 0 0 t (by omega) (by omega)] at hy
      obtain ⟨x, _, rfl⟩ := Option.map_eq_some_iff.mp hy
      show 0 + l.length ≠ 0
      omega
  | k + 1, l, r, q, t, hr, hl => by
    have hlm : m < l.length := by rw [hl, Nat.add_mul]; omega
    have hb : (l.take m).length = m := by rw [List.length_take]; omega
    have hd : l.drop m = l.getD m 0 :: l.drop (m + 1) := by
      rw [List.drop_eq_getElem_cons hlm, List.getD_eq_getElem?_getD, List.getElem?_eq_getElem hlm]; rfl
    have el : runA st n m (q, 0, 0) t l = match runD st q t (l.take m) with
        | none => none
        | some x => if l.getD m 0 = (l.take m).sum % n then runA st n m (x.1, 0, 0) x.2 (l.drop (m + 1)) else none := by
      have h0 : l = l.take m ++ (l.getD m 0 :: l.drop (m + 1)) := by rw [← hd, List.take_append_drop]
      have h1 := runA_app st n m (l.take m) (l.getD m 0 :: l.drop (m + 1)) (q, 0, 0) t
      rw [← h0] at h1
      rw [h1, runA_blk hn (l.take m) q 0 0 t (by omega) (by omega)]
      rcases runD st q t (l.take m) with _ | ⟨q', t'⟩
      · rfl
      · simp only [Option.map, runA, entP, hb, Nat.zero_add, if_true]
        by_cases c : l.getD m 0 = (l.take m).sum % n
        · rw [if_pos c, if_pos c]; simp only [List.append_nil]
        · rw [if_neg c, if_neg c]
    have hl2 : (l.drop (m + 1)).length = k * (m + 1) + r := by rw [List.length_drop, hl, Nat.add_mul]; omega
    rw [el]
    simp only [readB]
    rcases runD st q t (l.take m) with _ | ⟨q', t'⟩
    · exact ⟨fun _ => rfl, fun _ y hy => by cases hy⟩
    · by_cases c : l.getD m 0 = (l.take m).sum % n
      · simp only [if_pos c]
        exact runA_read hn k _ r q' t' hr hl2
      · simp only [if_neg c]
        exact ⟨fun _ => rfl, fun _ y hy => by cases hy⟩
theorem writ_check (f : Few st n m) (hn : 1 ≤ n) {l : List Nat} (hl : ∀ x ∈ l, x < n) : writD (stC st n m) (enC st en n m) l = readP st en n m l := by
  rw [writ_A f hl]
  have hd : l.length = l.length / (m + 1) * (m + 1) + l.length % (m + 1) := by rw [Nat.mul_comm]; exact (Nat.div_add_mod _ _).symm
  obtain ⟨h1, h2⟩ := runA_read (st := st) (m := m) hn (l.length / (m + 1)) l (l.length % (m + 1)) 0 [] (by have := Nat.mod_lt l.length (show 0 < m + 1 by omega); omega) hd
  unfold readP
  by_cases c : l.length % (m + 1) = 0
  · rw [if_pos c, h1 c]
    rcases readB st n m (l.length / (m + 1)) 0 [] l with _ | ⟨q, t⟩
    · rfl
    · simp [Option.map]
  · rw [if_neg c]
    rcases e : runA st n m (0, 0, 0) [] l with _ | y
    · rfl
    · have := h2 c y e
      simp only [if_neg this]
/-! a changed sign -/
theorem sum_set : ∀ (l : List Nat) (i y : Nat), i < l.length → (l.set i y).sum + l.getD i 0 = l.sum + y
  | x :: l, 0, y, _ => by simp; omega
  | x :: l, i + 1, y, h => by
    have := sum_set l i y (by simpa using h)
    simp only [List.set_cons_succ, List.sum_cons, List.getD_cons_succ] at *
    omega
theorem readB_set (hn : 1 ≤ n) : ∀ (k : Nat) (l : List Nat) (q : Nat) (t : List Nat) (i y : Nat), l.length = k * (m + 1) → i < l.length → y ≠ l.getD i 0 → y < n → (∀ x ∈ l, x < n) → (readB st n m k q t l).isSome = true → readB st n m k q t (l.set i y) = none
  | 0, l, q, t, i, y, hl, hi, _, _, _, _ => by rw [Nat.zero_mul] at hl; omega
  | k + 1, l, q, t, i, y, hl, hi, ne, hy, hall, h => by
    have hlm : m < l.length := by rw [hl, Nat.add_mul]; omega
    simp only [readB] at h ⊢
    rcases e : runD st q t (l.take m) with _ | ⟨q', t'⟩
    · rw [e] at h; cases h
    rw [e] at h
    by_cases c : l.getD m 0 = (l.take m).sum % n
    · simp only [if_pos c] at h
      have gx : l.getD i 0 < n := by
        rw [List.getD_eq_getElem?_getD, List.getElem?_eq_getElem hi]
        exact hall _ (List.getElem_mem _)
      rcases Nat.lt_trichotomy i m with c1 | c1 | c1
      · rw [List.take_set]
        rcases e2 : runD st q t ((l.take m).set i y) with _ | ⟨q2, t2⟩
        · rfl
        · have h1 : (l.set i y).getD m 0 = l.getD m 0 := by
            rw [List.getD_eq_getElem?_getD, List.getD_eq_getElem?_getD, List.getElem?_set_ne (by omega)]
          have hs := sum_set (l.take m) i y (by rw [List.length_take]; omega)
          have hg : (l.take m).getD i 0 = l.getD i 0 := by
            rw [List.getD_eq_getElem?_getD, List.getD_eq_getElem?_getD, List.getElem?_take_of_lt c1]
          rw [hg] at hs
          simp only
          rw [h1, if_neg]
          intro c2
          rw [c] at c2
          -- both sums alike mod n: x and y alike
          have e3 : (l.take m).sum % n = ((l.take m).set i y).sum % n := c2
          generalize (l.take m).sum = A at *
          generalize ((l.take m).set i y).sum = B at *
          generalize l.getD i 0 = x at *
          rcases Nat.lt_or_ge x y with c3 | c3
          · have : B = A + (y - x) := by omega
            subst this
            have d := Nat.sub_mod_eq_zero_of_mod_eq e3.symm
            rw [show A + (y - x) - A = y - x by omega, Nat.mod_eq_of_lt (by omega)] at d
            omega
          · have : A = B + (x - y) := by omega
            subst this
            have d := Nat.sub_mod_eq_zero_of_mod_eq e3
            rw [show B + (x - y) - B = x - y by omega, Nat.mod_eq_of_lt (by omega)] at d
            omega
      · subst c1
        rw [show (l.set i y).take i = l.take i by rw [List.take_set, List.set_eq_of_length_le (by rw [List.length_take]; omega)], e]
        simp only
        rw [if_neg]
        rw [List.getD_eq_getElem?_getD, List.getElem?_set_self hi]
        intro c2
        exact ne (by rw [c]; exact c2)
      · rw [show (l.set i y).take m = l.take m by rw [List.take_set, List.set_eq_of_length_le (by rw [List.length_take]; omega)], e]
        simp only
        rw [show (l.set i y).getD m 0 = l.getD m 0 by rw [List.getD_eq_getElem?_getD, List.getD_eq_getElem?_getD, List.getElem?_set_ne (by omega)], if_pos c]
        rw [List.drop_set, if_neg (by omega)]
        refine readB_set hn k _ q' t' (i - (m + 1)) y (by rw [List.length_drop, hl, Nat.add_mul]; omega) (by rw [List.length_drop]; omega) ?_ hy (fun x hx => hall x (List.mem_of_mem_drop hx)) h
        rw [List.getD_eq_getElem?_getD, List.getElem?_drop, show m + 1 + (i - (m + 1)) = i by omega, ← List.getD_eq_getElem?_getD]
        exact ne
    · simp only [if_neg c] at h; cases h
theorem read_set (hn : 1 ≤ n) {l : List Nat} {i y : Nat} (hi : i < l.length) (ne : y ≠ l.getD i 0) (hy : y < n) (hall : ∀ x ∈ l, x < n) {w : List Nat} (h : readP st en n m l = some w) : readP st en n m (l.set i y) = none := by
  unfold readP at h ⊢
  rw [List.length_set]
  by_cases c : l.length % (m + 1) = 0
  · rw [if_pos c] at h ⊢
    have hl : l.length = l.length / (m + 1) * (m + 1) := by
      have := Nat.div_add_mod l.length (m + 1)
      rw [c, Nat.add_zero, Nat.mul_comm] at this
      exact this.symm
    rw [readB_set hn (l.length / (m + 1)) l 0 [] i y hl hi ne hy hall ?_]
    · rfl
    · rcases e : readB st n m (l.length / (m + 1)) 0 [] l with _ | x
      · rw [e] at h; cases h
      · rfl
  · rw [if_neg c]
theorem good_C (g : Good n st en) (f : Few st n m) (h40 : (finP st n m).length ≤ 40) : Good n (stC st n m) (enC st en n m) := by
  have l1 : (stC st n m).length = (finP st n m).length := by simp [stC]
  refine ⟨g.n1, g.n5, ?_, by rw [l1]; exact h40, ?_, ?_, by simp [enC, stC], ?_⟩
  · obtain ⟨zs, hz⟩ := fin_head st n m
    rw [l1, hz]; simp
  · intro r hr
    obtain ⟨p, _, rfl⟩ := List.mem_map.mp hr
    simp [rowP]
  · intro r hr e he
    obtain ⟨p, hp, rfl⟩ := List.mem_map.mp hr
    obtain ⟨x, hx, rfl⟩ := List.mem_map.mp he
    obtain ⟨s, hs, rfl⟩ := List.mem_map.mp hx
    rcases e2 : entP st n m p s with _ | ⟨q, w⟩
    · trivial
    · have hq : q ∈ finP st n m := fin_closed f hp (w := w) (List.mem_map.mpr ⟨s, hs, e2⟩)
      obtain ⟨_, h2, h3⟩ := entP_ok g (fin_in f p hp) e2
      exact ⟨by rw [l1]; exact List.idxOf_lt_length_iff.mpr hq, h2, h3⟩
  · intro e he
    obtain ⟨p, hp, rfl⟩ := List.mem_map.mp he
    split
    · have hp1 := (fin_in f p hp).1
      have : en.getD p.1 none ∈ en := by
        rw [List.getD_eq_getElem?_getD, List.getElem?_eq_getElem (by rw [g.le]; exact hp1)]; exact List.getElem_mem _
      exact g.enk _ this
    · trivial
end
end Sw
namespace Sw
open PySem PySem.Spec PyProof.Rows L2
open Sw.Bf (Pl PEnt entP rowP addP bfs InB)
local macro_rules | `(tactic| walk_at "hp") => `(tactic| first
  | (with_reducible assumption) | (with_reducible exact upd_same)
  | ((with_reducible refine' upd_old ?q1 ?q2); (case q1 => (with_reducible assumption)); (case q2 => walk_at "hp"))
  | ((with_reducible refine' Same.at ?q1 ?q2); (case q1 => (with_reducible assumption)); (case q2 => walk_at "hp"))
  | ((with_reducible refine' upd_skip ?q1 ?q2); (case q1 => walk_at "ne"); (case q2 => walk_at "hp"))
  | fail)
local macro_rules | `(tactic| walk_at "ne") => `(tactic| first
  | (with_reducible assumption) | (with_reducible exact Ne.symm (by assumption))
  | ((with_reducible refine' ne_of_none ?q1 ?q2); (case q2 => (with_reducible assumption)); (case q1 => walk_at "hp"))
  | fail)
local macro_rules | `(tactic| walk_at "ci") => `(tactic| first | assumption | (show (0 : Int) < _; first | decide | (with_reducible omega)) | exact ⟨by decide, by decide⟩ | exact .inl ⟨by decide, by decide⟩ | exact .inr ⟨by decide, by decide⟩)
local macro_rules | `(tactic| walk_at "ln") => `(tactic| first | (with_reducible assumption) | (with_reducible omega) | (simp only [List.length_append, List.length_take, List.length_drop, List.length_reverse, List.length_cons, List.length_nil]; with_reducible omega))
local macro_rules | `(tactic| walk_at "rd1") => `(tactic| first
  | (with_reducible refine i_seq ?_) | (with_reducible refine i_asg ?_) | (with_reducible refine i_ret ?_) | (with_reducible refine i_name ?_) | ((with_reducible refine' i_var ?q1 ?_); (case q1 => exact rfl)) | (with_reducible refine i_c ?_) | (with_reducible refine i_op ?_) | (with_reducible refine i_un ?_)
  | (with_reducible refine i_rI0 ?_) | (with_reducible refine i_cb ?_) | (with_reducible refine i_cons ?_) | (with_reducible refine i_nil ?_) | (with_reducible refine i_call ?_) | (with_reducible refine i_if ?_) | (with_reducible refine i_ifE ?_) | (with_reducible refine i_test ?_) | (with_reducible refine i_bl ?_)
  | (with_reducible refine i_and ?_) | (with_reducible refine i_or ?_) | (with_reducible refine i_not ?_) | (with_reducible refine i_lstM ?_) | (with_reducible refine i_lstLM ?_) | (with_reducible refine i_tupM ?_) | (with_reducible refine i_next ?_) | (with_reducible refine i_drop ?_) | (with_reducible refine i_sub ?_)
  | (with_reducible refine i_bm ?_) | (with_reducible refine i_sl ?_) | (with_reducible refine i_part ?_) | (with_reducible refine i_nopart ?_) | (with_reducible refine i_exI ?_) | (with_reducible refine i_chain ?_) | ((with_reducible refine' i_aug ?q1 ?_); (case q1 => exact rfl)) | (with_reducible refine i_ip ?_)
  | (with_reducible refine i_par ?_) | (with_reducible refine i_pair ?_) | (with_reducible refine i_andV ?_) | (with_reducible refine i_orV ?_) | (with_reducible refine i_notV ?_) | (with_reducible refine i_m1 ?_) | (with_reducible refine i_str ?_)
  | (with_reducible refine iteF ?_) | (with_reducible refine iteT ?_) | (with_reducible refine iteNT ?_) | (with_reducible refine iteNF ?_) | (with_reducible refine i_tyS ?_) | (with_reducible refine i_tB ?_) | (with_reducible refine i_retN ?_) | (with_reducible refine i_par3 ?_) | (with_reducible refine i_trip ?_) | (with_reducible refine i_gCons ?_) | (with_reducible refine i_gNil ?_) | (with_reducible refine i_lstRg ?_) | (with_reducible refine i_rg1 ?_)
  | (with_reducible refine i_lc ?_) | (with_reducible refine i_for ?_) | (with_reducible refine i_iList ?_) | (with_reducible refine i_iTup ?_) | (with_reducible refine i_iStr ?_) | (with_reducible refine i_iRng1 ?_) | (with_reducible refine i_iEnS ?_)
  | ((with_reducible refine' i_ixTH ?q1 ?q2 ?_); (case q1 => walk_at "hp"); (case q2 => exact rfl))
  | ((with_reducible refine' i_ixLH ?q1 ?q2 ?_); (case q1 => walk_at "hp"); (case q2 => exact rfl))
  | ((with_reducible refine i_addS ?q1 ?_); (case q1 => walk_at "ln")) | ((with_reducible refine i_lenSS ?q1 ?_); (case q1 => walk_at "ln")) | ((with_reducible refine i_slFrom ?q1 ?q2 ?_); (case q1 => walk_at "ln"); (case q2 => walk_at "ln")) | ((with_reducible refine i_slTo ?q1 ?q2 ?_); (case q1 => walk_at "ln"); (case q2 => walk_at "ln"))
  | ((with_reducible refine' i_tyL ?q1 ?_); (case q1 => walk_at "hp"))
  | ((with_reducible refine' i_gTupH ?q1 ?q2 ?_); (case q1 => walk_at "hp"); (case q2 => exact rfl))
  | (with_reducible refine i_dnewM ?_) | (with_reducible refine i_init ?_) | (with_reducible refine i_fst ?_) | (with_reducible refine i_mk ?_) | (with_reducible refine i_mkF ?_) | (with_reducible refine i_raise ?_) | (with_reducible refine i_callS ?_) | (with_reducible refine i_kwS ?_)
  | (with_reducible refine i_revT ?_) | (with_reducible refine i_kw ?_) | ((with_reducible refine' ⟨_, _, rfl, sqT_of ?q1, ?_⟩); (case q1 => walk_at "hp"))
  | (with_reducible refine i_revS ?_) | ((with_reducible refine i_revSS ?q1 ?_); (case q1 => walk_at "ln"))
  | (with_reducible refine i_startS ?_) | (with_reducible refine i_inSg ?_) | (with_reducible refine i_absN ?_) | (with_reducible refine i_min2 ?_) | (with_reducible refine i_max2 ?_) | (with_reducible refine i_min3 ?_) | (with_reducible refine i_intN ?_) | (with_reducible refine i_intNB ?_)
  | ((with_reducible refine' i_lenL ?q1 ?_); (case q1 => walk_at "hp")) | ((with_reducible refine' i_lenT ?q1 ?_); (case q1 => walk_at "hp"))
  | (with_reducible refine i_eqI ?_) | (with_reducible refine i_neI ?_) | (with_reducible refine i_eqS ?_) | (with_reducible refine i_neS ?_) | (with_reducible refine i_isNoI ?_) | (with_reducible refine i_isNoN ?_) | (with_reducible refine i_isNoR ?_)
  | ((with_reducible refine i_pow ?q1 ?q2 ?q3 ?_); (case q1 => decide); (case q2 => decide); (case q3 => (with_reducible omega)))
  | ((with_reducible refine i_rI ?q1 ?_); (case q1 => walk_at "ci"))
  | (with_reducible refine Or.inl ⟨_, rfl, ?_⟩) | (with_reducible refine Or.inr ⟨_, rfl, ?_⟩) | (with_reducible refine ⟨_, rfl, ?_⟩) | (with_reducible refine ⟨_, _, rfl, ?_⟩) | (with_reducible refine ⟨_, _, rfl, rfl, ?_⟩)
  | ((with_reducible refine' ⟨_, _, rfl, Or.inl (sqL_of ?q1), ?_⟩); (case q1 => walk_at "hp")) | ((with_reducible refine' ⟨_, _, rfl, Or.inr (sqT_of ?q1), ?_⟩); (case q1 => walk_at "hp")) | (with_reducible refine i_dget ?_) | (with_reducible refine i_disp1T ?_) | (with_reducible refine i_dcT ?_) | (with_reducible refine i_dnewT ?_) | (with_reducible refine i_fld ?_) | (with_reducible refine i_sFld ?_) | (with_reducible refine i_make ?_) | (with_reducible refine i_meth ?_) | (with_reducible refine i_star ?_) | (with_reducible refine i_isNoS ?_) | (with_reducible refine i_lc2 ?_) | (with_reducible refine i_iEnT ?_) | (with_reducible refine i_iZipT ?_) | fail)
local macro_rules | `(tactic| walk_at "rd") => `(tactic| repeat' walk_at "rd1")

/-! ### places and rows of places in the heap -/
abbrev plV (p : Pl) : List V := [iV p.1, iV p.2.1, iV p.2.2]
def PlAt (H : Hp) (v : V) (p : Pl) : Prop := ∃ t, v = .ref t ∧ H t = some (.tup (plV p))
def PeAt (H : Hp) (v : V) : PEnt → Prop
  | none => v = .non
  | some (p, w) => ∃ t u, v = .ref t ∧ H t = some (.tup [.ref u, .str (S w)]) ∧ H u = some (.tup (plV p))
def PrAt (H : Hp) (v : V) (es : List PEnt) : Prop := ∃ a vs, v = .ref a ∧ H a = some (.lst vs) ∧ Paired (PeAt H) vs es
theorem PlAt.tk {H H' : Hp} (s : TK H H') {v : V} {p : Pl} (h : PlAt H v p) : PlAt H' v p := by
  obtain ⟨t, e, h⟩ := h; exact ⟨t, e, s _ _ h⟩
theorem PeAt.tk {H H' : Hp} (s : TK H H') {v : V} {e : PEnt} (h : PeAt H v e) : PeAt H' v e := by
  rcases e with _ | ⟨p, w⟩
  · exact h
  · obtain ⟨t, u, e, h1, h2⟩ := h; exact ⟨t, u, e, s _ _ h1, s _ _ h2⟩
theorem PrAt.same {H H' : Hp} (s : Same H H') {v : V} {es : List PEnt} (h : PrAt H v es) : PrAt H' v es := by
  obtain ⟨a, vs, e, h1, h2⟩ := h; exact ⟨a, vs, e, s _ _ h1, Paired.mapP h2 fun _ _ z => z.tk (TK.of s)⟩
theorem TK.sb {H H' : Hp} {p : Addr} {xs : List V} (s : SB p H H') (e : H p = some (.lst xs)) : TK H H' := fun a zs ea => s _ _ (fun c => by rw [c, e] at ea; cases ea) ea
theorem SB.set_old {p : Addr} {H H1 : Hp} {o : HO} (s : SB p H H1) : SB p H (L2.upd H1 p o) := fun a u na ha => by rw [L2.upd_ne na]; exact s a u na ha
theorem SB.same_new {p : Addr} {H H1 H2 : Hp} (n : H p = none) (s : Same H H1) (t : SB p H1 H2) : Same H H2 := fun a o e => t _ _ (fun c => by rw [c, n] at e; cases e) (s _ _ e)
/-- checked_row(decoder, size, place) -/
def spRow (C : Addr) : Sp := fun vs H Q _ => ∃ (v pv : V) (n m : Nat) (st : List (List Ent)) (en : List (Option (List Nat))) (p : Pl), vs = [v, iV m, pv] ∧ DAt C H v n st en ∧ Good n st en ∧ PlAt H pv p ∧ InB st.length n m p ∧
  ∀ v' H', Same H H' → PrAt H' v' (rowP st n m p) → (∀ a, v' = .ref a → H a = none) → Q v' H'
theorem rowP_take {st : List (List Ent)} {n m i : Nat} {p : Pl} (h : i < n) : (rowP st n m p).take (i + 1) = (rowP st n m p).take i ++ [entP st n m p i] := by
  rw [List.take_add_one, rowP, List.getElem?_map, List.getElem?_range h]; rfl
section
variable {P : Program} {w : World} {K : PySem.W.Frag} {mg : Str → Option Value} {base : Heap} {f : Addr} {fd : FuncData}
theorem ok_row {C : Addr} (F : Fun K "checked_row" "checked_row" s_checked_row f fd) (z : Z mg) (dc : DcC K C) : FnOk P w K mg base CX0 1 f fd ["decoder", "size", "place"] (spRow C) := by
  refine F.ok sc_checked_row (fun vs H Q E h => ?_) (fun cdv A outer s H vs Q E hr h => ?_)
  · obtain ⟨v, pv, n, m, st, en, p, rfl, _⟩ := h; rfl
  · obtain ⟨v, pv, n, m, st, en, ⟨q, r, tot⟩, rfl, ⟨a, dx, p1, p2, rfl, ha, hp1, hp2⟩, g, ⟨pa, rfl, epa⟩, ⟨b1, b2, b3⟩, k⟩ := h
    refine ⟨_, (pss_cons (ps_asg (pv 2) (pg_tup rfl (pgs_cons (pg_name (i := 3) sc_checked_row.nd rfl (.inr rfl)) (pgs_cons (pg_name (i := 4) sc_checked_row.nd rfl (.inl rfl)) (pgs_cons (pg_name (i := 5) sc_checked_row.nd rfl (.inr rfl)) pgs_nil)))))
      (pss_cons (ps_if (pt_cmpR op_eq (pv 4) (pv 1) (nomark _))
        (pss_one (ps_ret (pe_lc (own := [("sign", 6)]) (g := gName 6) (tt := tYes) rfl sc_checked_row.nd (pi_range1 (by rfl) z.range (pa_cons (pe_fld (pv 0) (by rfl)) pa_nil)) (blkOk_by (own := [("sign", 6)]) (N := n_checked_row) (sc := defScope s_checked_row) (by decide +kernel)) (fun _ _ _ _ _ => (pg_name (i := 6) sc_checked_row.nd rfl (.inl rfl))) (fun _ _ _ _ _ => pts_nil) (fun _ _ _ _ _ => (pe_ifExp (pt_cmpR op_eq (pv 6) (pv 5) (nomark _)) (pe_tup (pa_cons (pe_tup (pa_cons (pv 3) (pa_cons pe_int (pa_cons pe_int pa_nil)))) (pa_cons (pe_strS (l := []) (by decide +kernel)) pa_nil))) pe_non)))))
        pss_nil)
      (pss_cons (ps_set (i := 7) sc_checked_row.nd rfl (.inl rfl) (pe_lst pa_nil))
      (pss_cons (ps_for PassesOwn.never rfl (pi_enumT (by rfl) z.enumerate (pa_cons (pe_ix ix_tup (pe_fld (pv 0) (by rfl)) (pv 3) (fun _ _ => rfl)) pa_nil)) (pg_tup rfl (pgs_cons (pg_name (i := 6) sc_checked_row.nd rfl (.inl rfl)) (pgs_cons (pg_name (i := 8) sc_checked_row.nd rfl (.inl rfl)) pgs_nil)))
        (pss_cons (ps_set (i := 9) sc_checked_row.nd rfl (.inl rfl) (pe_op op_mod (pe_op op_add (pv 5) (pv 6)) (pe_fld (pv 0) (by rfl))))
        (pss_one (ps_expr (pe_bm PySem.F.plainAttrs_list PySem.F.slot_list_append PySem.F.type_list_append mt_append (pv 7) (pa_cons (pe_ifExp (pt_cmpR op_isNo (pv 8) pe_non (nomark _)) pe_non (pe_tup (pa_cons (pe_tup (pa_cons (pe_ix ix_tup (pv 8) pe_int (fun _ _ => rfl)) (pa_cons (pe_op op_add (pv 4) pe_int) (pa_cons (pv 9) pa_nil)))) (pa_cons (pe_ix ix_tup (pv 8) pe_int (fun _ _ => rfl)) pa_nil)))) pa_nil))))))
      (pss_one (ps_ret (pv 7))))))), ?_⟩
    have n5 := g.n5
    walk_at "rd"
    refine iteB (fun c => ?_) (fun c => ?_)
    · have c : r = m := by have c : (r : Int) = (m : Int) := c; omega
      subst c
      walk_at "rd"
      refine i_fldD dc.cl dc.a1 ha rfl ?_
      walk_at "rd"
      refine i_rng (by omega) (by omega) ?_
      rw [Int.toNat_natCast]
      refine go_lc walk_rangeZ (fun p i Hx => ∃ vs, Hx p = some (.lst vs) ∧ Paired (PeAt Hx) vs ((rowP st n r (q, r, tot)).take i) ∧ Same H Hx) (fun p np => ⟨[], upd_same, .nil, same_upd np⟩) (fun _ _ _ _ _ => trivial) (fun p np i v Hx Hy hi h y => ?_) (fun lp Hx nlp h => ?_)
      · obtain ⟨vs, ep, pr, sx⟩ := h
        obtain ⟨rfl, rfl⟩ := y
        have hl : vs.length < sizeLine := sm100 (by rw [Paired.length pr, List.length_take]; omega)
        rw [rowP_take hi]
        walk_at "rd"
        refine ⟨rfl, i_yes (iteT ?_)⟩
        walk_at "rd"
        refine iteB (fun c => ?_) (fun c => ?_)
        · have c : i = tot := by have c : (i : Int) = (tot : Int) := c; omega
          walk_at "rd"
          refine newT0 (Nat.le_of_ble_eq_true rfl) fun u H1 nu s1 eu => ?_
          walk_at "rd"
          refine newT0 (Nat.le_of_ble_eq_true rfl) fun t H2 nt s2 et => ?_
          have e : entP st n r (q, r, tot) i = some ((q, 0, 0), []) := by simp [entP, c]
          have ep2 := (s1.trans s2) _ _ ep
          refine ⟨vs, ep2, hl, _, upd_same, ?_, Same.set_new (sx.trans (s1.trans s2)) np⟩
          rw [e]
          have tk := (TK.of (s1.trans s2)).trans (TK.lst (ys := vs ++ [.ref t]) ep2)
          exact Paired.snoc (Paired.mapP pr fun _ _ z => z.tk tk) ⟨t, u, rfl, TK.lst ep2 _ _ et, TK.lst ep2 _ _ (s2 _ _ eu)⟩
        · walk_at "rd"
          have c : ¬ i = tot := by have c : ¬ (i : Int) = (tot : Int) := c; omega
          have e : entP st n r (q, r, tot) i = none := by simp [entP, c]
          refine ⟨vs, ep, hl, _, upd_same, ?_, Same.set_new sx np⟩
          rw [e]
          exact Paired.snoc (Paired.mapP pr fun _ _ z => z.tk (TK.lst ep)) rfl
      · obtain ⟨vs, ep, pr, sx⟩ := h
        rw [List.take_of_length_le (by simp [rowP])] at pr
        walk_at "rd"
        exact k _ _ sx ⟨lp, vs, rfl, ep, pr⟩ fun a e => by cases e; exact nlp
    · have c : ¬ r = m := by have c : ¬ (r : Int) = (m : Int) := c; omega
      have b1 : q < st.length := b1
      have b2 : r ≤ m := b2
      have b3 : tot < n := b3
      walk_at "rd"
      refine ⟨Nat.le_of_ble_eq_true rfl, fun rp nrp => ?_⟩
      have e1 := upd_same (H := H) (a := rp) (o := HO.lst [])
      have s1 := same_upd (o := HO.lst []) nrp
      generalize upd H rp (.lst []) = H1 at *
      have ha1 := s1 _ _ ha
      obtain ⟨p1', vs, ex1, ep1, pr1⟩ := hp1.same s1
      cases ex1
      have gq : st[q]? = some (st.getD q []) := by rw [List.getD_eq_getElem?_getD, List.getElem?_eq_getElem b1]; rfl
      have lq := g.row _ (List.mem_of_getElem? gq)
      obtain ⟨vr, gvr, rr, rs, rfl, err, prr⟩ := pairedAt2 pr1 gq
      have nrr : rr ≠ rp := fun c => by rw [c, e1] at err; cases err
      have lrs : rs.length = n := (Paired.length prr).trans lq
      walk_at "rd"
      refine i_fldD dc.cl dc.a3 ha1 rfl ?_
      walk_at "rd"
      refine i_ixTn (k := q) (sqT_of ep1) gvr ?_
      walk_at "rd"
      refine go_for (walk_enumT (xs := rs)) (fun i σ Hx => ∃ (us : List V) (u6 u8 u9 : Option V), σ = [some (.ref a), some (iV m), some (.ref pa), some (iV q), some (iV r), some (iV tot), u6, some (.ref rp), u8, u9] ∧ Hx rp = some (.lst us) ∧ Paired (PeAt Hx) us ((rowP st n m (q, r, tot)).take i) ∧ SB rp H1 Hx)
        ⟨[], none, none, none, rfl, e1, .nil, SB.refl _⟩ (fun i σ Hx hi h => ?_) (fun i v σ Hx Hy hi h y => ?_) (fun σ Hx h => ?_)
      · obtain ⟨us, u6, u8, u9, rfl, eu, pu, sx⟩ := h
        exact sqT_of (sx _ _ nrr err)
      · obtain ⟨us, u6, u8, u9, rfl, eu, pu, sx⟩ := h
        obtain ⟨T, x1, ve, rfl, nT, rfl, ex1, gve⟩ := y
        cases ex1
        have gve : rs[i]? = some ve := gve
        obtain ⟨ee, gee, hee⟩ := pairedAt prr gve
        have hi : i < n := by omega
        have sT := same_upd (o := HO.tup [.int (i : Nat), ve]) nT
        have eT := upd_same (H := Hx) (a := T) (o := HO.tup [.int (i : Nat), ve])
        have hee := (hee.tk (TK.sb sx e1)).same sT
        have eu := sT _ _ eu
        have pu := Paired.mapP pu fun _ _ z => PeAt.tk (TK.of sT) z
        have sx := SB.trans sx (SB.of sT)
        generalize upd Hx T (.tup [.int (i : Nat), ve]) = Hy at *
        have hay := sx _ _ (fun c => by rw [c, e1] at ha1; cases ha1) ha1
        have hl : us.length < sizeLine := sm100 (by rw [Paired.length pu, List.length_take]; omega)
        have gd : ((st.getD q []).getD i none) = ee := by rw [List.getD_eq_getElem?_getD (l := st.getD q []), gee]; rfl
        have n1 := g.n1
        rw [← lrs] at hi
        walk_at "rd"
        refine i_fldD dc.cl dc.a1 hay rfl ?_
        walk_at "rd"
        rw [show ((tot : Int) + (i : Int)) % (n : Int) = (((tot + i) % n : Nat) : Int) by rw [Int.natCast_emod, Int.natCast_add]]
        rcases ee with _ | ⟨q', wd⟩
        · cases (show ve = V.non from hee)
          walk_at "rd"
          refine i_append eu hl ?_
          have e : entP st n m (q, r, tot) i = none := by simp only [entP, if_neg c, gd]; rfl
          refine ⟨_, _, _, _, rfl, upd_same, ?_, ?_⟩
          · rw [rowP_take (by omega), e]
            exact Paired.snoc (Paired.mapP pu fun _ _ z => z.tk (TK.lst eu)) rfl
          · exact SB.set_old sx
        · obtain ⟨tp, rfl, etp⟩ := hee
          walk_at "rd"
          refine newT0 (Nat.le_of_ble_eq_true rfl) fun u H3 nu s3 eu3 => ?_
          walk_at "rd"
          refine newT0 (Nat.le_of_ble_eq_true rfl) fun t H4 nt s4 et => ?_
          have s34 := s3.trans s4
          have e : entP st n m (q, r, tot) i = some ((q', r + 1, (tot + i) % n), wd) := by simp only [entP, if_neg c, gd]; rfl
          have eu4 := s34 _ _ eu
          walk_at "rd"
          refine i_append eu4 hl ?_
          refine ⟨_, _, _, _, rfl, upd_same, ?_, ?_⟩
          · rw [rowP_take (by omega), e]
            have tk := (TK.of s34).trans (TK.lst (ys := us ++ [.ref t]) eu4)
            exact Paired.snoc (Paired.mapP pu fun _ _ z => z.tk tk) ⟨t, u, rfl, TK.lst eu4 _ _ et, TK.lst eu4 _ _ (s4 _ _ eu3)⟩
          · exact SB.set_old (sx.trans (SB.of s34))
      · obtain ⟨us, u6, u8, u9, rfl, eu, pu, sx⟩ := h
        rw [lrs, List.take_of_length_le (by simp [rowP])] at pu
        walk_at "rd"
        exact k _ _ (SB.same_new nrp s1 sx) ⟨rp, us, rfl, eu, pu⟩ fun a e => by cases e; exact nrp
end
end Sw
namespace Sw
open PySem PySem.Spec PyProof.Rows L2
open Sw.Bf (Pl PEnt entP rowP addP bfs InB)
local macro_rules | `(tactic| walk_at "hp") => `(tactic| first
  | (with_reducible assumption) | (with_reducible exact upd_same)
  | ((with_reducible refine' upd_old ?q1 ?q2); (case q1 => (with_reducible assumption)); (case q2 => walk_at "hp"))
  | ((with_reducible refine' Same.at ?q1 ?q2); (case q1 => (with_reducible assumption)); (case q2 => walk_at "hp"))
  | ((with_reducible refine' upd_skip ?q1 ?q2); (case q1 => walk_at "ne"); (case q2 => walk_at "hp"))
  | fail)
local macro_rules | `(tactic| walk_at "ne") => `(tactic| first
  | (with_reducible assumption) | (with_reducible exact Ne.symm (by assumption))
  | ((with_reducible refine' ne_of_none ?q1 ?q2); (case q2 => (with_reducible assumption)); (case q1 => walk_at "hp"))
  | fail)
local macro_rules | `(tactic| walk_at "ci") => `(tactic| first | assumption | (show (0 : Int) < _; first | decide | (with_reducible omega)) | exact ⟨by decide, by decide⟩ | exact .inl ⟨by decide, by decide⟩ | exact .inr ⟨by decide, by decide⟩)
local macro_rules | `(tactic| walk_at "ln") => `(tactic| first | (with_reducible assumption) | (with_reducible omega) | (simp only [List.length_append, List.length_take, List.length_drop, List.length_reverse, List.length_cons, List.length_nil]; with_reducible omega))
local macro_rules | `(tactic| walk_at "rd1") => `(tactic| first
  | (with_reducible refine i_seq ?_) | (with_reducible refine i_asg ?_) | (with_reducible refine i_ret ?_) | (with_reducible refine i_name ?_) | ((with_reducible refine' i_var ?q1 ?_); (case q1 => exact rfl)) | (with_reducible refine i_c ?_) | (with_reducible refine i_op ?_) | (with_reducible refine i_un ?_)
  | (with_reducible refine i_rI0 ?_) | (with_reducible refine i_cb ?_) | (with_reducible refine i_cons ?_) | (with_reducible refine i_nil ?_) | (with_reducible refine i_call ?_) | (with_reducible refine i_if ?_) | (with_reducible refine i_ifE ?_) | (with_reducible refine i_test ?_) | (with_reducible refine i_bl ?_)
  | (with_reducible refine i_and ?_) | (with_reducible refine i_or ?_) | (with_reducible refine i_not ?_) | (with_reducible refine i_lstM ?_) | (with_reducible refine i_lstLM ?_) | (with_reducible refine i_tupM ?_) | (with_reducible refine i_next ?_) | (with_reducible refine i_drop ?_) | (with_reducible refine i_sub ?_)
  | (with_reducible refine i_bm ?_) | (with_reducible refine i_sl ?_) | (with_reducible refine i_part ?_) | (with_reducible refine i_nopart ?_) | (with_reducible refine i_exI ?_) | (with_reducible refine i_chain ?_) | ((with_reducible refine' i_aug ?q1 ?_); (case q1 => exact rfl)) | (with_reducible refine i_ip ?_)
  | (with_reducible refine i_par ?_) | (with_reducible refine i_pair ?_) | (with_reducible refine i_andV ?_) | (with_reducible refine i_orV ?_) | (with_reducible refine i_notV ?_) | (with_reducible refine i_m1 ?_) | (with_reducible refine i_str ?_)
  | (with_reducible refine iteF ?_) | (with_reducible refine iteT ?_) | (with_reducible refine iteNT ?_) | (with_reducible refine iteNF ?_) | (with_reducible refine i_tyS ?_) | (with_reducible refine i_tB ?_) | (with_reducible refine i_retN ?_) | (with_reducible refine i_par3 ?_) | (with_reducible refine i_trip ?_) | (with_reducible refine i_gCons ?_) | (with_reducible refine i_gNil ?_) | (with_reducible refine i_lstRg ?_) | (with_reducible refine i_rg1 ?_)
  | (with_reducible refine i_lc ?_) | (with_reducible refine i_for ?_) | (with_reducible refine i_iList ?_) | (with_reducible refine i_iTup ?_) | (with_reducible refine i_iStr ?_) | (with_reducible refine i_iRng1 ?_) | (with_reducible refine i_iEnS ?_)
  | ((with_reducible refine' i_ixTH ?q1 ?q2 ?_); (case q1 => walk_at "hp"); (case q2 => exact rfl))
  | ((with_reducible refine' i_ixLH ?q1 ?q2 ?_); (case q1 => walk_at "hp"); (case q2 => exact rfl))
  | ((with_reducible refine i_addS ?q1 ?_); (case q1 => walk_at "ln")) | ((with_reducible refine i_lenSS ?q1 ?_); (case q1 => walk_at "ln")) | ((with_reducible refine i_slFrom ?q1 ?q2 ?_); (case q1 => walk_at "ln"); (case q2 => walk_at "ln")) | ((with_reducible refine i_slTo ?q1 ?q2 ?_); (case q1 => walk_at "ln"); (case q2 => walk_at "ln"))
  | ((with_reducible refine' i_tyL ?q1 ?_); (case q1 => walk_at "hp"))
  | ((with_reducible refine' i_gTupH ?q1 ?q2 ?_); (case q1 => walk_at "hp"); (case q2 => exact rfl))
  | (with_reducible refine i_dnewM ?_) | (with_reducible refine i_init ?_) | (with_reducible refine i_fst ?_) | (with_reducible refine i_mk ?_) | (with_reducible refine i_mkF ?_) | (with_reducible refine i_raise ?_) | (with_reducible refine i_callS ?_) | (with_reducible refine i_kwS ?_)
  | (with_reducible refine i_revT ?_) | (with_reducible refine i_kw ?_) | ((with_reducible refine' ⟨_, _, rfl, sqT_of ?q1, ?_⟩); (case q1 => walk_at "hp"))
  | (with_reducible refine i_revS ?_) | ((with_reducible refine i_revSS ?q1 ?_); (case q1 => walk_at "ln"))
  | (with_reducible refine i_startS ?_) | (with_reducible refine i_inSg ?_) | (with_reducible refine i_absN ?_) | (with_reducible refine i_min2 ?_) | (with_reducible refine i_max2 ?_) | (with_reducible refine i_min3 ?_) | (with_reducible refine i_intN ?_) | (with_reducible refine i_intNB ?_)
  | ((with_reducible refine' i_lenL ?q1 ?_); (case q1 => walk_at "hp")) | ((with_reducible refine' i_lenT ?q1 ?_); (case q1 => walk_at "hp"))
  | (with_reducible refine i_eqI ?_) | (with_reducible refine i_neI ?_) | (with_reducible refine i_eqS ?_) | (with_reducible refine i_neS ?_) | (with_reducible refine i_isNoI ?_) | (with_reducible refine i_isNoN ?_) | (with_reducible refine i_isNoR ?_)
  | ((with_reducible refine i_pow ?q1 ?q2 ?q3 ?_); (case q1 => decide); (case q2 => decide); (case q3 => (with_reducible omega)))
  | ((with_reducible refine i_rI ?q1 ?_); (case q1 => walk_at "ci"))
  | (with_reducible refine Or.inl ⟨_, rfl, ?_⟩) | (with_reducible refine Or.inr ⟨_, rfl, ?_⟩) | (with_reducible refine ⟨_, rfl, ?_⟩) | (with_reducible refine ⟨_, _, rfl, ?_⟩) | (with_reducible refine ⟨_, _, rfl, rfl, ?_⟩)
  | ((with_reducible refine' ⟨_, _, rfl, Or.inl (sqL_of ?q1), ?_⟩); (case q1 => walk_at "hp")) | ((with_reducible refine' ⟨_, _, rfl, Or.inr (sqT_of ?q1), ?_⟩); (case q1 => walk_at "hp")) | (with_reducible refine i_dget ?_) | (with_reducible refine i_disp1T ?_) | (with_reducible refine i_dcT ?_) | (with_reducible refine i_dnewT ?_) | (with_reducible refine i_fld ?_) | (with_reducible refine i_sFld ?_) | (with_reducible refine i_make ?_) | (with_reducible refine i_meth ?_) | (with_reducible refine i_star ?_) | (with_reducible refine i_isNoS ?_) | (with_reducible refine i_lc2 ?_) | (with_reducible refine i_iEnT ?_) | (with_reducible refine i_iZipT ?_) | fail)
local macro_rules | `(tactic| walk_at "rd") => `(tactic| repeat' walk_at "rd1")

/-- a row under way -/
def EUp (H0 : Hp) (p : Addr) (es : List Ent) (H : Hp) : Prop := ∃ vs, H p = some (.lst vs) ∧ Paired (EntAt H) vs es ∧ Same H0 H
theorem EUp.nil {H : Hp} {p : Addr} (n : H p = none) : EUp H p [] (upd H p (.lst [])) := ⟨[], upd_same, .nil, same_upd n⟩
theorem EUp.push {H0 H H3 : Hp} {p t : Addr} {es : List Ent} {q : Nat} {wd : List Nat} (h : EUp H0 p es H) (np : H0 p = none) (s : Same H H3) (et : H3 t = some (.tup [iV q, .str (S wd)])) (l : es.length ≤ 1000) : ∃ acc, H3 p = some (.lst acc) ∧ acc.length < sizeLine ∧ EUp H0 p (es ++ [some (q, wd)]) (upd H3 p (.lst (acc ++ [.ref t]))) := by
  obtain ⟨vs, e, pr, s0⟩ := h
  have lv : vs.length = es.length := Paired.length pr
  have tk := TK.lst (ys := vs ++ [.ref t]) (s _ _ e)
  exact ⟨vs, s _ _ e, sm100 (by omega), _, upd_same, Paired.snoc (Paired.mapP pr fun _ _ z => (z.same s).tk tk) ⟨t, rfl, tk _ _ et⟩, Same.set_new (s0.trans s) np⟩
theorem EUp.row {H0 H : Hp} {p : Addr} {es : List Ent} (h : EUp H0 p es H) : RowAt H (.ref p) es ∧ Same H0 H := by
  obtain ⟨vs, e, pr, s⟩ := h; exact ⟨⟨p, vs, rfl, e, pr⟩, s⟩
/-- rows under way -/
structure SUp (p : Addr) (st : List (List Ent)) (vs : List V) (H : Hp) : Prop where
  e : H p = some (.lst vs)
  pr : Paired (fun v r => RowAt H v r ∧ v ≠ .ref p) vs st
theorem SUp.same {p : Addr} {st : List (List Ent)} {vs : List V} {H H' : Hp} (h : SUp p st vs H) (s : Same H H') : SUp p st vs H' := ⟨s _ _ h.e, Paired.mapP h.pr fun _ _ z => ⟨z.1.same s, z.2⟩⟩
theorem RowAt.upd {H : Hp} {p : Addr} {xs ys : List V} {v : V} {r : List Ent} (h : RowAt H v r) (e : H p = some (.lst xs)) (ne : v ≠ .ref p) : RowAt (L2.upd H p (.lst ys)) v r := by
  obtain ⟨q, vs, rfl, e1, pr⟩ := h
  exact ⟨q, vs, rfl, by rw [L2.upd_ne (fun c => ne (by rw [c]))]; exact e1, Paired.mapP pr fun _ _ z => z.tk (TK.lst e)⟩
theorem SUp.push {p rr : Addr} {st : List (List Ent)} {vs : List V} {H : Hp} {R : List Ent} (h : SUp p st vs H) (hr : RowAt H (.ref rr) R) (ne : rr ≠ p) : SUp p (st ++ [R]) (vs ++ [.ref rr]) (upd H p (.lst (vs ++ [.ref rr]))) :=
  ⟨upd_same, Paired.snoc (Paired.mapP h.pr fun _ _ z => ⟨z.1.upd h.e z.2, z.2⟩) ⟨hr.upd h.e (fun q => ne (V.ref.inj q)), fun q => ne (V.ref.inj q)⟩⟩
theorem SUp.st {p : Addr} {st : List (List Ent)} {vs : List V} {H : Hp} (h : SUp p st vs H) : StAt H (.ref p) st := ⟨p, vs, rfl, h.e, Paired.mapP h.pr fun _ _ z => z.1⟩
theorem EUp.pushN {H0 H H3 : Hp} {p : Addr} {es : List Ent} (h : EUp H0 p es H) (np : H0 p = none) (s : Same H H3) (l : es.length ≤ 1000) : ∃ acc, H3 p = some (.lst acc) ∧ acc.length < sizeLine ∧ EUp H0 p (es ++ [none]) (upd H3 p (.lst (acc ++ [.non]))) := by
  obtain ⟨vs, e, pr, s0⟩ := h
  have lv : vs.length = es.length := Paired.length pr
  have tk := TK.lst (ys := vs ++ [.non]) (s _ _ e)
  exact ⟨vs, s _ _ e, sm100 (by omega), _, upd_same, Paired.snoc (Paired.mapP pr fun _ _ z => (z.same s).tk tk) rfl, Same.set_new (s0.trans s) np⟩
theorem i_makeD {C : Addr} {n : Nat} {v1 v2 : V} {st : List (List Ent)} {en : List (Option (List Nat))} {H : Hp} {Q : VK} {E : XK} (h1 : StAt H v1 st) (h2 : EnAt H v2 en) (g : Good n st en) (q : ∀ v H', Same H H' → DAt C H' v n st en → Q v H') : rMake C (spIni C) E [iV n, v1, v2] H Q := by
  intro x dx nx ndx ne
  have s1 : Same H (upd (upd H dx (.own x)) x (.ins C dx [])) := Same.set_new (same_upd ndx) nx
  refine ⟨x, dx, v1, v2, n, st, en, rfl, upd_same, h1.same s1, h2.same s1, g, fun p1 p2 H' sb hx t1 t2 => ⟨rfl, q (.ref x) H' (fun a o e => ?_) ⟨x, dx, p1, p2, rfl, hx, t1, t2⟩⟩⟩
  have nax : a ≠ x := fun q => by rw [q, nx] at e; cases e
  exact sb _ _ nax (s1 _ _ e)
abbrev keyP (g : Pl) : List Key := [.inl (g.1 : Int), .inl (g.2.1 : Int), .inl (g.2.2 : Int)]
theorem keyP_inj {g h : Pl} : keyP g = keyP h ↔ g = h := by
  obtain ⟨a, b, c⟩ := g
  obtain ⟨x, y, z⟩ := h
  simp [keyP]
  omega
/-- all but three addresses stay -/
def Kp3 (pl nu ro : Addr) (H H' : Hp) : Prop := ∀ a o, a ≠ pl → a ≠ nu → a ≠ ro → H a = some o → H' a = some o
theorem Kp3.refl {pl nu ro : Addr} {H : Hp} : Kp3 pl nu ro H H := fun _ _ _ _ _ e => e
theorem Kp3.of {pl nu ro : Addr} {H H' : Hp} (s : Same H H') : Kp3 pl nu ro H H' := fun a o _ _ _ e => s a o e
theorem Kp3.trans {pl nu ro : Addr} {H H1 H2 : Hp} (s : Kp3 pl nu ro H H1) (t : Kp3 pl nu ro H1 H2) : Kp3 pl nu ro H H2 := fun a o h1 h2 h3 e => t a o h1 h2 h3 (s a o h1 h2 h3 e)
theorem Kp3.same {pl nu ro : Addr} {H H1 H2 : Hp} (s : Same H H1) (t : Kp3 pl nu ro H1 H2) (n1 : H pl = none) (n2 : H nu = none) (n3 : H ro = none) : Same H H2 := fun a o e =>
  t a o (fun c => by rw [c, n1] at e; cases e) (fun c => by rw [c, n2] at e; cases e) (fun c => by rw [c, n3] at e; cases e) (s a o e)
structure BAt (H : Hp) (pl nu ro : Addr) (ps : List Pl) (rows : List (List PEnt)) : Prop where
  hp : ∃ vs, H pl = some (.lst vs) ∧ Paired (PlAt H) vs ps
  hn : ∃ kvs, H nu = some (.dT kvs) ∧ kvs.length ≤ ps.length ∧ ∀ g, valV kvs (keyP g) = if g ∈ ps then some (iV (ps.idxOf g)) else none
  hr : ∃ vs, H ro = some (.lst vs) ∧ Paired (fun v es => PrAt H v es ∧ ∀ a, v = .ref a → a ≠ pl ∧ a ≠ nu ∧ a ≠ ro) vs rows
theorem PlAt.same {H H' : Hp} (s : Same H H') {v : V} {p : Pl} (h : PlAt H v p) : PlAt H' v p := h.tk (TK.of s)
theorem BAt.same {H H' : Hp} {pl nu ro : Addr} {ps : List Pl} {rows : List (List PEnt)} (h : BAt H pl nu ro ps rows) (s : Same H H') : BAt H' pl nu ro ps rows := by
  obtain ⟨⟨v1, h1, p1⟩, ⟨kvs, h2, h3⟩, ⟨v2, h4, p2⟩⟩ := h
  exact ⟨⟨v1, s _ _ h1, Paired.mapP p1 fun _ _ z => z.same s⟩, ⟨kvs, s _ _ h2, h3⟩, ⟨v2, s _ _ h4, Paired.mapP p2 fun _ _ z => ⟨z.1.same s, z.2⟩⟩⟩
theorem PrAt.kp {H H' : Hp} {pl nu ro : Addr} (s : Kp3 pl nu ro H H') (t : TK H H') {v : V} {es : List PEnt} (h : PrAt H v es) (ne : ∀ a, v = .ref a → a ≠ pl ∧ a ≠ nu ∧ a ≠ ro) : PrAt H' v es := by
  obtain ⟨a, vs, rfl, e, pr⟩ := h
  obtain ⟨n1, n2, n3⟩ := ne a rfl
  exact ⟨a, vs, rfl, s _ _ n1 n2 n3 e, Paired.mapP pr fun _ _ z => z.tk t⟩
theorem idx_app {ps : List Pl} {g : Pl} (h : g ∉ ps) (k : Pl) : (if k ∈ ps ++ [g] then some (iV ((ps ++ [g]).idxOf k)) else none) = if g = k then some (iV ps.length) else if k ∈ ps then some (iV (ps.idxOf k)) else none := by
  by_cases c : g = k
  · subst c
    rw [if_pos (List.mem_append_right _ (List.mem_singleton.mpr rfl)), if_pos rfl, List.idxOf_append, if_neg h]
    simp
  · rw [if_neg c]
    by_cases c2 : k ∈ ps
    · rw [if_pos c2, if_pos (List.mem_append_left _ c2), List.idxOf_append, if_pos c2]
    · rw [if_neg c2, if_neg]
      intro h2
      rcases List.mem_append.mp h2 with h2 | h2
      · exact c2 h2
      · exact c (List.mem_singleton.mp h2).symm
theorem TK.dT {H : Hp} {p : Addr} {xs ys : List (List Key × V)} (e : H p = some (.dT xs)) : TK H (L2.upd H p (.dT ys)) := fun a zs ea => by
  rw [L2.upd_ne fun c => by rw [c, e] at ea; cases ea]; exact ea
theorem BAt.push {H : Hp} {pl nu ro : Addr} {ps : List Pl} {rows : List (List PEnt)} {v1 : List V} {kvs : List (List Key × V)} {g : Pl} {pv : V} (h : BAt H pl nu ro ps rows) (n1 : pl ≠ nu) (n2 : pl ≠ ro) (n3 : nu ≠ ro) (e1 : H pl = some (.lst v1)) (e2 : H nu = some (.dT kvs)) (hg : g ∉ ps) (hv : PlAt H pv g) :
    BAt (L2.upd (L2.upd H nu (.dT (putK kvs (keyP g) (iV ps.length)))) pl (.lst (v1 ++ [pv]))) pl nu ro (ps ++ [g]) rows ∧ Kp3 pl nu ro H (L2.upd (L2.upd H nu (.dT (putK kvs (keyP g) (iV ps.length)))) pl (.lst (v1 ++ [pv]))) := by
  obtain ⟨⟨v1', h1, p1⟩, ⟨kvs', h2, l2, h3⟩, ⟨v2, h4, p2⟩⟩ := h
  cases e1.symm.trans h1
  cases e2.symm.trans h2
  have t1 : TK H (L2.upd H nu (.dT (putK kvs (keyP g) (iV ps.length)))) := TK.dT e2
  have e1' : L2.upd H nu (.dT (putK kvs (keyP g) (iV ps.length))) pl = some (.lst v1) := by rw [L2.upd_ne n1]; exact e1
  have tk := t1.trans (TK.lst (ys := v1 ++ [pv]) e1')
  have kp : Kp3 pl nu ro H (L2.upd (L2.upd H nu (.dT (putK kvs (keyP g) (iV ps.length)))) pl (.lst (v1 ++ [pv]))) := fun a o a1 a2 a3 e => by rw [L2.upd_ne a1, L2.upd_ne a2]; exact e
  refine ⟨⟨⟨_, L2.upd_same, Paired.snoc (Paired.mapP p1 fun _ _ z => z.tk tk) (hv.tk tk)⟩, ⟨_, by rw [L2.upd_ne (Ne.symm n1)]; exact L2.upd_same, ?_, fun k => ?_⟩, ⟨v2, by rw [L2.upd_ne (Ne.symm n2), L2.upd_ne (Ne.symm n3)]; exact h4, Paired.mapP p2 fun _ _ z => ⟨z.1.kp kp tk z.2, z.2⟩⟩⟩, kp⟩
  · have := length_putK kvs (keyP g) (iV ps.length)
    rw [List.length_append, List.length_singleton]; omega
  · rw [valV_put, idx_app hg, h3 k]
    by_cases c : g = k
    · subst c; simp
    · rw [if_neg c, if_neg (fun q => c (keyP_inj.mp q).symm)]
theorem BAt.row {H : Hp} {pl nu ro rw_ : Addr} {ps : List Pl} {rows : List (List PEnt)} {v2 : List V} {es : List PEnt} (h : BAt H pl nu ro ps rows) (n2 : pl ≠ ro) (n3 : nu ≠ ro) (e : H ro = some (.lst v2)) (hr : PrAt H (.ref rw_) es) (ne : rw_ ≠ pl ∧ rw_ ≠ nu ∧ rw_ ≠ ro) :
    BAt (L2.upd H ro (.lst (v2 ++ [.ref rw_]))) pl nu ro ps (rows ++ [es]) ∧ Kp3 pl nu ro H (L2.upd H ro (.lst (v2 ++ [.ref rw_]))) := by
  obtain ⟨⟨v1, h1, p1⟩, ⟨kvs, h2, h3⟩, ⟨v2', h4, p2⟩⟩ := h
  cases e.symm.trans h4
  have tk := TK.lst (ys := v2 ++ [.ref rw_]) e
  have kp : Kp3 pl nu ro H (L2.upd H ro (.lst (v2 ++ [.ref rw_]))) := fun a o a1 a2 a3 e => by rw [L2.upd_ne a3]; exact e
  exact ⟨⟨⟨v1, by rw [L2.upd_ne n2]; exact h1, Paired.mapP p1 fun _ _ z => z.tk tk⟩, ⟨kvs, by rw [L2.upd_ne n3]; exact h2, h3⟩,
    ⟨_, L2.upd_same, Paired.snoc (Paired.mapP p2 fun _ _ z => ⟨z.1.kp kp tk z.2, z.2⟩) ⟨hr.kp kp tk fun a ea => by cases ea; exact ne, fun a ea => by cases ea; exact ne⟩⟩⟩, kp⟩
def ThrownF0 (K : PySem.W.Frag) (X : Addr) (H : Hp) (v : V) (E : XK) : Prop := ∀ dx, H dx = none → E (.ref X) (some dx) (L2.upd H dx (.xd [("given", v)]))
theorem BAt.tk {H H' : Hp} {pl nu ro : Addr} {ps : List Pl} {rows : List (List PEnt)} (h : BAt H pl nu ro ps rows) (s : Kp3 pl nu ro H H') : TK H H' := fun a zs e => by
  obtain ⟨⟨v1, h1, _⟩, ⟨kvs, h2, _⟩, ⟨v2, h4, _⟩⟩ := h
  exact s a _ (fun c => by rw [c, h1] at e; cases e) (fun c => by rw [c, h2] at e; cases e) (fun c => by rw [c, h4] at e; cases e) e
theorem bfs_next {F : Pl → List PEnt} {k : Nat} {p : Pl} (h : (bfs F k)[k]? = some p) : bfs F (k + 1) = (F p).foldl addP (bfs F k) ∧ ((bfs F (k + 1)).take (k + 1)).map F = ((bfs F k).take k).map F ++ [F p] := by
  have e : bfs F (k + 1) = (F p).foldl addP (bfs F k) := by simp only [bfs, h]
  refine ⟨e, ?_⟩
  obtain ⟨zs, hz⟩ := Bf.bfs_succ F k
  have lk : k < (bfs F k).length := (List.getElem?_eq_some_iff.mp h).1
  rw [hz, List.take_append_of_le_length (by omega), List.take_add_one, h]
  simp
/-! a marker put in -/
def markE : Option (List Nat) → Ent
  | none => none
  | some w => some (0, w)
def stM (st : List (List Ent)) (en : List (Option (List Nat))) : List (List Ent) := List.zipWith (fun r e => r ++ [markE e]) st en
/-- with_marker(decoder) -/
def spWM (K : PySem.W.Frag) (C XD XS : Addr) : Sp := fun vs H Q E => ∃ v, vs = [v] ∧
  ((∃ d, De K H v d ∧ ∀ dx H', H dx = none → Same H H' → H' dx = some (.xd [("given", v)]) → E (.ref XD) (some dx) H') ∨
   (∃ st en, DAt C H v 5 st en ∧ ∀ dx H', H dx = none → Same H H' → H' dx = some (.xd [("given", .int 6)]) → E (.ref XS) (some dx) H') ∨
   (∃ n st en, DAt C H v n st en ∧ Good n st en ∧ n ≤ 4 ∧ ∀ v' H', Same H H' → DAt C H' v' (n + 1) (stM st en) en → Q v' H'))
theorem stM_get {st : List (List Ent)} {en : List (Option (List Nat))} (l : en.length = st.length) {i : Nat} {r : List Ent} (h : st[i]? = some r) : ∃ e, en[i]? = some e ∧ (stM st en)[i]? = some (r ++ [markE e]) := by
  have hi := (List.getElem?_eq_some_iff.mp h).1
  have he : en[i]? = some en[i] := List.getElem?_eq_getElem (by omega)
  exact ⟨_, he, by rw [stM, List.getElem?_zipWith, h, he]⟩
theorem len_stM {st : List (List Ent)} {en : List (Option (List Nat))} (l : en.length = st.length) : (stM st en).length = st.length := by rw [stM, List.length_zipWith]; omega
theorem good_M {n : Nat} {st : List (List Ent)} {en : List (Option (List Nat))} (g : Good n st en) (n4 : n ≤ 4) : Good (n + 1) (stM st en) en := by
  have lM := len_stM g.le
  have mem : ∀ r ∈ stM st en, ∃ r0 ∈ st, ∃ e ∈ en, r = r0 ++ [markE e] := fun r hr => by
    obtain ⟨i, hi, rfl⟩ := List.mem_iff_getElem.mp hr
    have hi2 : i < st.length := by omega
    obtain ⟨e, he, hM⟩ := stM_get g.le (List.getElem?_eq_getElem hi2)
    rw [List.getElem?_eq_getElem hi] at hM
    exact ⟨_, List.getElem_mem hi2, e, List.mem_of_getElem? he, Option.some.inj hM⟩
  refine ⟨by omega, by omega, by rw [lM]; exact g.s1, by rw [lM]; exact g.s6, fun r hr => ?_, fun r hr e he => ?_, by rw [lM]; exact g.le, g.enk⟩
  · obtain ⟨r0, h0, e, _, rfl⟩ := mem r hr
    rw [List.length_append, g.row r0 h0]; rfl
  · obtain ⟨r0, h0, e0, h1, rfl⟩ := mem r hr
    rw [lM]
    rcases List.mem_append.mp he with he | he
    · exact g.ent r0 h0 e he
    · rw [List.mem_singleton.mp he]
      rcases e0 with _ | w
      · trivial
      · have := g.enk _ h1
        exact ⟨g.s1, this.1, this.2⟩
/-- check_decoder(decoder), a decoder -/
def spCD0 (C : Addr) : Sp := fun vs H Q _ => ∃ a dx fs, vs = [.ref a] ∧ H a = some (.ins C dx fs) ∧ Q .non H
/-- check_decoder(decoder) -/
def spCD (K : PySem.W.Frag) (C XD : Addr) : Sp := fun vs H Q E => ∃ v, vs = [v] ∧
  ((∃ d, De K H v d ∧ ∀ dx H', H dx = none → Same H H' → H' dx = some (.xd [("given", v)]) → E (.ref XD) (some dx) H') ∨
   (∃ a dx fs, v = .ref a ∧ H a = some (.ins C dx fs) ∧ Q .non H))
/-- with_check(decoder, size) -/
def spWC (K : PySem.W.Frag) (C XD XM : Addr) : Sp := fun vs H Q E => ∃ v s, vs = [v, s] ∧
  ((∃ d, De K H v d ∧ ∀ dx H', H dx = none → Same H H' → H' dx = some (.xd [("given", v)]) → E (.ref XD) (some dx) H') ∨
   (∃ (n m : Nat) (st : List (List Ent)) (en : List (Option (List Nat))), DAt C H v n st en ∧ Good n st en ∧ Few st n m ∧ s = iV m ∧ 1 ≤ m ∧ m ≤ 4 ∧
     (40 < (finP st n m).length → ∀ dx H', H dx = none → Same H H' → H' dx = some (.xd [("count", .int (finP st n m).length)]) → E (.ref XM) (some dx) H') ∧
     ((finP st n m).length ≤ 40 → ∀ v' H', Same H H' → DAt C H' v' n (stC st n m) (enC st en n m) → Q v' H')))
section
variable {P : Program} {w : World} {K : PySem.W.Frag} {mg : Str → Option Value} {base : Heap} {f : Addr} {fd : FuncData}
theorem ok_cd {C XD : Addr} (F : Fun K "check_decoder" "check_decoder" s_check_decoder f fd) (z : Z mg) (hmD : mg "Decoder" = some (.ref C)) (ic_Decoder : C8.InsC K C) (nc : NoC K C) (xd : XQ "InvalidDecoder" P w K mg base XD) : FnOk P w K mg base (L2.CX P w) 3 f fd ["decoder"] (spCD K C XD) := by
  refine Sw.Fun.okX F sc_check_decoder (fun vs H Q E h => ?_) (fun cdv A outer s H vs Q E hr h tk => ?_)
  · obtain ⟨v, rfl, _⟩ := h; rfl
  · obtain ⟨v, rfl, h⟩ := h
    refine ⟨_, (pss_one (ps_if (pt_not (pt_val (pe_callB call_isi (by rfl) z.isinstance (by decide +kernel) (pa_cons (pv 0) (pa_cons (pe_glob (v := .ref C) rfl hmD rfl) pa_nil)))))
        (pss_one (ps_rs rfl tk (pmk_Q xd hr (pv 0))))
        pss_nil)), ?_⟩
    walk_at "rd"
    rcases h with ⟨d, hd, k⟩ | ⟨a, dx, fs, rfl, ha, k⟩
    · refine hd.isiC nc ?_
      walk_at "rd"
      refine i_thrown xd.T xd.no fun dx ndx => ?_
      exact k dx _ ndx (same_upd ndx) upd_same
    · refine i_isC ic_Decoder ha ?_
      walk_at "rd"
      exact k
theorem ok_wc {C XD XM : Addr} (F : Fun K "with_check" "with_check" s_with_check f fd) (z : Z mg) (dc : DcC K C) (xm : XF "TooMany" "count" P w K mg base XM) {t4 t40 : Tok} (g_MOST_SIZE : mg "MOST_SIZE" = some (.int 4 t4)) (g_MOST_STATES : mg "MOST_STATES" = some (.int 40 t40))
    (x_check_decoder : CalX P w K mg base "check_decoder" ["decoder"] 3 (spCD K C XD)) (c_is_integer : Cal P w K mg base "is_integer" ["value"] 1 (spInt K)) (c_checked_row : Cal P w K mg base "checked_row" ["decoder", "size", "place"] 1 (spRow C)) (m_Decoder : C8.Mak P w K mg base 5 "Decoder" C (spIni C) []) :
    FnOk P w K mg base (L2.CX P w) 7 f fd ["decoder", "size"] (spWC K C XD XM) := by
  refine Sw.Fun.okX F sc_with_check (fun vs H Q E h => ?_) (fun cdv A outer s H vs Q E hr h tk => ?_)
  · obtain ⟨v, s, rfl, _⟩ := h; rfl
  · obtain ⟨v, s, rfl, h⟩ := h
    refine ⟨_, (pss_cons (ps_expr (pe_calX x_check_decoder hr tk (pa_cons (pv 0) pa_nil)))
      (pss_cons (ps_if (PW.pt (pw_or (pt_not (pt_val (pe_cal c_is_integer hr (pa_cons (pv 1) pa_nil)))) (pw_or1 (pt_not (pt_chain op_le op_le pe_int (pv 1) (pe_glob (v := .int 4) rfl g_MOST_SIZE ⟨_, rfl⟩))))))
        (pss_one ps_never)
        pss_nil)
      (pss_cons (ps_asg (pe_tup (pa_cons (pe_lst (pa_cons (pe_tup (pa_cons pe_int (pa_cons pe_int (pa_cons pe_int pa_nil)))) pa_nil)) (pa_cons (pe_disp1T (room1 hr.units) (pe_tup (pa_cons pe_int (pa_cons pe_int (pa_cons pe_int pa_nil)))) pe_int) (pa_cons (pe_lst pa_nil) pa_nil)))) (pg_tup rfl (pgs_cons (pg_name (i := 2) sc_with_check.nd rfl (.inl rfl)) (pgs_cons (pg_name (i := 3) sc_with_check.nd rfl (.inr rfl)) (pgs_cons (pg_name (i := 4) sc_with_check.nd rfl (.inl rfl)) pgs_nil)))))
      (pss_cons (ps_while PassesOwn.leaving (pt_cmpR op_lt (pe_callB call_lenQ (by rfl) z.len PySem.boot_len (pa_cons (pv 4) pa_nil)) (pe_callB call_lenQ (by rfl) z.len PySem.boot_len (pa_cons (pv 2) pa_nil)) (nomark _))
        (pss_cons (ps_set (i := 5) sc_with_check.nd rfl (.inl rfl) (pe_cal c_checked_row hr (pa_cons (pv 0) (pa_cons (pv 1) (pa_cons (pe_ix ix_list (pv 2) (pe_callB call_lenQ (by rfl) z.len PySem.boot_len (pa_cons (pv 4) pa_nil)) (fun _ _ => rfl)) pa_nil)))))
        (pss_cons (ps_for PassesOwn.leaving rfl (pi_list (pv 5)) (pg_name (i := 6) sc_with_check.nd rfl (.inl rfl))
          (pss_one (ps_if (PW.pt (pw_and (pt_cmpR op_notN (pv 6) pe_non (nomark _)) (pw_and1 (pt_cmpR (op_notInDt hr.units) (pe_ix ix_tup (pv 6) pe_int (fun _ _ => rfl)) (pv 3) (by rfl)))))
            (pss_cons (ps_asg (pe_callB call_lenQ (by rfl) z.len PySem.boot_len (pa_cons (pv 2) pa_nil)) (pg_sub (pv 3) (pe_ix ix_tup (pv 6) pe_int (fun _ _ => rfl)) (set_dict (room1 hr.units))))
            (pss_one (ps_expr (pe_bm PySem.F.plainAttrs_list PySem.F.slot_list_append PySem.F.type_list_append mt_append (pv 2) (pa_cons (pe_ix ix_tup (pv 6) pe_int (fun _ _ => rfl)) pa_nil)))))
            pss_nil)))
        (pss_one (ps_expr (pe_bm PySem.F.plainAttrs_list PySem.F.slot_list_append PySem.F.type_list_append mt_append (pv 4) (pa_cons (pv 5) pa_nil)))))))
      (pss_cons (ps_if (pt_cmpR op_gt (pe_callB call_lenQ (by rfl) z.len PySem.boot_len (pa_cons (pv 2) pa_nil)) (pe_glob (v := .int 40) rfl g_MOST_STATES ⟨_, rfl⟩) (nomark _))
        (pss_one (ps_rs rfl tk (pmk_F xm hr (pe_callB call_lenQ (by rfl) z.len PySem.boot_len (pa_cons (pv 2) pa_nil)))))
        pss_nil)
      (pss_cons (ps_setLc (i := 7) (own := [("row", 5)]) (g := gName 5) (tt := tYes) rfl sc_with_check.nd rfl rfl (sw_true rfl rfl rfl (by decide +kernel)) (pi_list (pv 4)) (blkOk_by (own := [("row", 5)]) (N := n_with_check) (sc := defScope s_with_check) (by decide +kernel)) (fun _ _ _ _ _ => (pg_name (i := 5) sc_with_check.nd rfl (.inl rfl))) (fun _ _ _ _ _ => pts_nil) (fun _ _ _ _ _ => (pe_lc (own := [("entry", 6)]) (g := gName 6) (tt := tYes) rfl sc_with_check.nd (pi_listK (K := K) rfl (pv 5)) (blkOk_by (own := [("entry", 6)]) (by rfl)) (fun _ _ _ _ _ => (pg_name (i := 6) sc_with_check.nd rfl (.inl rfl))) (fun _ _ _ _ _ => pts_nil) (fun _ _ _ _ _ => (pe_ifExp (pt_cmpR op_isNo (pv 6) pe_non (nomark _)) pe_non (pe_tup (pa_cons (pe_dget (room1 hr.units) (pv 3) (pe_ix (r := rIxT K) ix_tup (pv 6) pe_int (fun _ _ => rfl)) (fun _ _ => rfl)) (pa_cons (pe_ix (r := rIxT K) ix_tup (pv 6) pe_int (fun _ _ => rfl)) pa_nil))))))))
      (pss_cons (ps_setLc (i := 8) (own := [("state", 9), ("read", 10), ("total", 11)]) (g := gTup K 3 (gCons (gName 9) (gCons (gName 10) (gCons (gName 11) gNil)))) (tt := tYes) rfl sc_with_check.nd rfl rfl (sw_true rfl rfl rfl (by decide +kernel)) (pi_list (pv 2)) (blkOk_by (own := [("state", 9), ("read", 10), ("total", 11)]) (N := n_with_check) (sc := defScope s_with_check) (by decide +kernel)) (fun _ _ _ _ _ => (pg_tup rfl (pgs_cons (pg_name (i := 9) sc_with_check.nd rfl (.inl rfl)) (pgs_cons (pg_name (i := 10) sc_with_check.nd rfl (.inl rfl)) (pgs_cons (pg_name (i := 11) sc_with_check.nd rfl (.inl rfl)) pgs_nil))))) (fun _ _ _ _ _ => pts_nil) (fun _ _ _ _ _ => (pe_ifExp (pt_cmpR op_eq (pv 10) pe_int (nomark _)) (pe_ix (r := rIxT K) ix_tup (pe_fldB (K := K) rfl (pv 0) (by rfl)) (pv 9) (fun _ _ => rfl)) pe_non)))
      (pss_one (ps_ret (C8.pe_mk m_Decoder hr (by decide) (by rfl) (pa_cons (pe_fld (pv 0) (by rfl)) (pa_cons (pv 7) (pa_cons (pv 8) pa_nil))))))))))))), ?_⟩
    walk_at "rd"
    rcases h with ⟨d, hd, k⟩ | ⟨n, m, st, en, ⟨a, dx, p1, p2, rfl, ha, hp1, hp2⟩, g, few, rfl, m1, m4, kX, k⟩
    · exact ⟨v, rfl, .inl ⟨d, hd, k⟩⟩
    · refine ⟨.ref a, rfl, .inr ⟨a, dx, _, rfl, ha, ?_⟩⟩
      walk_at "rd"
      refine ⟨.int m, .int m, rfl, .int _, ?_⟩
      rw [show isI (.int (m : Int)) = true from rfl]
      walk_at "rd"
      rw [decide_eq_true (show (1 : Int) ≤ m by omega)]
      walk_at "rd"
      rw [decide_eq_true (show (m : Int) ≤ 4 by omega)]
      walk_at "rd"
      refine newT0 (Nat.le_of_ble_eq_true rfl) fun t0 H1 nt0 s1 et0 => ?_
      walk_at "rd"
      refine newL0 (Nat.le_of_ble_eq_true rfl) fun pl H2 npl s2 epl => ?_
      walk_at "rd"
      refine fun nu nnu => ?_
      have s3 := same_upd (o := HO.dT []) nnu
      have en3 := upd_same (H := H2) (a := nu) (o := HO.dT [])
      have npn : pl ≠ nu := ne_of_none epl nnu
      generalize upd H2 nu (.dT []) = H3 at *
      walk_at "rd"
      refine newT0 (Nat.le_of_ble_eq_true rfl) fun t1 H4 nt1 s4 et1 => ?_
      walk_at "rd"
      have en4 := s4 _ _ en3
      have ntn : t1 ≠ nu := fun c => by rw [c, en3] at nt1; cases nt1
      refine ⟨t1, keyP (0, 0, 0), rfl, en4, et1, ?_⟩
      have k5 : Kp3 pl nu nu H4 (upd H4 nu (.dT [(keyP (0, 0, 0), .int 0)])) := fun b o _ b2 _ e => by rw [upd_ne b2]; exact e
      have en5 := upd_same (H := H4) (a := nu) (o := HO.dT [(keyP (0, 0, 0), .int 0)])
      have ep5 : upd H4 nu (.dT [(keyP (0, 0, 0), .int 0)]) pl = some (.lst [.ref t0]) := by rw [upd_ne npn]; exact s4 _ _ (s3 _ _ epl)
      have et5 : upd H4 nu (.dT [(keyP (0, 0, 0), .int 0)]) t0 = some (.tup (plV (0, 0, 0))) := by
        rw [upd_ne fun c => by rw [c] at et0; have := s2 _ _ et0; rw [nnu] at this; cases this]
        exact s4 _ _ (s3 _ _ (s2 _ _ et0))
      have nH : ∀ b o, H b = some o → upd H4 nu (.dT [(keyP (0, 0, 0), .int 0)]) b = some o := fun b o e => by
        have e2 := s2 _ _ (s1 _ _ e)
        rw [upd_ne fun c => by rw [c, nnu] at e2; cases e2]
        exact s4 _ _ (s3 _ _ e2)
      generalize upd H4 nu (.dT [(keyP (0, 0, 0), .int 0)]) = H5 at *
      walk_at "rd"
      refine newL0 (Nat.le_of_ble_eq_true rfl) fun ro H6 nro s6 ero => ?_
      have npr : pl ≠ ro := ne_of_none ep5 nro
      have nnr : nu ≠ ro := ne_of_none en5 nro
      walk_at "rd"
      refine newT0 (Nat.le_of_ble_eq_true rfl) fun tt H7 ntt s7 ett => ?_
      walk_at "rd"
      have s57 := s6.trans s7
      have s07 : Same H H7 := fun b o e => s57 _ _ (nH b o e)
      have hpl : H pl = none := s1.free npl
      have hnu : H nu = none := s1.free (s2.free nnu)
      have hro : H ro = none := by
        rcases q : H ro with _ | o
        · rfl
        · rw [nH _ _ q] at nro; cases nro
      have B7 : BAt H7 pl nu ro [(0, 0, 0)] [] := by
        refine ⟨⟨_, s57 _ _ ep5, .cons ⟨t0, rfl, s57 _ _ et5⟩ .nil⟩, ⟨_, s57 _ _ en5, Nat.le_refl _, fun g => ?_⟩, ⟨_, s7 _ _ ero, .nil⟩⟩
        by_cases c : g = (0, 0, 0)
        · subst c; simp [valV]
        · rw [valV_neg (fun q => c (keyP_inj.mp q).symm), if_neg (by simpa using c)]; rfl
      refine go_while (fun μ σ Hx => ∃ (k : Nat) (u5 u6 : Option V), μ = 200 - k ∧ σ = [some (.ref a), some (iV m), some (.ref pl), some (.ref nu), some (.ref ro), u5, u6, none, none, none, none, none] ∧ k ≤ (bfs (rowP st n m) k).length ∧
        BAt Hx pl nu ro (bfs (rowP st n m) k) (((bfs (rowP st n m) k).take k).map (rowP st n m)) ∧ Kp3 pl nu ro H7 Hx) 200 ⟨0, none, none, rfl, rfl, Nat.zero_le _, B7, Kp3.refl⟩ (fun μ σ Hx h => ?_)
      obtain ⟨k0, u5, u6, rfl, rfl, hk, Bx, kx⟩ := h
      obtain ⟨v1, ev1, pr1⟩ := Bx.hp
      obtain ⟨kvs, ekv, lkv, vkv⟩ := Bx.hn
      obtain ⟨v2, ev2, pr2⟩ := Bx.hr
      have l75 := few.few k0
      have lv1 : v1.length = (bfs (rowP st n m) k0).length := Paired.length pr1
      have lv2 : v2.length = k0 := by rw [Paired.length pr2, List.length_map, List.length_take]; omega
      have k07 : Same H Hx := kx.same s07 hpl hnu hro
      walk_at "rd"
      rw [lv1, lv2]
      refine iteB (fun c => ?_) (fun c => ?_)
      · have c : k0 < (bfs (rowP st n m) k0).length := by omega
        refine next_turn ?_
        have gp : (bfs (rowP st n m) k0)[k0]? = some (bfs (rowP st n m) k0)[k0] := List.getElem?_eq_getElem c
        generalize epp : (bfs (rowP st n m) k0)[k0] = p at *
        obtain ⟨pv, gpv, hpv⟩ := pairedAt2 pr1 gp
        walk_at "rd"
        rw [lv2]
        refine i_ixLv ev1 (by omega) (by rw [Int.toNat_natCast]; exact gpv) ?_
        walk_at "rd"
        refine ⟨.ref a, pv, n, m, st, en, p, rfl, ⟨a, dx, p1, p2, rfl, k07 _ _ ha, hp1.same k07, k07 _ _ hp2⟩, g, hpv, few.inb k0 p (List.mem_of_getElem? gp), fun v' H8 s8 hr8 nf => ?_⟩
        obtain ⟨rw_, ws, rfl, erw, prw⟩ := id hr8
        have nrw := nf rw_ rfl
        have B8 := Bx.same s8
        have nr3 : rw_ ≠ pl ∧ rw_ ≠ nu ∧ rw_ ≠ ro := ⟨Ne.symm (ne_of_none ev1 nrw), Ne.symm (ne_of_none ekv nrw), Ne.symm (ne_of_none ev2 nrw)⟩
        obtain ⟨en1, en2⟩ := bfs_next gp
        have l75' := few.few (k0 + 1)
        rw [en1] at l75'
        walk_at "rd"
        refine ⟨⟨_, sqL_of erw⟩, ?_⟩
        refine go_for (walk_list (xs := ws)) (fun i σ Hy => ∃ u6, σ = [some (.ref a), some (iV m), some (.ref pl), some (.ref nu), some (.ref ro), some (.ref rw_), u6, none, none, none, none, none] ∧ BAt Hy pl nu ro (((rowP st n m p).take i).foldl addP (bfs (rowP st n m) k0)) (((bfs (rowP st n m) k0).take k0).map (rowP st n m)) ∧ Kp3 pl nu ro H8 Hy)
          ⟨_, rfl, by rw [List.take_zero]; exact B8, Kp3.refl⟩ (fun i σ Hy hi h => ?_) (fun i v σ Hy Hz hi h y => ?_) (fun σ Hy h => ?_)
        · obtain ⟨_, _, _, ky⟩ := h
          exact sqL_of (ky _ _ nr3.1 nr3.2.1 nr3.2.2 erw)
        · obtain ⟨u7, rfl, By, ky⟩ := h
          obtain ⟨rfl, hv⟩ := y
          obtain ⟨ee, gee, hee⟩ := pairedAt prw hv
          have hee := hee.tk (B8.tk ky)
          have enx : ((rowP st n m p).take (i + 1)).foldl addP (bfs (rowP st n m) k0) = addP (((rowP st n m p).take i).foldl addP (bfs (rowP st n m) k0)) ee := by
            rw [List.take_add_one, gee, List.foldl_append]; rfl
          obtain ⟨zs, hzs⟩ := Bf.fold_pre ((rowP st n m p).drop i) (((rowP st n m p).take i).foldl addP (bfs (rowP st n m) k0))
          rw [← List.foldl_append, List.take_append_drop] at hzs
          have lps : (((rowP st n m p).take i).foldl addP (bfs (rowP st n m) k0)).length ≤ 75 := by
            rw [hzs, List.length_append] at l75'; omega
          rw [enx]
          generalize ((rowP st n m p).take i).foldl addP (bfs (rowP st n m) k0) = ps at *
          obtain ⟨w1, ew1, pw1⟩ := id By.hp
          obtain ⟨kv2, ekv2, lkv2, vkv2⟩ := id By.hn
          have lw1 : w1.length = ps.length := Paired.length pw1
          walk_at "rd"
          rcases ee with _ | ⟨gg, wd⟩
          · cases (show v = V.non from hee)
            walk_at "rd"
            refine ⟨rfl, _, rfl, ?_⟩
            rw [decide_eq_true (show V.non = V.non from rfl)]
            walk_at "rd"
            exact ⟨By, ky⟩
          · obtain ⟨t, u, rfl, et, eu⟩ := hee
            walk_at "rd"
            refine ⟨rfl, _, rfl, ?_⟩
            rw [decide_eq_false (show ¬ V.ref t = V.non from fun e => by cases e)]
            walk_at "rd"
            refine i_notInDt (ks := keyP gg) ekv2 eu ?_
            rw [vkv2 gg]
            by_cases c : gg ∈ ps
            · simp only [if_pos c, Option.isSome_some, Bool.not_true]
              walk_at "rd"
              refine ⟨?_, ky⟩
              simpa only [addP, if_pos c] using By
            · simp only [if_neg c, Option.isSome_none, Bool.not_false]
              walk_at "rd"
              refine i_setD (ks := keyP gg) ekv2 eu (sm100 (by omega)) ?_
              walk_at "rd"
              have ew1' : upd Hz nu (.dT (putK kv2 (keyP gg) (.int (w1.length : Int)))) pl = some (.lst w1) := by rw [upd_ne npn]; exact ew1
              have eu' : upd Hz nu (.dT (putK kv2 (keyP gg) (.int (w1.length : Int)))) u = some (.tup (plV gg)) := TK.dT ekv2 _ _ eu
              have et' : upd Hz nu (.dT (putK kv2 (keyP gg) (.int (w1.length : Int)))) t = some (.tup [.ref u, .str (S wd)]) := TK.dT ekv2 _ _ et
              walk_at "rd"
              refine i_append ew1' (sm100 (by omega)) ?_
              obtain ⟨Bz, kz⟩ := By.push npn npr nnr ew1 ekv2 c (pv := .ref u) ⟨u, rfl, eu⟩
              rw [← lw1] at Bz kz
              refine ⟨_, rfl, ?_, ky.trans kz⟩
              simpa only [addP, if_neg c] using Bz
        · obtain ⟨u7, rfl, By, ky⟩ := h
          rw [Paired.length prw, List.take_length, ← en1] at By
          have hr9 := hr8.kp ky (B8.tk ky) fun b eb => by cases eb; exact nr3
          obtain ⟨w2, ew2, pw2⟩ := id By.hr
          have lw2 : w2.length = k0 := by rw [Paired.length pw2, List.length_map, List.length_take]; omega
          walk_at "rd"
          refine i_append ew2 (sm100 (by omega)) ?_
          obtain ⟨Bz, kz⟩ := By.row npr nnr ew2 hr9 nr3
          rw [← en2] at Bz
          obtain ⟨zs, hz⟩ := Bf.bfs_succ (rowP st n m) k0
          refine ⟨200 - (k0 + 1), by omega, k0 + 1, _, _, rfl, rfl, by rw [hz, List.length_append]; omega, Bz, kx.trans ((Kp3.of s8).trans (ky.trans kz))⟩
      · have c : (bfs (rowP st n m) k0).length = k0 := by omega
        walk_at "rd"
        have ef : finP st n m = bfs (rowP st n m) k0 := fin_of few (by omega)
        rw [← ef] at pr1 vkv pr2 lv1 c hk
        rw [lv1]
        refine iteB (fun c40 => ?_) (fun c40 => ?_)
        · walk_at "rd"
          rw [lv1]
          refine i_thrownF xm.T xm.no fun dx' ndx => ?_
          exact kX (by omega) dx' _ (k07.free ndx) (k07.trans (same_upd ndx)) upd_same
        · have k := k (by omega)
          have gC := good_C g few (by omega)
          rw [c] at hk
          walk_at "rd"
          refine ⟨⟨_, sqL_of ev2⟩, ?_⟩
          have tkf : (finP st n m).take k0 = finP st n m := List.take_of_length_le (by omega)
          rw [tkf] at pr2
          have lC : (stC st n m).length = k0 := by simp only [stC, List.length_map]; exact c
          refine go_lc (walk_list (xs := v2)) (fun p i Hy => ∃ ws, SUp p ((stC st n m).take i) ws Hy ∧ Same Hx Hy) (fun p np => ⟨[], ⟨upd_same, .nil⟩, same_upd np⟩) (fun p i Hy hi h => sqL_of (h.choose_spec.2 _ _ ev2)) (fun sp np i v Hy Hz hi h y => ?_) (fun sp Hy nsp h => ?_)
          · obtain ⟨ws, up, sx⟩ := h
            obtain ⟨rfl, hv⟩ := y
            obtain ⟨es, ges, hes, nes⟩ := pairedAt pr2 hv
            rw [List.getElem?_map] at ges
            obtain ⟨pp, gpp, rfl⟩ := Option.map_eq_some_iff.mp ges
            have mpp := List.mem_of_getElem? gpp
            have gC' : (stC st n m)[i]? = some ((rowP st n m pp).map (Option.map fun e => ((finP st n m).idxOf e.1, e.2))) := by rw [stC, List.getElem?_map, gpp]; rfl
            have lws : ws.length ≤ 40 := by have := Paired.length up.pr; rw [List.length_take] at this; omega
            rw [List.take_add_one, gC']
            obtain ⟨rr, rs, rfl, err, prr⟩ := hes.same sx
            walk_at "rd"
            refine ⟨rfl, i_yes (iteT ?_)⟩
            walk_at "rd"
            refine ⟨⟨_, sqL_of err⟩, ?_⟩
            have lrs : rs.length = n := by rw [Paired.length prr, rowP, List.length_map, List.length_range]
            have n5 := g.n5
            refine go_lc (walk_list (xs := rs)) (fun q j Hu => EUp Hz q (((rowP st n m pp).map (Option.map fun e => ((finP st n m).idxOf e.1, e.2))).take j) Hu) (fun q nq => EUp.nil nq) (fun q j Hu hj h => sqL_of (h.row.2 _ _ err)) (fun q nq j v Hu Hv hj h y => ?_) (fun q Hu nq h => ?_)
            · obtain ⟨rfl, hv2⟩ := y
              obtain ⟨ee, gee, hee⟩ := pairedAt prr hv2
              have su := h.row.2
              have hee := hee.tk (TK.of su)
              have gE : ((rowP st n m pp).map (Option.map fun e => ((finP st n m).idxOf e.1, e.2)))[j]? = some (ee.map fun e => ((finP st n m).idxOf e.1, e.2)) := by rw [List.getElem?_map, gee]; rfl
              rw [List.take_add_one, gE]
              walk_at "rd"
              refine ⟨rfl, i_yes (iteT ?_)⟩
              walk_at "rd"
              rcases ee with _ | ⟨gg, wd⟩
              · cases (show v = V.non from hee)
                walk_at "rd"
                exact h.pushN nq (Same.refl _) (by rw [List.length_take]; omega)
              · obtain ⟨t, u, rfl, et, eu⟩ := hee
                have mg : gg ∈ finP st n m := fin_closed few mpp (List.mem_of_getElem? gee)
                have vg := vkv gg
                rw [if_pos mg] at vg
                walk_at "rd"
                refine i_dgetT (ks := keyP gg) (su _ _ (sx _ _ ekv)) eu vg ?_
                walk_at "rd"
                refine newT0 (Nat.le_of_ble_eq_true rfl) fun t2 Hw nt2 s2 et2 => ?_
                exact h.push nq s2 et2 (by rw [List.length_take]; omega)
            · rw [lrs, List.take_of_length_le (by simp [rowP])] at h
              obtain ⟨hr, su⟩ := h.row
              have nqp : q ≠ sp := Ne.symm (ne_of_none up.e nq)
              exact ⟨ws, su _ _ up.e, sm100 (by omega), _, (up.same su).push hr nqp, Same.set_new (sx.trans su) np⟩
          obtain ⟨ws, up, sy⟩ := h
          rw [lv2, ← lC, List.take_length] at up
          have hSt := up.st
          walk_at "rd"
          have ev1y := sy _ _ ev1
          refine ⟨⟨_, sqL_of ev1y⟩, ?_⟩
          have lE : (enC st en n m).length = k0 := by simp only [enC, List.length_map]; exact c
          refine go_lc (walk_list (xs := v1)) (fun p i Hz => Hz p = some (.lst (((enC st en n m).take i).map endV)) ∧ Same Hy Hz) (fun p np => ⟨by rw [List.take_zero]; exact upd_same, same_upd np⟩) (fun p i Hz hi h => sqL_of (h.2 _ _ ev1y)) (fun ep np i v Hz Hu hi h y => ?_) (fun ep Hz nep h => ?_)
          · obtain ⟨eE, sz⟩ := h
            obtain ⟨rfl, hv⟩ := y
            obtain ⟨pp, gpp, t, rfl, et⟩ := pairedAt pr1 hv
            obtain ⟨q1, q2, q3⟩ := pp
            have et := sz _ _ (sy _ _ et)
            have mpp := List.mem_of_getElem? gpp
            have hq : q1 < st.length := (fin_in few _ mpp).1
            have gE : (enC st en n m)[i]? = some (if q2 = 0 then en.getD q1 none else none) := by rw [enC, List.getElem?_map, gpp]; rfl
            have gq : (en.map endV)[q1]? = some (endV (en.getD q1 none)) := by rw [List.getElem?_map, List.getD_eq_getElem?_getD, List.getElem?_eq_getElem (by rw [g.le]; exact hq)]; rfl
            have k0z : Same H Hu := k07.trans (sy.trans sz)
            rw [List.take_add_one, gE]
            walk_at "rd"
            refine ⟨rfl, i_yes (iteT ?_)⟩
            have ll : ((((enC st en n m).take i).map endV)).length < sizeLine := sm100 (by rw [List.length_map, List.length_take]; omega)
            walk_at "rd"
            refine iteB (fun c0 => ?_) (fun c0 => ?_)
            · have c0 : q2 = 0 := by have c0 : (q2 : Int) = 0 := c0; omega
              rw [if_pos c0]
              walk_at "rd"
              refine i_fldD dc.cl dc.a4 (k0z _ _ ha) rfl ?_
              walk_at "rd"
              refine i_ixTn (k := q1) (sqT_of (k0z _ _ hp2)) gq ?_
              exact ⟨_, eE, ll, by rw [upd_same, List.map_append]; rfl, Same.set_new sz np⟩
            · have c0 : ¬ q2 = 0 := by have c0 : ¬ (q2 : Int) = 0 := c0; omega
              rw [if_neg c0]
              walk_at "rd"
              exact ⟨_, eE, ll, by rw [upd_same, List.map_append]; rfl, Same.set_new sz np⟩
          obtain ⟨eE, sz⟩ := h
          rw [lv1, c, ← lE, List.take_length] at eE
          have k0z : Same H Hz := k07.trans (sy.trans sz)
          walk_at "rd"
          refine i_fldD dc.cl dc.a1 (k0z _ _ ha) rfl ?_
          walk_at "rd"
          refine i_makeD (hSt.same sz) ⟨ep, rfl, .inl eE⟩ gC fun v' H' s' D' => ?_
          exact k v' H' (k0z.trans s') D'
theorem ok_cd0 {C : Addr} (F : Fun K "check_decoder" "check_decoder" s_check_decoder f fd) (z : Z mg) (hmD : mg "Decoder" = some (.ref C)) (ic_Decoder : C8.InsC K C) : FnOk P w K mg base CX0 1 f fd ["decoder"] (spCD0 C) := by
  refine F.ok sc_check_decoder (fun vs H Q E h => ?_) (fun cdv A outer s H vs Q E hr h => ?_)
  · obtain ⟨a, dx, fs, rfl, _⟩ := h; rfl
  · obtain ⟨a, dx, fs, rfl, ha, k⟩ := h
    refine ⟨_, (pss_one (ps_if (pt_not (pt_val (pe_callB (C8.call_isC ic_Decoder) (by rfl) z.isinstance (by decide +kernel) (pa_cons (pv 0) (pa_cons (pe_glob (v := .ref C) rfl hmD rfl) pa_nil)))))
        (pss_one ps_never)
        pss_nil)), ?_⟩
    walk_at "rd"
    refine ⟨a, dx, fs, rfl, ha, ?_⟩
    walk_at "rd"
    exact k
theorem ok_wm {C XD XS : Addr} (F : Fun K "with_marker" "with_marker" s_with_marker f fd) (z : Z mg) (dc : DcC K C) (xs : XQ "InvalidSigns" P w K mg base XS) {t5 : Tok} (g_MOST_SIGNS : mg "MOST_SIGNS" = some (.int 5 t5))
    (x_check_decoder : CalX P w K mg base "check_decoder" ["decoder"] 3 (spCD K C XD)) (m_Decoder : C8.Mak P w K mg base 5 "Decoder" C (spIni C) []) :
    FnOk P w K mg base (L2.CX P w) 7 f fd ["decoder"] (spWM K C XD XS) := by
  refine Sw.Fun.okX F sc_with_marker (fun vs H Q E h => ?_) (fun cdv A outer s H vs Q E hr h tk => ?_)
  · obtain ⟨v, rfl, _⟩ := h; rfl
  · obtain ⟨v, rfl, h⟩ := h
    refine ⟨_, (pss_cons (ps_expr (pe_calX x_check_decoder hr tk (pa_cons (pv 0) pa_nil)))
      (pss_cons (ps_if (pt_cmpR op_eq (pe_fld (pv 0) (by rfl)) (pe_glob (v := .int 5) rfl g_MOST_SIGNS ⟨_, rfl⟩) (nomark _))
        (pss_one (ps_rs rfl tk (pmk_Q xs hr (pe_op op_add (pe_fld (pv 0) (by rfl)) pe_int))))
        pss_nil)
      (pss_cons (ps_setLc (i := 1) (own := [("end", 2)]) (g := gName 2) (tt := tYes) rfl sc_with_marker.nd rfl rfl (sw_true rfl rfl rfl (by decide +kernel)) (pi_tup (pe_fld (pv 0) (by rfl))) (blkOk_by (own := [("end", 2)]) (N := n_with_marker) (sc := defScope s_with_marker) (by decide +kernel)) (fun _ _ _ _ _ => (pg_name (i := 2) sc_with_marker.nd rfl (.inl rfl))) (fun _ _ _ _ _ => pts_nil) (fun _ _ _ _ _ => (pe_ifExp (pt_cmpR op_isNo (pv 2) pe_non (nomark _)) pe_non (pe_tup (pa_cons pe_int (pa_cons (pv 2) pa_nil))))))
      (pss_cons (ps_setLc (i := 3) (own := [("row", 4), ("mark", 5)]) (g := gTup K 2 (gCons (gName 4) (gCons (gName 5) gNil))) (tt := tYes) rfl sc_with_marker.nd rfl rfl (sw_true rfl rfl rfl (by decide +kernel)) (pi_zipT (by rfl) z.zip (pa_cons (pe_fld (pv 0) (by rfl)) (pa_cons (pv 1) pa_nil))) (blkOk_by (own := [("row", 4), ("mark", 5)]) (N := n_with_marker) (sc := defScope s_with_marker) (by decide +kernel)) (fun _ _ _ _ _ => (pg_tup rfl (pgs_cons (pg_name (i := 4) sc_with_marker.nd rfl (.inl rfl)) (pgs_cons (pg_name (i := 5) sc_with_marker.nd rfl (.inl rfl)) pgs_nil)))) (fun _ _ _ _ _ => pts_nil) (fun _ _ _ _ _ => (pe_lst (pa_starK (K := K) rfl (pv 4) (pa_cons (pv 5) pa_nil)))))
      (pss_one (ps_ret (C8.pe_mk m_Decoder hr (by decide) (by rfl) (pa_cons (pe_op op_add (pe_fld (pv 0) (by rfl)) pe_int) (pa_cons (pv 3) (pa_cons (pe_fld (pv 0) (by rfl)) pa_nil)))))))))), ?_⟩
    walk_at "rd"
    rcases h with ⟨d, hd, k⟩ | ⟨st, en, ⟨a, dx, p1, p2, rfl, ha, hp1, hp2⟩, k⟩ | ⟨n, st, en, ⟨a, dx, p1, p2, rfl, ha, hp1, hp2⟩, g, n4, k⟩
    · exact ⟨v, rfl, .inl ⟨d, hd, k⟩⟩
    · refine ⟨.ref a, rfl, .inr ⟨a, dx, _, rfl, ha, ?_⟩⟩
      walk_at "rd"
      refine i_fldD dc.cl dc.a1 ha rfl ?_
      walk_at "rd"
      rw [decide_eq_true (show ((5 : Nat) : Int) = 5 from rfl)]
      walk_at "rd"
      refine i_fldD dc.cl dc.a1 ha rfl ?_
      walk_at "rd"
      refine i_thrown xs.T xs.no fun dx' ndx => ?_
      exact k dx' _ ndx (same_upd ndx) upd_same
    · refine ⟨.ref a, rfl, .inr ⟨a, dx, _, rfl, ha, ?_⟩⟩
      walk_at "rd"
      refine i_fldD dc.cl dc.a1 ha rfl ?_
      walk_at "rd"
      rw [decide_eq_false (show ¬ (n : Int) = 5 by omega)]
      walk_at "rd"
      refine i_fldD dc.cl dc.a4 ha rfl ?_
      walk_at "rd"
      have g6 := g.s6
      have gl := g.le
      refine ⟨⟨_, sqT_of hp2⟩, ?_⟩
      refine go_lc (walk_tup (xs := en.map endV)) (fun p i Hx => EUp H p ((en.map markE).take i) Hx) (fun p np => EUp.nil np) (fun p i Hx hi h => sqT_of (h.row.2 _ _ hp2)) (fun p np i v Hx Hy hi h y => ?_) (fun mp Hx nmp h => ?_)
      · obtain ⟨rfl, hv⟩ := y
        rw [List.length_map] at hi
        have ge : en[i]? = some en[i] := List.getElem?_eq_getElem hi
        rw [List.getElem?_map, ge] at hv
        cases hv
        rw [List.take_add_one, List.getElem?_map, ge]
        generalize en[i] = ee at *
        walk_at "rd"
        refine ⟨rfl, i_yes (iteT ?_)⟩
        walk_at "rd"
        rcases ee with _ | wd
        · walk_at "rd"
          exact h.pushN np (Same.refl _) (by rw [List.length_take]; omega)
        · walk_at "rd"
          refine newT0 (Nat.le_of_ble_eq_true rfl) fun t2 Hw nt2 s2 et2 => ?_
          exact h.push np s2 et2 (by rw [List.length_take]; omega)
      rw [List.length_map, ← List.length_map (f := markE), List.take_length] at h
      obtain ⟨⟨mp', ms, e1, emp, prm⟩, s1⟩ := h.row
      cases e1
      have ha1 := s1 _ _ ha
      obtain ⟨q1, vs, e1, eq1, prs⟩ := hp1.same s1
      cases e1
      have lvs : vs.length = st.length := Paired.length prs
      have lms : ms.length = en.length := by rw [Paired.length prm, List.length_map]
      walk_at "rd"
      refine i_fldD dc.cl dc.a3 ha1 rfl ?_
      walk_at "rd"
      refine ⟨p1, mp, vs, ms, rfl, sqT_of eq1, sqL_of emp, ?_⟩
      refine go_lc (walk_zipT (xs := vs) (ys := ms) (by omega)) (fun p i Hy => ∃ ws, SUp p ((stM st en).take i) ws Hy ∧ Same Hx Hy) (fun p np => ⟨[], ⟨upd_same, .nil⟩, same_upd np⟩) (fun p i Hy hi h => ⟨sqT_of (h.choose_spec.2 _ _ eq1), sqL_of (h.choose_spec.2 _ _ emp)⟩) (fun sp np i v Hy Hz hi h y => ?_) (fun sp Hy nsp h => ?_)
      · obtain ⟨ws, up, sx⟩ := h
        obtain ⟨T, x1, y1, rfl, nT, rfl, gx, gy⟩ := y
        have gx : vs[i]? = some x1 := gx
        have gy : ms[i]? = some y1 := gy
        obtain ⟨row, grow, hrow⟩ := pairedAt prs gx
        obtain ⟨ee, gee, hee⟩ := pairedAt prm gy
        obtain ⟨e0, ge0, gM⟩ := stM_get gl grow
        rw [List.getElem?_map, ge0] at gee
        cases gee
        rw [List.take_add_one, gM]
        have sT := same_upd (o := HO.tup [x1, y1]) nT
        have eT := upd_same (H := Hy) (a := T) (o := HO.tup [x1, y1])
        have up := up.same sT
        have sx := sx.trans sT
        generalize upd Hy T (.tup [x1, y1]) = Hz at *
        have hee := hee.same sx
        obtain ⟨rr, rs, rfl, err, prr⟩ := hrow.same sx
        have lws : ws.length ≤ 40 := by have := Paired.length up.pr; rw [List.length_take] at this; omega
        walk_at "rd"
        refine ⟨rfl, i_yes (iteT ?_)⟩
        walk_at "rd"
        refine ⟨rr, rs, rfl, .inl (sqT_of err), ?_⟩
        walk_at "rd"
        have lrs : rs.length = n := by rw [Paired.length prr]; exact g.row row (List.mem_of_getElem? grow)
        refine newL0 (Nat.le_of_lt (sm100 (by rw [List.length_append, lrs]; simp only [List.length_cons, List.length_nil]; omega))) fun rp Hu nrp su eu => ?_
        have hr : RowAt Hu (.ref rp) (row ++ [markE e0]) := ⟨rp, _, rfl, eu, Paired.snoc (Paired.mapP prr fun _ _ z => z.same su) (hee.same su)⟩
        have nqp : rp ≠ sp := Ne.symm (ne_of_none up.e nrp)
        exact ⟨ws, su _ _ up.e, sm100 (by omega), _, (up.same su).push hr nqp, Same.set_new (sx.trans su) np⟩
      obtain ⟨ws, up, sy⟩ := h
      have lM := len_stM gl
      rw [lvs, ← lM, List.take_length] at up
      have hSt := up.st
      have k0 : Same H Hy := s1.trans sy
      walk_at "rd"
      refine i_fldD dc.cl dc.a1 (k0 _ _ ha) rfl ?_
      walk_at "rd"
      refine i_fldD dc.cl dc.a4 (k0 _ _ ha) rfl ?_
      walk_at "rd"
      rw [show ((n : Int) + 1) = ((n + 1 : Nat) : Int) from rfl]
      refine i_makeD hSt ⟨p2, rfl, .inr (k0 _ _ hp2)⟩ (good_M g n4) fun v' H' s' D' => ?_
      exact k v' H' (k0.trans s') D'
end
end Sw
namespace Sw
open PySem PySem.Spec PyProof.Rows L2
open Sw.Bf (Pl PEnt entP rowP addP bfs InB)
local macro_rules | `(tactic| walk_at "hp") => `(tactic| first
  | (with_reducible assumption) | (with_reducible exact upd_same)
  | ((with_reducible refine' upd_old ?q1 ?q2); (case q1 => (with_reducible assumption)); (case q2 => walk_at "hp"))
  | ((with_reducible refine' Same.at ?q1 ?q2); (case q1 => (with_reducible assumption)); (case q2 => walk_at "hp"))
  | ((with_reducible refine' upd_skip ?q1 ?q2); (case q1 => walk_at "ne"); (case q2 => walk_at "hp"))
  | fail)
local macro_rules | `(tactic| walk_at "ne") => `(tactic| first
  | (with_reducible assumption) | (with_reducible exact Ne.symm (by assumption))
  | ((with_reducible refine' ne_of_none ?q1 ?q2); (case q2 => (with_reducible assumption)); (case q1 => walk_at "hp"))
  | fail)
local macro_rules | `(tactic| walk_at "ci") => `(tactic| first | assumption | (show (0 : Int) < _; first | decide | (with_reducible omega)) | exact ⟨by decide, by decide⟩ | exact .inl ⟨by decide, by decide⟩ | exact .inr ⟨by decide, by decide⟩)
local macro_rules | `(tactic| walk_at "ln") => `(tactic| first | (with_reducible assumption) | (with_reducible omega) | (simp only [List.length_append, List.length_take, List.length_drop, List.length_reverse, List.length_cons, List.length_nil]; with_reducible omega))
local macro_rules | `(tactic| walk_at "rd1") => `(tactic| first
  | (with_reducible refine i_seq ?_) | (with_reducible refine i_asg ?_) | (with_reducible refine i_ret ?_) | (with_reducible refine i_name ?_) | ((with_reducible refine' i_var ?q1 ?_); (case q1 => exact rfl)) | (with_reducible refine i_c ?_) | (with_reducible refine i_op ?_) | (with_reducible refine i_un ?_)
  | (with_reducible refine i_rI0 ?_) | (with_reducible refine i_cb ?_) | (with_reducible refine i_cons ?_) | (with_reducible refine i_nil ?_) | (with_reducible refine i_call ?_) | (with_reducible refine i_if ?_) | (with_reducible refine i_ifE ?_) | (with_reducible refine i_test ?_) | (with_reducible refine i_bl ?_)
  | (with_reducible refine i_and ?_) | (with_reducible refine i_or ?_) | (with_reducible refine i_not ?_) | (with_reducible refine i_lstM ?_) | (with_reducible refine i_lstLM ?_) | (with_reducible refine i_tupM ?_) | (with_reducible refine i_next ?_) | (with_reducible refine i_drop ?_) | (with_reducible refine i_sub ?_)
  | (with_reducible refine i_bm ?_) | (with_reducible refine i_sl ?_) | (with_reducible refine i_part ?_) | (with_reducible refine i_nopart ?_) | (with_reducible refine i_exI ?_) | (with_reducible refine i_chain ?_) | ((with_reducible refine' i_aug ?q1 ?_); (case q1 => exact rfl)) | (with_reducible refine i_ip ?_)
  | (with_reducible refine i_par ?_) | (with_reducible refine i_pair ?_) | (with_reducible refine i_andV ?_) | (with_reducible refine i_orV ?_) | (with_reducible refine i_notV ?_) | (with_reducible refine i_m1 ?_) | (with_reducible refine i_str ?_)
  | (with_reducible refine iteF ?_) | (with_reducible refine iteT ?_) | (with_reducible refine iteNT ?_) | (with_reducible refine iteNF ?_) | (with_reducible refine i_tyS ?_) | (with_reducible refine i_tB ?_) | (with_reducible refine i_retN ?_) | (with_reducible refine i_par3 ?_) | (with_reducible refine i_trip ?_) | (with_reducible refine i_gCons ?_) | (with_reducible refine i_gNil ?_) | (with_reducible refine i_lstRg ?_) | (with_reducible refine i_rg1 ?_)
  | (with_reducible refine i_lc ?_) | (with_reducible refine i_for ?_) | (with_reducible refine i_iList ?_) | (with_reducible refine i_iTup ?_) | (with_reducible refine i_iStr ?_) | (with_reducible refine i_iRng1 ?_) | (with_reducible refine i_iEnS ?_)
  | ((with_reducible refine' i_ixTH ?q1 ?q2 ?_); (case q1 => walk_at "hp"); (case q2 => exact rfl))
  | ((with_reducible refine' i_ixLH ?q1 ?q2 ?_); (case q1 => walk_at "hp"); (case q2 => exact rfl))
  | ((with_reducible refine i_addS ?q1 ?_); (case q1 => walk_at "ln")) | ((with_reducible refine i_lenSS ?q1 ?_); (case q1 => walk_at "ln")) | ((with_reducible refine i_slFrom ?q1 ?q2 ?_); (case q1 => walk_at "ln"); (case q2 => walk_at "ln")) | ((with_reducible refine i_slTo ?q1 ?q2 ?_); (case q1 => walk_at "ln"); (case q2 => walk_at "ln"))
  | ((with_reducible refine' i_tyL ?q1 ?_); (case q1 => walk_at "hp"))
  | ((with_reducible refine' i_gTupH ?q1 ?q2 ?_); (case q1 => walk_at "hp"); (case q2 => exact rfl))
  | (with_reducible refine i_dnewM ?_) | (with_reducible refine i_init ?_) | (with_reducible refine i_fst ?_) | (with_reducible refine i_mk ?_) | (with_reducible refine i_mkF ?_) | (with_reducible refine i_raise ?_) | (with_reducible refine i_callS ?_) | (with_reducible refine i_kwS ?_)
  | (with_reducible refine i_revT ?_) | (with_reducible refine i_kw ?_) | ((with_reducible refine' ⟨_, _, rfl, sqT_of ?q1, ?_⟩); (case q1 => walk_at "hp"))
  | (with_reducible refine i_revS ?_) | ((with_reducible refine i_revSS ?q1 ?_); (case q1 => walk_at "ln"))
  | (with_reducible refine i_startS ?_) | (with_reducible refine i_inSg ?_) | (with_reducible refine i_absN ?_) | (with_reducible refine i_min2 ?_) | (with_reducible refine i_max2 ?_) | (with_reducible refine i_min3 ?_) | (with_reducible refine i_intN ?_) | (with_reducible refine i_intNB ?_)
  | ((with_reducible refine' i_lenL ?q1 ?_); (case q1 => walk_at "hp")) | ((with_reducible refine' i_lenT ?q1 ?_); (case q1 => walk_at "hp"))
  | (with_reducible refine i_eqI ?_) | (with_reducible refine i_neI ?_) | (with_reducible refine i_eqS ?_) | (with_reducible refine i_neS ?_) | (with_reducible refine i_isNoI ?_) | (with_reducible refine i_isNoN ?_) | (with_reducible refine i_isNoR ?_)
  | ((with_reducible refine i_pow ?q1 ?q2 ?q3 ?_); (case q1 => decide); (case q2 => decide); (case q3 => (with_reducible omega)))
  | ((with_reducible refine i_rI ?q1 ?_); (case q1 => walk_at "ci"))
  | (with_reducible refine Or.inl ⟨_, rfl, ?_⟩) | (with_reducible refine Or.inr ⟨_, rfl, ?_⟩) | (with_reducible refine ⟨_, rfl, ?_⟩) | (with_reducible refine ⟨_, _, rfl, ?_⟩) | (with_reducible refine ⟨_, _, rfl, rfl, ?_⟩)
  | ((with_reducible refine' ⟨_, _, rfl, Or.inl (sqL_of ?q1), ?_⟩); (case q1 => walk_at "hp")) | ((with_reducible refine' ⟨_, _, rfl, Or.inr (sqT_of ?q1), ?_⟩); (case q1 => walk_at "hp")) | (with_reducible refine i_dget ?_) | (with_reducible refine i_disp1T ?_) | (with_reducible refine i_dcT ?_) | (with_reducible refine i_dnewT ?_) | (with_reducible refine i_fld ?_) | (with_reducible refine i_sFld ?_) | (with_reducible refine i_make ?_) | (with_reducible refine i_meth ?_) | (with_reducible refine i_star ?_) | (with_reducible refine i_isNoS ?_) | (with_reducible refine i_lc2 ?_) | (with_reducible refine i_iEnT ?_) | (with_reducible refine i_iZipT ?_) | fail)
local macro_rules | `(tactic| walk_at "rd") => `(tactic| repeat' walk_at "rd1")

def wmKs : List Str := ["decoder"]
abbrev tDec : List Nat := [100, 101, 99, 111, 100, 101, 114]
abbrev tSig : List Nat := [115, 105, 103, 110, 115]
abbrev tMany : List Nat := [109, 97, 110, 121]
abbrev tMade : List Nat := [109, 97, 100, 101]
/-- a new list of a word and a value is answered -/
def ToldL (H : Hp) (t : List Nat) (x : V) (Q : VK) : Prop := ∀ a H', H a = none → sysModules < a → Same H H' → H' a = some (.lst [.str (S t), x]) → Q (.ref a) H'
theorem ToldL.same {H H1 : Hp} {t : List Nat} {x : V} {Q : VK} (h : ToldL H t x Q) (s : Same H H1) : ToldL H1 t x Q := fun a H' n l s2 e => h a H' (s.free n) l (s.trans s2) e
/-- what comes of with_marker (way 0 or 1), of with_check (way 2) -/
def spTold (K : PySem.W.Frag) (C : Addr) : Sp := fun vs H Q _ => ∃ (i : Int) (v s : V), vs = [.int i, v, s] ∧
  (((i = 0 ∨ i = 1) ∧ ((∃ d, De K H v d ∧ ToldL H tDec v Q) ∨ (∃ st en, DAt C H v 5 st en ∧ ToldL H tSig (.int 6) Q) ∨
     (∃ n st en, DAt C H v n st en ∧ Good n st en ∧ n ≤ 4 ∧ ∀ t v' H', Same H H' → DAt C H' v' (n + 1) (stM st en) en → H' t = some (.lst [.str (S tMade), v']) → Q (.ref t) H'))) ∨
   (i = 2 ∧ ((∃ d, De K H v d ∧ ToldL H tDec v Q) ∨
     (∃ (n m : Nat) (st : List (List Ent)) (en : List (Option (List Nat))), DAt C H v n st en ∧ Good n st en ∧ Few st n m ∧ s = iV m ∧ 1 ≤ m ∧ m ≤ 4 ∧
      (40 < (finP st n m).length → ToldL H tMany (.int (finP st n m).length) Q) ∧
      ((finP st n m).length ≤ 40 → ∀ t v' H', Same H H' → DAt C H' v' n (stC st n m) (enC st en n m) → H' t = some (.lst [.str (S tMade), v']) → Q (.ref t) H')))))
section
variable {P : Program} {w : World} {K : PySem.W.Frag} {mg : Str → Option Value} {base : Heap} {f : Addr} {fd : FuncData}
theorem ok_told {C XD XS XM : Addr} (F : Fun K "_law_told" "_law_told" s__law_told f fd) (xd : XQ "InvalidDecoder" P w K mg base XD) (xs : XQ "InvalidSigns" P w K mg base XS) (xm : XF "TooMany" "count" P w K mg base XM) (hSD : PySem.W.exmOne K (.ref XS) (.ref XD) = some false) (hMD : PySem.W.exmOne K (.ref XM) (.ref XD) = some false) (hMS : PySem.W.exmOne K (.ref XM) (.ref XS) = some false)
    (x_with_check : CalX P w K mg base "with_check" ["decoder", "size"] 7 (spWC K C XD XM)) (x_with_marker : CalX P w K mg base "with_marker" ["decoder"] 7 (spWM K C XD XS)) (kx_with_marker : CalKX P w K mg base "with_marker" ["decoder"] 7 (spWM K C XD XS) wmKs one1 one1) :
    FnOk P w K mg base CX0 8 f fd ["way", "thing", "many"] (spTold K C) := by
  refine F.ok sc__law_told (fun vs H Q E h => ?_) (fun cdv A outer s H vs Q E hr h => ?_)
  · obtain ⟨i, v, s, rfl, _⟩ := h; rfl
  · obtain ⟨i, v, s, rfl, h⟩ := h
    refine ⟨_, (pss_one (ps_tries (Wo := fun _ _ _ _ => False) rfl rfl sc__law_told.nd takes_none (fun W pn xe tk po => (pss_cons (ps_if (pt_cmpR op_eq (pv 0) pe_int (nomark _))
          (pss_one (ps_ret (pe_lstL (pa_cons (pe_strS (l := [109, 97, 100, 101]) (by decide +kernel)) (pa_cons (pe_calX x_with_marker hr tk (pa_cons (pv 1) pa_nil)) pa_nil)))))
          pss_nil)
        (pss_cons (ps_if (pt_cmpR op_eq (pv 0) pe_int (nomark _))
          (pss_one (ps_ret (pe_lstL (pa_cons (pe_strS (l := [109, 97, 100, 101]) (by decide +kernel)) (pa_cons (pe_calKX kx_with_marker hr tk (pk_cons (pv 1) pk_nil)) pa_nil)))))
          pss_nil)
        (pss_one (ps_ret (pe_lstL (pa_cons (pe_strS (l := [109, 97, 100, 101]) (by decide +kernel)) (pa_cons (pe_calX x_with_check hr tk (pa_cons (pv 1) (pa_cons (pv 2) pa_nil))) pa_nil))))))))
      (.cons (i := 3) rfl rfl (names_Q xd) (fun a oe cls d pn hz hf => (pss_one (ps_ret (pe_lstL (pa_cons (pe_strS (l := [100, 101, 99, 111, 100, 101, 114]) (by decide +kernel)) (pa_cons (pe_xf xd.xf xd.no hz hf (pv 3)) pa_nil)))))) (.cons (i := 3) rfl rfl (names_Q xs) (fun a oe cls d pn hz hf => (pss_one (ps_ret (pe_lstL (pa_cons (pe_strS (l := [115, 105, 103, 110, 115]) (by decide +kernel)) (pa_cons (pe_xf xs.xf xs.no hz hf (pv 3)) pa_nil)))))) (.cons (i := 3) rfl rfl (names_F xm) (fun a oe cls d pn hz hf => (pss_one (ps_ret (pe_lstL (pa_cons (pe_strS (l := [109, 97, 110, 121]) (by decide +kernel)) (pa_cons (pe_xf xm.xf xm.no hz hf (pv 3)) pa_nil)))))) .nil))))), ?_⟩
    walk_at "rd"
    rcases h with ⟨hi, h⟩ | ⟨rfl, h⟩
    · have key : ∀ (Q' : VK) (E' : XK),
          (∀ v' H1, Same H H1 → (∀ t H2, Same H1 H2 → H2 t = some (.lst [.str (S tMade), v']) → Q (.ref t) H2) → Q' v' H1) →
          (∀ dx H1, H dx = none → Same H H1 → ((H1 dx = some (.xd [("given", v)]) ∧ ToldL H1 tDec v Q) → E' (.ref XD) (some dx) H1) ∧ ((H1 dx = some (.xd [("given", .int 6)]) ∧ ToldL H1 tSig (.int 6) Q) → E' (.ref XS) (some dx) H1)) →
          spWM K C XD XS [v] H Q' E' := fun Q' E' kQ kE => by
        refine ⟨v, rfl, ?_⟩
        rcases h with ⟨d, hd, k⟩ | ⟨st, en, D, k⟩ | ⟨n, st, en, D, g, n4, k⟩
        · exact .inl ⟨d, hd, fun dx H' n1 s1 e1 => (kE dx H' n1 s1).1 ⟨e1, k.same s1⟩⟩
        · exact .inr (.inl ⟨st, en, D, fun dx H' n1 s1 e1 => (kE dx H' n1 s1).2 ⟨e1, k.same s1⟩⟩)
        · exact .inr (.inr ⟨n, st, en, D, g, n4, fun v' H' s1 D' => kQ v' H' s1 fun t H2 s2 et => k t v' H2 (s1.trans s2) (D'.same s2) et⟩)
      refine iteB (fun c => ?_) (fun c => ?_)
      · walk_at "rd"
        refine key _ _ (fun v' H1 s1 kk => ?_) (fun dx H1 n1 s1 => ⟨fun hk => ?_, fun hk => ?_⟩)
        · walk_at "rd"
          refine newLL0 (Nat.le_of_ble_eq_true rfl) fun t H2 nt lt s2 et => ?_
          exact kk t _ s2 et
        · obtain ⟨ed, kk⟩ := hk
          refine ⟨true, xd.me, fun _ a na => ?_, fun z => by cases z⟩
          walk_at "rd"
          refine ⟨_, rfl, rfl, rfl, dx, _, _, rfl, ed, rfl, ?_⟩
          walk_at "rd"
          refine newLL0 (Nat.le_of_ble_eq_true rfl) fun t H2 nt lt s2 et => ?_
          exact kk t _ nt lt s2 et
        · obtain ⟨ed, kk⟩ := hk
          refine ⟨false, hSD, (fun z => by cases z), fun _ => ⟨true, xs.me, fun _ a na => ?_, fun z => by cases z⟩⟩
          walk_at "rd"
          refine ⟨_, rfl, rfl, rfl, dx, _, _, rfl, ed, rfl, ?_⟩
          walk_at "rd"
          refine newLL0 (Nat.le_of_ble_eq_true rfl) fun t H2 nt lt s2 et => ?_
          exact kk t _ nt lt s2 et
      · walk_at "rd"
        refine iteB (fun c1 => ?_) (fun c1 => ?_)
        rotate_left
        · exact absurd (hi.resolve_left c) c1
        walk_at "rd"
        refine key _ _ (fun v' H1 s1 kk => ?_) (fun dx H1 n1 s1 => ⟨fun hk => ?_, fun hk => ?_⟩)
        · walk_at "rd"
          refine newLL0 (Nat.le_of_ble_eq_true rfl) fun t H2 nt lt s2 et => ?_
          exact kk t _ s2 et
        · obtain ⟨ed, kk⟩ := hk
          refine ⟨true, xd.me, fun _ a na => ?_, fun z => by cases z⟩
          walk_at "rd"
          refine ⟨_, rfl, rfl, rfl, dx, _, _, rfl, ed, rfl, ?_⟩
          walk_at "rd"
          refine newLL0 (Nat.le_of_ble_eq_true rfl) fun t H2 nt lt s2 et => ?_
          exact kk t _ nt lt s2 et
        · obtain ⟨ed, kk⟩ := hk
          refine ⟨false, hSD, (fun z => by cases z), fun _ => ⟨true, xs.me, fun _ a na => ?_, fun z => by cases z⟩⟩
          walk_at "rd"
          refine ⟨_, rfl, rfl, rfl, dx, _, _, rfl, ed, rfl, ?_⟩
          walk_at "rd"
          refine newLL0 (Nat.le_of_ble_eq_true rfl) fun t H2 nt lt s2 et => ?_
          exact kk t _ nt lt s2 et
    · have key : ∀ (Q' : VK) (E' : XK),
          (∀ v' H1, Same H H1 → (∀ t H2, Same H1 H2 → H2 t = some (.lst [.str (S tMade), v']) → Q (.ref t) H2) → Q' v' H1) →
          (∀ dx H1, H dx = none → Same H H1 → ((H1 dx = some (.xd [("given", v)]) ∧ ToldL H1 tDec v Q) → E' (.ref XD) (some dx) H1) ∧ (∀ N : Nat, (H1 dx = some (.xd [("count", .int N)]) ∧ ToldL H1 tMany (.int N) Q) → E' (.ref XM) (some dx) H1)) →
          spWC K C XD XM [v, s] H Q' E' := fun Q' E' kQ kE => by
        refine ⟨v, s, rfl, ?_⟩
        rcases h with ⟨d, hd, k⟩ | ⟨n, m, st, en, D, g, few, rfl, m1, m4, kX, k⟩
        · exact .inl ⟨d, hd, fun dx H' n1 s1 e1 => (kE dx H' n1 s1).1 ⟨e1, k.same s1⟩⟩
        · exact .inr ⟨n, m, st, en, D, g, few, rfl, m1, m4, fun h40 dx H' n1 s1 e1 => (kE dx H' n1 s1).2 _ ⟨e1, (kX h40).same s1⟩, fun h40 v' H' s1 D' => kQ v' H' s1 fun t H2 s2 et => k h40 t v' H2 (s1.trans s2) (D'.same s2) et⟩
      rw [show decide ((2 : Int) = 0) = false from rfl]
      walk_at "rd"
      rw [show decide ((2 : Int) = 1) = false from rfl]
      walk_at "rd"
      refine key _ _ (fun v' H1 s1 kk => ?_) (fun dx H1 n1 s1 => ⟨fun hk => ?_, fun N hk => ?_⟩)
      · walk_at "rd"
        refine newLL0 (Nat.le_of_ble_eq_true rfl) fun t H2 nt lt s2 et => ?_
        exact kk t _ s2 et
      · obtain ⟨ed, kk⟩ := hk
        refine ⟨true, xd.me, fun _ a na => ?_, fun z => by cases z⟩
        walk_at "rd"
        refine ⟨_, rfl, rfl, rfl, dx, _, _, rfl, ed, rfl, ?_⟩
        walk_at "rd"
        refine newLL0 (Nat.le_of_ble_eq_true rfl) fun t H2 nt lt s2 et => ?_
        exact kk t _ nt lt s2 et
      · obtain ⟨ed, kk⟩ := hk
        refine ⟨false, hMD, (fun z => by cases z), fun _ => ⟨false, hMS, (fun z => by cases z), fun _ => ⟨true, xm.me, fun _ a na => ?_, fun z => by cases z⟩⟩⟩
        walk_at "rd"
        refine ⟨_, rfl, rfl, rfl, dx, _, _, rfl, ed, rfl, ?_⟩
        walk_at "rd"
        refine newLL0 (Nat.le_of_ble_eq_true rfl) fun t H2 nt lt s2 et => ?_
        exact kk t _ nt lt s2 et
end
end Sw
namespace Sw
open PySem PySem.Spec PyProof.Rows L2
local macro_rules | `(tactic| walk_at "hp") => `(tactic| first
  | (with_reducible assumption) | (with_reducible exact upd_same)
  | ((with_reducible refine' upd_old ?q1 ?q2); (case q1 => (with_reducible assumption)); (case q2 => walk_at "hp"))
  | ((with_reducible refine' Same.at ?q1 ?q2); (case q1 => (with_reducible assumption)); (case q2 => walk_at "hp"))
  | ((with_reducible refine' upd_skip ?q1 ?q2); (case q1 => walk_at "ne"); (case q2 => walk_at "hp"))
  | fail)
local macro_rules | `(tactic| walk_at "ne") => `(tactic| first
  | (with_reducible assumption) | (with_reducible exact Ne.symm (by assumption))
  | ((with_reducible refine' ne_of_none ?q1 ?q2); (case q2 => (with_reducible assumption)); (case q1 => walk_at "hp"))
  | fail)
local macro_rules | `(tactic| walk_at "ci") => `(tactic| first | assumption | (show (0 : Int) < _; first | decide | (with_reducible omega)) | exact ⟨by decide, by decide⟩ | exact .inl ⟨by decide, by decide⟩ | exact .inr ⟨by decide, by decide⟩)
local macro_rules | `(tactic| walk_at "ln") => `(tactic| first | (with_reducible assumption) | (with_reducible omega) | (simp only [List.length_append, List.length_take, List.length_drop, List.length_reverse, List.length_cons, List.length_nil]; with_reducible omega))
local macro_rules | `(tactic| walk_at "rd1") => `(tactic| first
  | (with_reducible refine i_seq ?_) | (with_reducible refine i_asg ?_) | (with_reducible refine i_ret ?_) | (with_reducible refine i_name ?_) | ((with_reducible refine' i_var ?q1 ?_); (case q1 => exact rfl)) | (with_reducible refine i_c ?_) | (with_reducible refine i_op ?_) | (with_reducible refine i_un ?_)
  | (with_reducible refine i_rI0 ?_) | (with_reducible refine i_cb ?_) | (with_reducible refine i_cons ?_) | (with_reducible refine i_nil ?_) | (with_reducible refine i_call ?_) | (with_reducible refine i_if ?_) | (with_reducible refine i_ifE ?_) | (with_reducible refine i_test ?_) | (with_reducible refine i_bl ?_)
  | (with_reducible refine i_and ?_) | (with_reducible refine i_or ?_) | (with_reducible refine i_not ?_) | (with_reducible refine i_lst ?_) | (with_reducible refine i_tup ?_) | (with_reducible refine i_next ?_) | (with_reducible refine i_drop ?_) | (with_reducible refine i_sub ?_)
  | (with_reducible refine i_bm ?_) | (with_reducible refine i_sl ?_) | (with_reducible refine i_part ?_) | (with_reducible refine i_nopart ?_) | (with_reducible refine i_exI ?_) | (with_reducible refine i_chain ?_) | ((with_reducible refine' i_aug ?q1 ?_); (case q1 => exact rfl)) | (with_reducible refine i_ip ?_)
  | (with_reducible refine i_par ?_) | (with_reducible refine i_pair ?_) | (with_reducible refine i_andV ?_) | (with_reducible refine i_orV ?_) | (with_reducible refine i_notV ?_) | (with_reducible refine i_m1 ?_) | (with_reducible refine i_str ?_)
  | (with_reducible refine iteF ?_) | (with_reducible refine iteT ?_) | (with_reducible refine iteNT ?_) | (with_reducible refine iteNF ?_) | (with_reducible refine i_tyS ?_) | (with_reducible refine i_tB ?_) | (with_reducible refine i_retN ?_) | (with_reducible refine i_par3 ?_) | (with_reducible refine i_trip ?_) | (with_reducible refine i_gCons ?_) | (with_reducible refine i_gNil ?_) | (with_reducible refine i_lstRg ?_) | (with_reducible refine i_rg1 ?_)
  | (with_reducible refine i_lc ?_) | (with_reducible refine i_for ?_) | (with_reducible refine i_iList ?_) | (with_reducible refine i_iTup ?_) | (with_reducible refine i_iStr ?_) | (with_reducible refine i_iRng1 ?_) | (with_reducible refine i_iEnS ?_)
  | ((with_reducible refine' i_ixTH ?q1 ?q2 ?_); (case q1 => walk_at "hp"); (case q2 => exact rfl))
  | ((with_reducible refine' i_ixLH ?q1 ?q2 ?_); (case q1 => walk_at "hp"); (case q2 => exact rfl))
  | ((with_reducible refine i_addS ?q1 ?_); (case q1 => walk_at "ln")) | ((with_reducible refine i_lenSS ?q1 ?_); (case q1 => walk_at "ln")) | ((with_reducible refine i_slFrom ?q1 ?q2 ?_); (case q1 => walk_at "ln"); (case q2 => walk_at "ln")) | ((with_reducible refine i_slTo ?q1 ?q2 ?_); (case q1 => walk_at "ln"); (case q2 => walk_at "ln"))
  | ((with_reducible refine' i_tyL ?q1 ?_); (case q1 => walk_at "hp"))
  | ((with_reducible refine' i_gTupH ?q1 ?q2 ?_); (case q1 => walk_at "hp"); (case q2 => exact rfl))
  | (with_reducible refine i_dnew ?_) | (with_reducible refine i_init ?_) | (with_reducible refine i_fst ?_) | (with_reducible refine i_mk ?_) | (with_reducible refine i_mkF ?_) | (with_reducible refine i_raise ?_) | (with_reducible refine i_callS ?_) | (with_reducible refine i_kwS ?_)
  | (with_reducible refine i_revT ?_) | (with_reducible refine i_kw ?_) | ((with_reducible refine' ⟨_, _, rfl, sqT_of ?q1, ?_⟩); (case q1 => walk_at "hp"))
  | (with_reducible refine i_revS ?_) | ((with_reducible refine i_revSS ?q1 ?_); (case q1 => walk_at "ln"))
  | (with_reducible refine i_startS ?_) | (with_reducible refine i_inSg ?_) | (with_reducible refine i_absN ?_) | (with_reducible refine i_min2 ?_) | (with_reducible refine i_max2 ?_) | (with_reducible refine i_min3 ?_) | (with_reducible refine i_intN ?_) | (with_reducible refine i_intNB ?_)
  | ((with_reducible refine' i_lenL ?q1 ?_); (case q1 => walk_at "hp")) | ((with_reducible refine' i_lenT ?q1 ?_); (case q1 => walk_at "hp"))
  | (with_reducible refine i_eqI ?_) | (with_reducible refine i_neI ?_) | (with_reducible refine i_eqS ?_) | (with_reducible refine i_neS ?_) | (with_reducible refine i_isNoI ?_) | (with_reducible refine i_isNoN ?_) | (with_reducible refine i_isNoR ?_)
  | ((with_reducible refine i_pow ?q1 ?q2 ?q3 ?_); (case q1 => decide); (case q2 => decide); (case q3 => (with_reducible omega)))
  | ((with_reducible refine i_rI ?q1 ?_); (case q1 => walk_at "ci"))
  | (with_reducible refine Or.inl ⟨_, rfl, ?_⟩) | (with_reducible refine Or.inr ⟨_, rfl, ?_⟩) | (with_reducible refine ⟨_, rfl, ?_⟩) | (with_reducible refine ⟨_, _, rfl, ?_⟩) | (with_reducible refine ⟨_, _, rfl, rfl, ?_⟩)
  | ((with_reducible refine' ⟨_, _, rfl, Or.inl (sqL_of ?q1), ?_⟩); (case q1 => walk_at "hp")) | ((with_reducible refine' ⟨_, _, rfl, Or.inr (sqT_of ?q1), ?_⟩); (case q1 => walk_at "hp")) | (with_reducible refine i_dget ?_) | (with_reducible refine i_disp1T ?_) | (with_reducible refine i_dcT ?_) | (with_reducible refine i_dnewT ?_) | (with_reducible refine i_fld ?_) | (with_reducible refine i_sFld ?_) | (with_reducible refine i_make ?_) | (with_reducible refine i_meth ?_) | (with_reducible refine i_star ?_) | (with_reducible refine i_isNoS ?_) | (with_reducible refine i_lc2 ?_) | (with_reducible refine i_iEnT ?_) | fail)
local macro_rules | `(tactic| walk_at "rd") => `(tactic| repeat' walk_at "rd1")


/-- common_beginning(one, other) -/
def spCommon : Sp := fun vs H Q _ => ∃ l r, vs = [.str (S l), .str (S r)] ∧ l.length ≤ 100000 ∧ r.length ≤ 100000 ∧
  ∀ m : Nat, m ≤ l.length → m ≤ r.length → l.take m = r.take m → Q (.int (m : Int)) H
/-- without_common_ends(one, other) -/
def spEnds : Sp := fun vs H Q _ => ∃ l r, vs = [.str (S l), .str (S r)] ∧ l.length ≤ 100000 ∧ r.length ≤ 100000 ∧
  ∀ (a x y b : List Nat) (p : Addr) (H' : Hp), l = a ++ x ++ b → r = a ++ y ++ b → Same H H' → H p = none → H' p = some (.tup [.str (S x), .str (S y)]) → Q (.ref p) H'
section
variable {P : Program} {w : World} {K : PySem.W.Frag} {mg : Str → Option Value} {base : Heap} {f : Addr} {fd : FuncData}
theorem ok_common (F : Fun K "common_beginning" "common_beginning" s_common_beginning f fd) (z : Z mg) : FnOk P w K mg base CX0 1 f fd ["one", "other"] spCommon := by
  refine F.ok sc_common_beginning (fun vs H Q E h => ?_) (fun cdv A outer s H vs Q E hr h => ?_)
  · obtain ⟨l, r, rfl, _⟩ := h; rfl
  · obtain ⟨l, r, rfl, hl, hr', k⟩ := h
    refine ⟨_, (pss_cons (ps_set (i := 2) sc_common_beginning.nd rfl (.inl rfl) pe_int)
      (pss_cons (ps_while PassesOwn.never (PW.pt (pw_and (pt_cmpR op_lt (pv 2) (pe_callB (call_min2N rfl) (by rfl) z.min_ (by decide +kernel) (pa_cons (pe_callB call_lenS (by rfl) z.len PySem.boot_len (pa_cons (pv 0) pa_nil)) (pa_cons (pe_callB call_lenS (by rfl) z.len PySem.boot_len (pa_cons (pv 1) pa_nil)) pa_nil))) (nomark _)) (pw_and1 (pt_cmpR op_eq (pe_ix ix_S (pv 0) (pv 2) (fun _ _ => rfl)) (pe_ix ix_S (pv 1) (pv 2) (fun _ _ => rfl)) (nomark _)))))
        (pss_one (ps_aug (i := 2) sc_common_beginning.nd rfl (.inl rfl) pe_int ip_add)))
      (pss_one (ps_ret (pv 2))))), ?_⟩
    walk_at "rd"
    refine go_while (fun n σ H2 => ∃ m : Nat, n = l.length - m ∧ σ = [some (.str (S l)), some (.str (S r)), some (.int (m : Int))] ∧ H2 = H ∧ m ≤ l.length ∧ m ≤ r.length ∧ l.take m = r.take m)
      (l.length - 0) ⟨0, rfl, rfl, rfl, Nat.zero_le _, Nat.zero_le _, rfl⟩ (fun n σ H2 h2 => ?_)
    obtain ⟨m, rfl, rfl, rfl, h1, h2, h3⟩ := h2
    walk_at "rd"
    refine iteB (fun hlt => ?_) (fun hge => ?_)
    · walk_at "rd"
      have e1 : m < l.length := by omega
      have e2 : m < r.length := by omega
      refine i_ixSS (by omega) (atI_nat (List.getElem?_eq_getElem e1)) ?_
      walk_at "rd"
      refine i_ixSS (by omega) (atI_nat (List.getElem?_eq_getElem e2)) ?_
      walk_at "rd"
      refine iteB (fun he => ?_) (fun hne => ?_)
      · refine ⟨_, fun _ _ q => q, ?_⟩
        walk_at "rd"
        refine ⟨l.length - (m + 1), by omega, m + 1, rfl, rfl, rfl, e1, e2, ?_⟩
        rw [List.take_add_one, List.take_add_one, h3, List.getElem?_eq_getElem e1, List.getElem?_eq_getElem e2, List.singleton_inj.mp he]
      · walk_at "rd"
        exact k m h1 h2 h3
    · walk_at "rd"
      exact k m h1 h2 h3
theorem ok_wends (F : Fun K "without_common_ends" "without_common_ends" s_without_common_ends f fd) (z : Z mg) (c_common_beginning : Cal P w K mg base "common_beginning" ["one", "other"] 1 spCommon) : FnOk P w K mg base CX0 2 f fd ["one", "other"] spEnds := by
  refine F.ok sc_without_common_ends (fun vs H Q E h => ?_) (fun cdv A outer s H vs Q E hr h => ?_)
  · obtain ⟨l, r, rfl, _⟩ := h; rfl
  · obtain ⟨l, r, rfl, hl, hr', k⟩ := h
    refine ⟨_, (pss_cons (ps_set (i := 2) sc_without_common_ends.nd rfl (.inl rfl) (pe_cal c_common_beginning hr (pa_cons (pv 0) (pa_cons (pv 1) pa_nil))))
      (pss_cons (ps_par (i := 3) (j := 4) rfl sc_without_common_ends.nd rfl rfl (by decide) rfl rfl (pa_cons (pe_slice sl_S (pv 0) (po_some (pv 2)) po_none) (pa_cons (pe_slice sl_S (pv 1) (po_some (pv 2)) po_none) pa_nil)) (by rfl))
      (pss_cons (ps_set (i := 2) sc_without_common_ends.nd rfl (.inl rfl) (pe_cal c_common_beginning hr (pa_cons (pe_revS (pv 3)) (pa_cons (pe_revS (pv 4)) pa_nil))))
      (pss_one (ps_ret (pe_tup (pa_cons (pe_slice sl_S (pv 3) po_none (po_some (pe_op op_sub (pe_callB call_lenS (by rfl) z.len PySem.boot_len (pa_cons (pv 3) pa_nil)) (pv 2)))) (pa_cons (pe_slice sl_S (pv 4) po_none (po_some (pe_op op_sub (pe_callB call_lenS (by rfl) z.len PySem.boot_len (pa_cons (pv 4) pa_nil)) (pv 2)))) pa_nil)))))))), ?_⟩
    walk_at "rd"
    refine ⟨l, r, rfl, hl, hr', fun m m1 m2 em => ?_⟩
    walk_at "rd"
    refine ⟨(l.drop m).reverse, (r.drop m).reverse, rfl, by walk_at "ln", by walk_at "ln", fun n n1 n2 en => ?_⟩
    walk_at "rd"
    rw [List.length_reverse] at n1 n2
    simp only [Int.toNat_natCast] at *
    refine i_slTo (by omega) (by walk_at "ln") ?_
    walk_at "rd"
    refine ⟨Nat.le_of_ble_eq_true rfl, fun p np => ?_⟩
    rw [List.take_reverse, List.take_reverse, List.reverse_inj] at en
    have t1 : (((l.drop m).length : Int) - (n : Int)).toNat = (l.drop m).length - n := by omega
    have t2 : (((r.drop m).length : Int) - (n : Int)).toNat = (r.drop m).length - n := by omega
    rw [t1, t2]
    refine k (l.take m) ((l.drop m).take ((l.drop m).length - n)) ((r.drop m).take ((r.drop m).length - n)) ((l.drop m).drop ((l.drop m).length - n)) p _ ?_ ?_ (same_upd np) np upd_same
    · rw [List.append_assoc, List.take_append_drop, List.take_append_drop]
    · rw [en, em, List.append_assoc, List.take_append_drop, List.take_append_drop]
end
end Sw
namespace Sw
open PySem PySem.Spec PyProof.Rows L2
local macro_rules | `(tactic| walk_at "hp") => `(tactic| first
  | (with_reducible assumption) | (with_reducible exact upd_same)
  | ((with_reducible refine' upd_old ?q1 ?q2); (case q1 => (with_reducible assumption)); (case q2 => walk_at "hp"))
  | ((with_reducible refine' Same.at ?q1 ?q2); (case q1 => (with_reducible assumption)); (case q2 => walk_at "hp"))
  | ((with_reducible refine' upd_skip ?q1 ?q2); (case q1 => walk_at "ne"); (case q2 => walk_at "hp"))
  | fail)
local macro_rules | `(tactic| walk_at "ne") => `(tactic| first
  | (with_reducible assumption) | (with_reducible exact Ne.symm (by assumption))
  | ((with_reducible refine' ne_of_none ?q1 ?q2); (case q2 => (with_reducible assumption)); (case q1 => walk_at "hp"))
  | fail)
local macro_rules | `(tactic| walk_at "ci") => `(tactic| first | assumption | (show (0 : Int) < _; first | decide | (with_reducible omega)) | exact ⟨by decide, by decide⟩ | exact .inl ⟨by decide, by decide⟩ | exact .inr ⟨by decide, by decide⟩)
local macro_rules | `(tactic| walk_at "ln") => `(tactic| first | (with_reducible assumption) | (with_reducible omega) | (simp only [List.length_append, List.length_take, List.length_drop, List.length_reverse, List.length_cons, List.length_nil]; with_reducible omega))
local macro_rules | `(tactic| walk_at "rd1") => `(tactic| first
  | (with_reducible refine i_seq ?_) | (with_reducible refine i_asg ?_) | (with_reducible refine i_ret ?_) | (with_reducible refine i_name ?_) | ((with_reducible refine' i_var ?q1 ?_); (case q1 => exact rfl)) | (with_reducible refine i_c ?_) | (with_reducible refine i_op ?_) | (with_reducible refine i_un ?_)
  | (with_reducible refine i_rI0 ?_) | (with_reducible refine i_cb ?_) | (with_reducible refine i_cons ?_) | (with_reducible refine i_nil ?_) | (with_reducible refine i_call ?_) | (with_reducible refine i_if ?_) | (with_reducible refine i_ifE ?_) | (with_reducible refine i_test ?_) | (with_reducible refine i_bl ?_)
  | (with_reducible refine i_and ?_) | (with_reducible refine i_or ?_) | (with_reducible refine i_not ?_) | (with_reducible refine i_lst ?_) | (with_reducible refine i_tup ?_) | (with_reducible refine i_next ?_) | (with_reducible refine i_drop ?_) | (with_reducible refine i_sub ?_)
  | (with_reducible refine i_bm ?_) | (with_reducible refine i_sl ?_) | (with_reducible refine i_part ?_) | (with_reducible refine i_nopart ?_) | (with_reducible refine i_exI ?_) | (with_reducible refine i_chain ?_) | ((with_reducible refine' i_aug ?q1 ?_); (case q1 => exact rfl)) | (with_reducible refine i_ip ?_)
  | (with_reducible refine i_par ?_) | (with_reducible refine i_pair ?_) | (with_reducible refine i_andV ?_) | (with_reducible refine i_orV ?_) | (with_reducible refine i_notV ?_) | (with_reducible refine i_m1 ?_) | (with_reducible refine i_str ?_)
  | (with_reducible refine iteF ?_) | (with_reducible refine iteT ?_) | (with_reducible refine iteNT ?_) | (with_reducible refine iteNF ?_) | (with_reducible refine i_tyS ?_) | (with_reducible refine i_tB ?_) | (with_reducible refine i_retN ?_) | (with_reducible refine i_par3 ?_) | (with_reducible refine i_trip ?_) | (with_reducible refine i_gCons ?_) | (with_reducible refine i_gNil ?_) | (with_reducible refine i_lstRg ?_) | (with_reducible refine i_rg1 ?_)
  | (with_reducible refine i_lc ?_) | (with_reducible refine i_for ?_) | (with_reducible refine i_iList ?_) | (with_reducible refine i_iTup ?_) | (with_reducible refine i_iStr ?_) | (with_reducible refine i_iRng1 ?_) | (with_reducible refine i_iEnS ?_)
  | ((with_reducible refine' i_ixTH ?q1 ?q2 ?_); (case q1 => walk_at "hp"); (case q2 => exact rfl))
  | ((with_reducible refine' i_ixLH ?q1 ?q2 ?_); (case q1 => walk_at "hp"); (case q2 => exact rfl))
  | ((with_reducible refine i_addS ?q1 ?_); (case q1 => walk_at "ln")) | ((with_reducible refine i_lenSS ?q1 ?_); (case q1 => walk_at "ln")) | ((with_reducible refine i_slFrom ?q1 ?q2 ?_); (case q1 => walk_at "ln"); (case q2 => walk_at "ln")) | ((with_reducible refine i_slTo ?q1 ?q2 ?_); (case q1 => walk_at "ln"); (case q2 => walk_at "ln"))
  | ((with_reducible refine' i_tyL ?q1 ?_); (case q1 => walk_at "hp"))
  | ((with_reducible refine' i_gTupH ?q1 ?q2 ?_); (case q1 => walk_at "hp"); (case q2 => exact rfl))
  | (with_reducible refine i_dnew ?_) | (with_reducible refine i_init ?_) | (with_reducible refine i_fst ?_) | (with_reducible refine i_mk ?_) | (with_reducible refine i_mkF ?_) | (with_reducible refine i_raise ?_) | (with_reducible refine i_callS ?_) | (with_reducible refine i_kwS ?_)
  | (with_reducible refine i_revT ?_) | (with_reducible refine i_kw ?_) | ((with_reducible refine' ⟨_, _, rfl, sqT_of ?q1, ?_⟩); (case q1 => walk_at "hp"))
  | (with_reducible refine i_revS ?_) | ((with_reducible refine i_revSS ?q1 ?_); (case q1 => walk_at "ln"))
  | (with_reducible refine i_startS ?_) | (with_reducible refine i_inSg ?_) | (with_reducible refine i_absN ?_) | (with_reducible refine i_min2 ?_) | (with_reducible refine i_max2 ?_) | (with_reducible refine i_min3 ?_) | (with_reducible refine i_intN ?_) | (with_reducible refine i_intNB ?_)
  | ((with_reducible refine' i_lenL ?q1 ?_); (case q1 => walk_at "hp")) | ((with_reducible refine' i_lenT ?q1 ?_); (case q1 => walk_at "hp"))
  | (with_reducible refine i_eqI ?_) | (with_reducible refine i_neI ?_) | (with_reducible refine i_eqS ?_) | (with_reducible refine i_neS ?_) | (with_reducible refine i_isNoI ?_) | (with_reducible refine i_isNoN ?_) | (with_reducible refine i_isNoR ?_)
  | ((with_reducible refine i_pow ?q1 ?q2 ?q3 ?_); (case q1 => decide); (case q2 => decide); (case q3 => (with_reducible omega)))
  | ((with_reducible refine i_rI ?q1 ?_); (case q1 => walk_at "ci"))
  | (with_reducible refine Or.inl ⟨_, rfl, ?_⟩) | (with_reducible refine Or.inr ⟨_, rfl, ?_⟩) | (with_reducible refine ⟨_, rfl, ?_⟩) | (with_reducible refine ⟨_, _, rfl, ?_⟩) | (with_reducible refine ⟨_, _, rfl, rfl, ?_⟩)
  | ((with_reducible refine' ⟨_, _, rfl, Or.inl (sqL_of ?q1), ?_⟩); (case q1 => walk_at "hp")) | ((with_reducible refine' ⟨_, _, rfl, Or.inr (sqT_of ?q1), ?_⟩); (case q1 => walk_at "hp")) | (with_reducible refine i_dget ?_) | (with_reducible refine i_disp1T ?_) | (with_reducible refine i_dcT ?_) | (with_reducible refine i_dnewT ?_) | (with_reducible refine i_fld ?_) | (with_reducible refine i_sFld ?_) | (with_reducible refine i_make ?_) | (with_reducible refine i_meth ?_) | (with_reducible refine i_star ?_) | (with_reducible refine i_isNoS ?_) | (with_reducible refine i_lc2 ?_) | (with_reducible refine i_iEnT ?_) | fail)
local macro_rules | `(tactic| walk_at "rd") => `(tactic| repeat' walk_at "rd1")


open Lev (band cell ways way_least)
/-- next_band(band, letter, at, other) -/
def spNext (K : PySem.W.Frag) : Sp := fun vs H Q _ => ∃ (b : Addr) (M at' x : Nat) (l r : List Nat), vs = [.ref b, .str (S [x]), .int (at' : Int), .str (S r)] ∧ H b = some (.lst ((band M l r at').map V.int)) ∧ l[at']? = some x ∧ l.length ≤ 10000 ∧ r.length ≤ 10000 ∧ M ≤ 10000 ∧
  ∀ (p : Addr) (H' : Hp), Same H H' → H p = none → H' p = some (.lst ((band M l r (at' + 1)).map V.int)) → Q (.ref p) H'
section
variable {P : Program} {w : World} {K : PySem.W.Frag} {mg : Str → Option Value} {base : Heap} {f : Addr} {fd : FuncData}
theorem ok_next (F : Fun K "next_band" "next_band" s_next_band f fd) (z : Z mg) : FnOk P w K mg base CX0 1 f fd ["band", "letter", "at", "other"] (spNext K) := by
  refine F.ok sc_next_band (fun vs H Q E h => ?_) (fun cdv A outer s H vs Q E hr h => ?_)
  · obtain ⟨b, M, a, x, l, r, rfl, _⟩ := h; rfl
  · obtain ⟨b, M, a, x, l, r, rfl, hb, hx, hl, hr', hM, k⟩ := h
    refine ⟨_, (pss_cons (ps_par (i := 4) (j := 5) rfl sc_next_band.nd rfl rfl (by decide) rfl rfl (pa_cons (pe_op op_fdiv (pe_callB call_lenQ (by rfl) z.len PySem.boot_len (pa_cons (pv 0) pa_nil)) pe_int) (pa_cons (pe_lst pa_nil) pa_nil)) (by rfl))
      (pss_cons (ps_for PassesOwn.never rfl (pi_range1 (by rfl) z.range (pa_cons (pe_callB call_lenQ (by rfl) z.len PySem.boot_len (pa_cons (pv 0) pa_nil)) pa_nil)) (pg_name (i := 6) sc_next_band.nd rfl (.inl rfl))
        (pss_cons (ps_set (i := 7) sc_next_band.nd rfl (.inl rfl) (pe_op op_sub (pe_op op_add (pe_op op_add (pv 2) pe_int) (pv 6)) (pv 4)))
        (pss_cons (ps_set (i := 8) sc_next_band.nd rfl (.inl rfl) (pe_lst (pa_cons (pe_op op_add (pv 4) pe_int) pa_nil)))
        (C8.pss_cut (ps_if (pt_chain op_lt op_le pe_int (pv 7) (pe_callB call_lenS (by rfl) z.len PySem.boot_len (pa_cons (pv 3) pa_nil)))
          (pss_one (ps_expr (pe_bm PySem.F.plainAttrs_list PySem.F.slot_list_append PySem.F.type_list_append mt_append (pv 8) (pa_cons (pe_op op_add (pe_ix ix_list (pv 0) (pv 6) (fun _ _ => rfl)) (pe_callTy call_intN (by rfl) z.int (by decide +kernel) (pa_cons (pe_cmpR op_ne (pv 1) (pe_ix ix_S (pv 3) (pe_op op_sub (pv 7) pe_int) (fun _ _ => rfl)) (nomark _)) pa_nil))) pa_nil))))
          pss_nil)
        (C8.pss_cut (ps_if (PW.pt (pw_and (pt_chain op_lt op_le pe_int (pv 7) (pe_callB call_lenS (by rfl) z.len PySem.boot_len (pa_cons (pv 3) pa_nil))) (pw_and1 (pt_cmpR op_gt (pv 6) pe_int (nomark _)))))
          (pss_one (ps_expr (pe_bm PySem.F.plainAttrs_list PySem.F.slot_list_append PySem.F.type_list_append mt_append (pv 8) (pa_cons (pe_op op_add (pe_ix ix_list (pv 5) (pe_op op_sub (pv 6) pe_int) (fun _ _ => rfl)) pe_int) pa_nil))))
          pss_nil)
        (C8.pss_cut (ps_if (PW.pt (pw_and (pt_chain op_le op_le pe_int (pv 7) (pe_callB call_lenS (by rfl) z.len PySem.boot_len (pa_cons (pv 3) pa_nil))) (pw_and1 (pt_cmpR op_lt (pv 6) (pe_op op_mul pe_int (pv 4)) (nomark _)))))
          (pss_one (ps_expr (pe_bm PySem.F.plainAttrs_list PySem.F.slot_list_append PySem.F.type_list_append mt_append (pv 8) (pa_cons (pe_op op_add (pe_ix ix_list (pv 0) (pe_op op_add (pv 6) pe_int) (fun _ _ => rfl)) pe_int) pa_nil))))
          pss_nil)
        (pss_one (ps_expr (pe_bm PySem.F.plainAttrs_list PySem.F.slot_list_append PySem.F.type_list_append mt_append (pv 5) (pa_cons (pe_callB (cr_min rfl) (by rfl) z.min_ (by decide +kernel) (pa_cons (pv 8) pa_nil)) pa_nil))))))))))
      (pss_one (ps_ret (pv 5))))), ?_⟩
    walk_at "rd"
    refine ⟨Nat.zero_le _, fun fo nf => ?_⟩
    walk_at "rd"
    have eM : ((((band M l r a).map V.int).length : Int)) / 2 = (M : Int) := by
      rw [List.length_map, Lev.band_len]
      omega
    rw [eM]
    have hb1 : (upd H fo (.lst [])) b = some (.lst ((band M l r a).map V.int)) := upd_old nf hb
    walk_at "rd"
    rw [List.length_map, Lev.band_len]
    refine i_rng (by omega) (by omega) ?_
    rw [show ((2 * M + 1 : Nat) : Int).toNat = 2 * M + 1 from rfl]
    refine go_for walk_rangeZ (fun i σ H2 => ∃ u6 u7 u8 : Option V, σ = [some (.ref b), some (.str (S [x])), some (.int a), some (.str (S r)), some (.int M), some (.ref fo), u6, u7, u8] ∧ Same H H2 ∧
      H2 fo = some (.lst (((band M l r (a + 1)).take i).map V.int))) ⟨none, none, none, rfl, same_upd nf, upd_same⟩ (fun _ _ _ _ _ => trivial) (fun i v σ H2 H3 hi p y => ?_) (fun σ H2 p => ?_)
    · obtain ⟨u6, u7, u8, rfl, s2, ef⟩ := p
      obtain ⟨rfl, rfl⟩ := y
      have hb2 := Same.at s2 hb
      walk_at "rd"
      refine ⟨Nat.le_of_ble_eq_true rfl, fun wa nw => ?_⟩
      walk_at "rd"
      generalize ep : (a : Int) + 1 + (i : Int) - (M : Int) = place
      generalize eW1 : ([(M : Int) + 1] ++ (if 0 < place ∧ place ≤ r.length then [cell M l r a i + (if some x = r[(place - 1).toNat]? then 0 else 1)] else []) : List Int) = W1
      have lW1 : W1.length ≤ 2 := by rw [← eW1]; split <;> simp
      refine i_cut (fun σ' H' => σ' = [some (.ref b), some (.str (S [x])), some (.int a), some (.str (S r)), some (.int M), some (.ref fo), some (.int i), some (.int place), some (.ref wa)] ∧ H' = upd H3 wa (.lst (W1.map V.int))) ?_ ?_
      · walk_at "rd"
        refine iteB (fun q1 => ?_) (fun q1 => ?_)
        · walk_at "rd"
          refine iteB (fun q2 => ?_) (fun q2 => ?_)
          · walk_at "rd"
            refine i_ixLI (by walk_at "hp") (by omega) (Lev.band_get hi) ?_
            walk_at "rd"
            have hp1 : (place - 1).toNat < r.length := by omega
            refine i_ixSI (by omega) (List.getElem?_eq_getElem hp1) (by omega) ?_
            walk_at "rd"
            refine i_appI (ns := [(M : Int) + 1]) upd_same (Nat.le_of_ble_eq_true rfl) ?_
            refine ⟨rfl, ?_⟩
            have eδ : (if (!decide ([x] = [r[(place - 1).toNat]])) = true then (1 : Int) else 0) = if some x = some r[(place - 1).toNat] then 0 else 1 := by
              by_cases c : x = r[(place - 1).toNat]
              · rw [← c]; simp
              · simp [c]
            rw [upd_upd, ← eW1, if_pos (show 0 < place ∧ place ≤ r.length from ⟨q1, q2⟩), List.getElem?_eq_getElem hp1, ← eδ]
            rfl
          · walk_at "rd"
            refine ⟨rfl, ?_⟩
            rw [← eW1, if_neg (by omega)]; rfl
        · walk_at "rd"
          refine ⟨rfl, ?_⟩
          rw [← eW1, if_neg (by omega)]; rfl
      rintro _ _ ⟨rfl, rfl⟩
      generalize eW2 : (W1 ++ (if (0 < place ∧ place ≤ r.length) ∧ 0 < i then [cell M l r (a + 1) (i - 1) + 1] else []) : List Int) = W2
      have lW2 : W2.length ≤ 3 := by rw [← eW2, List.length_append]; split <;> simp <;> omega
      refine i_cut (fun σ' H' => σ' = [some (.ref b), some (.str (S [x])), some (.int a), some (.str (S r)), some (.int M), some (.ref fo), some (.int i), some (.int place), some (.ref wa)] ∧ H' = upd H3 wa (.lst (W2.map V.int))) ?_ ?_
      · walk_at "rd"
        refine iteB (fun q1 => ?_) (fun q1 => ?_)
        · walk_at "rd"
          refine iteB (fun q2 => ?_) (fun q2 => ?_)
          · walk_at "rd"
            refine iteB (fun q3 => ?_) (fun q3 => ?_)
            · walk_at "rd"
              have ek : ((i : Int) - 1).toNat = i - 1 := by omega
              have eg : ((band M l r (a + 1)).take i)[((i : Int) - 1).toNat]? = some (cell M l r (a + 1) (i - 1)) := by
                rw [ek, List.getElem?_take, if_pos (by omega), Lev.band_get (by omega)]
              refine i_ixLI (by walk_at "hp") (by omega) eg ?_
              walk_at "rd"
              refine i_appI (ns := W1) upd_same (by omega) ?_
              refine ⟨rfl, ?_⟩
              rw [upd_upd, ← eW2, if_pos (show (_ ∧ _) ∧ _ from ⟨⟨q1, q2⟩, by omega⟩)]
            · walk_at "rd"
              refine ⟨rfl, ?_⟩
              rw [← eW2, if_neg (by omega), List.append_nil]
          · walk_at "rd"
            refine ⟨rfl, ?_⟩
            rw [← eW2, if_neg (by omega), List.append_nil]
        · walk_at "rd"
          refine ⟨rfl, ?_⟩
          rw [← eW2, if_neg (by omega), List.append_nil]
      rintro _ _ ⟨rfl, rfl⟩
      generalize eW3 : (W2 ++ (if (0 ≤ place ∧ place ≤ r.length) ∧ i < 2 * M then [cell M l r a (i + 1) + 1] else []) : List Int) = W3
      have lW3 : W3.length ≤ 4 := by rw [← eW3, List.length_append]; split <;> simp <;> omega
      refine i_cut (fun σ' H' => σ' = [some (.ref b), some (.str (S [x])), some (.int a), some (.str (S r)), some (.int M), some (.ref fo), some (.int i), some (.int place), some (.ref wa)] ∧ H' = upd H3 wa (.lst (W3.map V.int))) ?_ ?_
      · walk_at "rd"
        refine iteB (fun q1 => ?_) (fun q1 => ?_)
        · walk_at "rd"
          refine iteB (fun q2 => ?_) (fun q2 => ?_)
          · walk_at "rd"
            refine iteB (fun q3 => ?_) (fun q3 => ?_)
            · walk_at "rd"
              refine i_ixLI (by walk_at "hp") (by omega) (Lev.band_get (k := i + 1) (by omega)) ?_
              walk_at "rd"
              refine i_appI (ns := W2) upd_same (by omega) ?_
              refine ⟨rfl, ?_⟩
              rw [upd_upd, ← eW3, if_pos (show (_ ∧ _) ∧ _ from ⟨⟨q1, q2⟩, by omega⟩)]
            · walk_at "rd"
              refine ⟨rfl, ?_⟩
              rw [← eW3, if_neg (by omega), List.append_nil]
          · walk_at "rd"
            refine ⟨rfl, ?_⟩
            rw [← eW3, if_neg (by omega), List.append_nil]
        · walk_at "rd"
          refine ⟨rfl, ?_⟩
          rw [← eW3, if_neg (by omega), List.append_nil]
      rintro _ _ ⟨rfl, rfl⟩
      have eW : W3 = ways M l r a x i := by
        rw [← eW3, ← eW2, ← eW1, ← ep]
        rfl
      walk_at "rd"
      refine i_minL (ns := W3) upd_same (by rw [eW]; unfold ways; simp) (fun m hm hl' => ?_)
      rw [eW] at hm hl'
      have em := way_least hx hi hm hl'
      subst em
      walk_at "rd"
      refine i_appI (by walk_at "hp") (by rw [List.length_take, Lev.band_len]; omega) ?_
      refine ⟨_, _, _, rfl, Same.set_new (Same.upd_new s2 nw) nf, ?_⟩
      rw [upd_same, List.take_add_one, Lev.band_get hi]
      rfl
    · obtain ⟨u6, u7, u8, rfl, s2, ef⟩ := p
      walk_at "rd"
      rw [List.take_of_length_le (by rw [Lev.band_len]; exact Nat.le_refl _)] at ef
      exact k fo H2 s2 nf ef
end
end Sw
namespace Sw
open PySem PySem.Spec PyProof.Rows L2
local macro_rules | `(tactic| walk_at "hp") => `(tactic| first
  | (with_reducible assumption) | (with_reducible exact upd_same)
  | ((with_reducible refine' upd_old ?q1 ?q2); (case q1 => (with_reducible assumption)); (case q2 => walk_at "hp"))
  | ((with_reducible refine' Same.at ?q1 ?q2); (case q1 => (with_reducible assumption)); (case q2 => walk_at "hp"))
  | ((with_reducible refine' upd_skip ?q1 ?q2); (case q1 => walk_at "ne"); (case q2 => walk_at "hp"))
  | fail)
local macro_rules | `(tactic| walk_at "ne") => `(tactic| first
  | (with_reducible assumption) | (with_reducible exact Ne.symm (by assumption))
  | ((with_reducible refine' ne_of_none ?q1 ?q2); (case q2 => (with_reducible assumption)); (case q1 => walk_at "hp"))
  | fail)
local macro_rules | `(tactic| walk_at "ci") => `(tactic| first | assumption | (show (0 : Int) < _; first | decide | (with_reducible omega)) | exact ⟨by decide, by decide⟩ | exact .inl ⟨by decide, by decide⟩ | exact .inr ⟨by decide, by decide⟩)
local macro_rules | `(tactic| walk_at "ln") => `(tactic| first | (with_reducible assumption) | (with_reducible omega) | (simp only [List.length_append, List.length_take, List.length_drop, List.length_reverse, List.length_cons, List.length_nil]; with_reducible omega))
local macro_rules | `(tactic| walk_at "rd1") => `(tactic| first
  | (with_reducible refine i_seq ?_) | (with_reducible refine i_asg ?_) | (with_reducible refine i_ret ?_) | (with_reducible refine i_name ?_) | ((with_reducible refine' i_var ?q1 ?_); (case q1 => exact rfl)) | (with_reducible refine i_c ?_) | (with_reducible refine i_op ?_) | (with_reducible refine i_un ?_)
  | (with_reducible refine i_rI0 ?_) | (with_reducible refine i_cb ?_) | (with_reducible refine i_cons ?_) | (with_reducible refine i_nil ?_) | (with_reducible refine i_call ?_) | (with_reducible refine i_if ?_) | (with_reducible refine i_ifE ?_) | (with_reducible refine i_test ?_) | (with_reducible refine i_bl ?_)
  | (with_reducible refine i_and ?_) | (with_reducible refine i_or ?_) | (with_reducible refine i_not ?_) | (with_reducible refine i_lst ?_) | (with_reducible refine i_tup ?_) | (with_reducible refine i_next ?_) | (with_reducible refine i_drop ?_) | (with_reducible refine i_sub ?_)
  | (with_reducible refine i_bm ?_) | (with_reducible refine i_sl ?_) | (with_reducible refine i_part ?_) | (with_reducible refine i_nopart ?_) | (with_reducible refine i_exI ?_) | (with_reducible refine i_chain ?_) | ((with_reducible refine' i_aug ?q1 ?_); (case q1 => exact rfl)) | (with_reducible refine i_ip ?_)
  | (with_reducible refine i_par ?_) | (with_reducible refine i_pair ?_) | (with_reducible refine i_andV ?_) | (with_reducible refine i_orV ?_) | (with_reducible refine i_notV ?_) | (with_reducible refine i_m1 ?_) | (with_reducible refine i_str ?_)
  | (with_reducible refine iteF ?_) | (with_reducible refine iteT ?_) | (with_reducible refine iteNT ?_) | (with_reducible refine iteNF ?_) | (with_reducible refine i_tyS ?_) | (with_reducible refine i_tB ?_) | (with_reducible refine i_retN ?_) | (with_reducible refine i_par3 ?_) | (with_reducible refine i_trip ?_) | (with_reducible refine i_gCons ?_) | (with_reducible refine i_gNil ?_) | (with_reducible refine i_lstRg ?_) | (with_reducible refine i_rg1 ?_)
  | (with_reducible refine i_lc ?_) | (with_reducible refine i_for ?_) | (with_reducible refine i_iList ?_) | (with_reducible refine i_iTup ?_) | (with_reducible refine i_iStr ?_) | (with_reducible refine i_iRng1 ?_) | (with_reducible refine i_iEnS ?_)
  | ((with_reducible refine' i_ixTH ?q1 ?q2 ?_); (case q1 => walk_at "hp"); (case q2 => exact rfl))
  | ((with_reducible refine' i_ixLH ?q1 ?q2 ?_); (case q1 => walk_at "hp"); (case q2 => exact rfl))
  | ((with_reducible refine i_addS ?q1 ?_); (case q1 => walk_at "ln")) | ((with_reducible refine i_lenSS ?q1 ?_); (case q1 => walk_at "ln")) | ((with_reducible refine i_slFrom ?q1 ?q2 ?_); (case q1 => walk_at "ln"); (case q2 => walk_at "ln")) | ((with_reducible refine i_slTo ?q1 ?q2 ?_); (case q1 => walk_at "ln"); (case q2 => walk_at "ln"))
  | ((with_reducible refine' i_tyL ?q1 ?_); (case q1 => walk_at "hp"))
  | ((with_reducible refine' i_gTupH ?q1 ?q2 ?_); (case q1 => walk_at "hp"); (case q2 => exact rfl))
  | (with_reducible refine i_dnew ?_) | (with_reducible refine i_init ?_) | (with_reducible refine i_fst ?_) | (with_reducible refine i_mk ?_) | (with_reducible refine i_mkF ?_) | (with_reducible refine i_raise ?_) | (with_reducible refine i_callS ?_) | (with_reducible refine i_kwS ?_)
  | (with_reducible refine i_revT ?_) | (with_reducible refine i_kw ?_) | ((with_reducible refine' ⟨_, _, rfl, sqT_of ?q1, ?_⟩); (case q1 => walk_at "hp"))
  | (with_reducible refine i_revS ?_) | ((with_reducible refine i_revSS ?q1 ?_); (case q1 => walk_at "ln"))
  | (with_reducible refine i_startS ?_) | (with_reducible refine i_inSg ?_) | (with_reducible refine i_absN ?_) | (with_reducible refine i_min2 ?_) | (with_reducible refine i_max2 ?_) | (with_reducible refine i_min3 ?_) | (with_reducible refine i_intN ?_) | (with_reducible refine i_intNB ?_)
  | ((with_reducible refine' i_lenL ?q1 ?_); (case q1 => walk_at "hp")) | ((with_reducible refine' i_lenT ?q1 ?_); (case q1 => walk_at "hp"))
  | (with_reducible refine i_eqI ?_) | (with_reducible refine i_neI ?_) | (with_reducible refine i_eqS ?_) | (with_reducible refine i_neS ?_) | (with_reducible refine i_isNoI ?_) | (with_reducible refine i_isNoN ?_) | (with_reducible refine i_isNoR ?_)
  | ((with_reducible refine i_pow ?q1 ?q2 ?q3 ?_); (case q1 => decide); (case q2 => decide); (case q3 => (with_reducible omega)))
  | ((with_reducible refine i_rI ?q1 ?_); (case q1 => walk_at "ci"))
  | (with_reducible refine Or.inl ⟨_, rfl, ?_⟩) | (with_reducible refine Or.inr ⟨_, rfl, ?_⟩) | (with_reducible refine ⟨_, rfl, ?_⟩) | (with_reducible refine ⟨_, _, rfl, ?_⟩) | (with_reducible refine ⟨_, _, rfl, rfl, ?_⟩)
  | ((with_reducible refine' ⟨_, _, rfl, Or.inl (sqL_of ?q1), ?_⟩); (case q1 => walk_at "hp")) | ((with_reducible refine' ⟨_, _, rfl, Or.inr (sqT_of ?q1), ?_⟩); (case q1 => walk_at "hp")) | (with_reducible refine i_dget ?_) | (with_reducible refine i_disp1T ?_) | (with_reducible refine i_dcT ?_) | (with_reducible refine i_dnewT ?_) | (with_reducible refine i_fld ?_) | (with_reducible refine i_sFld ?_) | (with_reducible refine i_make ?_) | (with_reducible refine i_meth ?_) | (with_reducible refine i_star ?_) | (with_reducible refine i_isNoS ?_) | (with_reducible refine i_lc2 ?_) | (with_reducible refine i_iEnT ?_) | fail)
local macro_rules | `(tactic| walk_at "rd") => `(tactic| repeat' walk_at "rd1")


open Lev (lev band cell)
def optI : Option Nat → V
  | some n => .int (n : Int)
  | none => .non
/-- distance_within(one, other, most) -/
def spWithin : Sp := fun vs H Q _ => ∃ (a b : List Nat) (m : Nat), vs = [.str (S a), .str (S b), .int (m : Int)] ∧ a.length ≤ 2000 ∧ b.length ≤ 2000 ∧ m ≤ 100000 ∧ ∀ H', Same H H' → Q (optI (Lev.within a b m)) H'
section
variable {P : Program} {w : World} {K : PySem.W.Frag} {mg : Str → Option Value} {base : Heap} {f : Addr} {fd : FuncData}
theorem ok_within (F : Fun K "distance_within" "distance_within" s_distance_within f fd) (z : Z mg) (c_without_common_ends : Cal P w K mg base "without_common_ends" ["one", "other"] 2 spEnds)
    (c_next_band : Cal P w K mg base "next_band" ["band", "letter", "at", "other"] 1 (spNext K)) : FnOk P w K mg base CX0 3 f fd ["one", "other", "most"] spWithin := by
  refine F.ok sc_distance_within (fun vs H Q E h => ?_) (fun cdv A outer s H vs Q E hr h => ?_)
  · obtain ⟨a, b, m, rfl, _⟩ := h; rfl
  · obtain ⟨a, b, m, rfl, ha, hb, hm, k⟩ := h
    refine ⟨_, (pss_cons (ps_if (pt_cmpR op_gt (pe_callB call_absN (by rfl) z.abs (by decide +kernel) (pa_cons (pe_op op_sub (pe_callB call_lenS (by rfl) z.len PySem.boot_len (pa_cons (pv 0) pa_nil)) (pe_callB call_lenS (by rfl) z.len PySem.boot_len (pa_cons (pv 1) pa_nil))) pa_nil)) (pv 2) (nomark _))
        (pss_one (ps_ret pe_non))
        pss_nil)
      (pss_cons (ps_asg (pe_cal c_without_common_ends hr (pa_cons (pv 0) (pa_cons (pv 1) pa_nil))) (pg_tup rfl (pgs_cons (pg_name (i := 3) sc_distance_within.nd rfl (.inl rfl)) (pgs_cons (pg_name (i := 4) sc_distance_within.nd rfl (.inr rfl)) pgs_nil))))
      (C8.pss_cut (ps_if (pt_cmpR op_gt (pe_callB call_lenS (by rfl) z.len PySem.boot_len (pa_cons (pv 3) pa_nil)) (pe_callB call_lenS (by rfl) z.len PySem.boot_len (pa_cons (pv 4) pa_nil)) (nomark _))
        (pss_one (ps_asg (pe_tup (pa_cons (pv 4) (pa_cons (pv 3) pa_nil))) (pg_tup rfl (pgs_cons (pg_name (i := 3) sc_distance_within.nd rfl (.inl rfl)) (pgs_cons (pg_name (i := 4) sc_distance_within.nd rfl (.inr rfl)) pgs_nil)))))
        pss_nil)
      (pss_cons (ps_set (i := 2) sc_distance_within.nd rfl (.inr rfl) (pe_callB (call_min2N rfl) (by rfl) z.min_ (by decide +kernel) (pa_cons (pv 2) (pa_cons (pe_callB call_lenS (by rfl) z.len PySem.boot_len (pa_cons (pv 4) pa_nil)) pa_nil))))
      (pss_cons (ps_setLc (i := 5) (own := [("k", 6)]) (g := gName 6) (tt := tYes) rfl sc_distance_within.nd rfl rfl (sw_true rfl rfl rfl (by decide +kernel)) (pi_range1 (by rfl) z.range (pa_cons (pe_op op_add (pe_op op_mul pe_int (pv 2)) pe_int) pa_nil)) (blkOk_by (own := [("k", 6)]) (N := n_distance_within) (sc := defScope s_distance_within) (by decide +kernel)) (fun _ _ _ _ _ => (pg_name (i := 6) sc_distance_within.nd rfl (.inl rfl))) (fun _ _ _ _ _ => pts_nil) (fun _ _ _ _ _ => (pe_ifExp (pt_chain op_le op_le (pv 2) (pv 6) (pe_op op_add (pv 2) (pe_callB call_lenS (by rfl) z.len PySem.boot_len (pa_cons (pv 4) pa_nil)))) (pe_op op_sub (pv 6) (pv 2)) (pe_op op_add (pv 2) pe_int))))
      (pss_cons (ps_for PassesOwn.never rfl (pi_enumS (by rfl) z.enumerate (pa_cons (pv 3) pa_nil)) (pg_tup rfl (pgs_cons (pg_name (i := 7) sc_distance_within.nd rfl (.inl rfl)) (pgs_cons (pg_name (i := 8) sc_distance_within.nd rfl (.inl rfl)) pgs_nil)))
        (pss_one (ps_set (i := 5) sc_distance_within.nd rfl (.inl rfl) (pe_cal c_next_band hr (pa_cons (pv 5) (pa_cons (pv 8) (pa_cons (pv 7) (pa_cons (pv 4) pa_nil))))))))
      (pss_cons (ps_set (i := 9) sc_distance_within.nd rfl (.inl rfl) (pe_ix ix_list (pv 5) (pe_op op_add (pe_op op_sub (pe_callB call_lenS (by rfl) z.len PySem.boot_len (pa_cons (pv 4) pa_nil)) (pe_callB call_lenS (by rfl) z.len PySem.boot_len (pa_cons (pv 3) pa_nil))) (pv 2)) (fun _ _ => rfl)))
      (pss_one (ps_ret (pe_ifExp (pt_cmpR op_le (pv 9) (pv 2) (nomark _)) (pv 9) pe_non)))))))))), ?_⟩
    walk_at "rd"
    refine iteB (fun far => ?_) (fun near => ?_)
    · walk_at "rd"
      have e : Lev.within a b m = none := by
        unfold Lev.within
        have h1 := Lev.lev_lens a b
        rw [if_neg]
        split at far <;> omega
      rw [e] at k
      exact k _ (Same.refl _)
    · walk_at "rd"
      refine ⟨a, b, rfl, by omega, by omega, fun u x y v t H1 ea eb s1 nt et => ?_⟩
      walk_at "rd"
      have hlev : lev a b = lev x y := by
        rw [ea, eb, Lev.lev_suf, Lev.lev_pre]
      have lx : a.length = u.length + x.length + v.length := by rw [ea]; simp only [List.length_append]
      have ly : b.length = u.length + y.length + v.length := by rw [eb]; simp only [List.length_append]
      refine i_cut (fun σ' H' => ∃ x' y' : List Nat, σ' = [some (.str (S a)), some (.str (S b)), some (.int m), some (.str (S x')), some (.str (S y')), none, none, none, none, none] ∧ Same H H' ∧ x'.length ≤ y'.length ∧ y'.length ≤ x'.length + m ∧ lev a b = lev x' y' ∧ y'.length ≤ 2000) ?_ ?_
      · walk_at "rd"
        refine iteB (fun hgt => ?_) (fun hle => ?_)
        · walk_at "rd"
          refine ⟨Nat.le_of_ble_eq_true rfl, fun p np => ?_⟩
          walk_at "rd"
          refine ⟨Same.upd_new s1 np, by omega, ?_, by rw [hlev, Lev.lev_symm], by omega⟩
          split at near <;> omega
        · walk_at "rd"
          refine ⟨s1, by omega, ?_, hlev, by omega⟩
          split at near <;> omega
      · rintro _ H2 ⟨x', y', rfl, s2, l1, l2, hl, l3⟩
        walk_at "rd"
        rw [show min (m : Int) (y'.length : Int) = ((min m y'.length : Nat) : Int) by omega]
        generalize eM : min m y'.length = M
        refine i_rng (by omega) (by omega) ?_
        rw [show (2 * (M : Int) + 1).toNat = 2 * M + 1 by omega]
        refine go_map walk_rangeZ (fun i => V.int (cell M x' y' 0 i)) (by omega) (fun _ _ => trivial) (fun i v H3 H4 hi s3 yv R hR => ?_) mono_name (fun p H3 np s3 ep => ?_)
        · obtain ⟨rfl, rfl⟩ := yv
          have hR' := hR _ (Same.refl _)
          rw [Lev.cell_first hi] at hR'
          walk_at "rd"
          refine ⟨rfl, ?_⟩
          walk_at "rd"
          refine iteB (fun q1 => ?_) (fun q1 => ?_)
          · walk_at "rd"
            refine iteB (fun q2 => ?_) (fun q2 => ?_)
            · walk_at "rd"
              rw [if_pos (by omega)] at hR'
              exact hR'
            · walk_at "rd"
              rw [if_neg (by omega)] at hR'
              exact hR'
          · walk_at "rd"
            rw [if_neg (by omega)] at hR'
            exact hR'
        · have ep1 : H3 p = some (.lst ((band M x' y' 0).map V.int)) := by rw [ep]; unfold Lev.band; rw [List.map_map]; rfl
          have s4 : Same H H3 := s2.trans s3
          walk_at "rd"
          refine go_for walk_eS (fun i σ H4 => ∃ (pb : Addr) (u6 u7 u8 : Option V), σ = [some (.str (S a)), some (.str (S b)), some (.int M), some (.str (S x')), some (.str (S y')), some (.ref pb), u6, u7, u8, none] ∧ Same H H4 ∧
            H4 pb = some (.lst ((band M x' y' i).map V.int))) ⟨p, _, _, _, rfl, s4, ep1⟩ (fun _ _ _ _ _ => trivial) (fun i v σ H4 H5 hi pq yv => ?_) (fun σ H4 pq => ?_)
          · obtain ⟨pb, u6, u7, u8, rfl, s5, eb5⟩ := pq
            obtain ⟨T, c, rfl, nT, hc, rfl⟩ := yv
            walk_at "rd"
            refine ⟨pb, M, i, c, x', y', rfl, upd_old nT eb5, hc, by omega, by omega, by omega, fun q H6 s6 nq eq => ?_⟩
            walk_at "rd"
            exact ⟨q, _, _, _, rfl, Same.trans (Same.upd_new s5 nT) s6, eq⟩
          · obtain ⟨pb, u6, u7, u8, rfl, s5, eb5⟩ := pq
            walk_at "rd"
            have el := Lev.band_last (M := M) (l := x') (r := y') l1 (by omega)
            refine i_ixLI eb5 (by omega) (by rw [show ((y'.length : Int) - (x'.length : Int) + (M : Int)).toNat = y'.length - x'.length + M by omega]; exact el) ?_
            walk_at "rd"
            have hx1 := Lev.lev_le_max x' y'
            refine iteB (fun q1 => ?_) (fun q1 => ?_)
            · walk_at "rd"
              have k1 := k _ s5
              unfold Lev.within at k1
              rw [if_pos (by omega), hl] at k1
              rw [show min (lev x' y') (M + 1) = lev x' y' by omega]
              exact k1
            · walk_at "rd"
              have k1 := k _ s5
              unfold Lev.within at k1
              rw [if_neg (by omega)] at k1
              exact k1
end
end Sw
namespace Sw
open PySem PySem.Spec PyProof.Rows L2
local macro_rules | `(tactic| walk_at "hp") => `(tactic| first
  | (with_reducible assumption) | (with_reducible exact upd_same)
  | ((with_reducible refine' upd_old ?q1 ?q2); (case q1 => (with_reducible assumption)); (case q2 => walk_at "hp"))
  | ((with_reducible refine' Same.at ?q1 ?q2); (case q1 => (with_reducible assumption)); (case q2 => walk_at "hp"))
  | ((with_reducible refine' upd_skip ?q1 ?q2); (case q1 => walk_at "ne"); (case q2 => walk_at "hp"))
  | fail)
local macro_rules | `(tactic| walk_at "ne") => `(tactic| first
  | (with_reducible assumption) | (with_reducible exact Ne.symm (by assumption))
  | ((with_reducible refine' ne_of_none ?q1 ?q2); (case q2 => (with_reducible assumption)); (case q1 => walk_at "hp"))
  | fail)
local macro_rules | `(tactic| walk_at "ci") => `(tactic| first | assumption | (show (0 : Int) < _; first | decide | (with_reducible omega)) | exact ⟨by decide, by decide⟩ | exact .inl ⟨by decide, by decide⟩ | exact .inr ⟨by decide, by decide⟩)
local macro_rules | `(tactic| walk_at "ln") => `(tactic| first | (with_reducible assumption) | (with_reducible omega) | (simp only [List.length_append, List.length_take, List.length_drop, List.length_reverse, List.length_cons, List.length_nil]; with_reducible omega))
local macro_rules | `(tactic| walk_at "rd1") => `(tactic| first
  | (with_reducible refine i_seq ?_) | (with_reducible refine i_asg ?_) | (with_reducible refine i_ret ?_) | (with_reducible refine i_name ?_) | ((with_reducible refine' i_var ?q1 ?_); (case q1 => exact rfl)) | (with_reducible refine i_c ?_) | (with_reducible refine i_op ?_) | (with_reducible refine i_un ?_)
  | (with_reducible refine i_rI0 ?_) | (with_reducible refine i_cb ?_) | (with_reducible refine i_cons ?_) | (with_reducible refine i_nil ?_) | (with_reducible refine i_call ?_) | (with_reducible refine i_if ?_) | (with_reducible refine i_ifE ?_) | (with_reducible refine i_test ?_) | (with_reducible refine i_bl ?_)
  | (with_reducible refine i_and ?_) | (with_reducible refine i_or ?_) | (with_reducible refine i_not ?_) | (with_reducible refine i_lst ?_) | (with_reducible refine i_tup ?_) | (with_reducible refine i_next ?_) | (with_reducible refine i_drop ?_) | (with_reducible refine i_sub ?_)
  | (with_reducible refine i_bm ?_) | (with_reducible refine i_sl ?_) | (with_reducible refine i_part ?_) | (with_reducible refine i_nopart ?_) | (with_reducible refine i_exI ?_) | (with_reducible refine i_chain ?_) | ((with_reducible refine' i_aug ?q1 ?_); (case q1 => exact rfl)) | (with_reducible refine i_ip ?_)
  | (with_reducible refine i_par ?_) | (with_reducible refine i_pair ?_) | (with_reducible refine i_andV ?_) | (with_reducible refine i_orV ?_) | (with_reducible refine i_notV ?_) | (with_reducible refine i_m1 ?_) | (with_reducible refine i_str ?_)
  | (with_reducible refine iteF ?_) | (with_reducible refine iteT ?_) | (with_reducible refine iteNT ?_) | (with_reducible refine iteNF ?_) | (with_reducible refine i_tyS ?_) | (with_reducible refine i_tB ?_) | (with_reducible refine i_retN ?_) | (with_reducible refine i_par3 ?_) | (with_reducible refine i_trip ?_) | (with_reducible refine i_gCons ?_) | (with_reducible refine i_gNil ?_) | (with_reducible refine i_lstRg ?_) | (with_reducible refine i_rg1 ?_)
  | (with_reducible refine i_lc ?_) | (with_reducible refine i_for ?_) | (with_reducible refine i_iList ?_) | (with_reducible refine i_iTup ?_) | (with_reducible refine i_iStr ?_) | (with_reducible refine i_iRng1 ?_) | (with_reducible refine i_iEnS ?_)
  | ((with_reducible refine' i_ixTH ?q1 ?q2 ?_); (case q1 => walk_at "hp"); (case q2 => exact rfl))
  | ((with_reducible refine' i_ixLH ?q1 ?q2 ?_); (case q1 => walk_at "hp"); (case q2 => exact rfl))
  | ((with_reducible refine i_addS ?q1 ?_); (case q1 => walk_at "ln")) | ((with_reducible refine i_lenSS ?q1 ?_); (case q1 => walk_at "ln")) | ((with_reducible refine i_slFrom ?q1 ?q2 ?_); (case q1 => walk_at "ln"); (case q2 => walk_at "ln")) | ((with_reducible refine i_slTo ?q1 ?q2 ?_); (case q1 => walk_at "ln"); (case q2 => walk_at "ln"))
  | ((with_reducible refine' i_tyL ?q1 ?_); (case q1 => walk_at "hp"))
  | ((with_reducible refine' i_gTupH ?q1 ?q2 ?_); (case q1 => walk_at "hp"); (case q2 => exact rfl))
  | (with_reducible refine i_dnew ?_) | (with_reducible refine i_init ?_) | (with_reducible refine i_fst ?_) | (with_reducible refine i_mk ?_) | (with_reducible refine i_mkF ?_) | (with_reducible refine i_raise ?_) | (with_reducible refine i_callS ?_) | (with_reducible refine i_kwS ?_)
  | (with_reducible refine i_revT ?_) | (with_reducible refine i_kw ?_) | ((with_reducible refine' ⟨_, _, rfl, sqT_of ?q1, ?_⟩); (case q1 => walk_at "hp"))
  | (with_reducible refine i_revS ?_) | ((with_reducible refine i_revSS ?q1 ?_); (case q1 => walk_at "ln"))
  | (with_reducible refine i_startS ?_) | (with_reducible refine i_inSg ?_) | (with_reducible refine i_absN ?_) | (with_reducible refine i_min2 ?_) | (with_reducible refine i_max2 ?_) | (with_reducible refine i_min3 ?_) | (with_reducible refine i_intN ?_) | (with_reducible refine i_intNB ?_)
  | ((with_reducible refine' i_lenL ?q1 ?_); (case q1 => walk_at "hp")) | ((with_reducible refine' i_lenT ?q1 ?_); (case q1 => walk_at "hp"))
  | (with_reducible refine i_eqI ?_) | (with_reducible refine i_neI ?_) | (with_reducible refine i_eqS ?_) | (with_reducible refine i_neS ?_) | (with_reducible refine i_isNoI ?_) | (with_reducible refine i_isNoN ?_) | (with_reducible refine i_isNoR ?_)
  | ((with_reducible refine i_pow ?q1 ?q2 ?q3 ?_); (case q1 => decide); (case q2 => decide); (case q3 => (with_reducible omega)))
  | ((with_reducible refine i_rI ?q1 ?_); (case q1 => walk_at "ci"))
  | (with_reducible refine Or.inl ⟨_, rfl, ?_⟩) | (with_reducible refine Or.inr ⟨_, rfl, ?_⟩) | (with_reducible refine ⟨_, rfl, ?_⟩) | (with_reducible refine ⟨_, _, rfl, ?_⟩) | (with_reducible refine ⟨_, _, rfl, rfl, ?_⟩)
  | ((with_reducible refine' ⟨_, _, rfl, Or.inl (sqL_of ?q1), ?_⟩); (case q1 => walk_at "hp")) | ((with_reducible refine' ⟨_, _, rfl, Or.inr (sqT_of ?q1), ?_⟩); (case q1 => walk_at "hp")) | (with_reducible refine i_dget ?_) | (with_reducible refine i_disp1T ?_) | (with_reducible refine i_dcT ?_) | (with_reducible refine i_dnewT ?_) | (with_reducible refine i_fld ?_) | (with_reducible refine i_sFld ?_) | (with_reducible refine i_make ?_) | (with_reducible refine i_meth ?_) | (with_reducible refine i_star ?_) | (with_reducible refine i_isNoS ?_) | (with_reducible refine i_lc2 ?_) | (with_reducible refine i_iEnT ?_) | fail)
local macro_rules | `(tactic| walk_at "rd") => `(tactic| repeat' walk_at "rd1")

open Lev (lev)
/-- levenshtein(one, other) -/
def spLev : Sp := fun vs H Q _ => ∃ (a b : List Nat), vs = [.str (S a), .str (S b)] ∧ a.length ≤ 2000 ∧ b.length ≤ 2000 ∧ ∀ H', Same H H' → Q (.int (lev a b : Nat)) H'
section
variable {P : Program} {w : World} {K : PySem.W.Frag} {mg : Str → Option Value} {base : Heap} {f : Addr} {fd : FuncData}
theorem ok_lev (F : Fun K "levenshtein" "levenshtein" s_levenshtein f fd) (z : Z mg) (c_distance_within : Cal P w K mg base "distance_within" ["one", "other", "most"] 3 spWithin) : FnOk P w K mg base CX0 4 f fd ["one", "other"] spLev := by
  refine F.ok sc_levenshtein (fun vs H Q E h => ?_) (fun cdv A outer s H vs Q E hr h => ?_)
  · obtain ⟨a, b, rfl, _⟩ := h; rfl
  · obtain ⟨a, b, rfl, ha, hb, k⟩ := h
    refine ⟨_, (pss_cons (ps_set (i := 2) sc_levenshtein.nd rfl (.inl rfl) (pe_op op_add (pe_callB call_absN (by rfl) z.abs (by decide +kernel) (pa_cons (pe_op op_sub (pe_callB call_lenS (by rfl) z.len PySem.boot_len (pa_cons (pv 0) pa_nil)) (pe_callB call_lenS (by rfl) z.len PySem.boot_len (pa_cons (pv 1) pa_nil))) pa_nil)) pe_int))
      (pss_cons (ps_set (i := 3) sc_levenshtein.nd rfl (.inl rfl) (pe_cal c_distance_within hr (pa_cons (pv 0) (pa_cons (pv 1) (pa_cons (pv 2) pa_nil)))))
      (pss_cons (ps_while PassesOwn.never (pt_cmpR op_isNo (pv 3) pe_non (nomark _))
        (pss_cons (ps_set (i := 2) sc_levenshtein.nd rfl (.inl rfl) (pe_op op_mul pe_int (pv 2)))
        (pss_one (ps_set (i := 3) sc_levenshtein.nd rfl (.inl rfl) (pe_cal c_distance_within hr (pa_cons (pv 0) (pa_cons (pv 1) (pa_cons (pv 2) pa_nil))))))))
      (pss_one (ps_ret (pv 3)))))), ?_⟩
    walk_at "rd"
    obtain ⟨m0, em0⟩ : ∃ m0 : Nat, (if (a.length : Int) - (b.length : Int) < 0 then -((a.length : Int) - (b.length : Int)) else (a.length : Int) - (b.length : Int)) + 1 = ((m0 + 1 : Nat) : Int) := by
      split
      · exact ⟨b.length - a.length, by omega⟩
      · exact ⟨a.length - b.length, by omega⟩
    have bm0 : m0 ≤ 2000 := by split at em0 <;> omega
    rw [em0]
    refine ⟨a, b, m0 + 1, rfl, by omega, by omega, by omega, fun H1 s1 => ?_⟩
    walk_at "rd"
    have lb := Lev.lev_le_max a b
    refine go_while (fun n σ H2 => ∃ m : Nat, n = 5000 - m ∧ σ = [some (.str (S a)), some (.str (S b)), some (.int (m : Int)), some (optI (Lev.within a b m))] ∧ Same H H2 ∧ 1 ≤ m ∧ m ≤ 5000 ∧ (Lev.within a b m = none → m ≤ 2000))
      (5000 - (m0 + 1)) ⟨m0 + 1, rfl, rfl, s1, by omega, by omega, fun e => ?_⟩ (fun n σ H2 h2 => ?_)
    · unfold Lev.within at e
      split at e
      · cases e
      · omega
    · obtain ⟨m, rfl, rfl, s2, h1, h5, h3⟩ := h2
      walk_at "rd"
      cases e : Lev.within a b m with
      | none =>
        have bm := h3 e
        show rIsNo .non .non H2 _
        walk_at "rd"
        refine ⟨_, fun _ _ q => q, ?_⟩
        walk_at "rd"
        refine ⟨a, b, 2 * m, by rw [show (2 : Int) * (m : Int) = ((2 * m : Nat) : Int) by omega] <;> rfl, by omega, by omega, by omega, fun H3 s3 => ?_⟩
        walk_at "rd"
        have e2 : (2 : Int) * (m : Int) = ((2 * m : Nat) : Int) := by omega
        refine ⟨5000 - 2 * m, by omega, 2 * m, rfl, ?_, s2.trans s3, by omega, by omega, fun q => ?_⟩
        · rw [e2]; rfl
        · unfold Lev.within at q
          split at q
          · cases q
          · omega
      | some v =>
        show rIsNo (.int v) .non H2 _
        walk_at "rd"
        have ev : v = lev a b := by
          unfold Lev.within at e
          split at e
          · exact (Option.some.inj e).symm
          · cases e
        rw [ev]
        exact k _ s2
end
end Sw
namespace Sw
open PySem PySem.Spec PyProof.Rows L2
local macro_rules | `(tactic| walk_at "hp") => `(tactic| first
  | (with_reducible assumption) | (with_reducible exact upd_same)
  | ((with_reducible refine' upd_old ?q1 ?q2); (case q1 => (with_reducible assumption)); (case q2 => walk_at "hp"))
  | ((with_reducible refine' Same.at ?q1 ?q2); (case q1 => (with_reducible assumption)); (case q2 => walk_at "hp"))
  | ((with_reducible refine' upd_skip ?q1 ?q2); (case q1 => walk_at "ne"); (case q2 => walk_at "hp"))
  | fail)
local macro_rules | `(tactic| walk_at "ne") => `(tactic| first
  | (with_reducible assumption) | (with_reducible exact Ne.symm (by assumption))
  | ((with_reducible refine' ne_of_none ?q1 ?q2); (case q2 => (with_reducible assumption)); (case q1 => walk_at "hp"))
  | fail)
local macro_rules | `(tactic| walk_at "ci") => `(tactic| first | assumption | (show (0 : Int) < _; first | decide | (with_reducible omega)) | exact ⟨by decide, by decide⟩ | exact .inl ⟨by decide, by decide⟩ | exact .inr ⟨by decide, by decide⟩)
local macro_rules | `(tactic| walk_at "ln") => `(tactic| first | (with_reducible assumption) | (with_reducible omega) | (simp only [List.length_append, List.length_take, List.length_drop, List.length_reverse, List.length_cons, List.length_nil]; with_reducible omega))
local macro_rules | `(tactic| walk_at "rd1") => `(tactic| first
  | (with_reducible refine i_seq ?_) | (with_reducible refine i_asg ?_) | (with_reducible refine i_ret ?_) | (with_reducible refine i_name ?_) | ((with_reducible refine' i_var ?q1 ?_); (case q1 => exact rfl)) | (with_reducible refine i_c ?_) | (with_reducible refine i_op ?_) | (with_reducible refine i_un ?_)
  | (with_reducible refine i_rI0 ?_) | (with_reducible refine i_cb ?_) | (with_reducible refine i_cons ?_) | (with_reducible refine i_nil ?_) | (with_reducible refine i_call ?_) | (with_reducible refine i_if ?_) | (with_reducible refine i_ifE ?_) | (with_reducible refine i_test ?_) | (with_reducible refine i_bl ?_)
  | (with_reducible refine i_and ?_) | (with_reducible refine i_or ?_) | (with_reducible refine i_not ?_) | (with_reducible refine i_lst ?_) | (with_reducible refine i_tup ?_) | (with_reducible refine i_next ?_) | (with_reducible refine i_drop ?_) | (with_reducible refine i_sub ?_)
  | (with_reducible refine i_bm ?_) | (with_reducible refine i_sl ?_) | (with_reducible refine i_part ?_) | (with_reducible refine i_nopart ?_) | (with_reducible refine i_exI ?_) | (with_reducible refine i_chain ?_) | ((with_reducible refine' i_aug ?q1 ?_); (case q1 => exact rfl)) | (with_reducible refine i_ip ?_)
  | (with_reducible refine i_par ?_) | (with_reducible refine i_pair ?_) | (with_reducible refine i_andV ?_) | (with_reducible refine i_orV ?_) | (with_reducible refine i_notV ?_) | (with_reducible refine i_m1 ?_) | (with_reducible refine i_str ?_)
  | (with_reducible refine iteF ?_) | (with_reducible refine iteT ?_) | (with_reducible refine iteNT ?_) | (with_reducible refine iteNF ?_) | (with_reducible refine i_tyS ?_) | (with_reducible refine i_tB ?_) | (with_reducible refine i_retN ?_) | (with_reducible refine i_par3 ?_) | (with_reducible refine i_trip ?_) | (with_reducible refine i_gCons ?_) | (with_reducible refine i_gNil ?_) | (with_reducible refine i_lstRg ?_) | (with_reducible refine i_rg1 ?_)
  | (with_reducible refine i_lc ?_) | (with_reducible refine i_for ?_) | (with_reducible refine i_iList ?_) | (with_reducible refine i_iTup ?_) | (with_reducible refine i_iStr ?_) | (with_reducible refine i_iRng1 ?_) | (with_reducible refine i_iEnS ?_)
  | ((with_reducible refine' i_ixTH ?q1 ?q2 ?_); (case q1 => walk_at "hp"); (case q2 => exact rfl))
  | ((with_reducible refine' i_ixLH ?q1 ?q2 ?_); (case q1 => walk_at "hp"); (case q2 => exact rfl))
  | ((with_reducible refine i_addS ?q1 ?_); (case q1 => walk_at "ln")) | ((with_reducible refine i_lenSS ?q1 ?_); (case q1 => walk_at "ln")) | ((with_reducible refine i_slFrom ?q1 ?q2 ?_); (case q1 => walk_at "ln"); (case q2 => walk_at "ln")) | ((with_reducible refine i_slTo ?q1 ?q2 ?_); (case q1 => walk_at "ln"); (case q2 => walk_at "ln"))
  | ((with_reducible refine' i_tyL ?q1 ?_); (case q1 => walk_at "hp"))
  | ((with_reducible refine' i_gTupH ?q1 ?q2 ?_); (case q1 => walk_at "hp"); (case q2 => exact rfl))
  | (with_reducible refine i_dnew ?_) | (with_reducible refine i_init ?_) | (with_reducible refine i_fst ?_) | (with_reducible refine i_mk ?_) | (with_reducible refine i_mkF ?_) | (with_reducible refine i_raise ?_) | (with_reducible refine i_callS ?_) | (with_reducible refine i_kwS ?_)
  | (with_reducible refine i_revT ?_) | (with_reducible refine i_kw ?_) | ((with_reducible refine' ⟨_, _, rfl, sqT_of ?q1, ?_⟩); (case q1 => walk_at "hp"))
  | (with_reducible refine i_revS ?_) | ((with_reducible refine i_revSS ?q1 ?_); (case q1 => walk_at "ln"))
  | (with_reducible refine i_startS ?_) | (with_reducible refine i_inSg ?_) | (with_reducible refine i_absN ?_) | (with_reducible refine i_min2 ?_) | (with_reducible refine i_max2 ?_) | (with_reducible refine i_min3 ?_) | (with_reducible refine i_intN ?_) | (with_reducible refine i_intNB ?_)
  | ((with_reducible refine' i_lenL ?q1 ?_); (case q1 => walk_at "hp")) | ((with_reducible refine' i_lenT ?q1 ?_); (case q1 => walk_at "hp"))
  | (with_reducible refine i_eqI ?_) | (with_reducible refine i_neI ?_) | (with_reducible refine i_eqS ?_) | (with_reducible refine i_neS ?_) | (with_reducible refine i_isNoI ?_) | (with_reducible refine i_isNoN ?_) | (with_reducible refine i_isNoR ?_)
  | ((with_reducible refine i_pow ?q1 ?q2 ?q3 ?_); (case q1 => decide); (case q2 => decide); (case q3 => (with_reducible omega)))
  | ((with_reducible refine i_rI ?q1 ?_); (case q1 => walk_at "ci"))
  | (with_reducible refine Or.inl ⟨_, rfl, ?_⟩) | (with_reducible refine Or.inr ⟨_, rfl, ?_⟩) | (with_reducible refine ⟨_, rfl, ?_⟩) | (with_reducible refine ⟨_, _, rfl, ?_⟩) | (with_reducible refine ⟨_, _, rfl, rfl, ?_⟩)
  | ((with_reducible refine' ⟨_, _, rfl, Or.inl (sqL_of ?q1), ?_⟩); (case q1 => walk_at "hp")) | ((with_reducible refine' ⟨_, _, rfl, Or.inr (sqT_of ?q1), ?_⟩); (case q1 => walk_at "hp")) | (with_reducible refine i_dget ?_) | (with_reducible refine i_disp1T ?_) | (with_reducible refine i_dcT ?_) | (with_reducible refine i_dnewT ?_) | (with_reducible refine i_fld ?_) | (with_reducible refine i_sFld ?_) | (with_reducible refine i_make ?_) | (with_reducible refine i_meth ?_) | (with_reducible refine i_star ?_) | (with_reducible refine i_isNoS ?_) | (with_reducible refine i_lc2 ?_) | (with_reducible refine i_iEnT ?_) | fail)
local macro_rules | `(tactic| walk_at "rd") => `(tactic| repeat' walk_at "rd1")

open Lev (lev)
def row (a b : List Nat) (i : Nat) : List Int := (List.range (b.length + 1)).map fun k => (lev (a.take i) (b.take k) : Int)
theorem row_zero (a b : List Nat) : row a b 0 = (List.range (b.length + 1)).map fun (k : Nat) => (k : Int) := by
  unfold row
  refine List.map_congr_left fun k hk => ?_
  have hk := List.mem_range.mp hk
  rw [List.take_zero, Lev.lev_nil, List.length_take, Nat.min_eq_left (by omega)]
theorem row_len (a b : List Nat) (i : Nat) : (row a b i).length = b.length + 1 := by simp [row]
theorem row_get {a b : List Nat} {i k : Nat} (h : k < b.length + 1) : (row a b i)[k]? = some (lev (a.take i) (b.take k) : Int) := by
  simp [row, List.getElem?_map, List.getElem?_range h]

theorem row_next' {a b : List Nat} {i k x y : Nat} (hx : a[i]? = some x) (hy : b[k]? = some y) :
    min (min ((lev (a.take i) (b.take k) : Nat) + (if (!decide ([x] = [y])) = true then (1 : Int) else 0)) ((lev (a.take (i + 1)) (b.take k) : Nat) + 1)) ((lev (a.take i) (b.take (k + 1)) : Nat) + 1) = ((lev (a.take (i + 1)) (b.take (k + 1)) : Nat) : Int) := by
  rw [Lev.take_snoc hx, Lev.take_snoc hy, Lev.lev_snoc]
  by_cases c : x = y
  · subst c; simp; omega
  · simp [c]; omega
/-- the first k of the one, the others of the other -/
def mix (A B : List Int) (k : Nat) : List Int := A.take k ++ B.drop k
theorem mix_get {A B : List Int} {k x : Nat} (h : A.length = B.length) (hk : k ≤ A.length) : (mix A B k)[x]? = if x < k then A[x]? else B[x]? := by
  unfold mix
  rw [List.getElem?_append, List.length_take, Nat.min_eq_left hk]
  by_cases c : x < k
  · rw [if_pos c, if_pos c, List.getElem?_take, if_pos c]
  · rw [if_neg c, if_neg c, List.getElem?_drop]
    congr 1; omega
theorem mix_len {A B : List Int} {k : Nat} (h : A.length = B.length) (hk : k ≤ A.length) : (mix A B k).length = A.length := by
  unfold mix
  rw [List.length_append, List.length_take, List.length_drop]; omega
theorem mix_set {A B : List Int} {k : Nat} {v : Int} (h : A.length = B.length) (hk : k < A.length) (hv : A[k]? = some v) : (mix A B k).set k v = mix A B (k + 1) := by
  apply List.ext_getElem?
  intro x
  rw [List.getElem?_set, mix_get h (by omega), mix_get h (by omega), mix_len h (by omega)]
  by_cases c : k = x
  · subst c
    rw [if_pos rfl, if_pos hk, if_pos (by omega), hv]
  · rw [if_neg c]
    by_cases c2 : x < k
    · rw [if_pos c2, if_pos (by omega)]
    · rw [if_neg c2, if_neg (by omega)]
theorem mix_all {A B : List Int} (h : A.length = B.length) : mix A B A.length = A := by
  unfold mix
  rw [List.take_length, h, List.drop_length, List.append_nil]
/-- _law_distance(one, other) -/
def spTable : Sp := fun vs H Q _ => ∃ (a b : List Nat), vs = [.str (S a), .str (S b)] ∧ a.length ≤ 2000 ∧ b.length ≤ 2000 ∧ ∀ H', Same H H' → Q (.int (lev a b : Nat)) H'
section
variable {P : Program} {w : World} {K : PySem.W.Frag} {mg : Str → Option Value} {base : Heap} {f : Addr} {fd : FuncData}
theorem ixN_at {n j : Nat} (hj : j < n) : ixN n (j : Int) = some j := by
  unfold ixN
  rw [if_pos (by omega), if_pos (by omega)]
  simp
theorem ok_table (F : Fun K "_law_distance" "_law_distance" s__law_distance f fd) (z : Z mg) : FnOk P w K mg base CX0 1 f fd ["one", "other"] spTable := by
  refine F.ok sc__law_distance (fun vs H Q E h => ?_) (fun cdv A outer s H vs Q E hr h => ?_)
  · obtain ⟨a, b, rfl, _⟩ := h; rfl
  · obtain ⟨a, b, rfl, ha, hb, k⟩ := h
    refine ⟨_, (pss_cons (ps_set (i := 2) sc__law_distance.nd rfl (.inl rfl) (pe_listRg rfl (by rfl) z.list (prg_1 (by rfl) z.range (pe_op op_add (pe_callB call_lenS (by rfl) z.len PySem.boot_len (pa_cons (pv 1) pa_nil)) pe_int))))
      (pss_cons (ps_for PassesOwn.never rfl (pi_range1 (by rfl) z.range (pa_cons (pe_callB call_lenS (by rfl) z.len PySem.boot_len (pa_cons (pv 0) pa_nil)) pa_nil)) (pg_name (i := 3) sc__law_distance.nd rfl (.inl rfl))
        (pss_cons (ps_asg (pe_tup (pa_cons (pe_ix ix_list (pv 2) pe_int (fun _ _ => rfl)) (pa_cons (pe_op op_add (pv 3) pe_int) pa_nil))) (pg_tup rfl (pgs_cons (pg_name (i := 4) sc__law_distance.nd rfl (.inl rfl)) (pgs_cons (pg_sub (pv 2) pe_int set_list) pgs_nil))))
        (pss_one (ps_for PassesOwn.never rfl (pi_range1 (by rfl) z.range (pa_cons (pe_callB call_lenS (by rfl) z.len PySem.boot_len (pa_cons (pv 1) pa_nil)) pa_nil)) (pg_name (i := 5) sc__law_distance.nd rfl (.inl rfl))
          (pss_cons (ps_set (i := 6) sc__law_distance.nd rfl (.inl rfl) (pe_op op_add (pv 4) (pe_callTy call_intN (by rfl) z.int (by decide +kernel) (pa_cons (pe_cmpR op_ne (pe_ix ix_S (pv 0) (pv 3) (fun _ _ => rfl)) (pe_ix ix_S (pv 1) (pv 5) (fun _ _ => rfl)) (nomark _)) pa_nil))))
          (pss_cons (ps_set (i := 4) sc__law_distance.nd rfl (.inl rfl) (pe_ix ix_list (pv 2) (pe_op op_add (pv 5) pe_int) (fun _ _ => rfl)))
          (pss_one (ps_asg (pe_callB (call_min3N rfl) (by rfl) z.min_ (by decide +kernel) (pa_cons (pv 6) (pa_cons (pe_op op_add (pe_ix ix_list (pv 2) (pv 5) (fun _ _ => rfl)) pe_int) (pa_cons (pe_op op_add (pv 4) pe_int) pa_nil)))) (pg_sub (pv 2) (pe_op op_add (pv 5) pe_int) set_list)))))))))
      (pss_one (ps_ret (pe_ix ix_list (pv 2) (pe_un un_neg pe_int) (fun _ _ => rfl)))))), ?_⟩
    walk_at "rd"
    refine ⟨by unfold RgOk; refine ⟨by omega, by omega, by omega, by omega, by omega⟩, fun p np => ?_⟩
    walk_at "rd"
    have e0 : rgV 0 ((b.length : Int) + 1) = (row a b 0).map V.int := by
      rw [row_zero, List.map_map]
      unfold rgV
      rw [show ((b.length : Int) + 1 - 0).toNat = b.length + 1 by omega]
      refine List.map_congr_left fun k _ => ?_
      rw [Int.zero_add]; rfl
    rw [e0]
    refine i_rng (by omega) (by omega) ?_
    refine go_for walk_rangeZ (fun i σ H2 => ∃ (u3 u4 u5 u6 : Option V), σ = [some (.str (S a)), some (.str (S b)), some (.ref p), u3, u4, u5, u6] ∧ Same H H2 ∧ H2 p = some (.lst ((row a b i).map V.int))) ⟨none, none, none, none, rfl, same_upd np, upd_same⟩ (fun _ _ _ _ _ => trivial) (fun i v σ H2 H3 hi h y => ?_) (fun σ H2 h => ?_)
    · obtain ⟨u3, u4, u5, u6, rfl, s2, ep⟩ := h
      obtain ⟨rfl, rfl⟩ := y
      have hi' : i < a.length := by omega
      walk_at "rd"
      refine i_ixLI ep (by omega) (row_get (by omega)) ?_
      walk_at "rd"
      refine ⟨Nat.le_of_ble_eq_true rfl, fun q nq => ?_⟩
      have sq := same_upd (o := .tup [V.int ↑(lev (List.take i a) (List.take (Int.toNat 0) b)), V.int (↑i + 1)]) nq
      have ep' := sq _ _ ep
      have eL : (row a b (i + 1)).length = (row a b i).length := by rw [row_len, row_len]
      have g0 : (row a b (i + 1))[0]? = some ((i : Int) + 1) := by
        rw [row_get (by omega), List.take_zero, Lev.lev_nil', List.length_take, Nat.min_eq_left (by omega)]
        rfl
      walk_at "rd"
      refine i_setL ep' (ixN_at (j := 0) (by rw [List.length_map, row_len]; omega)) ?_
      have s3 := Same.set_new (o := .lst (((row a b i).map V.int).set 0 (V.int ((i : Int) + 1)))) (s2.trans sq) np
      have ep3 : upd (upd H3 q (.tup [V.int ↑(lev (List.take i a) (List.take (Int.toNat 0) b)), V.int (↑i + 1)])) p (.lst (((row a b i).map V.int).set 0 (V.int ((i : Int) + 1)))) p = some (.lst ((mix (row a b (i + 1)) (row a b i) 1).map V.int)) := by
        rw [upd_same, ← mix_set eL (k := 0) (by rw [row_len]; omega) g0, List.map_set]
        unfold mix
        rw [List.take_zero, List.drop_zero, List.nil_append]
      generalize upd (upd H3 q (.tup [V.int ↑(lev (List.take i a) (List.take (Int.toNat 0) b)), V.int (↑i + 1)])) p (.lst (((row a b i).map V.int).set 0 (V.int ((i : Int) + 1)))) = H4 at *
      walk_at "rd"
      refine i_rng (by omega) (by omega) ?_
      refine go_for walk_rangeZ (fun j σ H5 => ∃ (u5 u6 : Option V), σ = [some (.str (S a)), some (.str (S b)), some (.ref p), some (.int (i : Int)), some (.int (lev (a.take i) (b.take j) : Nat)), u5, u6] ∧ Same H H5 ∧ H5 p = some (.lst ((mix (row a b (i + 1)) (row a b i) (j + 1)).map V.int)))
        ⟨u5, u6, rfl, s3, ep3⟩ (fun _ _ _ _ _ => trivial) (fun j v σ H5 H6 hj h y => ?_) (fun σ H5 h => ?_)
      · obtain ⟨u5, u6, rfl, s5, ep5⟩ := h
        obtain ⟨rfl, rfl⟩ := y
        have hj' : j < b.length := by omega
        have lA : (row a b (i + 1)).length = b.length + 1 := row_len _ _ _
        have m1 : (mix (row a b (i + 1)) (row a b i) (j + 1))[j + 1]? = some (lev (a.take i) (b.take (j + 1)) : Int) := by
          rw [mix_get eL (by omega), if_neg (by omega), row_get (by omega)]
        have m0 : (mix (row a b (i + 1)) (row a b i) (j + 1))[j]? = some (lev (a.take (i + 1)) (b.take j) : Int) := by
          rw [mix_get eL (by omega), if_pos (by omega), row_get (by omega)]
        walk_at "rd"
        refine i_ixSI (by omega) (by rw [Int.toNat_natCast]; exact List.getElem?_eq_getElem hi') (by omega) ?_
        walk_at "rd"
        refine i_ixSI (by omega) (by rw [Int.toNat_natCast]; exact List.getElem?_eq_getElem hj') (by omega) ?_
        walk_at "rd"
        refine i_ixLI ep5 (by omega) (by rw [show ((j : Int) + 1).toNat = j + 1 by omega]; exact m1) ?_
        walk_at "rd"
        refine i_ixLI ep5 (by omega) (by rw [Int.toNat_natCast]; exact m0) ?_
        walk_at "rd"
        rw [row_next' (List.getElem?_eq_getElem hi') (List.getElem?_eq_getElem hj')]
        refine i_setL (j := j + 1) ep5 (by rw [show (j : Int) + 1 = ((j + 1 : Nat) : Int) by omega]; exact ixN_at (by rw [List.length_map, mix_len eL (by omega), lA]; omega)) ?_
        refine ⟨_, _, rfl, Same.set_new s5 np, ?_⟩
        rw [upd_same, ← List.map_set, mix_set eL (by omega) (row_get (by omega))]
      · obtain ⟨u5, u6, rfl, s5, ep5⟩ := h
        rw [show ((b.length : Int)).toNat + 1 = (row a b (i + 1)).length by rw [row_len, Int.toNat_natCast], mix_all eL] at ep5
        exact ⟨_, _, _, _, rfl, s5, ep5⟩
    · obtain ⟨u3, u4, u5, u6, rfl, s2, ep⟩ := h
      walk_at "rd"
      have eg := row_get (a := a) (b := b) (i := a.length) (k := b.length) (by omega)
      refine i_rU ?_
      refine i_ixLH ep (atI_neg1 (by rw [List.length_map, row_len]) (by rw [List.getElem?_map, Int.toNat_natCast, eg]; rfl)) ?_
      rw [List.take_length, List.take_length]
      exact k _ s2
end
end Sw
namespace Sw
open PySem PySem.Spec PyProof.Rows L2
local macro_rules | `(tactic| walk_at "hp") => `(tactic| first
  | (with_reducible assumption) | (with_reducible exact upd_same)
  | ((with_reducible refine' upd_old ?q1 ?q2); (case q1 => (with_reducible assumption)); (case q2 => walk_at "hp"))
  | ((with_reducible refine' Same.at ?q1 ?q2); (case q1 => (with_reducible assumption)); (case q2 => walk_at "hp"))
  | ((with_reducible refine' upd_skip ?q1 ?q2); (case q1 => walk_at "ne"); (case q2 => walk_at "hp"))
  | fail)
local macro_rules | `(tactic| walk_at "ne") => `(tactic| first
  | (with_reducible assumption) | (with_reducible exact Ne.symm (by assumption))
  | ((with_reducible refine' ne_of_none ?q1 ?q2); (case q2 => (with_reducible assumption)); (case q1 => walk_at "hp"))
  | fail)
local macro_rules | `(tactic| walk_at "ci") => `(tactic| first | assumption | (show (0 : Int) < _; first | decide | (with_reducible omega)) | exact ⟨by decide, by decide⟩ | exact .inl ⟨by decide, by decide⟩ | exact .inr ⟨by decide, by decide⟩)
local macro_rules | `(tactic| walk_at "ln") => `(tactic| first | (with_reducible assumption) | (with_reducible omega) | (simp only [List.length_append, List.length_take, List.length_drop, List.length_reverse, List.length_cons, List.length_nil]; with_reducible omega))
local macro_rules | `(tactic| walk_at "rd1") => `(tactic| first
  | (with_reducible refine i_seq ?_) | (with_reducible refine i_asg ?_) | (with_reducible refine i_ret ?_) | (with_reducible refine i_name ?_) | ((with_reducible refine' i_var ?q1 ?_); (case q1 => exact rfl)) | (with_reducible refine i_c ?_) | (with_reducible refine i_op ?_) | (with_reducible refine i_un ?_)
  | (with_reducible refine i_rI0 ?_) | (with_reducible refine i_cb ?_) | (with_reducible refine i_cons ?_) | (with_reducible refine i_nil ?_) | (with_reducible refine i_call ?_) | (with_reducible refine i_if ?_) | (with_reducible refine i_ifE ?_) | (with_reducible refine i_test ?_) | (with_reducible refine i_bl ?_)
  | (with_reducible refine i_and ?_) | (with_reducible refine i_or ?_) | (with_reducible refine i_not ?_) | (with_reducible refine i_lst ?_) | (with_reducible refine i_tup ?_) | (with_reducible refine i_next ?_) | (with_reducible refine i_drop ?_) | (with_reducible refine i_sub ?_)
  | (with_reducible refine i_bm ?_) | (with_reducible refine i_sl ?_) | (with_reducible refine i_part ?_) | (with_reducible refine i_nopart ?_) | (with_reducible refine i_exI ?_) | (with_reducible refine i_chain ?_) | ((with_reducible refine' i_aug ?q1 ?_); (case q1 => exact rfl)) | (with_reducible refine i_ip ?_)
  | (with_reducible refine i_par ?_) | (with_reducible refine i_pair ?_) | (with_reducible refine i_andV ?_) | (with_reducible refine i_orV ?_) | (with_reducible refine i_notV ?_) | (with_reducible refine i_m1 ?_) | (with_reducible refine i_str ?_)
  | (with_reducible refine iteF ?_) | (with_reducible refine iteT ?_) | (with_reducible refine iteNT ?_) | (with_reducible refine iteNF ?_) | (with_reducible refine i_tyS ?_) | (with_reducible refine i_tB ?_) | (with_reducible refine i_retN ?_) | (with_reducible refine i_par3 ?_) | (with_reducible refine i_trip ?_) | (with_reducible refine i_gCons ?_) | (with_reducible refine i_gNil ?_) | (with_reducible refine i_lstRg ?_) | (with_reducible refine i_rg1 ?_)
  | (with_reducible refine i_lc ?_) | (with_reducible refine i_for ?_) | (with_reducible refine i_iList ?_) | (with_reducible refine i_iTup ?_) | (with_reducible refine i_iStr ?_) | (with_reducible refine i_iRng1 ?_) | (with_reducible refine i_iEnS ?_)
  | ((with_reducible refine' i_ixTH ?q1 ?q2 ?_); (case q1 => walk_at "hp"); (case q2 => exact rfl))
  | ((with_reducible refine' i_ixLH ?q1 ?q2 ?_); (case q1 => walk_at "hp"); (case q2 => exact rfl))
  | ((with_reducible refine i_addS ?q1 ?_); (case q1 => walk_at "ln")) | ((with_reducible refine i_lenSS ?q1 ?_); (case q1 => walk_at "ln")) | ((with_reducible refine i_slFrom ?q1 ?q2 ?_); (case q1 => walk_at "ln"); (case q2 => walk_at "ln")) | ((with_reducible refine i_slTo ?q1 ?q2 ?_); (case q1 => walk_at "ln"); (case q2 => walk_at "ln"))
  | ((with_reducible refine' i_tyL ?q1 ?_); (case q1 => walk_at "hp"))
  | ((with_reducible refine' i_gTupH ?q1 ?q2 ?_); (case q1 => walk_at "hp"); (case q2 => exact rfl))
  | (with_reducible refine i_dnew ?_) | (with_reducible refine i_init ?_) | (with_reducible refine i_fst ?_) | (with_reducible refine i_mk ?_) | (with_reducible refine i_mkF ?_) | (with_reducible refine i_raise ?_) | (with_reducible refine i_callS ?_) | (with_reducible refine i_kwS ?_)
  | (with_reducible refine i_revT ?_) | (with_reducible refine i_kw ?_) | ((with_reducible refine' ⟨_, _, rfl, sqT_of ?q1, ?_⟩); (case q1 => walk_at "hp"))
  | (with_reducible refine i_revS ?_) | ((with_reducible refine i_revSS ?q1 ?_); (case q1 => walk_at "ln"))
  | (with_reducible refine i_startS ?_) | (with_reducible refine i_inSg ?_) | (with_reducible refine i_absN ?_) | (with_reducible refine i_min2 ?_) | (with_reducible refine i_max2 ?_) | (with_reducible refine i_min3 ?_) | (with_reducible refine i_intN ?_) | (with_reducible refine i_intNB ?_)
  | ((with_reducible refine' i_lenL ?q1 ?_); (case q1 => walk_at "hp")) | ((with_reducible refine' i_lenT ?q1 ?_); (case q1 => walk_at "hp"))
  | (with_reducible refine i_eqI ?_) | (with_reducible refine i_neI ?_) | (with_reducible refine i_eqS ?_) | (with_reducible refine i_neS ?_) | (with_reducible refine i_isNoI ?_) | (with_reducible refine i_isNoN ?_) | (with_reducible refine i_isNoR ?_)
  | ((with_reducible refine i_pow ?q1 ?q2 ?q3 ?_); (case q1 => decide); (case q2 => decide); (case q3 => (with_reducible omega)))
  | ((with_reducible refine i_rI ?q1 ?_); (case q1 => walk_at "ci"))
  | (with_reducible refine Or.inl ⟨_, rfl, ?_⟩) | (with_reducible refine Or.inr ⟨_, rfl, ?_⟩) | (with_reducible refine ⟨_, rfl, ?_⟩) | (with_reducible refine ⟨_, _, rfl, ?_⟩) | (with_reducible refine ⟨_, _, rfl, rfl, ?_⟩)
  | ((with_reducible refine' ⟨_, _, rfl, Or.inl (sqL_of ?q1), ?_⟩); (case q1 => walk_at "hp")) | ((with_reducible refine' ⟨_, _, rfl, Or.inr (sqT_of ?q1), ?_⟩); (case q1 => walk_at "hp")) | (with_reducible refine i_dget ?_) | (with_reducible refine i_disp1T ?_) | (with_reducible refine i_dcT ?_) | (with_reducible refine i_dnewT ?_) | (with_reducible refine i_fld ?_) | (with_reducible refine i_sFld ?_) | (with_reducible refine i_make ?_) | (with_reducible refine i_meth ?_) | (with_reducible refine i_star ?_) | (with_reducible refine i_isNoS ?_) | (with_reducible refine i_lc2 ?_) | (with_reducible refine i_iEnT ?_) | fail)
local macro_rules | `(tactic| walk_at "rd") => `(tactic| repeat' walk_at "rd1")

theorem pass_len {n : Nat} : ∀ {w : Nat} {ds : List PyData}, SdAll n w ds → ds.length ≤ w
  | _, [], _ => Nat.zero_le _
  | _, d :: ds, h => by
    obtain ⟨a, b, hab, h1, h2⟩ := h.inv
    have := pass_len h2
    rw [List.length_cons]
    omega
/-- is_same(value, signs), the number of signs a good one -/
def spSame (K : PySem.W.Frag) : Sp := fun vs H Q _ => ∃ x d m n w, vs = [x, .int m] ∧ De K H x d ∧ Sd n w d ∧ n ≤ 50 ∧ StOk d ∧ Q (.bl (sameB m d)) H
/-- is_passing(value, signs) -/
def spPass (K : PySem.W.Frag) : Sp := fun vs H Q _ => ∃ x y d e n w, vs = [x, y] ∧ De K H x d ∧ Sd n w d ∧ n ≤ 50 ∧ w ≤ 900000 ∧ PsOk d ∧ De K H y e ∧ ∀ H', Same H H' → Q (.bl (onG e fun m => passB m d)) H'
section
variable {P : Program} {w : World} {K : PySem.W.Frag} {mg : Str → Option Value} {base : Heap} {f : Addr} {fd : FuncData}
theorem ok_kind (F : Fun K "is_kind" "is_kind" s_is_kind f fd) (z : Z mg) (c_is_signs : Cal P w K mg base "is_signs" ["value"] 2 (spSg K)) (c_is_sign : Cal P w K mg base "is_sign" ["value", "signs"] 3 (spIdx K)) : FnOk P w K mg base CX0 4 f fd ["value", "signs"] (spKind K) := by
  refine F.ok sc_is_kind (fun vs H Q E h => ?_) (fun cdv A outer s H vs Q E hr h => ?_)
  · obtain ⟨x, y, d, e, _, _, rfl, _⟩ := h; rfl
  · obtain ⟨x, y, d, e, n, w, rfl, hx, sx, hn, ok, hy, k⟩ := h
    refine ⟨_, (pss_cons (ps_if (PW.pt (pw_or (pt_not (pt_val (pe_cal c_is_signs hr (pa_cons (pv 1) pa_nil)))) (pw_or (pt_not (pt_val (pe_callB call_isi (by rfl) z.isinstance (by decide +kernel) (pa_cons (pv 0) (pa_cons (pe_bltn (v := .ty "tuple") (by rfl) z.tuple (by decide +kernel) rfl) pa_nil))))) (pw_or1 (pt_cmpR op_notIn_seq (pe_callB call_lenQ (by rfl) z.len PySem.boot_len (pa_cons (pv 0) pa_nil)) (pe_tup (pa_cons pe_int (pa_cons pe_int pa_nil))) (by rfl))))))
        (pss_one (ps_ret pe_bl))
        pss_nil)
      (pss_cons (ps_if (pt_not (pt_val (pe_callB (cr_all rfl) (by rfl) z.all (by decide +kernel) (pa_cons (pe_lc (own := [("part", 2)]) (g := gName 2) (tt := tYes) rfl sc_is_kind.nd (pi_tup (pe_slice sl_tupA (pv 0) (po_some pe_int) po_none)) (blkOk_by (own := [("part", 2)]) (N := n_is_kind) (sc := defScope s_is_kind) (by decide +kernel)) (fun _ _ _ _ _ => (pg_name (i := 2) sc_is_kind.nd rfl (.inl rfl))) (fun _ _ _ _ _ => pts_nil) (fun _ _ _ _ _ => (pe_cal c_is_sign hr (pa_cons (pv 2) (pa_cons (pv 1) pa_nil))))) pa_nil))))
        (pss_one (ps_ret pe_bl))
        pss_nil)
      (pss_cons (ps_if (pt_cmpR op_eq (pe_callB call_lenQ (by rfl) z.len PySem.boot_len (pa_cons (pv 0) pa_nil)) pe_int (nomark _))
        (pss_one (ps_ret (pe_cmpR (op_inT hr.units) (pe_ix ix_tup (pv 0) pe_int (fun _ _ => rfl)) (pe_tup (pa_cons (pe_strS (l := [108, 111, 115, 116]) (by decide +kernel)) (pa_cons (pe_strS (l := [112, 117, 116]) (by decide +kernel)) pa_nil))) (by rfl))))
        pss_nil)
      (pss_one (ps_ret (pe_and (pe_cmpR (op_eqX hr.units) (pe_ix ix_tup (pv 0) pe_int (fun _ _ => rfl)) (pe_strS (l := [116, 117, 114, 110, 101, 100]) (by decide +kernel)) (nomark _)) (pe_one (pe_cmpR op_ne (pe_ix ix_tup (pv 0) pe_int (fun _ _ => rfl)) (pe_ix ix_tup (pv 0) pe_int (fun _ _ => rfl)) (nomark _))))))))), ?_⟩
    walk_at "rd"
    refine ⟨y, e, rfl, hy, ?_⟩
    walk_at "rd"
    rw [isG_sgn]
    rcases es : sgn e with _ | m
    · have k' : ∀ H', Same H H' → Q (.bl false) H' := fun H' s' => by
        have := k H' s'
        unfold onG at this
        rw [es] at this
        exact this
      walk_at "rd"
      exact k' _ (Same.refl _)
    obtain ⟨rfl, m1, m5⟩ := sgn_some es
    have k' : ∀ H', Same H H' → Q (.bl (kindB m d)) H' := fun H' s' => by
      have := k H' s'
      unfold onG at this
      rw [es] at this
      exact this
    cases hy.intI
    walk_at "rd"
    rw [show (some m).isSome = true from rfl]
    walk_at "rd"
    refine hx.isi (n := "tuple") (.inr (.inr (.inr (.inr rfl)))) ?_
    by_cases ht : ∃ ds, d = .tuple ds
    · obtain ⟨ds, rfl⟩ := ht
      obtain ⟨a, xs, rfl, ha, hxs⟩ := hx.tupI
      rw [show tyB "tuple" (.tuple ds) = true from rfl]
      have lx := hxs.len
      walk_at "rd"
      refine ⟨a, xs, rfl, .inr ha, ?_⟩
      walk_at "rd"
      refine ⟨Nat.le_of_ble_eq_true rfl, fun p np => ?_⟩
      have t1 := same_upd (o := .tup [.int 2, .int 3]) np
      have e1 := upd_same (H := H) (a := p) (o := .tup [.int 2, .int 3])
      generalize upd H p (.tup [.int 2, .int 3]) = H1 at *
      refine ⟨p, _, rfl, .inr (sqT_of e1), rfl, rfl, ?_⟩
      walk_at "rd"
      rw [if_pos rfl, inV_two]
      by_cases len : ds.length = 2 ∨ ds.length = 3
      case neg =>
        have e2 : kindB m (.tuple ds) = false := by
          rcases ds with _ | ⟨x1, _ | ⟨x2, _ | ⟨x3, _ | ⟨x4, ys⟩⟩⟩⟩
          · rfl
          · rfl
          · exact (len (.inl rfl)).elim
          · exact (len (.inr rfl)).elim
          · rfl
        rw [e2] at k'
        rw [decide_eq_false (by omega), decide_eq_false (by omega)]
        walk_at "rd"
        exact k' _ t1
      case pos =>
        have ba : (decide ((xs.length : Int) = 2) || decide ((xs.length : Int) = 3)) = true := by
          rcases len with len | len
          · rw [decide_eq_true (by omega)]; rfl
          · rw [decide_eq_true (show (xs.length : Int) = 3 by omega), Bool.or_true]
        rw [ba]
        walk_at "rd"
        refine i_slTF (k := 1) (Same.sqT t1 ha) fun p2 H2 s2 e2 => ?_
        have t2 := t1.trans s2
        have hx2 := (hxs.drop 1).same t2
        walk_at "rd"
        refine ⟨⟨_, e2⟩, ?_⟩
        refine go_map (walk_tup (xs := xs.drop 1)) (fun i => V.bl (isX m ((ds.drop 1).getD i .none))) (by rw [List.length_drop]; omega) (fun H s => Same.sqT s e2) (fun j v H6 H7 hj s6 y R2 hR2 => ?_) mono_name (fun pj H6 npj s6 ej => ?_)
        · obtain ⟨rfl, hv⟩ := y
          have dv := (hx2.getD hv).same s6
          walk_at "rd"
          refine ⟨rfl, ?_⟩
          walk_at "rd"
          exact ⟨v, _, m, rfl, dv, hR2 _ (Same.refl _)⟩
        · rw [show (xs.drop 1).length = (ds.drop 1).length by rw [List.length_drop, List.length_drop, lx], map_getD (ds.drop 1) (fun d => V.bl (isX m d)), show (ds.drop 1).map (fun d => V.bl (isX m d)) = ((ds.drop 1).map (isX m)).map V.bl by rw [List.map_map]; rfl] at ej
          walk_at "rd"
          refine i_all ej ?_
          have t6 := t2.trans s6
          have ha6 := Same.sqT t6 ha
          have hx6 := hxs.same t6
          rw [List.all_map, show (id ∘ isX m) = isX m from rfl]
          refine ⟨_, rfl, iteNC (fun e => ?_) (fun e => ?_)⟩
          · rw [kindB_no len e] at k'
            walk_at "rd"
            exact k' _ t6
          walk_at "rd"
          refine i_lenSqT ha6 ?_
          walk_at "rd"
          refine iteB (fun l2 => ?_) (fun l2 => ?_)
          · have l2' : ds.length = 2 := by omega
            obtain ⟨d0, d1, rfl⟩ : ∃ d0 d1, ds = [d0, d1] := by
              rcases ds with _ | ⟨x1, _ | ⟨x2, _ | ⟨x3, ys⟩⟩⟩
              · cases l2'
              · cases l2'
              · exact ⟨_, _, rfl⟩
              · simp at l2'
            simp only [List.drop_succ_cons, List.drop_zero, List.all_cons, List.all_nil, Bool.and_true] at e
            simp only [kindB, e, Bool.true_and] at k'
            cases hx6 with
            | cons h0 h1 =>
              rename_i v0 vs
              walk_at "rd"
              refine i_ixTn (k := 0) ha6 rfl ?_
              walk_at "rd"
              refine ⟨Nat.le_of_ble_eq_true rfl, fun p7 n7 => ?_⟩
              have t7 := same_upd (o := .tup [.str (S tLost), .str (S tPut)]) n7
              have st0 := sx.tupI'.get List.mem_cons_self
              refine i_inT [tLost, tPut] (h0.same t7) st0 (ok.two _ _ rfl (by cases d1 <;> first | rfl | cases e)) (by decide) upd_same ?_
              rw [show ([tLost, tPut].any fun l => isS l d0) = (isS tLost d0 || isS tPut d0) by simp only [List.any_cons, List.any_nil, Bool.or_false]]
              exact k' _ (t6.trans t7)
          · have l3' : ds.length = 3 := by omega
            obtain ⟨d0, d1, d2, rfl⟩ : ∃ d0 d1 d2, ds = [d0, d1, d2] := by
              rcases ds with _ | ⟨x1, _ | ⟨x2, _ | ⟨x3, _ | ⟨x4, ys⟩⟩⟩⟩
              · cases l3'
              · cases l3'
              · cases l3'
              · exact ⟨_, _, _, rfl⟩
              · simp at l3'
            simp only [List.drop_succ_cons, List.drop_zero, List.all_cons, List.all_nil, Bool.and_true] at e
            simp only [kindB, e, Bool.true_and] at k'
            cases hx6 with
            | cons h0 h1 =>
              cases h1 with
              | cons h1 h2 =>
                cases h2 with
                | cons h2 h3 =>
                  cases h3
                  rw [Bool.and_eq_true] at e
                  obtain ⟨i1, rfl, rfl⟩ := h1.intB (by cases d1 <;> first | rfl | cases e.1)
                  obtain ⟨i2, rfl, rfl⟩ := h2.intB (by cases d2 <;> first | rfl | cases e.2)
                  walk_at "rd"
                  refine i_ixTn (k := 0) ha6 rfl ?_
                  walk_at "rd"
                  have st0 := sx.tupI'.get List.mem_cons_self
                  refine i_eqS1 h0 st0 (ok.parts _ rfl _ List.mem_cons_self) (by decide) ?_
                  refine ⟨_, rfl, iteC (fun e0 => ?_) (fun e0 => ?_)⟩
                  · rw [e0, eqv_int] at k'
                    walk_at "rd"
                    refine i_ixTn (k := 1) ha6 rfl ?_
                    walk_at "rd"
                    refine i_ixTn (k := 2) ha6 rfl ?_
                    walk_at "rd"
                    exact k' _ t6
                  · rw [e0] at k'
                    exact k' _ t6
    · have e : tyB "tuple" d = false := by cases d <;> first | rfl | exact (ht ⟨_, rfl⟩).elim
      have e2 : kindB m d = false := by cases d <;> first | rfl | exact (ht ⟨_, rfl⟩).elim
      rw [e]
      rw [e2] at k'
      walk_at "rd"
      exact k' _ (Same.refl _)
theorem ok_same (F : Fun K "is_same" "is_same" s_is_same f fd) (z : Z mg) (c_is_sign : Cal P w K mg base "is_sign" ["value", "signs"] 3 (spIdx K)) : FnOk P w K mg base CX0 4 f fd ["value", "signs"] (spSame K) := by
  refine F.ok sc_is_same (fun vs H Q E h => ?_) (fun cdv A outer s H vs Q E hr h => ?_)
  · obtain ⟨x, d, m, _, _, rfl, _⟩ := h; rfl
  · obtain ⟨x, d, m, n, w, rfl, hx, sx, hn, ok, k⟩ := h
    refine ⟨_, (pss_one (ps_ret (pe_and (pe_callB call_isi (by rfl) z.isinstance (by decide +kernel) (pa_cons (pv 0) (pa_cons (pe_bltn (v := .ty "tuple") (by rfl) z.tuple (by decide +kernel) rfl) pa_nil))) (pe_and (pe_cmpR op_eq (pe_callB call_lenQ (by rfl) z.len PySem.boot_len (pa_cons (pv 0) pa_nil)) pe_int (nomark _)) (pe_and (pe_cmpR (op_eqX hr.units) (pe_ix ix_tup (pv 0) pe_int (fun _ _ => rfl)) (pe_strS (l := [115, 97, 109, 101]) (by decide +kernel)) (nomark _)) (pe_one (pe_cal c_is_sign hr (pa_cons (pe_ix ix_tup (pv 0) pe_int (fun _ _ => rfl)) (pa_cons (pv 1) pa_nil))))))))), ?_⟩
    walk_at "rd"
    refine hx.isi (n := "tuple") (.inr (.inr (.inr (.inr rfl)))) ?_
    by_cases ht : ∃ ds, d = .tuple ds
    case neg =>
      have e : tyB "tuple" d = false := by cases d <;> first | rfl | exact (ht ⟨_, rfl⟩).elim
      have e2 : sameB m d = false := by cases d <;> first | rfl | exact (ht ⟨_, rfl⟩).elim
      rw [e]
      rw [e2] at k
      walk_at "rd"
      exact k
    obtain ⟨ds, rfl⟩ := ht
    obtain ⟨a, xs, rfl, ha, hxs⟩ := hx.tupI
    rw [show tyB "tuple" (.tuple ds) = true from rfl]
    have lx := hxs.len
    walk_at "rd"
    refine i_lenSqT ha ?_
    walk_at "rd"
    refine iteB (fun l2 => ?_) (fun l2 => ?_)
    rotate_left
    · have e2 : sameB m (.tuple ds) = false := by
        rcases ds with _ | ⟨x1, _ | ⟨x2, _ | ⟨x3, ys⟩⟩⟩
        · rfl
        · rfl
        · exact (l2 (by rw [lx]; rfl)).elim
        · rfl
      rw [e2] at k
      exact k
    have l2' : ds.length = 2 := by omega
    obtain ⟨d0, d1, rfl⟩ : ∃ d0 d1, ds = [d0, d1] := by
      rcases ds with _ | ⟨x1, _ | ⟨x2, _ | ⟨x3, ys⟩⟩⟩
      · cases l2'
      · cases l2'
      · exact ⟨_, _, rfl⟩
      · simp at l2'
    cases hxs with
    | cons h0 h1 =>
      cases h1 with
      | cons h1 h2 =>
        cases h2
        walk_at "rd"
        refine i_ixTn (k := 0) ha rfl ?_
        walk_at "rd"
        have st0 := sx.tupI'.get List.mem_cons_self
        refine i_eqS1 h0 st0 (ok.parts _ rfl _ List.mem_cons_self) (by decide) ?_
        simp only [sameB] at k
        refine ⟨_, rfl, iteC (fun e0 => ?_) (fun e0 => ?_)⟩
        · rw [e0, Bool.true_and] at k
          walk_at "rd"
          refine i_ixTn (k := 1) ha rfl ?_
          walk_at "rd"
          exact ⟨_, d1, m, rfl, h1, k⟩
        · rw [e0] at k
          exact k
theorem ok_passing (F : Fun K "is_passing" "is_passing" s_is_passing f fd) (z : Z mg) (c_is_signs : Cal P w K mg base "is_signs" ["value"] 2 (spSg K)) (c_is_same : Cal P w K mg base "is_same" ["value", "signs"] 4 (spSame K)) (c_is_kind : Cal P w K mg base "is_kind" ["value", "signs"] 4 (spKind K)) : FnOk P w K mg base CX0 5 f fd ["value", "signs"] (spPass K) := by
  refine F.ok sc_is_passing (fun vs H Q E h => ?_) (fun cdv A outer s H vs Q E hr h => ?_)
  · obtain ⟨x, y, d, e, _, _, rfl, _⟩ := h; rfl
  · obtain ⟨x, y, d, e, n, w, rfl, hx, sx, hn, hw, ok, hy, k⟩ := h
    refine ⟨_, (pss_cons (ps_if (PW.pt (pw_or (pt_not (pt_val (pe_cal c_is_signs hr (pa_cons (pv 1) pa_nil)))) (pw_or1 (pt_not (pt_val (pe_callB call_isi (by rfl) z.isinstance (by decide +kernel) (pa_cons (pv 0) (pa_cons (pe_bltn (v := .ty "tuple") (by rfl) z.tuple (by decide +kernel) rfl) pa_nil))))))))
        (pss_one (ps_ret pe_bl))
        pss_nil)
      (pss_one (ps_ret (pe_callB (cr_all rfl) (by rfl) z.all (by decide +kernel) (pa_cons (pe_lc (own := [("step", 2)]) (g := gName 2) (tt := tYes) rfl sc_is_passing.nd (pi_tup (pv 0)) (blkOk_by (own := [("step", 2)]) (N := n_is_passing) (sc := defScope s_is_passing) (by decide +kernel)) (fun _ _ _ _ _ => (pg_name (i := 2) sc_is_passing.nd rfl (.inl rfl))) (fun _ _ _ _ _ => pts_nil) (fun _ _ _ _ _ => (pe_or (pe_cal c_is_same hr (pa_cons (pv 2) (pa_cons (pv 1) pa_nil))) (pe_one (pe_cal c_is_kind hr (pa_cons (pv 2) (pa_cons (pv 1) pa_nil))))))) pa_nil))))), ?_⟩
    walk_at "rd"
    refine ⟨y, e, rfl, hy, ?_⟩
    walk_at "rd"
    rw [isG_sgn]
    rcases es : sgn e with _ | m
    · have k' : ∀ H', Same H H' → Q (.bl false) H' := fun H' s' => by
        have := k H' s'
        unfold onG at this
        rw [es] at this
        exact this
      walk_at "rd"
      exact k' _ (Same.refl _)
    obtain ⟨rfl, m1, m5⟩ := sgn_some es
    have k' : ∀ H', Same H H' → Q (.bl (passB m d)) H' := fun H' s' => by
      have := k H' s'
      unfold onG at this
      rw [es] at this
      exact this
    cases hy.intI
    rw [show (some m).isSome = true from rfl]
    walk_at "rd"
    refine hx.isi (n := "tuple") (.inr (.inr (.inr (.inr rfl)))) ?_
    by_cases ht : ∃ ds, d = .tuple ds
    case neg =>
      have e : tyB "tuple" d = false := by cases d <;> first | rfl | exact (ht ⟨_, rfl⟩).elim
      have e2 : passB m d = false := by cases d <;> first | rfl | exact (ht ⟨_, rfl⟩).elim
      rw [e]
      rw [e2] at k'
      walk_at "rd"
      exact k' _ (Same.refl _)
    obtain ⟨ds, rfl⟩ := ht
    obtain ⟨a, xs, rfl, ha, hxs⟩ := hx.tupI
    rw [show tyB "tuple" (.tuple ds) = true from rfl]
    have lx := hxs.len
    walk_at "rd"
    refine ⟨⟨_, ha⟩, ?_⟩
    refine go_map (walk_tup (xs := xs)) (fun i => V.bl ((fun s => sameB m s || kindB m s) (ds.getD i .none))) ?_ (fun H s => Same.sqT s ha) (fun j v H6 H7 hj s6 y R2 hR2 => ?_) mono_name (fun pj H6 npj s6 ej => ?_)
    · have := pass_len sx.tupI'
      omega
    · obtain ⟨rfl, hv⟩ := y
      obtain ⟨dj, gj, dv⟩ := hxs.get hv
      have gD : ds.getD j .none = dj := by rw [List.getD_eq_getElem?_getD, gj]; rfl
      have mj := List.mem_of_getElem? gj
      have sj := sx.tupI'.get mj
      have oj := ok.all _ rfl _ mj
      rw [gD] at hR2
      dsimp only at hR2
      have dv6 := dv.same s6
      walk_at "rd"
      refine ⟨rfl, ?_⟩
      walk_at "rd"
      refine ⟨v, dj, m, n, w, rfl, dv6, sj, hn, oj, ?_⟩
      refine ⟨_, rfl, iteC (fun e0 => ?_) (fun e0 => ?_)⟩
      · rw [e0] at hR2
        exact hR2 _ (Same.refl _)
      · rw [e0, Bool.false_or] at hR2
        walk_at "rd"
        refine ⟨v, .int m, dj, .int m, n, w, rfl, dv6, sj, hn, oj, .int m, fun H8 s8 => ?_⟩
        unfold onG
        rw [es]
        exact hR2 _ s8
    · rw [lx, map_getD ds (fun d => V.bl (sameB m d || kindB m d)), show ds.map (fun d => V.bl (sameB m d || kindB m d)) = (ds.map fun s => sameB m s || kindB m s).map V.bl by rw [List.map_map]; rfl] at ej
      walk_at "rd"
      refine i_all ej ?_
      rw [List.all_map]
      exact k' _ s6
end
end Sw
namespace Sw
open PySem PySem.Spec PyProof.Rows L2
local macro_rules | `(tactic| walk_at "hp") => `(tactic| first
  | (with_reducible assumption) | (with_reducible exact upd_same)
  | ((with_reducible refine' upd_old ?q1 ?q2); (case q1 => (with_reducible assumption)); (case q2 => walk_at "hp"))
  | ((with_reducible refine' Same.at ?q1 ?q2); (case q1 => (with_reducible assumption)); (case q2 => walk_at "hp"))
  | ((with_reducible refine' upd_skip ?q1 ?q2); (case q1 => walk_at "ne"); (case q2 => walk_at "hp"))
  | fail)
local macro_rules | `(tactic| walk_at "ne") => `(tactic| first
  | (with_reducible assumption) | (with_reducible exact Ne.symm (by assumption))
  | ((with_reducible refine' ne_of_none ?q1 ?q2); (case q2 => (with_reducible assumption)); (case q1 => walk_at "hp"))
  | fail)
local macro_rules | `(tactic| walk_at "ci") => `(tactic| first | assumption | (show (0 : Int) < _; first | decide | (with_reducible omega)) | exact ⟨by decide, by decide⟩ | exact .inl ⟨by decide, by decide⟩ | exact .inr ⟨by decide, by decide⟩)
local macro_rules | `(tactic| walk_at "ln") => `(tactic| first | (with_reducible assumption) | (with_reducible omega) | (simp only [List.length_append, List.length_take, List.length_drop, List.length_reverse, List.length_cons, List.length_nil]; with_reducible omega))
local macro_rules | `(tactic| walk_at "rd1") => `(tactic| first
  | (with_reducible refine i_seq ?_) | (with_reducible refine i_asg ?_) | (with_reducible refine i_ret ?_) | (with_reducible refine i_name ?_) | ((with_reducible refine' i_var ?q1 ?_); (case q1 => exact rfl)) | (with_reducible refine i_c ?_) | (with_reducible refine i_op ?_) | (with_reducible refine i_un ?_)
  | (with_reducible refine i_rI0 ?_) | (with_reducible refine i_cb ?_) | (with_reducible refine i_cons ?_) | (with_reducible refine i_nil ?_) | (with_reducible refine i_call ?_) | (with_reducible refine i_if ?_) | (with_reducible refine i_ifE ?_) | (with_reducible refine i_test ?_) | (with_reducible refine i_bl ?_)
  | (with_reducible refine i_and ?_) | (with_reducible refine i_or ?_) | (with_reducible refine i_not ?_) | (with_reducible refine i_lst ?_) | (with_reducible refine i_tup ?_) | (with_reducible refine i_next ?_) | (with_reducible refine i_drop ?_) | (with_reducible refine i_sub ?_)
  | (with_reducible refine i_bm ?_) | (with_reducible refine i_sl ?_) | (with_reducible refine i_part ?_) | (with_reducible refine i_nopart ?_) | (with_reducible refine i_exI ?_) | (with_reducible refine i_chain ?_) | ((with_reducible refine' i_aug ?q1 ?_); (case q1 => exact rfl)) | (with_reducible refine i_ip ?_)
  | (with_reducible refine i_par ?_) | (with_reducible refine i_pair ?_) | (with_reducible refine i_andV ?_) | (with_reducible refine i_orV ?_) | (with_reducible refine i_notV ?_) | (with_reducible refine i_m1 ?_) | (with_reducible refine i_str ?_)
  | (with_reducible refine iteF ?_) | (with_reducible refine iteT ?_) | (with_reducible refine iteNT ?_) | (with_reducible refine iteNF ?_) | (with_reducible refine i_tyS ?_) | (with_reducible refine i_tB ?_) | (with_reducible refine i_retN ?_) | (with_reducible refine i_par3 ?_) | (with_reducible refine i_trip ?_) | (with_reducible refine i_gCons ?_) | (with_reducible refine i_gNil ?_) | (with_reducible refine i_lstRg ?_) | (with_reducible refine i_rg1 ?_)
  | (with_reducible refine i_lc ?_) | (with_reducible refine i_for ?_) | (with_reducible refine i_iList ?_) | (with_reducible refine i_iTup ?_) | (with_reducible refine i_iStr ?_) | (with_reducible refine i_iRng1 ?_) | (with_reducible refine i_iEnS ?_)
  | ((with_reducible refine' i_ixTH ?q1 ?q2 ?_); (case q1 => walk_at "hp"); (case q2 => exact rfl))
  | ((with_reducible refine' i_ixLH ?q1 ?q2 ?_); (case q1 => walk_at "hp"); (case q2 => exact rfl))
  | ((with_reducible refine i_addS ?q1 ?_); (case q1 => walk_at "ln")) | ((with_reducible refine i_lenSS ?q1 ?_); (case q1 => walk_at "ln")) | ((with_reducible refine i_slFrom ?q1 ?q2 ?_); (case q1 => walk_at "ln"); (case q2 => walk_at "ln")) | ((with_reducible refine i_slTo ?q1 ?q2 ?_); (case q1 => walk_at "ln"); (case q2 => walk_at "ln"))
  | ((with_reducible refine' i_tyL ?q1 ?_); (case q1 => walk_at "hp"))
  | ((with_reducible refine' i_gTupH ?q1 ?q2 ?_); (case q1 => walk_at "hp"); (case q2 => exact rfl))
  | (with_reducible refine i_dnew ?_) | (with_reducible refine i_init ?_) | (with_reducible refine i_fst ?_) | (with_reducible refine i_mk ?_) | (with_reducible refine i_mkF ?_) | (with_reducible refine i_raise ?_) | (with_reducible refine i_callS ?_) | (with_reducible refine i_kwS ?_)
  | (with_reducible refine i_revT ?_) | (with_reducible refine i_kw ?_) | ((with_reducible refine' ⟨_, _, rfl, sqT_of ?q1, ?_⟩); (case q1 => walk_at "hp"))
  | (with_reducible refine i_revS ?_) | ((with_reducible refine i_revSS ?q1 ?_); (case q1 => walk_at "ln"))
  | (with_reducible refine i_startS ?_) | (with_reducible refine i_inSg ?_) | (with_reducible refine i_absN ?_) | (with_reducible refine i_min2 ?_) | (with_reducible refine i_max2 ?_) | (with_reducible refine i_min3 ?_) | (with_reducible refine i_intN ?_) | (with_reducible refine i_intNB ?_)
  | ((with_reducible refine' i_lenL ?q1 ?_); (case q1 => walk_at "hp")) | ((with_reducible refine' i_lenT ?q1 ?_); (case q1 => walk_at "hp"))
  | (with_reducible refine i_eqI ?_) | (with_reducible refine i_neI ?_) | (with_reducible refine i_eqS ?_) | (with_reducible refine i_neS ?_) | (with_reducible refine i_isNoI ?_) | (with_reducible refine i_isNoN ?_) | (with_reducible refine i_isNoR ?_)
  | ((with_reducible refine i_pow ?q1 ?q2 ?q3 ?_); (case q1 => decide); (case q2 => decide); (case q3 => (with_reducible omega)))
  | ((with_reducible refine i_rI ?q1 ?_); (case q1 => walk_at "ci"))
  | (with_reducible refine Or.inl ⟨_, rfl, ?_⟩) | (with_reducible refine Or.inr ⟨_, rfl, ?_⟩) | (with_reducible refine ⟨_, rfl, ?_⟩) | (with_reducible refine ⟨_, _, rfl, ?_⟩) | (with_reducible refine ⟨_, _, rfl, rfl, ?_⟩)
  | ((with_reducible refine' ⟨_, _, rfl, Or.inl (sqL_of ?q1), ?_⟩); (case q1 => walk_at "hp")) | ((with_reducible refine' ⟨_, _, rfl, Or.inr (sqT_of ?q1), ?_⟩); (case q1 => walk_at "hp")) | (with_reducible refine i_dget ?_) | (with_reducible refine i_disp1T ?_) | (with_reducible refine i_dcT ?_) | (with_reducible refine i_dnewT ?_) | (with_reducible refine i_fld ?_) | (with_reducible refine i_sFld ?_) | (with_reducible refine i_make ?_) | (with_reducible refine i_meth ?_) | (with_reducible refine i_star ?_) | (with_reducible refine i_isNoS ?_) | (with_reducible refine i_lc2 ?_) | (with_reducible refine i_iEnT ?_) | fail)
local macro_rules | `(tactic| walk_at "rd") => `(tactic| repeat' walk_at "rd1")

/-! ### what a passing tells -/
def wordIs (l : List Nat) : PyData → Bool
  | .tuple (a :: _) => isS l a
  | _ => false
def second : PyData → PyData
  | .tuple (_ :: b :: _) => b
  | _ => .none
def lastD : PyData → PyData
  | .tuple [_, b] => b
  | .tuple [_, _, c] => c
  | _ => .none
def toV : PyData → V
  | .int i => .int i
  | _ => .non
def partsOf : PyData → List PyData
  | .tuple ds => ds
  | _ => []
def sentD (ds : List PyData) : List PyData := (ds.filter fun s => !wordIs tPut s).map second
def cameD (ds : List PyData) : List PyData := (ds.filter fun s => !wordIs tLost s).map lastD
def errN (ds : List PyData) : Nat := (ds.filter fun s => !wordIs tSame s).length
theorem isS_inv {l : List Nat} {d : PyData} (h : isS l d = true) : d = .str (S l) := by
  cases d <;> first | cases h | skip
  simp only [isS] at h
  rw [of_decide_eq_true h]
theorem isX_inv {m : Int} {d : PyData} (h : isX m d = true) : ∃ i : Int, d = .int i ∧ 0 ≤ i ∧ i < m := by
  cases d <;> first | cases h | skip
  rename_i i
  simp only [isX, Bool.and_eq_true] at h
  exact ⟨i, rfl, of_decide_eq_true h.1, of_decide_eq_true h.2⟩
/-- a good step: a word and one or two signs -/
theorem step_inv {m : Int} {s : PyData} (h : (sameB m s || kindB m s) = true) : ∃ (w : List Nat) (is : List Int), s = .tuple (.str (S w) :: is.map .int) ∧ (is.length = 1 ∨ is.length = 2) ∧ (∀ c ∈ w, c ≤ 1000) ∧ w.length ≤ 6 ∧ ∀ i ∈ is, 0 ≤ i ∧ i < m := by
  rw [Bool.or_eq_true] at h
  rcases s with _ | _ | _ | _ | _ | ds | _
  all_goals first | (simp only [sameB, kindB] at h; rcases h with h | h <;> cases h; done) | skip
  rcases ds with _ | ⟨a, _ | ⟨b, _ | ⟨c, _ | ⟨d, ds⟩⟩⟩⟩
  · simp [sameB, kindB] at h
  · simp [sameB, kindB] at h
  · simp only [sameB, kindB, Bool.and_eq_true, Bool.or_eq_true] at h
    have hb : isX m b = true := h.elim (fun h => h.2) (fun h => h.1)
    obtain ⟨i, rfl, i0, i1⟩ := isX_inv hb
    rcases h with h | ⟨_, h | h⟩
    · exact ⟨tSame, [i], by rw [isS_inv h.1]; rfl, .inl rfl, by decide, by decide, by simp; exact ⟨i0, i1⟩⟩
    · exact ⟨tLost, [i], by rw [isS_inv h]; rfl, .inl rfl, by decide, by decide, by simp; exact ⟨i0, i1⟩⟩
    · exact ⟨tPut, [i], by rw [isS_inv h]; rfl, .inl rfl, by decide, by decide, by simp; exact ⟨i0, i1⟩⟩
  · simp only [sameB, kindB, Bool.and_eq_true] at h
    have h := h.resolve_left (by intro q; cases q)
    obtain ⟨i, rfl, i0, i1⟩ := isX_inv h.1.1
    obtain ⟨j, rfl, j0, j1⟩ := isX_inv h.1.2
    exact ⟨tTurned, [i, j], by rw [isS_inv h.2.1]; rfl, .inr rfl, by decide, by decide, by simp; exact ⟨⟨i0, i1⟩, j0, j1⟩⟩
  · simp [sameB, kindB] at h
theorem passB_inv {m : Int} {d : PyData} (h : passB m d = true) : ∃ ds, d = .tuple ds ∧ ∀ s ∈ ds, (sameB m s || kindB m s) = true := by
  cases d <;> first | cases h | skip
  rename_i ds
  simp only [passB] at h
  exact ⟨ds, rfl, List.all_eq_true.mp h⟩
theorem deAll_ints {K : PySem.W.Frag} {H : Hp} : ∀ is : List Int, DeAll K H (is.map V.int) (is.map PyData.int)
  | [] => .nil
  | i :: is => .cons (.int i) (deAll_ints is)
theorem deAll_ints_inv {K : PySem.W.Frag} {H : Hp} : ∀ {is : List Int} {vs : List V}, DeAll K H vs (is.map PyData.int) → vs = is.map V.int
  | [], _, .nil => rfl
  | i :: is, _, .cons h1 h2 => by rw [h1.intI, deAll_ints_inv h2]; rfl
theorem step_at {K : PySem.W.Frag} {H : Hp} {v : V} {w : List Nat} {is : List Int} (h : De K H v (.tuple (.str (S w) :: is.map .int))) : ∃ a, v = .ref a ∧ SqT K H a (.str (S w) :: is.map V.int) := by
  obtain ⟨a, xs, rfl, h1, h2⟩ := h.tupI
  cases h2 with
  | cons h2 h3 =>
    cases h2
    rw [deAll_ints_inv h3] at h1
    exact ⟨a, rfl, h1⟩
theorem wordIs_str (l w : List Nat) (r : List PyData) : wordIs l (.tuple (.str (S w) :: r)) = decide (w = l) := by
  simp only [wordIs, isS]
  by_cases e : w = l
  · rw [e, decide_eq_true rfl, decide_eq_true rfl]
  · rw [decide_eq_false e, decide_eq_false fun q => e (S_inj.mp q)]
theorem take_snoc {ds : List PyData} {i : Nat} {d : PyData} (h : ds[i]? = some d) : ds.take (i + 1) = ds.take i ++ [d] := by
  rw [List.take_add_one, h]; rfl
theorem sentD_int {ds : List PyData} (h : ∀ s ∈ ds, (sameB 5 s || kindB 5 s) = true) : ∀ d ∈ sentD ds, ∃ i : Int, d = .int i ∧ 0 ≤ i ∧ i < 5 := by
  intro d hd
  obtain ⟨s, hs, rfl⟩ := List.mem_map.mp hd
  obtain ⟨w, is, rfl, hl, _, _, hi⟩ := step_inv (h s ((List.mem_filter.mp hs).1))
  rcases is with _ | ⟨i, is⟩
  · simp at hl
  · exact ⟨i, rfl, hi i List.mem_cons_self⟩
theorem cameD_int {ds : List PyData} (h : ∀ s ∈ ds, (sameB 5 s || kindB 5 s) = true) : ∀ d ∈ cameD ds, ∃ i : Int, d = .int i ∧ 0 ≤ i ∧ i < 5 := by
  intro d hd
  obtain ⟨s, hs, rfl⟩ := List.mem_map.mp hd
  obtain ⟨w, is, rfl, hl, _, _, hi⟩ := step_inv (h s ((List.mem_filter.mp hs).1))
  rcases is with _ | ⟨i, _ | ⟨j, _ | ⟨k, is⟩⟩⟩
  · simp at hl
  · exact ⟨i, rfl, hi i List.mem_cons_self⟩
  · exact ⟨j, rfl, hi j (by simp)⟩
  · simp at hl
theorem toV_de {K : PySem.W.Frag} {H : Hp} : ∀ {ds : List PyData}, (∀ d ∈ ds, ∃ i : Int, d = .int i ∧ 0 ≤ i ∧ i < 5) → DeAll K H (ds.map toV) ds
  | [], _ => .nil
  | d :: ds, h => by
    obtain ⟨i, rfl, _⟩ := h d List.mem_cons_self
    exact .cons (.int i) (toV_de fun x hx => h x (List.mem_cons_of_mem _ hx))
theorem Same.upd_out {H1 H4 : Hp} {p : Addr} {o : HO} (s : Same H1 H4) (n : H1 p = none) : Same H1 (upd H4 p o) := fun b ob e => by
  have : b ≠ p := ne_of_none e n
  rw [L2.upd_ne this]
  exact s b ob e
theorem sentD_yes {ds : List PyData} {d : PyData} (h : wordIs tPut d = false) : sentD (ds ++ [d]) = sentD ds ++ [second d] := by
  unfold sentD; rw [List.filter_append, List.map_append, List.filter_cons_of_pos (by rw [h]; rfl)]; rfl
theorem sentD_no {ds : List PyData} {d : PyData} (h : wordIs tPut d = true) : sentD (ds ++ [d]) = sentD ds := by
  unfold sentD; rw [List.filter_append, List.filter_cons_of_neg (by rw [h]; simp), List.filter_nil, List.append_nil]
theorem cameD_yes {ds : List PyData} {d : PyData} (h : wordIs tLost d = false) : cameD (ds ++ [d]) = cameD ds ++ [lastD d] := by
  unfold cameD; rw [List.filter_append, List.map_append, List.filter_cons_of_pos (by rw [h]; rfl)]; rfl
theorem cameD_no {ds : List PyData} {d : PyData} (h : wordIs tLost d = true) : cameD (ds ++ [d]) = cameD ds := by
  unfold cameD; rw [List.filter_append, List.filter_cons_of_neg (by rw [h]; simp), List.filter_nil, List.append_nil]
theorem errN_yes {ds : List PyData} {d : PyData} (h : wordIs tSame d = false) : errN (ds ++ [d]) = errN ds + 1 := by
  unfold errN; rw [List.filter_append, List.length_append, List.filter_cons_of_pos (by rw [h]; rfl)]; rfl
theorem errN_no {ds : List PyData} {d : PyData} (h : wordIs tSame d = true) : errN (ds ++ [d]) = errN ds := by
  unfold errN; rw [List.filter_append, List.filter_cons_of_neg (by rw [h]; simp), List.filter_nil, List.append_nil]
theorem sentD_len (ds : List PyData) : (sentD ds).length ≤ ds.length := by
  unfold sentD; rw [List.length_map]; exact List.length_filter_le _ _
theorem cameD_len (ds : List PyData) : (cameD ds).length ≤ ds.length := by
  unfold cameD; rw [List.length_map]; exact List.length_filter_le _ _
theorem size_big {n : Nat} (h : n ≤ 900000) : n < sizeLine := Nat.lt_of_le_of_lt h (by decide)
/-- check_passing(passing, signs), a passing -/
def spCkP (K : PySem.W.Frag) : Sp := fun vs H Q _ => ∃ x d m n w, vs = [x, .int m] ∧ De K H x d ∧ Sd n w d ∧ n ≤ 50 ∧ w ≤ 900000 ∧ PsOk d ∧ 1 ≤ m ∧ m ≤ 5 ∧ passB m d = true ∧ ∀ H', Same H H' → Q .non H'
def spTells (K : PySem.W.Frag) (f : List PyData → List PyData) : Sp := fun vs H Q _ => ∃ x d n w, vs = [x] ∧ De K H x d ∧ Sd n w d ∧ n ≤ 50 ∧ w ≤ 900000 ∧ PsOk d ∧ passB 5 d = true ∧ ∀ t H', Same H H' → H t = none → H' t = some (.tup ((f (partsOf d)).map toV)) → Q (.ref t) H'
section
variable {P : Program} {w : World} {K : PySem.W.Frag} {mg : Str → Option Value} {base : Heap} {f : Addr} {fd : FuncData}
theorem ok_ckP (F : Fun K "check_passing" "check_passing" s_check_passing f fd) (c_is_passing : Cal P w K mg base "is_passing" ["value", "signs"] 5 (spPass K)) : FnOk P w K mg base CX0 6 f fd ["passing", "signs"] (spCkP K) := by
  refine F.ok sc_check_passing (fun vs H Q E h => ?_) (fun cdv A outer s H vs Q E hr h => ?_)
  · obtain ⟨x, d, m, n, w, rfl, _⟩ := h; rfl
  · obtain ⟨x, d, m, n, w, rfl, hx, sx, hn, hw, ok, m1, m5, e, k⟩ := h
    refine ⟨_, (pss_one (ps_if (pt_not (pt_val (pe_cal c_is_passing hr (pa_cons (pv 0) (pa_cons (pv 1) pa_nil)))))
        (pss_one ps_never)
        pss_nil)), ?_⟩
    walk_at "rd"
    refine ⟨x, .int m, d, .int m, n, w, rfl, hx, sx, hn, hw, ok, .int m, fun H1 s1 => ?_⟩
    have eo : onG (.int m) (fun m => passB m d) = true := by
      have es : sgn (.int m) = some m := by simp only [sgn]; rw [if_pos ⟨m1, m5⟩]
      unfold onG
      rw [es]
      exact e
    rw [eo]
    walk_at "rd"
    exact k _ s1
theorem ok_sent {t5 : Tok} (F : Fun K "sent" "sent" s_sent f fd) (z : Z mg) (g_MOST_SIGNS : mg "MOST_SIGNS" = some (.int 5 t5)) (c_check_passing : Cal P w K mg base "check_passing" ["passing", "signs"] 6 (spCkP K)) : FnOk P w K mg base CX0 7 f fd ["passing"] (spTells K sentD) := by
  refine F.ok sc_sent (fun vs H Q E h => ?_) (fun cdv A outer s H vs Q E hr h => ?_)
  · obtain ⟨x, d, n, w, rfl, _⟩ := h; rfl
  · obtain ⟨x, d, n, w, rfl, hx, sx, hn, hw, ok, e, k1⟩ := h
    refine ⟨_, (pss_cons (ps_expr (pe_cal c_check_passing hr (pa_cons (pv 0) (pa_cons (pe_glob (v := .int 5) rfl g_MOST_SIGNS ⟨_, rfl⟩) pa_nil))))
      (pss_one (ps_ret (pe_callTy call_tuple_of (by rfl) z.tuple (by decide +kernel) (pa_cons (pe_lc (own := [("step", 1)]) (g := gName 1) (tt := _) rfl sc_sent.nd (pi_tup (pv 0)) (blkOk_by (own := [("step", 1)]) (N := n_sent) (sc := defScope s_sent) (by decide +kernel)) (fun _ _ _ _ _ => (pg_name (i := 1) sc_sent.nd rfl (.inl rfl))) (fun _ _ _ _ _ => (pts_one (pt_cmpR op_ne (pe_ix (r := rIxT K) ix_tup (pv 1) pe_int (fun _ _ => rfl)) (pe_strS (l := [112, 117, 116]) (by decide +kernel)) (nomark _)))) (fun _ _ _ _ _ => (pe_ix (r := rIxT K) ix_tup (pv 1) pe_int (fun _ _ => rfl)))) pa_nil))))), ?_⟩
    walk_at "rd"
    refine ⟨x, d, 5, n, w, rfl, hx, sx, hn, hw, ok, by decide, by decide, e, fun H1 s1 => ?_⟩
    obtain ⟨ds, rfl, good⟩ := passB_inv e
    obtain ⟨a, xs, rfl, ha, hxs⟩ := hx.tupI
    have ha1 := Same.sqT s1 ha
    have hxs1 := hxs.same s1
    have lx := hxs.len
    have ld := pass_len sx.tupI'
    walk_at "rd"
    refine ⟨⟨_, ha1⟩, ?_⟩
    refine go_lc (walk_tup (xs := xs)) (fun p i H2 => H2 p = some (.lst ((sentD (ds.take i)).map toV)) ∧ Same H1 H2)
      (fun p np => ⟨upd_same, same_upd np⟩) (fun p i H2 hi q => Same.sqT q.2 ha1) (fun p np i v H2 H3 hi q y => ?_) (fun p H2 np q => ?_)
    · obtain ⟨ep, s2⟩ := q
      obtain ⟨rfl, hv⟩ := y
      obtain ⟨dj, gj, dv⟩ := hxs1.get hv
      obtain ⟨w1, is, rfl, hl, hw1, hl1, hi1⟩ := step_inv (good _ (List.mem_of_getElem? gj))
      obtain ⟨a2, rfl, e2⟩ := step_at (dv.same s2)
      obtain ⟨i0, is, rfl⟩ : ∃ i0 is', is = i0 :: is' := by
        rcases is with _ | ⟨i0, is⟩
        · simp at hl
        · exact ⟨_, _, rfl⟩
      have tk1 := take_snoc gj
      have lt1 : (ds.take i).length ≤ ds.length := by rw [List.length_take]; omega
      walk_at "rd"
      refine ⟨rfl, ?_⟩
      walk_at "rd"
      refine i_ixTn (k := 0) e2 rfl ?_
      walk_at "rd"
      refine iteNB (fun q => ?_) (fun q => ?_)
      · have wf : wordIs tPut (.tuple (.str (S w1) :: (i0 :: is).map .int)) = false := by rw [wordIs_str, decide_eq_false q]
        walk_at "rd"
        refine i_ixTn (k := 1) e2 rfl ?_
        refine ⟨_, ep, size_big (by rw [List.length_map]; have := sentD_len (ds.take i); omega), ?_, Same.upd_out s2 np⟩
        rw [upd_same, tk1, sentD_yes wf, List.map_append]; rfl
      · have wt : wordIs tPut (.tuple (.str (S w1) :: (i0 :: is).map .int)) = true := by rw [wordIs_str, decide_eq_true q]
        rw [tk1, sentD_no wt]
        exact ⟨ep, s2⟩
    · obtain ⟨ep, s2⟩ := q
      rw [lx, List.take_length] at ep
      walk_at "rd"
      refine ⟨p, _, rfl, .inl ⟨sqL_of ep, fun t nt => ?_⟩⟩
      exact k1 t _ ((s1.trans s2).trans (same_upd nt)) ((s1.trans s2).free nt) upd_same
theorem ok_came {t5 : Tok} (F : Fun K "came" "came" s_came f fd) (z : Z mg) (g_MOST_SIGNS : mg "MOST_SIGNS" = some (.int 5 t5)) (c_check_passing : Cal P w K mg base "check_passing" ["passing", "signs"] 6 (spCkP K)) : FnOk P w K mg base CX0 7 f fd ["passing"] (spTells K cameD) := by
  refine F.ok sc_came (fun vs H Q E h => ?_) (fun cdv A outer s H vs Q E hr h => ?_)
  · obtain ⟨x, d, n, w, rfl, _⟩ := h; rfl
  · obtain ⟨x, d, n, w, rfl, hx, sx, hn, hw, ok, e, k1⟩ := h
    refine ⟨_, (pss_cons (ps_expr (pe_cal c_check_passing hr (pa_cons (pv 0) (pa_cons (pe_glob (v := .int 5) rfl g_MOST_SIGNS ⟨_, rfl⟩) pa_nil))))
      (pss_one (ps_ret (pe_callTy call_tuple_of (by rfl) z.tuple (by decide +kernel) (pa_cons (pe_lc (own := [("step", 1)]) (g := gName 1) (tt := _) rfl sc_came.nd (pi_tup (pv 0)) (blkOk_by (own := [("step", 1)]) (N := n_came) (sc := defScope s_came) (by decide +kernel)) (fun _ _ _ _ _ => (pg_name (i := 1) sc_came.nd rfl (.inl rfl))) (fun _ _ _ _ _ => (pts_one (pt_cmpR op_ne (pe_ix (r := rIxT K) ix_tup (pv 1) pe_int (fun _ _ => rfl)) (pe_strS (l := [108, 111, 115, 116]) (by decide +kernel)) (nomark _)))) (fun _ _ _ _ _ => (pe_ix (r := rIxT K) ix_tup (pv 1) (pe_un un_neg pe_int) (fun _ _ => rfl)))) pa_nil))))), ?_⟩
    walk_at "rd"
    refine ⟨x, d, 5, n, w, rfl, hx, sx, hn, hw, ok, by decide, by decide, e, fun H1 s1 => ?_⟩
    obtain ⟨ds, rfl, good⟩ := passB_inv e
    obtain ⟨a, xs, rfl, ha, hxs⟩ := hx.tupI
    have ha1 := Same.sqT s1 ha
    have hxs1 := hxs.same s1
    have lx := hxs.len
    have ld := pass_len sx.tupI'
    walk_at "rd"
    refine ⟨⟨_, ha1⟩, ?_⟩
    refine go_lc (walk_tup (xs := xs)) (fun p i H2 => H2 p = some (.lst ((cameD (ds.take i)).map toV)) ∧ Same H1 H2)
      (fun p np => ⟨upd_same, same_upd np⟩) (fun p i H2 hi q => Same.sqT q.2 ha1) (fun p np i v H2 H3 hi q y => ?_) (fun p H2 np q => ?_)
    · obtain ⟨ep, s2⟩ := q
      obtain ⟨rfl, hv⟩ := y
      obtain ⟨dj, gj, dv⟩ := hxs1.get hv
      obtain ⟨w1, is, rfl, hl, hw1, hl1, hi1⟩ := step_inv (good _ (List.mem_of_getElem? gj))
      obtain ⟨a2, rfl, e2⟩ := step_at (dv.same s2)
      obtain ⟨i0, is, rfl⟩ : ∃ i0 is', is = i0 :: is' := by
        rcases is with _ | ⟨i0, is⟩
        · simp at hl
        · exact ⟨_, _, rfl⟩
      have tk1 := take_snoc gj
      have lt1 : (ds.take i).length ≤ ds.length := by rw [List.length_take]; omega
      walk_at "rd"
      refine ⟨rfl, ?_⟩
      walk_at "rd"
      refine i_ixTn (k := 0) e2 rfl ?_
      walk_at "rd"
      refine iteNB (fun q => ?_) (fun q => ?_)
      · have wf : wordIs tLost (.tuple (.str (S w1) :: (i0 :: is).map .int)) = false := by rw [wordIs_str, decide_eq_false q]
        walk_at "rd"
        refine i_rU ?_
        refine i_ixT e2 (v := toV (lastD (.tuple (.str (S w1) :: (i0 :: is).map .int)))) (by
          rcases is with _ | ⟨j, _ | ⟨k, is⟩⟩
          · rfl
          · rfl
          · simp at hl) ?_
        refine ⟨_, ep, size_big (by rw [List.length_map]; have := cameD_len (ds.take i); omega), ?_, Same.upd_out s2 np⟩
        rw [upd_same, tk1, cameD_yes wf, List.map_append]; rfl
      · have wt : wordIs tLost (.tuple (.str (S w1) :: (i0 :: is).map .int)) = true := by rw [wordIs_str, decide_eq_true q]
        rw [tk1, cameD_no wt]
        exact ⟨ep, s2⟩
    · obtain ⟨ep, s2⟩ := q
      rw [lx, List.take_length] at ep
      walk_at "rd"
      refine ⟨p, _, rfl, .inl ⟨sqL_of ep, fun t nt => ?_⟩⟩
      exact k1 t _ ((s1.trans s2).trans (same_upd nt)) ((s1.trans s2).free nt) upd_same
end
end Sw
namespace Sw
open PySem PySem.Spec PyProof.Rows L2
local macro_rules | `(tactic| walk_at "hp") => `(tactic| first
  | (with_reducible assumption) | (with_reducible exact upd_same)
  | ((with_reducible refine' upd_old ?q1 ?q2); (case q1 => (with_reducible assumption)); (case q2 => walk_at "hp"))
  | ((with_reducible refine' Same.at ?q1 ?q2); (case q1 => (with_reducible assumption)); (case q2 => walk_at "hp"))
  | ((with_reducible refine' upd_skip ?q1 ?q2); (case q1 => walk_at "ne"); (case q2 => walk_at "hp"))
  | fail)
local macro_rules | `(tactic| walk_at "ne") => `(tactic| first
  | (with_reducible assumption) | (with_reducible exact Ne.symm (by assumption))
  | ((with_reducible refine' ne_of_none ?q1 ?q2); (case q2 => (with_reducible assumption)); (case q1 => walk_at "hp"))
  | fail)
local macro_rules | `(tactic| walk_at "ci") => `(tactic| first | assumption | (show (0 : Int) < _; first | decide | (with_reducible omega)) | exact ⟨by decide, by decide⟩ | exact .inl ⟨by decide, by decide⟩ | exact .inr ⟨by decide, by decide⟩)
local macro_rules | `(tactic| walk_at "ln") => `(tactic| first | (with_reducible assumption) | (with_reducible omega) | (simp only [List.length_append, List.length_take, List.length_drop, List.length_reverse, List.length_cons, List.length_nil]; with_reducible omega))
local macro_rules | `(tactic| walk_at "rd1") => `(tactic| first
  | (with_reducible refine i_seq ?_) | (with_reducible refine i_asg ?_) | (with_reducible refine i_ret ?_) | (with_reducible refine i_name ?_) | ((with_reducible refine' i_var ?q1 ?_); (case q1 => exact rfl)) | (with_reducible refine i_c ?_) | (with_reducible refine i_op ?_) | (with_reducible refine i_un ?_)
  | (with_reducible refine i_rI0 ?_) | (with_reducible refine i_cb ?_) | (with_reducible refine i_cons ?_) | (with_reducible refine i_nil ?_) | (with_reducible refine i_call ?_) | (with_reducible refine i_if ?_) | (with_reducible refine i_ifE ?_) | (with_reducible refine i_test ?_) | (with_reducible refine i_bl ?_)
  | (with_reducible refine i_and ?_) | (with_reducible refine i_or ?_) | (with_reducible refine i_not ?_) | (with_reducible refine i_lstM ?_) | (with_reducible refine i_lstLM ?_) | (with_reducible refine i_tupM ?_) | (with_reducible refine i_next ?_) | (with_reducible refine i_drop ?_) | (with_reducible refine i_sub ?_)
  | (with_reducible refine i_bm ?_) | (with_reducible refine i_sl ?_) | (with_reducible refine i_part ?_) | (with_reducible refine i_nopart ?_) | (with_reducible refine i_exI ?_) | (with_reducible refine i_chain ?_) | ((with_reducible refine' i_aug ?q1 ?_); (case q1 => exact rfl)) | (with_reducible refine i_ip ?_)
  | (with_reducible refine i_par ?_) | (with_reducible refine i_pair ?_) | (with_reducible refine i_andV ?_) | (with_reducible refine i_orV ?_) | (with_reducible refine i_notV ?_) | (with_reducible refine i_m1 ?_) | (with_reducible refine i_str ?_)
  | (with_reducible refine iteF ?_) | (with_reducible refine iteT ?_) | (with_reducible refine iteNT ?_) | (with_reducible refine iteNF ?_) | (with_reducible refine i_tyS ?_) | (with_reducible refine i_tB ?_) | (with_reducible refine i_retN ?_) | (with_reducible refine i_par3 ?_) | (with_reducible refine i_trip ?_) | (with_reducible refine i_gCons ?_) | (with_reducible refine i_gNil ?_) | (with_reducible refine i_lstRg ?_) | (with_reducible refine i_rg1 ?_)
  | (with_reducible refine i_lc ?_) | (with_reducible refine i_for ?_) | (with_reducible refine i_iList ?_) | (with_reducible refine i_iTup ?_) | (with_reducible refine i_iStr ?_) | (with_reducible refine i_iRng1 ?_) | (with_reducible refine i_iEnS ?_)
  | ((with_reducible refine' i_ixTH ?q1 ?q2 ?_); (case q1 => walk_at "hp"); (case q2 => exact rfl))
  | ((with_reducible refine' i_ixLH ?q1 ?q2 ?_); (case q1 => walk_at "hp"); (case q2 => exact rfl))
  | ((with_reducible refine i_addS ?q1 ?_); (case q1 => walk_at "ln")) | ((with_reducible refine i_lenSS ?q1 ?_); (case q1 => walk_at "ln")) | ((with_reducible refine i_slFrom ?q1 ?q2 ?_); (case q1 => walk_at "ln"); (case q2 => walk_at "ln")) | ((with_reducible refine i_slTo ?q1 ?q2 ?_); (case q1 => walk_at "ln"); (case q2 => walk_at "ln"))
  | ((with_reducible refine' i_tyL ?q1 ?_); (case q1 => walk_at "hp"))
  | ((with_reducible refine' i_gTupH ?q1 ?q2 ?_); (case q1 => walk_at "hp"); (case q2 => exact rfl))
  | (with_reducible refine i_dnewM ?_) | (with_reducible refine i_init ?_) | (with_reducible refine i_fst ?_) | (with_reducible refine i_mk ?_) | (with_reducible refine i_mkF ?_) | (with_reducible refine i_raise ?_) | (with_reducible refine i_callS ?_) | (with_reducible refine i_kwS ?_)
  | (with_reducible refine i_revT ?_) | (with_reducible refine i_kw ?_) | ((with_reducible refine' ⟨_, _, rfl, sqT_of ?q1, ?_⟩); (case q1 => walk_at "hp"))
  | (with_reducible refine i_revS ?_) | ((with_reducible refine i_revSS ?q1 ?_); (case q1 => walk_at "ln"))
  | (with_reducible refine i_startS ?_) | (with_reducible refine i_inSg ?_) | (with_reducible refine i_absN ?_) | (with_reducible refine i_min2 ?_) | (with_reducible refine i_max2 ?_) | (with_reducible refine i_min3 ?_) | (with_reducible refine i_intN ?_) | (with_reducible refine i_intNB ?_)
  | ((with_reducible refine' i_lenL ?q1 ?_); (case q1 => walk_at "hp")) | ((with_reducible refine' i_lenT ?q1 ?_); (case q1 => walk_at "hp"))
  | (with_reducible refine i_eqI ?_) | (with_reducible refine i_neI ?_) | (with_reducible refine i_eqS ?_) | (with_reducible refine i_neS ?_) | (with_reducible refine i_isNoI ?_) | (with_reducible refine i_isNoN ?_) | (with_reducible refine i_isNoR ?_)
  | ((with_reducible refine i_pow ?q1 ?q2 ?q3 ?_); (case q1 => decide); (case q2 => decide); (case q3 => (with_reducible omega)))
  | ((with_reducible refine i_rI ?q1 ?_); (case q1 => walk_at "ci"))
  | (with_reducible refine Or.inl ⟨_, rfl, ?_⟩) | (with_reducible refine Or.inr ⟨_, rfl, ?_⟩) | (with_reducible refine ⟨_, rfl, ?_⟩) | (with_reducible refine ⟨_, _, rfl, ?_⟩) | (with_reducible refine ⟨_, _, rfl, rfl, ?_⟩)
  | ((with_reducible refine' ⟨_, _, rfl, Or.inl (sqL_of ?q1), ?_⟩); (case q1 => walk_at "hp")) | ((with_reducible refine' ⟨_, _, rfl, Or.inr (sqT_of ?q1), ?_⟩); (case q1 => walk_at "hp")) | (with_reducible refine i_dget ?_) | (with_reducible refine i_disp1T ?_) | (with_reducible refine i_dcT ?_) | (with_reducible refine i_dnewT ?_) | (with_reducible refine i_fld ?_) | (with_reducible refine i_sFld ?_) | (with_reducible refine i_make ?_) | (with_reducible refine i_meth ?_) | (with_reducible refine i_star ?_) | (with_reducible refine i_isNoS ?_) | (with_reducible refine i_lc2 ?_) | (with_reducible refine i_iEnT ?_) | (with_reducible refine i_iZipT ?_) | fail)
local macro_rules | `(tactic| walk_at "rd") => `(tactic| repeat' walk_at "rd1")

open Lev (lev)
theorem runD_ok {n : Nat} {st : List (List Ent)} {en : List (Option (List Nat))} (g : Good n st en) : ∀ (l : List Nat) (q : Nat) (t : List Nat), q < st.length → azW t → ∀ q' t', runD st q t l = some (q', t') → q' < st.length ∧ azW t' ∧ t'.length ≤ t.length + 3 * l.length
  | [], q, t, hq, az, q', t', h => by cases h; exact ⟨hq, az, by simp⟩
  | x :: l, q, t, hq, az, q', t', h => by
    simp only [runD] at h
    rcases e : (st.getD q []).getD x none with _ | ⟨q2, w⟩
    · rw [e] at h; cases h
    · rw [e] at h
      obtain ⟨h1, h2, h3⟩ := ent_get g hq e
      obtain ⟨a, b, c⟩ := runD_ok g l q2 (t ++ w) h1 (fun c hc => (List.mem_append.mp hc).elim (az c) (h2 c)) q' t' h
      refine ⟨a, b, ?_⟩
      rw [List.length_append] at c
      rw [List.length_cons]; omega
theorem writD_ok {n : Nat} {st : List (List Ent)} {en : List (Option (List Nat))} (g : Good n st en) {l t : List Nat} (h : writD st en l = some t) : azW t ∧ t.length ≤ 3 * l.length + 3 := by
  unfold writD at h
  rcases e : runD st 0 [] l with _ | ⟨q, t1⟩
  · rw [e] at h; cases h
  · rw [e] at h
    obtain ⟨a, b, c⟩ := runD_ok g l 0 [] g.s1 (fun c hc => by cases hc) q t1 e
    rcases e2 : en.getD q none with _ | w
    · simp only [e2] at h; cases h
    · simp only [e2] at h
      cases h
      have oe : endOk (some w) := by
        rw [← e2]
        refine g.enk _ ?_
        rw [List.getD_eq_getElem?_getD, List.getElem?_eq_getElem (by rw [g.le]; exact a)]; exact List.getElem_mem _
      have l0 : ([] : List Nat).length = 0 := rfl
      refine ⟨fun c hc => ?_, by rw [List.length_append]; have := oe.2; omega⟩
      rcases List.mem_append.mp hc with hc | hc
      · exact b c hc
      · exact oe.1 c hc
theorem writD_sd {n : Nat} {st : List (List Ent)} {en : List (Option (List Nat))} (g : Good n st en) {l : List Nat} (hl : l.length ≤ 90) : Sd 0 300 (endD (writD st en l)) := by
  rcases e : writD st en l with _ | t
  · exact sd_non.mono (by omega) (by omega)
  · obtain ⟨a, b⟩ := writD_ok g e
    exact (sd_str (l := t) fun c hc => by have := a c hc; omega).mono (Nat.le_refl _) (by omega)
theorem end_de {K : PySem.W.Frag} {H : Hp} (o : Option (List Nat)) : De K H (endV o) (endD o) := by
  rcases o with _ | w
  · exact .non
  · exact .str _
/-! ### passings of signs that stay or are turned -/
def stepD (p : Nat × Nat) : PyData := if p.1 = p.2 then .tuple [.str (S tSame), .int (p.1 : Int)] else .tuple [.str (S tTurned), .int (p.1 : Int), .int (p.2 : Int)]
def psD (ps : List (Nat × Nat)) : PyData := .tuple (ps.map stepD)
theorem stepD_flat (p : Nat × Nat) : (stepD p).hasDict = false := by unfold stepD; split <;> simp [PyData.hasDict, PyData.hasDictAll]
theorem psD_flat (ps : List (Nat × Nat)) : (psD ps).hasDict = false := hasDict_tup.mpr fun y hy => by
  obtain ⟨e, _, rfl⟩ := List.mem_map.mp hy; exact stepD_flat e
theorem stepD_sd {p : Nat × Nat} (h1 : p.1 < 500) (h2 : p.2 < 500) : Sd 1 40 (stepD p) := by
  unfold stepD
  split
  · exact (sd_tup' (.cons ((sd_str (l := tSame) (by decide)).mono (by omega) (Nat.le_refl _)) (.cons (sd_int9 (by omega)) .nil))).mono (by omega) (by simp)
  · exact (sd_tup' (.cons ((sd_str (l := tTurned) (by decide)).mono (by omega) (Nat.le_refl _)) (.cons (sd_int9 (by omega)) (.cons (sd_int9 (by omega)) .nil)))).mono (by omega) (by simp)
theorem psD_sd {ps : List (Nat × Nat)} (h : ∀ p ∈ ps, p.1 < 500 ∧ p.2 < 500) (l : ps.length ≤ 20) : Sd 2 1000 (psD ps) := by
  have := sd_tup (n := 1) (w := 40) (ds := ps.map stepD) fun d hd => by
    obtain ⟨e, he, rfl⟩ := List.mem_map.mp hd
    exact stepD_sd (h e he).1 (h e he).2
  rw [List.length_map] at this
  exact this.mono (by omega) (by omega)
theorem isS_self (l : List Nat) : isS l (.str (S l)) = true := by simp [isS]
theorem stepD_good {p : Nat × Nat} {m : Int} (h1 : (p.1 : Int) < m) (h2 : (p.2 : Int) < m) : (sameB m (stepD p) || kindB m (stepD p)) = true := by
  have x1 : isX m (.int (p.1 : Int)) = true := by simp only [isX, Bool.and_eq_true, decide_eq_true_eq]; omega
  have x2 : isX m (.int (p.2 : Int)) = true := by simp only [isX, Bool.and_eq_true, decide_eq_true_eq]; omega
  unfold stepD
  split
  · simp only [sameB, isS_self, x1, Bool.and_self, Bool.true_or]
  · rename_i ne
    have en : PyData.eqv (.int (p.1 : Int)) (.int (p.2 : Int)) = false := by rw [eqv_int, decide_eq_false_iff_not]; omega
    simp only [kindB, isS_self, x1, x2, en, Bool.and_self, Bool.not_false, Bool.or_true]
theorem psD_pass {ps : List (Nat × Nat)} {m : Int} (h : ∀ p ∈ ps, (p.1 : Int) < m ∧ (p.2 : Int) < m) : passB m (psD ps) = true := by
  simp only [psD, passB, List.all_map, List.all_eq_true]
  intro p hp
  exact stepD_good (h p hp).1 (h p hp).2
theorem S_ne {a b : List Nat} (h : a ≠ b) : decide (a = b) = false := decide_eq_false h
theorem sent_psD (ps : List (Nat × Nat)) : (sentD (ps.map stepD)).map toV = (ps.map Prod.fst).map iV := by
  induction ps with
  | nil => rfl
  | cons p ps ih =>
    have e : wordIs tPut (stepD p) = false ∧ toV (second (stepD p)) = iV p.1 := by
      unfold stepD
      split
      · exact ⟨by rw [wordIs_str]; decide, rfl⟩
      · exact ⟨by rw [wordIs_str]; decide, rfl⟩
    unfold sentD at ih ⊢
    rw [List.map_cons, List.filter_cons_of_pos (by rw [e.1]; rfl), List.map_cons, List.map_cons, e.2, ih]; rfl
theorem came_psD (ps : List (Nat × Nat)) : (cameD (ps.map stepD)).map toV = (ps.map Prod.snd).map iV := by
  induction ps with
  | nil => rfl
  | cons p ps ih =>
    have e : wordIs tLost (stepD p) = false ∧ toV (lastD (stepD p)) = iV p.2 := by
      unfold stepD
      split
      · rename_i c
        exact ⟨by rw [wordIs_str]; decide, by rw [← c]; rfl⟩
      · exact ⟨by rw [wordIs_str]; decide, rfl⟩
    unfold cameD at ih ⊢
    rw [List.map_cons, List.filter_cons_of_pos (by rw [e.1]; rfl), List.map_cons, List.map_cons, e.2, ih]; rfl
def harmV : Option (List Nat) → Option (List Nat) → V
  | some a, some b => .int (lev a b : Nat)
  | _, _ => .non
/-- harm_of(decoder, passing) of such a passing -/
def spHarm (K : PySem.W.Frag) (C : Addr) : Sp := fun vs H Q _ => ∃ (v pva : V) (n : Nat) (st : List (List Ent)) (en : List (Option (List Nat))) (ps : List (Nat × Nat)), vs = [v, pva] ∧ DAt C H v n st en ∧ Good n st en ∧ De K H pva (psD ps) ∧
  (∀ p ∈ ps, p.1 < n ∧ p.2 < n) ∧ ps.length ≤ 20 ∧ ∀ H', Same H H' → Q (harmV (writD st en (ps.map Prod.fst)) (writD st en (ps.map Prod.snd))) H'
section
variable {P : Program} {w : World} {K : PySem.W.Frag} {mg : Str → Option Value} {base : Heap} {f : Addr} {fd : FuncData}
theorem ok_harm {C : Addr} (F : Fun K "harm_of" "harm_of" s_harm_of f fd) (z : Z mg) (dc : DcC K C) (c_check_decoder : Cal P w K mg base "check_decoder" ["decoder"] 1 (spCD0 C)) (c_check_passing : Cal P w K mg base "check_passing" ["passing", "signs"] 6 (spCkP K))
    (c_sent : Cal P w K mg base "sent" ["passing"] 7 (spTells K sentD)) (c_came : Cal P w K mg base "came" ["passing"] 7 (spTells K cameD)) (mt_Decoder_written : C8.Met P w K mg base 5 C "written" (spWr K C) []) (c_levenshtein : Cal P w K mg base "levenshtein" ["one", "other"] 4 spLev) :
    FnOk P w K mg base CX0 8 f fd ["decoder", "passing"] (spHarm K C) := by
  refine F.ok sc_harm_of (fun vs H Q E h => ?_) (fun cdv A outer s H vs Q E hr h => ?_)
  · obtain ⟨v, pva, n, st, en, ps, rfl, _⟩ := h; rfl
  · obtain ⟨v, pva, n, st, en, ps, rfl, D, g, hd, hps, l20, k⟩ := h
    refine ⟨_, (pss_cons (ps_expr (pe_cal c_check_decoder hr (pa_cons (pv 0) pa_nil)))
      (pss_cons (ps_expr (pe_cal c_check_passing hr (pa_cons (pv 1) (pa_cons (pe_fld (pv 0) (by rfl)) pa_nil))))
      (pss_cons (ps_par (i := 2) (j := 3) rfl sc_harm_of.nd rfl rfl (by decide) rfl rfl (pa_cons (C8.pe_mt mt_Decoder_written hr (by decide) (pv 0) (pa_cons (pe_cal c_sent hr (pa_cons (pv 1) pa_nil)) pa_nil)) (pa_cons (C8.pe_mt mt_Decoder_written hr (by decide) (pv 0) (pa_cons (pe_cal c_came hr (pa_cons (pv 1) pa_nil)) pa_nil)) pa_nil)) (by rfl))
      (pss_cons (ps_if (PW.pt (pw_or (pt_cmpR op_isNo (pv 2) pe_non (nomark _)) (pw_or1 (pt_cmpR op_isNo (pv 3) pe_non (nomark _)))))
        (pss_one (ps_ret pe_non))
        pss_nil)
      (pss_one (ps_ret (pe_cal c_levenshtein hr (pa_cons (pv 2) (pa_cons (pv 3) pa_nil))))))))), ?_⟩
    have n1 := g.n1
    have n5 := g.n5
    have sd := psD_sd (ps := ps) (fun p hp => by have := hps p hp; omega) l20
    have ok := PsOk.flat (psD_flat ps)
    have p5 : passB 5 (psD ps) = true := psD_pass fun p hp => by have := hps p hp; omega
    have pn : passB n (psD ps) = true := psD_pass fun p hp => by have := hps p hp; omega
    obtain ⟨a, dx, p1, p2, rfl, ha, hp1, hp2⟩ := D
    walk_at "rd"
    refine ⟨a, dx, _, rfl, ha, ?_⟩
    walk_at "rd"
    refine i_fldD dc.cl dc.a1 ha rfl ?_
    walk_at "rd"
    refine ⟨pva, psD ps, n, 2, 1000, rfl, hd, sd, by omega, by omega, ok, by omega, by omega, pn, fun H1 s1 => ?_⟩
    have ha1 := s1 _ _ ha
    have hd1 := hd.same s1
    walk_at "rd"
    refine ⟨a, dx, _, rfl, ha1, rfl, ?_⟩
    walk_at "rd"
    refine ⟨pva, psD ps, 2, 1000, rfl, hd1, sd, by omega, by omega, ok, p5, fun t2 H2 s2 n2 e2 => ?_⟩
    rw [show partsOf (psD ps) = ps.map stepD from rfl, sent_psD] at e2
    have D2 : DAt C H2 (.ref a) n st en := DAt.same (s1.trans s2) ⟨a, dx, p1, p2, rfl, ha, hp1, hp2⟩
    walk_at "rd"
    refine ⟨.ref a, .ref t2, n, st, en, ps.map Prod.fst, rfl, D2, g, ⟨t2, rfl, sqT_of e2⟩, by rw [List.length_map]; omega, fun x hx => ?_, fun H3 s3 => ?_⟩
    · obtain ⟨p, hp, rfl⟩ := List.mem_map.mp hx
      exact (hps p hp).1
    have ha3 := (s2.trans s3) _ _ ha1
    have hd3 := hd1.same (s2.trans s3)
    walk_at "rd"
    refine ⟨a, dx, _, rfl, ha3, rfl, ?_⟩
    walk_at "rd"
    refine ⟨pva, psD ps, 2, 1000, rfl, hd3, sd, by omega, by omega, ok, p5, fun t4 H4 s4 n4 e4 => ?_⟩
    rw [show partsOf (psD ps) = ps.map stepD from rfl, came_psD] at e4
    have D4 : DAt C H4 (.ref a) n st en := D2.same (s3.trans s4)
    walk_at "rd"
    refine ⟨.ref a, .ref t4, n, st, en, ps.map Prod.snd, rfl, D4, g, ⟨t4, rfl, sqT_of e4⟩, by rw [List.length_map]; omega, fun x hx => ?_, fun H5 s5 => ?_⟩
    · obtain ⟨p, hp, rfl⟩ := List.mem_map.mp hx
      exact (hps p hp).2
    have s05 := s1.trans ((s2.trans s3).trans (s4.trans s5))
    rcases e1 : writD st en (ps.map Prod.fst) with _ | u
    · rw [e1] at k
      walk_at "rd"
      exact k _ s05
    · have w1 := writD_ok g e1
      rw [List.length_map] at w1
      rcases e2 : writD st en (ps.map Prod.snd) with _ | u2
      · rw [e1, e2] at k
        walk_at "rd"
        exact k _ s05
      · have w2 := writD_ok g e2
        rw [List.length_map] at w2
        rw [e1, e2] at k
        walk_at "rd"
        refine ⟨u, u2, rfl, by omega, by omega, fun H6 s6 => ?_⟩
        exact k _ (s05.trans s6)
end
end Sw
namespace Sw
open PySem PySem.Spec PyProof.Rows L2
local macro_rules | `(tactic| walk_at "hp") => `(tactic| first
  | (with_reducible assumption) | (with_reducible exact upd_same)
  | ((with_reducible refine' upd_old ?q1 ?q2); (case q1 => (with_reducible assumption)); (case q2 => walk_at "hp"))
  | ((with_reducible refine' Same.at ?q1 ?q2); (case q1 => (with_reducible assumption)); (case q2 => walk_at "hp"))
  | ((with_reducible refine' upd_skip ?q1 ?q2); (case q1 => walk_at "ne"); (case q2 => walk_at "hp"))
  | fail)
local macro_rules | `(tactic| walk_at "ne") => `(tactic| first
  | (with_reducible assumption) | (with_reducible exact Ne.symm (by assumption))
  | ((with_reducible refine' ne_of_none ?q1 ?q2); (case q2 => (with_reducible assumption)); (case q1 => walk_at "hp"))
  | fail)
local macro_rules | `(tactic| walk_at "ci") => `(tactic| first | assumption | (show (0 : Int) < _; first | decide | (with_reducible omega)) | exact ⟨by decide, by decide⟩ | exact .inl ⟨by decide, by decide⟩ | exact .inr ⟨by decide, by decide⟩)
local macro_rules | `(tactic| walk_at "ln") => `(tactic| first | (with_reducible assumption) | (with_reducible omega) | (simp only [List.length_append, List.length_take, List.length_drop, List.length_reverse, List.length_cons, List.length_nil]; with_reducible omega))
local macro_rules | `(tactic| walk_at "rd1") => `(tactic| first
  | (with_reducible refine i_seq ?_) | (with_reducible refine i_asg ?_) | (with_reducible refine i_ret ?_) | (with_reducible refine i_name ?_) | ((with_reducible refine' i_var ?q1 ?_); (case q1 => exact rfl)) | (with_reducible refine i_c ?_) | (with_reducible refine i_op ?_) | (with_reducible refine i_un ?_)
  | (with_reducible refine i_rI0 ?_) | (with_reducible refine i_cb ?_) | (with_reducible refine i_cons ?_) | (with_reducible refine i_nil ?_) | (with_reducible refine i_call ?_) | (with_reducible refine i_if ?_) | (with_reducible refine i_ifE ?_) | (with_reducible refine i_test ?_) | (with_reducible refine i_bl ?_)
  | (with_reducible refine i_and ?_) | (with_reducible refine i_or ?_) | (with_reducible refine i_not ?_) | (with_reducible refine i_lstM ?_) | (with_reducible refine i_lstLM ?_) | (with_reducible refine i_tupM ?_) | (with_reducible refine i_next ?_) | (with_reducible refine i_drop ?_) | (with_reducible refine i_sub ?_)
  | (with_reducible refine i_bm ?_) | (with_reducible refine i_sl ?_) | (with_reducible refine i_part ?_) | (with_reducible refine i_nopart ?_) | (with_reducible refine i_exI ?_) | (with_reducible refine i_chain ?_) | ((with_reducible refine' i_aug ?q1 ?_); (case q1 => exact rfl)) | (with_reducible refine i_ip ?_)
  | (with_reducible refine i_par ?_) | (with_reducible refine i_pair ?_) | (with_reducible refine i_andV ?_) | (with_reducible refine i_orV ?_) | (with_reducible refine i_notV ?_) | (with_reducible refine i_m1 ?_) | (with_reducible refine i_str ?_)
  | (with_reducible refine iteF ?_) | (with_reducible refine iteT ?_) | (with_reducible refine iteNT ?_) | (with_reducible refine iteNF ?_) | (with_reducible refine i_tyS ?_) | (with_reducible refine i_tB ?_) | (with_reducible refine i_retN ?_) | (with_reducible refine i_par3 ?_) | (with_reducible refine i_trip ?_) | (with_reducible refine i_gCons ?_) | (with_reducible refine i_gNil ?_) | (with_reducible refine i_lstRg ?_) | (with_reducible refine i_rg1 ?_)
  | (with_reducible refine i_lc ?_) | (with_reducible refine i_for ?_) | (with_reducible refine i_iList ?_) | (with_reducible refine i_iTup ?_) | (with_reducible refine i_iStr ?_) | (with_reducible refine i_iRng1 ?_) | (with_reducible refine i_iEnS ?_)
  | ((with_reducible refine' i_ixTH ?q1 ?q2 ?_); (case q1 => walk_at "hp"); (case q2 => exact rfl))
  | ((with_reducible refine' i_ixLH ?q1 ?q2 ?_); (case q1 => walk_at "hp"); (case q2 => exact rfl))
  | ((with_reducible refine i_addS ?q1 ?_); (case q1 => walk_at "ln")) | ((with_reducible refine i_lenSS ?q1 ?_); (case q1 => walk_at "ln")) | ((with_reducible refine i_slFrom ?q1 ?q2 ?_); (case q1 => walk_at "ln"); (case q2 => walk_at "ln")) | ((with_reducible refine i_slTo ?q1 ?q2 ?_); (case q1 => walk_at "ln"); (case q2 => walk_at "ln"))
  | ((with_reducible refine' i_tyL ?q1 ?_); (case q1 => walk_at "hp"))
  | ((with_reducible refine' i_gTupH ?q1 ?q2 ?_); (case q1 => walk_at "hp"); (case q2 => exact rfl))
  | (with_reducible refine i_dnewM ?_) | (with_reducible refine i_init ?_) | (with_reducible refine i_fst ?_) | (with_reducible refine i_mk ?_) | (with_reducible refine i_mkF ?_) | (with_reducible refine i_raise ?_) | (with_reducible refine i_callS ?_) | (with_reducible refine i_kwS ?_)
  | (with_reducible refine i_revT ?_) | (with_reducible refine i_kw ?_) | ((with_reducible refine' ⟨_, _, rfl, sqT_of ?q1, ?_⟩); (case q1 => walk_at "hp"))
  | (with_reducible refine i_revS ?_) | ((with_reducible refine i_revSS ?q1 ?_); (case q1 => walk_at "ln"))
  | (with_reducible refine i_startS ?_) | (with_reducible refine i_inSg ?_) | (with_reducible refine i_absN ?_) | (with_reducible refine i_min2 ?_) | (with_reducible refine i_max2 ?_) | (with_reducible refine i_min3 ?_) | (with_reducible refine i_intN ?_) | (with_reducible refine i_intNB ?_)
  | ((with_reducible refine' i_lenL ?q1 ?_); (case q1 => walk_at "hp")) | ((with_reducible refine' i_lenT ?q1 ?_); (case q1 => walk_at "hp"))
  | (with_reducible refine i_eqI ?_) | (with_reducible refine i_neI ?_) | (with_reducible refine i_eqS ?_) | (with_reducible refine i_neS ?_) | (with_reducible refine i_isNoI ?_) | (with_reducible refine i_isNoN ?_) | (with_reducible refine i_isNoR ?_)
  | ((with_reducible refine i_pow ?q1 ?q2 ?q3 ?_); (case q1 => decide); (case q2 => decide); (case q3 => (with_reducible omega)))
  | ((with_reducible refine i_rI ?q1 ?_); (case q1 => walk_at "ci"))
  | (with_reducible refine Or.inl ⟨_, rfl, ?_⟩) | (with_reducible refine Or.inr ⟨_, rfl, ?_⟩) | (with_reducible refine ⟨_, rfl, ?_⟩) | (with_reducible refine ⟨_, _, rfl, ?_⟩) | (with_reducible refine ⟨_, _, rfl, rfl, ?_⟩)
  | ((with_reducible refine' ⟨_, _, rfl, Or.inl (sqL_of ?q1), ?_⟩); (case q1 => walk_at "hp")) | ((with_reducible refine' ⟨_, _, rfl, Or.inr (sqT_of ?q1), ?_⟩); (case q1 => walk_at "hp")) | (with_reducible refine i_dget ?_) | (with_reducible refine i_disp1T ?_) | (with_reducible refine i_dcT ?_) | (with_reducible refine i_dnewT ?_) | (with_reducible refine i_fld ?_) | (with_reducible refine i_sFld ?_) | (with_reducible refine i_make ?_) | (with_reducible refine i_meth ?_) | (with_reducible refine i_star ?_) | (with_reducible refine i_isNoS ?_) | (with_reducible refine i_lc2 ?_) | (with_reducible refine i_iEnT ?_) | (with_reducible refine i_iZipT ?_) | fail)
local macro_rules | `(tactic| walk_at "rd") => `(tactic| repeat' walk_at "rd1")

/-! ### plain decoders, as lists -/
/-- a list of ends -/
def ElAt (H : Hp) (v : V) (en : List (Option (List Nat))) : Prop := ∃ p, v = .ref p ∧ H p = some (.lst (en.map endV))
theorem ElAt.same {H H' : Hp} (s : Same H H') {v : V} {r : List (Option (List Nat))} (h : ElAt H v r) : ElAt H' v r := by
  obtain ⟨p, e, h1⟩ := h; exact ⟨p, e, s _ _ h1⟩
theorem ElAt.en {H : Hp} {v : V} {r : List (Option (List Nat))} (h : ElAt H v r) : EnAt H v r := by
  obtain ⟨p, e, h1⟩ := h; exact ⟨p, e, .inl h1⟩
def PlnAt (H : Hp) (v : V) (n : Nat) (st : List (List Ent)) (en : List (Option (List Nat))) : Prop := ∃ p sv ev, v = .ref p ∧ H p = some (.lst [iV n, sv, ev]) ∧ StAt H sv st ∧ ElAt H ev en
theorem PlnAt.same {H H' : Hp} (s : Same H H') {v : V} {n : Nat} {st : List (List Ent)} {en : List (Option (List Nat))} (h : PlnAt H v n st en) : PlnAt H' v n st en := by
  obtain ⟨p, sv, ev, e, h1, h2, h3⟩ := h; exact ⟨p, sv, ev, e, s _ _ h1, h2.same s, h3.same s⟩
/-- a drawn decoder: few states, few signs -/
def spDrawn (cost : Nat) : Sp := fun vs H Q _ => ∃ (b : Addr) (d : Int), vs = [.ref b] ∧ BoxAt H b d ∧ d + cost ≤ 1000000 ∧
  ∀ v n st en H', PlnAt (L2.del H' b) v n st en → Good n st en → n ≤ 4 → st.length ≤ 4 → BoxAt H' b (d + cost) → SB b H H' → Q v H'
/-- _law_free(box, many, states) -/
def spFreeB : Sp := fun vs H Q _ => ∃ (b : Addr) (n S0 : Nat) (d : Int), vs = [.ref b, iV n, iV S0] ∧ 1 ≤ n ∧ n ≤ 5 ∧ 1 ≤ S0 ∧ S0 ≤ 4 ∧ BoxAt H b d ∧ d + 100 ≤ 1000000 ∧
  ∀ v st en H', PlnAt (L2.del H' b) v n st en → Good n st en → st.length = S0 → BoxAt H' b (d + 100) → SB b H H' → Q v H'
theorem SB.set_new {b p : Addr} {H H1 : Hp} {o : HO} (s : SB b H H1) (n : H p = none) : SB b H (L2.upd H1 p o) := fun a u na ha => by
  by_cases e : a = p
  · rw [e, n] at ha; cases ha
  · rw [L2.upd_ne e]; exact s a u na ha
theorem newLn {xs : List V} {H : Hp} {b : Addr} {d : Int} {Q : VK} (B : BoxAt H b d) (l : xs.length ≤ sizeLine) (k : ∀ p H', H p = none → p ≠ b → BoxAt H' b d → Same (L2.del H b) (L2.del H' b) → L2.del H' b p = some (.lst xs) → Same H H' → Q (.ref p) H') : NewL xs H Q :=
  ⟨l, fun p n => k p _ n (box_ne B n) (B.same (same_upd n)) (del_sb (SB.of (same_upd n))) (del_new B n) (same_upd n)⟩
theorem del_upd {H : Hp} {b p : Addr} {o : HO} (ne : p ≠ b) : L2.del (L2.upd H p o) b = L2.upd (L2.del H b) p o := by
  funext a
  by_cases c : a = b
  · subst c; rw [L2.del_same, L2.upd_ne (Ne.symm ne), L2.del_same]
  · rw [L2.del_ne c]
    by_cases c2 : a = p
    · subst c2; rw [L2.upd_same, L2.upd_same]
    · rw [L2.upd_ne c2, L2.upd_ne c2, L2.del_ne c]
def entB (m : Nat) : Ent → Bool
  | none => true
  | some (q, w) => decide (q < m) && w.all (fun c => decide (97 ≤ c) && decide (c ≤ 122)) && decide (w.length ≤ 3)
def endB : Option (List Nat) → Bool
  | none => true
  | some w => w.all (fun c => decide (97 ≤ c) && decide (c ≤ 122)) && decide (w.length ≤ 3)
def goodB (n : Nat) (st : List (List Ent)) (en : List (Option (List Nat))) : Bool := decide (1 ≤ n) && decide (n ≤ 5) && decide (1 ≤ st.length) && decide (st.length ≤ 40) && st.all (fun r => decide (r.length = n) && r.all (entB st.length)) && decide (en.length = st.length) && en.all endB
theorem azW_all {w : List Nat} (h : w.all (fun c => decide (97 ≤ c) && decide (c ≤ 122)) = true) : azW w := fun c hc => by
  have := List.all_eq_true.mp h c hc
  simpa using this
theorem goodB_ok {n : Nat} {st : List (List Ent)} {en : List (Option (List Nat))} (h : goodB n st en = true) : Good n st en := by
  simp only [goodB, Bool.and_eq_true, decide_eq_true_eq, List.all_eq_true] at h
  obtain ⟨⟨⟨⟨⟨⟨h1, h2⟩, h3⟩, h4⟩, h5⟩, h6⟩, h7⟩ := h
  refine ⟨h1, h2, h3, h4, fun r hr => (h5 r hr).1, fun r hr e he => ?_, h6, fun e he => ?_⟩
  · have := (h5 r hr).2 e he
    rcases e with _ | ⟨q, w⟩
    · trivial
    · simp only [entB, Bool.and_eq_true, decide_eq_true_eq] at this
      exact ⟨this.1.1, azW_all this.1.2, this.2⟩
  · have := h7 e he
    rcases e with _ | w
    · trivial
    · simp only [endB, Bool.and_eq_true, decide_eq_true_eq] at this
      exact ⟨azW_all this.1, this.2⟩
section
variable {P : Program} {w : World} {K : PySem.W.Frag} {mg : Str → Option Value} {base : Heap} {f : Addr} {fd : FuncData}
theorem ok_free (F : Fun K "_law_free" "_law_free" s__law_free f fd) (z : Z mg) (c__law_take : Cal P w K mg base "_law_take" ["box", "many"] 1 spTake) : FnOk P w K mg base CX0 2 f fd ["box", "many", "states"] spFreeB := by
  refine F.ok sc__law_free (fun vs H Q E h => ?_) (fun cdv A outer s H vs Q E hr h => ?_)
  · obtain ⟨b, n, S0, d, rfl, _⟩ := h; rfl
  · obtain ⟨b, n, S0, d, rfl, n1, n3, S1, S5, B, hd, k⟩ := h
    refine ⟨_, (pss_cons (ps_set (i := 3) sc__law_free.nd rfl (.inl rfl) (pe_lst pa_nil))
      (pss_cons (ps_for PassesOwn.never rfl (pi_range1 (by rfl) z.range (pa_cons (pv 2) pa_nil)) (pg_name (i := 4) sc__law_free.nd rfl (.inl rfl))
        (pss_cons (ps_set (i := 5) sc__law_free.nd rfl (.inl rfl) (pe_lst pa_nil))
        (pss_cons (ps_for PassesOwn.never rfl (pi_range1 (by rfl) z.range (pa_cons (pv 1) pa_nil)) (pg_name (i := 6) sc__law_free.nd rfl (.inl rfl))
          (pss_cons (ps_set (i := 7) sc__law_free.nd rfl (.inl rfl) (pe_tup (pa_cons (pe_cal c__law_take hr (pa_cons (pv 0) (pa_cons (pv 2) pa_nil))) (pa_cons (pe_ix ix_list (pe_lst (pa_cons (pe_strS (l := []) (by decide +kernel)) (pa_cons (pe_strS (l := [97]) (by decide +kernel)) (pa_cons (pe_strS (l := [98]) (by decide +kernel)) (pa_cons (pe_strS (l := [97, 98]) (by decide +kernel)) (pa_cons (pe_strS (l := [99, 99]) (by decide +kernel)) (pa_cons (pe_strS (l := [120]) (by decide +kernel)) (pa_cons (pe_strS (l := [98, 97]) (by decide +kernel)) (pa_cons (pe_strS (l := [97, 98, 99]) (by decide +kernel)) pa_nil))))))))) (pe_cal c__law_take hr (pa_cons (pv 0) (pa_cons pe_int pa_nil))) (fun _ _ => rfl)) pa_nil))))
          (pss_one (ps_expr (pe_bm PySem.F.plainAttrs_list PySem.F.slot_list_append PySem.F.type_list_append mt_append (pv 5) (pa_cons (pe_ifExp (pt_cmpR op_eq (pe_cal c__law_take hr (pa_cons (pv 0) (pa_cons pe_int pa_nil))) pe_int (nomark _)) pe_non (pv 7)) pa_nil))))))
        (pss_one (ps_expr (pe_bm PySem.F.plainAttrs_list PySem.F.slot_list_append PySem.F.type_list_append mt_append (pv 3) (pa_cons (pv 5) pa_nil)))))))
      (pss_cons (ps_setLc (i := 8) (own := [("state", 4)]) (g := gName 4) (tt := tYes) rfl sc__law_free.nd rfl rfl (sw_true rfl rfl rfl (by decide +kernel)) (pi_range1 (by rfl) z.range (pa_cons (pv 2) pa_nil)) (blkOk_by (own := [("state", 4)]) (N := n__law_free) (sc := defScope s__law_free) (by decide +kernel)) (fun _ _ _ _ _ => (pg_name (i := 4) sc__law_free.nd rfl (.inl rfl))) (fun _ _ _ _ _ => pts_nil) (fun _ _ _ _ _ => (pe_ix (r := rIxL K) ix_list (pe_lst (pa_cons pe_non (pa_cons (pe_strS (l := []) (by decide +kernel)) (pa_cons (pe_strS (l := [121]) (by decide +kernel)) (pa_cons (pe_strS (l := [122, 122]) (by decide +kernel)) pa_nil))))) (pe_cal c__law_take hr (pa_cons (pv 0) (pa_cons pe_int pa_nil))) (fun _ _ => rfl))))
      (pss_one (ps_ret (pe_lst (pa_cons (pv 1) (pa_cons (pv 3) (pa_cons (pv 8) pa_nil))))))))), ?_⟩
    walk_at "rd"
    refine newLn B (Nat.le_of_ble_eq_true rfl) fun sp H1 fsp nsp B1 s1 e1 t1 => ?_
    walk_at "rd"
    refine i_rng (by omega) (by omega) ?_
    rw [Int.toNat_natCast]
    refine go_for walk_rangeZ (fun i σ Hx => ∃ (u4 u5 u6 u7 : Option V) (st : List (List Ent)) (ws : List V), σ = [some (.ref b), some (iV n), some (iV S0), some (.ref sp), u4, u5, u6, u7, none] ∧ SUp sp st ws (L2.del Hx b) ∧ st.length = i ∧ (∀ r ∈ st, r.length = n ∧ ∀ e ∈ r, entOk S0 e) ∧ BoxAt Hx b (d + 15 * i) ∧ SB b H Hx)
      ⟨none, none, none, none, [], [], rfl, ⟨e1, .nil⟩, rfl, nofun, B1.mono (by omega), SB.of t1⟩ (fun _ _ _ _ _ => trivial) (fun i v σ Hx Hy hi h y => ?_) (fun σ Hx h => ?_)
    · obtain ⟨u4, u5, u6, u7, st, ws, rfl, up, li, ok, Bx, sx⟩ := h
      obtain ⟨rfl, rfl⟩ := y
      walk_at "rd"
      refine newLn Bx (Nat.le_of_ble_eq_true rfl) fun rp H2 fr nrp B2 s2 e2 t2 => ?_
      have nrs : rp ≠ sp := Ne.symm (ne_of_none (del_sub _ _ up.e) fr)
      have frd : L2.del Hy b rp = none := by rw [L2.del_ne nrp]; exact fr
      walk_at "rd"
      refine i_rng (by omega) (by omega) ?_
      rw [Int.toNat_natCast]
      refine go_for walk_rangeZ (fun j σ Hz => ∃ (u6 u7 : Option V) (es : List Ent) (vs : List V), σ = [some (.ref b), some (iV n), some (iV S0), some (.ref sp), some (iV i), some (.ref rp), u6, u7, none] ∧ L2.del Hz b rp = some (.lst vs) ∧ Paired (EntAt (L2.del Hz b)) vs es ∧ es.length = j ∧ (∀ e ∈ es, entOk S0 e) ∧ Same (L2.del Hy b) (L2.del Hz b) ∧ BoxAt Hz b (d + 15 * i + 3 * j) ∧ SB b H Hz)
        ⟨u6, u7, [], [], rfl, e2, .nil, rfl, nofun, s2, B2.mono (by omega), sx.trans (SB.of t2)⟩ (fun _ _ _ _ _ => trivial) (fun j v σ Hz Hw hj h y => ?_) (fun σ Hz h => ?_)
      · obtain ⟨u6, u7, es, vs, rfl, er, pr, le, oke, sk, Bz, sz⟩ := h
        obtain ⟨rfl, rfl⟩ := y
        have lv : vs.length = es.length := Paired.length pr
        walk_at "rd"
        refine ⟨b, S0, _, rfl, Bz, by omega, by omega, by omega, fun r H3 r0 r1 B3 s3 => ?_⟩
        walk_at "rd"
        refine newL B3 (Nat.le_of_ble_eq_true rfl) fun p1 H3' B3' s3' e3' t3' => ?_
        have np1 : p1 ≠ b := fun c => by rw [c, L2.del_same] at e3'; cases e3'
        walk_at "rd"
        refine ⟨b, 8, _, rfl, B3', by omega, by omega, by omega, fun r8 H4 r80 r81 B4 s4a => ?_⟩
        obtain ⟨l, el, az, ll⟩ : ∃ l : List Nat, ([.str (S []), .str (S [97]), .str (S [98]), .str (S [97, 98]), .str (S [99, 99]), .str (S [120]), .str (S [98, 97]), .str (S [97, 98, 99])] : List V)[r8.toNat]? = some (.str (S l)) ∧ azW l ∧ l.length ≤ 3 := by
          have hr : r8 = 0 ∨ r8 = 1 ∨ r8 = 2 ∨ r8 = 3 ∨ r8 = 4 ∨ r8 = 5 ∨ r8 = 6 ∨ r8 = 7 := by omega
          rcases hr with rfl | rfl | rfl | rfl | rfl | rfl | rfl | rfl
          all_goals exact ⟨_, rfl, (by unfold azW; decide), by simp⟩
        refine i_ixLv (s4a _ _ np1 (del_sub _ _ e3')) r80 el ?_
        have s4 := (SB.of (b := b) t3').trans s4a
        walk_at "rd"
        refine newT B4 (Nat.le_of_ble_eq_true rfl) fun t H5 B5 s5 e5 t5 => ?_
        have er5 := del_sub _ _ (((del_sb s3).trans ((del_sb s4).trans s5)) _ _ er)
        walk_at "rd"
        refine ⟨b, 10, _, rfl, B5, by omega, by omega, by omega, fun x H6 x0 x1 B6 s6 => ?_⟩
        obtain ⟨r, rfl⟩ : ∃ m : Nat, r = m := ⟨r.toNat, by omega⟩
        have sd : Same (L2.del Hw b) (L2.del H6 b) := (del_sb s3).trans ((del_sb s4).trans (s5.trans (del_sb s6)))
        have sb6 : SB b H H6 := sz.trans (s3.trans (s4.trans ((SB.of t5).trans s6)))
        have er6 := sd _ _ er
        have pr6 := Paired.mapP pr fun _ _ z => EntAt.same sd z
        have et6 := (del_sb s6) _ _ e5
        have sk6 := sk.trans sd
        have push : ∀ (v : V) (e : Ent), EntAt (L2.del H6 b) v e → entOk S0 e → ∃ (u6' u7' : Option V) (es' : List Ent) (vs' : List V), [some (.ref b), some (iV n), some (iV S0), some (.ref sp), some (iV i), some (.ref rp), some (iV j), some (.ref t), none] = [some (.ref b), some (iV n), some (iV S0), some (.ref sp), some (iV i), some (.ref rp), u6', u7', none] ∧ L2.del (upd H6 rp (.lst (vs ++ [v]))) b rp = some (.lst vs') ∧ Paired (EntAt (L2.del (upd H6 rp (.lst (vs ++ [v]))) b)) vs' es' ∧ es'.length = j + 1 ∧ (∀ e ∈ es', entOk S0 e) ∧ Same (L2.del Hy b) (L2.del (upd H6 rp (.lst (vs ++ [v]))) b) ∧ BoxAt (upd H6 rp (.lst (vs ++ [v]))) b (d + 15 * i + 3 * ((j + 1 : Nat) : Int)) ∧ SB b H (upd H6 rp (.lst (vs ++ [v]))) := fun v e he ok => by
          rw [del_upd nrp]
          have hrp : H rp = none := by
            rcases q : H rp with _ | o
            · rfl
            · have := sx _ _ nrp q; rw [fr] at this; cases this
          refine ⟨_, _, es ++ [e], _, rfl, upd_same, Paired.snoc (Paired.mapP pr6 fun _ _ z => z.tk (TK.lst er6)) (he.tk (TK.lst er6)), by rw [List.length_append, le]; rfl, fun y hy => ?_, Same.set_new sk6 frd, (B6.upd_ne' nrp).mono (by omega), SB.set_new sb6 hrp⟩
          rcases List.mem_append.mp hy with hy | hy
          · exact oke y hy
          · rw [List.mem_singleton.mp hy]; exact ok
        walk_at "rd"
        refine iteB (fun c => ?_) (fun c => ?_)
        · walk_at "rd"
          refine i_append (del_sub _ _ er6) (sm100 (by omega)) ?_
          exact push .non none rfl trivial
        · walk_at "rd"
          refine i_append (del_sub _ _ er6) (sm100 (by omega)) ?_
          exact push (.ref t) (some (r, l)) ⟨t, rfl, et6⟩ ⟨by omega, az, ll⟩
      · obtain ⟨u6, u7, es, vs, rfl, er, pr, le, oke, sk, Bz, sz⟩ := h
        have up' := up.same sk
        have lw : ws.length = st.length := Paired.length up.pr
        have esp := del_sub _ _ up'.e
        walk_at "rd"
        refine i_append esp (sm100 (by omega)) ?_
        have hsp : H sp = none := fsp
        refine ⟨_, _, _, _, st ++ [es], _, rfl, by rw [del_upd nsp]; exact up'.push ⟨rp, vs, rfl, er, pr⟩ nrs, by rw [List.length_append, li]; rfl, fun r hr => ?_, (Bz.upd_ne' nsp).mono (by omega), SB.set_new sz hsp⟩
        rcases List.mem_append.mp hr with hr | hr
        · exact ok r hr
        · rw [List.mem_singleton.mp hr]; exact ⟨le, oke⟩
    · obtain ⟨u4, u5, u6, u7, st, ws, rfl, up, li, ok, Bx, sx⟩ := h
      walk_at "rd"
      refine i_rng (by omega) (by omega) ?_
      rw [Int.toNat_natCast]
      refine go_lc walk_rangeZ (fun p i Hy => ∃ en : List (Option (List Nat)), Hy p = some (.lst (en.map endV)) ∧ en.length = i ∧ (∀ e ∈ en, endOk e) ∧ BoxAt Hy b (d + 15 * S0 + 2 * i) ∧ SB b Hx Hy) (fun p np => ⟨[], upd_same, rfl, nofun, (Bx.same (same_upd np)).mono (by omega), SB.of (same_upd np)⟩) (fun _ _ _ _ _ => trivial) (fun p np i v Hy Hz hi h y => ?_) (fun ep Hy nep h => ?_)
      · obtain ⟨en, ep, le, oke, By, sy⟩ := h
        obtain ⟨rfl, rfl⟩ := y
        walk_at "rd"
        refine ⟨rfl, i_yes (iteT ?_)⟩
        walk_at "rd"
        refine newL By (Nat.le_of_ble_eq_true rfl) fun p3 H3 B3 s3 e3 t3 => ?_
        have np3 : p3 ≠ b := fun c => by rw [c, L2.del_same] at e3; cases e3
        walk_at "rd"
        refine ⟨b, 4, _, rfl, B3, by omega, by omega, by omega, fun x H4 x0 x1 B4 s4 => ?_⟩
        obtain ⟨e, ee, oe⟩ : ∃ e : Option (List Nat), ([.non, .str (S []), .str (S [121]), .str (S [122, 122])] : List V)[x.toNat]? = some (endV e) ∧ endOk e := by
          have hr : x = 0 ∨ x = 1 ∨ x = 2 ∨ x = 3 := by omega
          rcases hr with rfl | rfl | rfl | rfl
          · exact ⟨none, rfl, trivial⟩
          · exact ⟨some [], rfl, fun c hc => (by cases hc), by simp⟩
          · exact ⟨some [121], rfl, (by unfold azW; decide), by simp⟩
          · exact ⟨some [122, 122], rfl, (by unfold azW; decide), by simp⟩
        refine i_ixLv (s4 _ _ np3 (del_sub _ _ e3)) x0 ee ?_
        have st4 := (SB.of (b := b) t3).trans s4
        have npb := box_ne Bx np
        have ep4 := st4 _ _ npb ep
        refine ⟨_, ep4, sm100 (by rw [List.length_map]; omega), en ++ [e], by rw [upd_same, List.map_append]; rfl, by rw [List.length_append, le]; rfl, fun y hy => ?_, (B4.upd_ne' npb).mono (by omega), SB.set_new (sy.trans st4) np⟩
        rcases List.mem_append.mp hy with hy | hy
        · exact oke y hy
        · rw [List.mem_singleton.mp hy]; exact oe
      obtain ⟨en, eE, le, oke, By, sy⟩ := h
      have nepb := box_ne Bx nep
      walk_at "rd"
      refine newL By (Nat.le_of_ble_eq_true rfl) fun pp H1' B1' s1' e1' t1' => ?_
      have sxy := del_sb sy
      have eEd : L2.del Hy b ep = some (.lst (en.map endV)) := by rw [L2.del_ne nepb]; exact eE
      refine k _ st en _ ⟨pp, _, _, rfl, e1', ((up.same sxy).same s1').st, ⟨ep, rfl, s1' _ _ eEd⟩⟩ ⟨n1, by omega, by omega, by omega, fun r hr => (ok r hr).1, fun r hr => by rw [li]; exact (ok r hr).2, by omega, oke⟩ (by omega) (B1'.mono (by omega)) (sx.trans (sy.trans (SB.of t1')))
theorem ok_plain (F : Fun K "_law_plain" "_law_plain" s__law_plain f fd) (z : Z mg) (c__law_take : Cal P w K mg base "_law_take" ["box", "many"] 1 spTake) (c__law_free : Cal P w K mg base "_law_free" ["box", "many", "states"] 2 spFreeB) : FnOk P w K mg base CX0 3 f fd ["box"] (spDrawn 200) := by
  refine F.ok sc__law_plain (fun vs H Q E h => ?_) (fun cdv A outer s H vs Q E hr h => ?_)
  · obtain ⟨b, d, rfl, _⟩ := h; rfl
  · obtain ⟨b, d, rfl, B, hd, k⟩ := h
    refine ⟨_, (pss_cons (ps_set (i := 1) sc__law_plain.nd rfl (.inl rfl) (pe_cal c__law_take hr (pa_cons (pv 0) (pa_cons pe_int pa_nil))))
      (pss_cons (ps_if (pt_cmpR op_eq (pv 1) pe_int (nomark _))
        (pss_one (ps_ret (pe_lst (pa_cons pe_int (pa_cons (pe_lst (pa_cons (pe_lst (pa_cons (pe_tup (pa_cons pe_int (pa_cons (pe_strS (l := [97]) (by decide +kernel)) pa_nil))) (pa_cons (pe_tup (pa_cons pe_int (pa_cons (pe_strS (l := [98]) (by decide +kernel)) pa_nil))) (pa_cons (pe_tup (pa_cons pe_int (pa_cons (pe_strS (l := [99]) (by decide +kernel)) pa_nil))) pa_nil)))) pa_nil)) (pa_cons (pe_lst (pa_cons (pe_strS (l := [122]) (by decide +kernel)) pa_nil)) pa_nil))))))
        pss_nil)
      (pss_cons (ps_if (pt_cmpR op_eq (pv 1) pe_int (nomark _))
        (pss_one (ps_ret (pe_lst (pa_cons pe_int (pa_cons (pe_lst (pa_cons (pe_lst (pa_cons (pe_tup (pa_cons pe_int (pa_cons (pe_strS (l := [97]) (by decide +kernel)) pa_nil))) (pa_cons (pe_tup (pa_cons pe_int (pa_cons (pe_strS (l := []) (by decide +kernel)) pa_nil))) pa_nil))) (pa_cons (pe_lst (pa_cons (pe_tup (pa_cons pe_int (pa_cons (pe_strS (l := [98]) (by decide +kernel)) pa_nil))) (pa_cons (pe_tup (pa_cons pe_int (pa_cons (pe_strS (l := [99]) (by decide +kernel)) pa_nil))) pa_nil))) pa_nil))) (pa_cons (pe_lst (pa_cons (pe_strS (l := []) (by decide +kernel)) (pa_cons pe_non pa_nil))) pa_nil))))))
        pss_nil)
      (pss_cons (ps_if (pt_cmpR op_eq (pv 1) pe_int (nomark _))
        (pss_one (ps_ret (pe_lst (pa_cons pe_int (pa_cons (pe_lst (pa_cons (pe_lst (pa_cons (pe_tup (pa_cons pe_int (pa_cons (pe_strS (l := [120]) (by decide +kernel)) pa_nil))) (pa_cons (pe_tup (pa_cons pe_int (pa_cons (pe_strS (l := [121]) (by decide +kernel)) pa_nil))) pa_nil))) (pa_cons (pe_lst (pa_cons (pe_tup (pa_cons pe_int (pa_cons (pe_strS (l := []) (by decide +kernel)) pa_nil))) (pa_cons (pe_tup (pa_cons pe_int (pa_cons (pe_strS (l := [121]) (by decide +kernel)) pa_nil))) pa_nil))) pa_nil))) (pa_cons (pe_lst (pa_cons (pe_strS (l := []) (by decide +kernel)) (pa_cons (pe_strS (l := [122]) (by decide +kernel)) pa_nil))) pa_nil))))))
        pss_nil)
      (pss_cons (ps_if (pt_cmpR op_eq (pv 1) pe_int (nomark _))
        (pss_one (ps_ret (pe_lst (pa_cons pe_int (pa_cons (pe_lst (pa_cons (pe_lst (pa_cons (pe_tup (pa_cons pe_int (pa_cons (pe_strS (l := [97]) (by decide +kernel)) pa_nil))) (pa_cons (pe_tup (pa_cons pe_int (pa_cons (pe_strS (l := [98]) (by decide +kernel)) pa_nil))) (pa_cons pe_non (pa_cons (pe_tup (pa_cons pe_int (pa_cons (pe_strS (l := []) (by decide +kernel)) pa_nil))) pa_nil))))) (pa_cons (pe_lst (pa_cons (pe_tup (pa_cons pe_int (pa_cons (pe_strS (l := [97, 97]) (by decide +kernel)) pa_nil))) (pa_cons (pe_tup (pa_cons pe_int (pa_cons (pe_strS (l := [98, 98]) (by decide +kernel)) pa_nil))) (pa_cons (pe_tup (pa_cons pe_int (pa_cons (pe_strS (l := [99, 99]) (by decide +kernel)) pa_nil))) (pa_cons (pe_tup (pa_cons pe_int (pa_cons (pe_strS (l := [100, 100]) (by decide +kernel)) pa_nil))) pa_nil))))) pa_nil))) (pa_cons (pe_lst (pa_cons (pe_strS (l := [101]) (by decide +kernel)) (pa_cons pe_non pa_nil))) pa_nil))))))
        pss_nil)
      (pss_one (ps_ret (pe_cal c__law_free hr (pa_cons (pv 0) (pa_cons (pe_op op_add pe_int (pe_cal c__law_take hr (pa_cons (pv 0) (pa_cons pe_int pa_nil)))) (pa_cons (pe_op op_add pe_int (pe_cal c__law_take hr (pa_cons (pv 0) (pa_cons pe_int pa_nil)))) pa_nil))))))))))), ?_⟩
    walk_at "rd"
    refine ⟨b, 8, _, rfl, B, by omega, by omega, by omega, fun r Hw r0 r1 Bw sw => ?_⟩
    walk_at "rd"
    refine iteB (fun c0 => ?_) (fun c0 => ?_)
    · walk_at "rd"
      refine newT Bw (Nat.le_of_ble_eq_true rfl) fun t0 H1 B1 s1 e0 u1 => ?_
      walk_at "rd"
      refine newT B1 (Nat.le_of_ble_eq_true rfl) fun t1 H2 B2 s2 e1 u2 => ?_
      walk_at "rd"
      refine newT B2 (Nat.le_of_ble_eq_true rfl) fun t2 H3 B3 s3 e2 u3 => ?_
      walk_at "rd"
      refine newL B3 (Nat.le_of_ble_eq_true rfl) fun t3 H4 B4 s4 e3 u4 => ?_
      walk_at "rd"
      refine newL B4 (Nat.le_of_ble_eq_true rfl) fun t4 H5 B5 s5 e4 u5 => ?_
      walk_at "rd"
      refine newL B5 (Nat.le_of_ble_eq_true rfl) fun t5 H6 B6 s6 e5 u6 => ?_
      walk_at "rd"
      refine newL B6 (Nat.le_of_ble_eq_true rfl) fun t6 H7 B7 s7 e6 u7 => ?_
      have z7 : Same (L2.del H7 b) (L2.del H7 b) := Same.refl _
      have z6 := s7.trans z7
      have z5 := s6.trans z6
      have z4 := s5.trans z5
      have z3 := s4.trans z4
      have z2 := s3.trans z3
      have z1 := s2.trans z2
      refine k _ 3 [[some (0, [97]), some (0, [98]), some (0, [99])]] [some [122]] _ ⟨t6, _, _, rfl, (z7 _ _ e6), ⟨t4, _, rfl, (z5 _ _ e4), (.cons ⟨t3, _, rfl, (z4 _ _ e3), (.cons ⟨t0, rfl, (z1 _ _ e0)⟩ (.cons ⟨t1, rfl, (z2 _ _ e1)⟩ (.cons ⟨t2, rfl, (z3 _ _ e2)⟩ .nil)))⟩ .nil)⟩, ⟨t5, rfl, (z6 _ _ e5)⟩⟩ (goodB_ok (by decide)) (by decide) (by decide) (B7.mono (by omega)) (sw.trans (SB.of ((((((u1.trans u2).trans u3).trans u4).trans u5).trans u6).trans u7)))
    walk_at "rd"
    refine iteB (fun c1 => ?_) (fun c1 => ?_)
    · walk_at "rd"
      refine newT Bw (Nat.le_of_ble_eq_true rfl) fun t0 H1 B1 s1 e0 u1 => ?_
      walk_at "rd"
      refine newT B1 (Nat.le_of_ble_eq_true rfl) fun t1 H2 B2 s2 e1 u2 => ?_
      walk_at "rd"
      refine newL B2 (Nat.le_of_ble_eq_true rfl) fun t2 H3 B3 s3 e2 u3 => ?_
      walk_at "rd"
      refine newT B3 (Nat.le_of_ble_eq_true rfl) fun t3 H4 B4 s4 e3 u4 => ?_
      walk_at "rd"
      refine newT B4 (Nat.le_of_ble_eq_true rfl) fun t4 H5 B5 s5 e4 u5 => ?_
      walk_at "rd"
      refine newL B5 (Nat.le_of_ble_eq_true rfl) fun t5 H6 B6 s6 e5 u6 => ?_
      walk_at "rd"
      refine newL B6 (Nat.le_of_ble_eq_true rfl) fun t6 H7 B7 s7 e6 u7 => ?_
      walk_at "rd"
      refine newL B7 (Nat.le_of_ble_eq_true rfl) fun t7 H8 B8 s8 e7 u8 => ?_
      walk_at "rd"
      refine newL B8 (Nat.le_of_ble_eq_true rfl) fun t8 H9 B9 s9 e8 u9 => ?_
      have z9 : Same (L2.del H9 b) (L2.del H9 b) := Same.refl _
      have z8 := s9.trans z9
      have z7 := s8.trans z8
      have z6 := s7.trans z7
      have z5 := s6.trans z6
      have z4 := s5.trans z5
      have z3 := s4.trans z4
      have z2 := s3.trans z3
      have z1 := s2.trans z2
      refine k _ 2 [[some (0, [97]), some (1, [])], [some (0, [98]), some (0, [99])]] [some [], none] _ ⟨t8, _, _, rfl, (z9 _ _ e8), ⟨t6, _, rfl, (z7 _ _ e6), (.cons ⟨t2, _, rfl, (z3 _ _ e2), (.cons ⟨t0, rfl, (z1 _ _ e0)⟩ (.cons ⟨t1, rfl, (z2 _ _ e1)⟩ .nil))⟩ (.cons ⟨t5, _, rfl, (z6 _ _ e5), (.cons ⟨t3, rfl, (z4 _ _ e3)⟩ (.cons ⟨t4, rfl, (z5 _ _ e4)⟩ .nil))⟩ .nil))⟩, ⟨t7, rfl, (z8 _ _ e7)⟩⟩ (goodB_ok (by decide)) (by decide) (by decide) (B9.mono (by omega)) (sw.trans (SB.of ((((((((u1.trans u2).trans u3).trans u4).trans u5).trans u6).trans u7).trans u8).trans u9)))
    walk_at "rd"
    refine iteB (fun c2 => ?_) (fun c2 => ?_)
    · walk_at "rd"
      refine newT Bw (Nat.le_of_ble_eq_true rfl) fun t0 H1 B1 s1 e0 u1 => ?_
      walk_at "rd"
      refine newT B1 (Nat.le_of_ble_eq_true rfl) fun t1 H2 B2 s2 e1 u2 => ?_
      walk_at "rd"
      refine newL B2 (Nat.le_of_ble_eq_true rfl) fun t2 H3 B3 s3 e2 u3 => ?_
      walk_at "rd"
      refine newT B3 (Nat.le_of_ble_eq_true rfl) fun t3 H4 B4 s4 e3 u4 => ?_
      walk_at "rd"
      refine newT B4 (Nat.le_of_ble_eq_true rfl) fun t4 H5 B5 s5 e4 u5 => ?_
      walk_at "rd"
      refine newL B5 (Nat.le_of_ble_eq_true rfl) fun t5 H6 B6 s6 e5 u6 => ?_
      walk_at "rd"
      refine newL B6 (Nat.le_of_ble_eq_true rfl) fun t6 H7 B7 s7 e6 u7 => ?_
      walk_at "rd"
      refine newL B7 (Nat.le_of_ble_eq_true rfl) fun t7 H8 B8 s8 e7 u8 => ?_
      walk_at "rd"
      refine newL B8 (Nat.le_of_ble_eq_true rfl) fun t8 H9 B9 s9 e8 u9 => ?_
      have z9 : Same (L2.del H9 b) (L2.del H9 b) := Same.refl _
      have z8 := s9.trans z9
      have z7 := s8.trans z8
      have z6 := s7.trans z7
      have z5 := s6.trans z6
      have z4 := s5.trans z5
      have z3 := s4.trans z4
      have z2 := s3.trans z3
      have z1 := s2.trans z2
      refine k _ 2 [[some (1, [120]), some (0, [121])], [some (0, []), some (1, [121])]] [some [], some [122]] _ ⟨t8, _, _, rfl, (z9 _ _ e8), ⟨t6, _, rfl, (z7 _ _ e6), (.cons ⟨t2, _, rfl, (z3 _ _ e2), (.cons ⟨t0, rfl, (z1 _ _ e0)⟩ (.cons ⟨t1, rfl, (z2 _ _ e1)⟩ .nil))⟩ (.cons ⟨t5, _, rfl, (z6 _ _ e5), (.cons ⟨t3, rfl, (z4 _ _ e3)⟩ (.cons ⟨t4, rfl, (z5 _ _ e4)⟩ .nil))⟩ .nil))⟩, ⟨t7, rfl, (z8 _ _ e7)⟩⟩ (goodB_ok (by decide)) (by decide) (by decide) (B9.mono (by omega)) (sw.trans (SB.of ((((((((u1.trans u2).trans u3).trans u4).trans u5).trans u6).trans u7).trans u8).trans u9)))
    walk_at "rd"
    refine iteB (fun c3 => ?_) (fun c3 => ?_)
    · walk_at "rd"
      refine newT Bw (Nat.le_of_ble_eq_true rfl) fun t0 H1 B1 s1 e0 u1 => ?_
      walk_at "rd"
      refine newT B1 (Nat.le_of_ble_eq_true rfl) fun t1 H2 B2 s2 e1 u2 => ?_
      walk_at "rd"
      refine newT B2 (Nat.le_of_ble_eq_true rfl) fun t2 H3 B3 s3 e2 u3 => ?_
      walk_at "rd"
      refine newL B3 (Nat.le_of_ble_eq_true rfl) fun t3 H4 B4 s4 e3 u4 => ?_
      walk_at "rd"
      refine newT B4 (Nat.le_of_ble_eq_true rfl) fun t4 H5 B5 s5 e4 u5 => ?_
      walk_at "rd"
      refine newT B5 (Nat.le_of_ble_eq_true rfl) fun t5 H6 B6 s6 e5 u6 => ?_
      walk_at "rd"
      refine newT B6 (Nat.le_of_ble_eq_true rfl) fun t6 H7 B7 s7 e6 u7 => ?_
      walk_at "rd"
      refine newT B7 (Nat.le_of_ble_eq_true rfl) fun t7 H8 B8 s8 e7 u8 => ?_
      walk_at "rd"
      refine newL B8 (Nat.le_of_ble_eq_true rfl) fun t8 H9 B9 s9 e8 u9 => ?_
      walk_at "rd"
      refine newL B9 (Nat.le_of_ble_eq_true rfl) fun t9 H10 B10 s10 e9 u10 => ?_
      walk_at "rd"
      refine newL B10 (Nat.le_of_ble_eq_true rfl) fun t10 H11 B11 s11 e10 u11 => ?_
      walk_at "rd"
      refine newL B11 (Nat.le_of_ble_eq_true rfl) fun t11 H12 B12 s12 e11 u12 => ?_
      have z12 : Same (L2.del H12 b) (L2.del H12 b) := Same.refl _
      have z11 := s12.trans z12
      have z10 := s11.trans z11
      have z9 := s10.trans z10
      have z8 := s9.trans z9
      have z7 := s8.trans z8
      have z6 := s7.trans z7
      have z5 := s6.trans z6
      have z4 := s5.trans z5
      have z3 := s4.trans z4
      have z2 := s3.trans z3
      have z1 := s2.trans z2
      refine k _ 4 [[some (0, [97]), some (0, [98]), none, some (1, [])], [some (0, [97, 97]), some (0, [98, 98]), some (0, [99, 99]), some (0, [100, 100])]] [some [101], none] _ ⟨t11, _, _, rfl, (z12 _ _ e11), ⟨t9, _, rfl, (z10 _ _ e9), (.cons ⟨t3, _, rfl, (z4 _ _ e3), (.cons ⟨t0, rfl, (z1 _ _ e0)⟩ (.cons ⟨t1, rfl, (z2 _ _ e1)⟩ (.cons rfl (.cons ⟨t2, rfl, (z3 _ _ e2)⟩ .nil))))⟩ (.cons ⟨t8, _, rfl, (z9 _ _ e8), (.cons ⟨t4, rfl, (z5 _ _ e4)⟩ (.cons ⟨t5, rfl, (z6 _ _ e5)⟩ (.cons ⟨t6, rfl, (z7 _ _ e6)⟩ (.cons ⟨t7, rfl, (z8 _ _ e7)⟩ .nil))))⟩ .nil))⟩, ⟨t10, rfl, (z11 _ _ e10)⟩⟩ (goodB_ok (by decide)) (by decide) (by decide) (B12.mono (by omega)) (sw.trans (SB.of (((((((((((u1.trans u2).trans u3).trans u4).trans u5).trans u6).trans u7).trans u8).trans u9).trans u10).trans u11).trans u12)))
    walk_at "rd"
    refine ⟨b, 4, _, rfl, Bw, by omega, by omega, by omega, fun r2 H2 r20 r21 B2 s2 => ?_⟩
    walk_at "rd"
    refine ⟨b, 4, _, rfl, B2, by omega, by omega, by omega, fun r3 H3 r30 r31 B3 s3 => ?_⟩
    walk_at "rd"
    refine ⟨b, (1 + r2).toNat, (1 + r3).toNat, _, ?_, by omega, by omega, by omega, by omega, B3, by omega, fun v st en H' hv g l5 B' s' => ?_⟩
    · show [V.ref b, .int (1 + r2), .int (1 + r3)] = [V.ref b, .int ((1 + r2).toNat : Int), .int ((1 + r3).toNat : Int)]
      rw [Int.toNat_of_nonneg (by omega), Int.toNat_of_nonneg (by omega)]
    · exact k v _ st en H' hv g (by omega) (by omega) (B'.mono (by omega)) (sw.trans (s2.trans (s3.trans s')))
end
end Sw
namespace Sw
open PySem PySem.Spec PyProof.Rows L2
open Sw.Bf (Pl PEnt entP rowP addP bfs InB)
local macro_rules | `(tactic| walk_at "hp") => `(tactic| first
  | (with_reducible assumption) | (with_reducible exact upd_same)
  | ((with_reducible refine' upd_old ?q1 ?q2); (case q1 => (with_reducible assumption)); (case q2 => walk_at "hp"))
  | ((with_reducible refine' Same.at ?q1 ?q2); (case q1 => (with_reducible assumption)); (case q2 => walk_at "hp"))
  | ((with_reducible refine' upd_skip ?q1 ?q2); (case q1 => walk_at "ne"); (case q2 => walk_at "hp"))
  | fail)
local macro_rules | `(tactic| walk_at "ne") => `(tactic| first
  | (with_reducible assumption) | (with_reducible exact Ne.symm (by assumption))
  | ((with_reducible refine' ne_of_none ?q1 ?q2); (case q2 => (with_reducible assumption)); (case q1 => walk_at "hp"))
  | fail)
local macro_rules | `(tactic| walk_at "ci") => `(tactic| first | assumption | (show (0 : Int) < _; first | decide | (with_reducible omega)) | exact ⟨by decide, by decide⟩ | exact .inl ⟨by decide, by decide⟩ | exact .inr ⟨by decide, by decide⟩)
local macro_rules | `(tactic| walk_at "ln") => `(tactic| first | (with_reducible assumption) | (with_reducible omega) | (simp only [List.length_append, List.length_take, List.length_drop, List.length_reverse, List.length_cons, List.length_nil]; with_reducible omega))
local macro_rules | `(tactic| walk_at "rd1") => `(tactic| first
  | (with_reducible refine i_seq ?_) | (with_reducible refine i_asg ?_) | (with_reducible refine i_ret ?_) | (with_reducible refine i_name ?_) | ((with_reducible refine' i_var ?q1 ?_); (case q1 => exact rfl)) | (with_reducible refine i_c ?_) | (with_reducible refine i_op ?_) | (with_reducible refine i_un ?_)
  | (with_reducible refine i_rI0 ?_) | (with_reducible refine i_cb ?_) | (with_reducible refine i_cons ?_) | (with_reducible refine i_nil ?_) | (with_reducible refine i_call ?_) | (with_reducible refine i_if ?_) | (with_reducible refine i_ifE ?_) | (with_reducible refine i_test ?_) | (with_reducible refine i_bl ?_)
  | (with_reducible refine i_and ?_) | (with_reducible refine i_or ?_) | (with_reducible refine i_not ?_) | (with_reducible refine i_lstM ?_) | (with_reducible refine i_lstLM ?_) | (with_reducible refine i_tupM ?_) | (with_reducible refine i_next ?_) | (with_reducible refine i_drop ?_) | (with_reducible refine i_sub ?_)
  | (with_reducible refine i_bm ?_) | (with_reducible refine i_sl ?_) | (with_reducible refine i_part ?_) | (with_reducible refine i_nopart ?_) | (with_reducible refine i_exI ?_) | (with_reducible refine i_chain ?_) | ((with_reducible refine' i_aug ?q1 ?_); (case q1 => exact rfl)) | (with_reducible refine i_ip ?_)
  | (with_reducible refine i_par ?_) | (with_reducible refine i_pair ?_) | (with_reducible refine i_andV ?_) | (with_reducible refine i_orV ?_) | (with_reducible refine i_notV ?_) | (with_reducible refine i_m1 ?_) | (with_reducible refine i_str ?_)
  | (with_reducible refine iteF ?_) | (with_reducible refine iteT ?_) | (with_reducible refine iteNT ?_) | (with_reducible refine iteNF ?_) | (with_reducible refine i_tyS ?_) | (with_reducible refine i_tB ?_) | (with_reducible refine i_retN ?_) | (with_reducible refine i_par3 ?_) | (with_reducible refine i_trip ?_) | (with_reducible refine i_gCons ?_) | (with_reducible refine i_gNil ?_) | (with_reducible refine i_lstRg ?_) | (with_reducible refine i_rg1 ?_)
  | (with_reducible refine i_lc ?_) | (with_reducible refine i_for ?_) | (with_reducible refine i_iList ?_) | (with_reducible refine i_iTup ?_) | (with_reducible refine i_iStr ?_) | (with_reducible refine i_iRng1 ?_) | (with_reducible refine i_iEnS ?_)
  | ((with_reducible refine' i_ixTH ?q1 ?q2 ?_); (case q1 => walk_at "hp"); (case q2 => exact rfl))
  | ((with_reducible refine' i_ixLH ?q1 ?q2 ?_); (case q1 => walk_at "hp"); (case q2 => exact rfl))
  | ((with_reducible refine i_addS ?q1 ?_); (case q1 => walk_at "ln")) | ((with_reducible refine i_lenSS ?q1 ?_); (case q1 => walk_at "ln")) | ((with_reducible refine i_slFrom ?q1 ?q2 ?_); (case q1 => walk_at "ln"); (case q2 => walk_at "ln")) | ((with_reducible refine i_slTo ?q1 ?q2 ?_); (case q1 => walk_at "ln"); (case q2 => walk_at "ln"))
  | ((with_reducible refine' i_tyL ?q1 ?_); (case q1 => walk_at "hp"))
  | ((with_reducible refine' i_gTupH ?q1 ?q2 ?_); (case q1 => walk_at "hp"); (case q2 => exact rfl))
  | (with_reducible refine i_dnewM ?_) | (with_reducible refine i_init ?_) | (with_reducible refine i_fst ?_) | (with_reducible refine i_mk ?_) | (with_reducible refine i_mkF ?_) | (with_reducible refine i_raise ?_) | (with_reducible refine i_callS ?_) | (with_reducible refine i_kwS ?_)
  | (with_reducible refine i_revT ?_) | (with_reducible refine i_kw ?_) | ((with_reducible refine' ⟨_, _, rfl, sqT_of ?q1, ?_⟩); (case q1 => walk_at "hp"))
  | (with_reducible refine i_revS ?_) | ((with_reducible refine i_revSS ?q1 ?_); (case q1 => walk_at "ln"))
  | (with_reducible refine i_startS ?_) | (with_reducible refine i_inSg ?_) | (with_reducible refine i_absN ?_) | (with_reducible refine i_min2 ?_) | (with_reducible refine i_max2 ?_) | (with_reducible refine i_min3 ?_) | (with_reducible refine i_intN ?_) | (with_reducible refine i_intNB ?_)
  | ((with_reducible refine' i_lenL ?q1 ?_); (case q1 => walk_at "hp")) | ((with_reducible refine' i_lenT ?q1 ?_); (case q1 => walk_at "hp"))
  | (with_reducible refine i_eqI ?_) | (with_reducible refine i_neI ?_) | (with_reducible refine i_eqS ?_) | (with_reducible refine i_neS ?_) | (with_reducible refine i_isNoI ?_) | (with_reducible refine i_isNoN ?_) | (with_reducible refine i_isNoR ?_)
  | ((with_reducible refine i_pow ?q1 ?q2 ?q3 ?_); (case q1 => decide); (case q2 => decide); (case q3 => (with_reducible omega)))
  | ((with_reducible refine i_rI ?q1 ?_); (case q1 => walk_at "ci"))
  | (with_reducible refine Or.inl ⟨_, rfl, ?_⟩) | (with_reducible refine Or.inr ⟨_, rfl, ?_⟩) | (with_reducible refine ⟨_, rfl, ?_⟩) | (with_reducible refine ⟨_, _, rfl, ?_⟩) | (with_reducible refine ⟨_, _, rfl, rfl, ?_⟩)
  | ((with_reducible refine' ⟨_, _, rfl, Or.inl (sqL_of ?q1), ?_⟩); (case q1 => walk_at "hp")) | ((with_reducible refine' ⟨_, _, rfl, Or.inr (sqT_of ?q1), ?_⟩); (case q1 => walk_at "hp")) | (with_reducible refine i_dget ?_) | (with_reducible refine i_disp1T ?_) | (with_reducible refine i_dcT ?_) | (with_reducible refine i_dnewT ?_) | (with_reducible refine i_fld ?_) | (with_reducible refine i_sFld ?_) | (with_reducible refine i_make ?_) | (with_reducible refine i_meth ?_) | (with_reducible refine i_star ?_) | (with_reducible refine i_isNoS ?_) | (with_reducible refine i_lc2 ?_) | (with_reducible refine i_iEnT ?_) | (with_reducible refine i_iZipT ?_) | fail)
local macro_rules | `(tactic| walk_at "rd") => `(tactic| repeat' walk_at "rd1")

theorem room65 {k : Nat} {A : Around} (r : Room k A) : A.units + 65 < cLine := by have := r.un; omega
def plD (g : Pl) : PyData := .tuple [.int (g.1 : Int), .int (g.2.1 : Int), .int (g.2.2 : Int)]
theorem PlAt.dp {K : PySem.W.Frag} {H : Hp} {v : V} {g : Pl} (h : PlAt H v g) : Dp K H v (plD g) := by
  obtain ⟨t, rfl, e⟩ := h
  exact (De.tup (sqT_of e) (.cons (.int _) (.cons (.int _) (.cons (.int _) .nil)))).dp (by simp [PyData.hasDict, PyData.hasDictAll])
theorem pls_dp {K : PySem.W.Frag} {H : Hp} {vs : List V} {ps : List Pl} (h : Paired (PlAt H) vs ps) : DpAll K H vs (ps.map plD) := by
  induction h with
  | nil => exact .nil
  | cons h _ ih => exact .cons h.dp ih
theorem eqv_pl (a b : Pl) : PyData.eqv (plD a) (plD b) = decide (a = b) := by
  obtain ⟨a1, a2, a3⟩ := a
  obtain ⟨b1, b2, b3⟩ := b
  simp only [plD, PyData.eqv, PyData.eqvAll, Bool.and_true]
  rw [Bool.eq_iff_iff]
  simp only [Bool.and_eq_true, beq_iff_eq, decide_eq_true_eq, Prod.mk.injEq]
  omega
theorem any_pl (ps : List Pl) (g : Pl) : ((ps.map plD).any fun z => PyData.eqv z (plD g)) = decide (g ∈ ps) := by
  rw [Bool.eq_iff_iff]
  simp only [List.any_map, List.any_eq_true, Function.comp, eqv_pl, decide_eq_true_eq]
  exact ⟨fun ⟨x, hx, e⟩ => e ▸ hx, fun h => ⟨g, h, rfl⟩⟩
def SmP (p : Pl) : Prop := p.1 < 100 ∧ p.2.1 < 100 ∧ p.2.2 < 100
theorem plD_sd {g : Pl} (h : SmP g) : Sd 1 40 (plD g) := by
  obtain ⟨h1, h2, h3⟩ := h
  exact (sd_tup' (.cons (sd_int9 (by omega)) (.cons (sd_int9 (by omega)) (.cons (sd_int9 (by omega)) .nil)))).mono (by omega) (by omega)
theorem plD_sh {g : Pl} (h : SmP g) : SeqAt.shaped (plD g) = true := (plD_sd h).shaped (by omega) (by simp [plD, PyData.hasDict, PyData.hasDictAll])
theorem pls_sh {ps : List Pl} (h : ∀ p ∈ ps, SmP p) : SeqAt.shaped (.list (ps.map plD)) = true := by
  have := sd_lst (n := 1) (w := 40) (ds := ps.map plD) fun d hd => by
    obtain ⟨p, hp, rfl⟩ := List.mem_map.mp hd
    exact plD_sd (h p hp)
  refine this.shaped (by omega) ?_
  rw [PyData.hasDict]
  induction ps with
  | nil => simp [PyData.hasDictAll]
  | cons p ps ih => simp only [List.map_cons, PyData.hasDictAll]; rw [ih (fun q hq => h q (List.mem_cons_of_mem _ hq)) (sd_lst (n := 1) (w := 40) fun d hd => by
      obtain ⟨p, hp, rfl⟩ := List.mem_map.mp hd
      exact plD_sd (h p (List.mem_cons_of_mem _ hp)))]; simp [plD, PyData.hasDict, PyData.hasDictAll]
theorem i_notInP {K : PySem.W.Frag} {H : Hp} {u fp : Addr} {vs : List V} {ps : List Pl} {g : Pl} {Q : VK} (e : H fp = some (.lst vs)) (pr : Paired (PlAt H) vs ps) (hg : PlAt H (.ref u) g) (sm : ∀ p ∈ ps, SmP p) (sg : SmP g) (k : Q (.bl (!decide (g ∈ ps))) H) : rNotInD K (.ref u) (.ref fp) H Q :=
  ⟨plD g, ps.map plD, hg.dp, .lst (.inl (.inl e)) (pls_dp pr), plD_sh sg, pls_sh sm, by rw [any_pl]; exact k⟩
theorem i_idxP {K : PySem.W.Frag} {H : Hp} {u fp : Addr} {vs : List V} {ps : List Pl} {g : Pl} {Q : VK} (e : H fp = some (.lst vs)) (pr : Paired (PlAt H) vs ps) (hg : PlAt H (.ref u) g) (sm : ∀ p ∈ ps, SmP p) (sg : SmP g) (m : g ∈ ps) (k : Q (iV (ps.idxOf g)) H) : rIndexD K (.ref fp) [.ref u] H Q := by
  refine ⟨fp, .ref u, plD g, ps.map plD, ps.idxOf g, plD g, rfl, rfl, .lst (.inl (.inl e)) (pls_dp pr), hg.dp, pls_sh sm, plD_sh sg, ?_, by rw [eqv_pl]; simp, fun m' z' hm hz => ?_, k⟩
  · rw [List.getElem?_map, get_idx m]; rfl
  · rw [List.getElem?_map] at hz
    obtain ⟨p, hp, rfl⟩ := Option.map_eq_some_iff.mp hz
    rw [eqv_pl, decide_eq_false_iff_not]
    rintro rfl
    have h1 := (List.getElem?_eq_some_iff.mp hp)
    obtain ⟨h2, h3⟩ := h1
    have h4 := List.not_of_lt_findIdx (xs := ps) (p := (· == p)) hm
    rw [h3] at h4
    simp at h4
/-- found places, rows with numbers: two lists that grow -/
structure B2 (H : Hp) (fp rp : Addr) (ps : List Pl) (st : List (List Ent)) : Prop where
  hp : ∃ vs, H fp = some (.lst vs) ∧ Paired (PlAt H) vs ps
  hr : ∃ ws, H rp = some (.lst ws) ∧ Paired (fun v r => RowAt H v r ∧ ∀ a, v = .ref a → a ≠ fp ∧ a ≠ rp) ws st
theorem B2.same {H H' : Hp} {fp rp : Addr} {ps : List Pl} {st : List (List Ent)} (h : B2 H fp rp ps st) (s : Same H H') : B2 H' fp rp ps st := by
  obtain ⟨⟨v1, h1, p1⟩, ⟨v2, h4, p2⟩⟩ := h
  exact ⟨⟨v1, s _ _ h1, Paired.mapP p1 fun _ _ z => z.same s⟩, ⟨v2, s _ _ h4, Paired.mapP p2 fun _ _ z => ⟨z.1.same s, z.2⟩⟩⟩
theorem RowAt.kp {H H' : Hp} {r : List Ent} {v : V} (h : RowAt H v r) (s : ∀ a o, v = .ref a → H a = some o → H' a = some o) (t : TK H H') : RowAt H' v r := by
  obtain ⟨q, vs, rfl, e, pr⟩ := h
  exact ⟨q, vs, rfl, s _ _ rfl e, Paired.mapP pr fun _ _ z => z.tk t⟩
theorem B2.push {H : Hp} {fp rp u : Addr} {ps : List Pl} {st : List (List Ent)} {vs : List V} {g : Pl} (h : B2 H fp rp ps st) (ne : fp ≠ rp) (e : H fp = some (.lst vs)) (hg : PlAt H (.ref u) g) : B2 (L2.upd H fp (.lst (vs ++ [.ref u]))) fp rp (ps ++ [g]) st := by
  obtain ⟨⟨v1, h1, p1⟩, ⟨v2, h4, p2⟩⟩ := h
  cases e.symm.trans h1
  have tk := TK.lst (ys := vs ++ [.ref u]) e
  exact ⟨⟨_, L2.upd_same, Paired.snoc (Paired.mapP p1 fun _ _ z => z.tk tk) (hg.tk tk)⟩, ⟨v2, by rw [L2.upd_ne (Ne.symm ne)]; exact h4, Paired.mapP p2 fun _ _ z => ⟨z.1.kp (fun a o ea eo => by rw [L2.upd_ne (z.2 a ea).1]; exact eo) tk, z.2⟩⟩⟩
theorem B2.row {H : Hp} {fp rp q : Addr} {ps : List Pl} {st : List (List Ent)} {ws : List V} {r : List Ent} (h : B2 H fp rp ps st) (ne : fp ≠ rp) (e : H rp = some (.lst ws)) (hr : RowAt H (.ref q) r) (nq : q ≠ fp ∧ q ≠ rp) : B2 (L2.upd H rp (.lst (ws ++ [.ref q]))) fp rp ps (st ++ [r]) := by
  obtain ⟨⟨v1, h1, p1⟩, ⟨v2, h4, p2⟩⟩ := h
  cases e.symm.trans h4
  have tk := TK.lst (ys := ws ++ [.ref q]) e
  exact ⟨⟨v1, by rw [L2.upd_ne ne]; exact h1, Paired.mapP p1 fun _ _ z => z.tk tk⟩, ⟨_, L2.upd_same, Paired.snoc (Paired.mapP p2 fun _ _ z => ⟨z.1.kp (fun a o ea eo => by rw [L2.upd_ne (z.2 a ea).2]; exact eo) tk, z.2⟩)
    ⟨hr.kp (fun a o ea eo => by cases ea; rw [L2.upd_ne nq.2]; exact eo) tk, fun a ea => by cases ea; exact nq⟩⟩⟩
/-- another list changes -/
theorem B2.other {H : Hp} {fp rp q : Addr} {ps : List Pl} {st : List (List Ent)} {xs ys : List V} (h : B2 H fp rp ps st) (n1 : q ≠ fp) (n2 : q ≠ rp) (e : H q = some (.lst xs)) (nr : ∀ ws, H rp = some (.lst ws) → V.ref q ∉ ws) : B2 (L2.upd H q (.lst ys)) fp rp ps st := by
  obtain ⟨⟨v1, h1, p1⟩, ⟨v2, h4, p2⟩⟩ := h
  have tk := TK.lst (ys := ys) e
  have nr := nr _ h4
  refine ⟨⟨v1, by rw [L2.upd_ne (Ne.symm n1)]; exact h1, Paired.mapP p1 fun _ _ z => z.tk tk⟩, ⟨v2, by rw [L2.upd_ne (Ne.symm n2)]; exact h4, ?_⟩⟩
  clear h4
  induction p2 with
  | nil => exact .nil
  | @cons v r vs rs hd _ ih =>
    refine .cons ⟨hd.1.kp (fun a o ea eo => ?_) tk, hd.2⟩ (ih fun hm => nr (List.mem_cons_of_mem _ hm))
    rw [L2.upd_ne fun c => nr (by rw [ea, c]; exact List.mem_cons_self)]; exact eo
end Sw
namespace Sw
open PySem PySem.Spec PyProof.Rows L2
open Sw.Bf (Pl PEnt entP rowP addP bfs InB)
local macro_rules | `(tactic| walk_at "hp") => `(tactic| first
  | (with_reducible assumption) | (with_reducible exact upd_same)
  | ((with_reducible refine' upd_old ?q1 ?q2); (case q1 => (with_reducible assumption)); (case q2 => walk_at "hp"))
  | ((with_reducible refine' Same.at ?q1 ?q2); (case q1 => (with_reducible assumption)); (case q2 => walk_at "hp"))
  | ((with_reducible refine' upd_skip ?q1 ?q2); (case q1 => walk_at "ne"); (case q2 => walk_at "hp"))
  | fail)
local macro_rules | `(tactic| walk_at "ne") => `(tactic| first
  | (with_reducible assumption) | (with_reducible exact Ne.symm (by assumption))
  | ((with_reducible refine' ne_of_none ?q1 ?q2); (case q2 => (with_reducible assumption)); (case q1 => walk_at "hp"))
  | fail)
local macro_rules | `(tactic| walk_at "ci") => `(tactic| first | assumption | (show (0 : Int) < _; first | decide | (with_reducible omega)) | exact ⟨by decide, by decide⟩ | exact .inl ⟨by decide, by decide⟩ | exact .inr ⟨by decide, by decide⟩)
local macro_rules | `(tactic| walk_at "ln") => `(tactic| first | (with_reducible assumption) | (with_reducible omega) | (simp only [List.length_append, List.length_take, List.length_drop, List.length_reverse, List.length_cons, List.length_nil]; with_reducible omega))
local macro_rules | `(tactic| walk_at "rd1") => `(tactic| first
  | (with_reducible refine i_seq ?_) | (with_reducible refine i_asg ?_) | (with_reducible refine i_ret ?_) | (with_reducible refine i_name ?_) | ((with_reducible refine' i_var ?q1 ?_); (case q1 => exact rfl)) | (with_reducible refine i_c ?_) | (with_reducible refine i_op ?_) | (with_reducible refine i_un ?_)
  | (with_reducible refine i_rI0 ?_) | (with_reducible refine i_cb ?_) | (with_reducible refine i_cons ?_) | (with_reducible refine i_nil ?_) | (with_reducible refine i_call ?_) | (with_reducible refine i_if ?_) | (with_reducible refine i_ifE ?_) | (with_reducible refine i_test ?_) | (with_reducible refine i_bl ?_)
  | (with_reducible refine i_and ?_) | (with_reducible refine i_or ?_) | (with_reducible refine i_not ?_) | (with_reducible refine i_lstM ?_) | (with_reducible refine i_lstLM ?_) | (with_reducible refine i_tupM ?_) | (with_reducible refine i_next ?_) | (with_reducible refine i_drop ?_) | (with_reducible refine i_sub ?_)
  | (with_reducible refine i_bm ?_) | (with_reducible refine i_sl ?_) | (with_reducible refine i_part ?_) | (with_reducible refine i_nopart ?_) | (with_reducible refine i_exI ?_) | (with_reducible refine i_chain ?_) | ((with_reducible refine' i_aug ?q1 ?_); (case q1 => exact rfl)) | (with_reducible refine i_ip ?_)
  | (with_reducible refine i_par ?_) | (with_reducible refine i_pair ?_) | (with_reducible refine i_andV ?_) | (with_reducible refine i_orV ?_) | (with_reducible refine i_notV ?_) | (with_reducible refine i_m1 ?_) | (with_reducible refine i_str ?_)
  | (with_reducible refine iteF ?_) | (with_reducible refine iteT ?_) | (with_reducible refine iteNT ?_) | (with_reducible refine iteNF ?_) | (with_reducible refine i_tyS ?_) | (with_reducible refine i_tB ?_) | (with_reducible refine i_retN ?_) | (with_reducible refine i_par3 ?_) | (with_reducible refine i_trip ?_) | (with_reducible refine i_gCons ?_) | (with_reducible refine i_gNil ?_) | (with_reducible refine i_lstRg ?_) | (with_reducible refine i_rg1 ?_)
  | (with_reducible refine i_lc ?_) | (with_reducible refine i_for ?_) | (with_reducible refine i_iList ?_) | (with_reducible refine i_iTup ?_) | (with_reducible refine i_iStr ?_) | (with_reducible refine i_iRng1 ?_) | (with_reducible refine i_iEnS ?_)
  | ((with_reducible refine' i_ixTH ?q1 ?q2 ?_); (case q1 => walk_at "hp"); (case q2 => exact rfl))
  | ((with_reducible refine' i_ixLH ?q1 ?q2 ?_); (case q1 => walk_at "hp"); (case q2 => exact rfl))
  | ((with_reducible refine i_addS ?q1 ?_); (case q1 => walk_at "ln")) | ((with_reducible refine i_lenSS ?q1 ?_); (case q1 => walk_at "ln")) | ((with_reducible refine i_slFrom ?q1 ?q2 ?_); (case q1 => walk_at "ln"); (case q2 => walk_at "ln")) | ((with_reducible refine i_slTo ?q1 ?q2 ?_); (case q1 => walk_at "ln"); (case q2 => walk_at "ln"))
  | ((with_reducible refine' i_tyL ?q1 ?_); (case q1 => walk_at "hp"))
  | ((with_reducible refine' i_gTupH ?q1 ?q2 ?_); (case q1 => walk_at "hp"); (case q2 => exact rfl))
  | (with_reducible refine i_dnewM ?_) | (with_reducible refine i_init ?_) | (with_reducible refine i_fst ?_) | (with_reducible refine i_mk ?_) | (with_reducible refine i_mkF ?_) | (with_reducible refine i_raise ?_) | (with_reducible refine i_callS ?_) | (with_reducible refine i_kwS ?_)
  | (with_reducible refine i_revT ?_) | (with_reducible refine i_kw ?_) | ((with_reducible refine' ⟨_, _, rfl, sqT_of ?q1, ?_⟩); (case q1 => walk_at "hp"))
  | (with_reducible refine i_revS ?_) | ((with_reducible refine i_revSS ?q1 ?_); (case q1 => walk_at "ln"))
  | (with_reducible refine i_startS ?_) | (with_reducible refine i_inSg ?_) | (with_reducible refine i_absN ?_) | (with_reducible refine i_min2 ?_) | (with_reducible refine i_max2 ?_) | (with_reducible refine i_min3 ?_) | (with_reducible refine i_intN ?_) | (with_reducible refine i_intNB ?_)
  | ((with_reducible refine' i_lenL ?q1 ?_); (case q1 => walk_at "hp")) | ((with_reducible refine' i_lenT ?q1 ?_); (case q1 => walk_at "hp"))
  | (with_reducible refine i_eqI ?_) | (with_reducible refine i_neI ?_) | (with_reducible refine i_eqS ?_) | (with_reducible refine i_neS ?_) | (with_reducible refine i_isNoI ?_) | (with_reducible refine i_isNoN ?_) | (with_reducible refine i_isNoR ?_)
  | ((with_reducible refine i_pow ?q1 ?q2 ?q3 ?_); (case q1 => decide); (case q2 => decide); (case q3 => (with_reducible omega)))
  | ((with_reducible refine i_rI ?q1 ?_); (case q1 => walk_at "ci"))
  | (with_reducible refine Or.inl ⟨_, rfl, ?_⟩) | (with_reducible refine Or.inr ⟨_, rfl, ?_⟩) | (with_reducible refine ⟨_, rfl, ?_⟩) | (with_reducible refine ⟨_, _, rfl, ?_⟩) | (with_reducible refine ⟨_, _, rfl, rfl, ?_⟩)
  | ((with_reducible refine' ⟨_, _, rfl, Or.inl (sqL_of ?q1), ?_⟩); (case q1 => walk_at "hp")) | ((with_reducible refine' ⟨_, _, rfl, Or.inr (sqT_of ?q1), ?_⟩); (case q1 => walk_at "hp")) | (with_reducible refine i_dget ?_) | (with_reducible refine i_disp1T ?_) | (with_reducible refine i_dcT ?_) | (with_reducible refine i_dnewT ?_) | (with_reducible refine i_fld ?_) | (with_reducible refine i_sFld ?_) | (with_reducible refine i_make ?_) | (with_reducible refine i_meth ?_) | (with_reducible refine i_star ?_) | (with_reducible refine i_isNoS ?_) | (with_reducible refine i_lc2 ?_) | (with_reducible refine i_iEnT ?_) | (with_reducible refine i_iZipT ?_) | fail)
local macro_rules | `(tactic| walk_at "rd") => `(tactic| repeat' walk_at "rd1")

theorem val_ifH {c : Bool} {t u : TE} {σ : L2.St} {H : Hp} {Q : VK} (P : V → Hp → Prop) (h1 : ∀ Q' : VK, (∀ v H', P v H' → Q' v H') → if c = true then t σ H Q' else u σ H Q') (h2 : ∀ v H', P v H' → Q v H') : if c = true then t σ H Q else u σ H Q := h1 Q h2
abbrev nE (st : List (List Ent)) (n m : Nat) : PEnt → Ent := Option.map fun e => ((finP st n m).idxOf e.1, e.2)
/-- the entry and the goal -/
def EGAt (H : Hp) (ev gv : V) : PEnt → Prop
  | none => ev = .non
  | some (g, w) => ∃ te x u, ev = .ref te ∧ H te = some (.tup [x, .str (S w)]) ∧ gv = .ref u ∧ PlAt H (.ref u) g
theorem EGAt.tk {H H' : Hp} {ev gv : V} {e : PEnt} (h : EGAt H ev gv e) (t : TK H H') : EGAt H' ev gv e := by
  rcases e with _ | ⟨g, w⟩
  · exact h
  · obtain ⟨te, x, u, e1, h1, e2, h2⟩ := h; exact ⟨te, x, u, e1, t _ _ h1, e2, h2.tk t⟩
theorem idx_pre {l ps zs : List Pl} (h : l = ps ++ zs) {g : Pl} (m : g ∈ ps) : l.idxOf g = ps.idxOf g := by rw [h, List.idxOf_append, if_pos m]
theorem B2.notin {H : Hp} {fp rp q : Addr} {ps : List Pl} {st : List (List Ent)} {ws : List V} (h : B2 H fp rp ps st) (e : H rp = some (.lst ws)) (n : H q = none) : V.ref q ∉ ws := by
  obtain ⟨_, ⟨v2, h4, p2⟩⟩ := h
  cases e.symm.trans h4
  clear h4 e
  induction p2 with
  | nil => intro c; cases c
  | @cons v r vs rs hd _ ih =>
    intro hm
    rcases List.mem_cons.mp hm with c | hm
    · obtain ⟨⟨a, us, ea, e1, _⟩, _⟩ := hd
      rw [← c] at ea
      cases ea
      rw [n] at e1; cases e1
    · exact ih hm
/-- _law_blocks(plain, many) -/
def spBlk : Sp := fun vs H Q _ => ∃ (v : V) (n m : Nat) (st : List (List Ent)) (en : List (Option (List Nat))), vs = [v, iV m] ∧ PlnAt H v n st en ∧ Good n st en ∧ Few st n m ∧ 1 ≤ m ∧ m ≤ 4 ∧
  ∀ v' H', Same H H' → PlnAt H' v' n (stC st n m) (enC st en n m) → Q v' H'
section
variable {P : Program} {w : World} {K : PySem.W.Frag} {mg : Str → Option Value} {base : Heap} {f : Addr} {fd : FuncData}
theorem ok_blk (F : Fun K "_law_blocks" "_law_blocks" s__law_blocks f fd) (z : Z mg) : FnOk P w K mg base CX0 1 f fd ["plain", "many"] spBlk := by
  refine F.ok sc__law_blocks (fun vs H Q E h => ?_) (fun cdv A outer s H vs Q E hr h => ?_)
  · obtain ⟨v, n, m, st, en, rfl, _⟩ := h; rfl
  · obtain ⟨v, n, m, st, en, rfl, ⟨pp, sv, evv, rfl, epp, hst, hen⟩, g, few, m1, m4, k⟩ := h
    refine ⟨_, (pss_cons (ps_par (i := 2) (j := 3) rfl sc__law_blocks.nd rfl rfl (by decide) rfl rfl (pa_cons (pe_lst (pa_cons (pe_tup (pa_cons pe_int (pa_cons pe_int (pa_cons pe_int pa_nil)))) pa_nil)) (pa_cons (pe_lst pa_nil) pa_nil)) (by rfl))
      (pss_cons (ps_for PassesOwn.never rfl (pi_range1 (by rfl) z.range (pa_cons pe_int pa_nil)) (pg_name (i := 4) sc__law_blocks.nd rfl (.inl rfl))
        (pss_one (ps_if (pt_cmpR op_lt (pv 4) (pe_callB call_lenQ (by rfl) z.len PySem.boot_len (pa_cons (pv 2) pa_nil)) (nomark _))
          (pss_cons (ps_asg (pe_ix ix_list (pv 2) (pv 4) (fun _ _ => rfl)) (pg_tup rfl (pgs_cons (pg_name (i := 5) sc__law_blocks.nd rfl (.inl rfl)) (pgs_cons (pg_name (i := 6) sc__law_blocks.nd rfl (.inl rfl)) (pgs_cons (pg_name (i := 7) sc__law_blocks.nd rfl (.inl rfl)) pgs_nil)))))
          (pss_cons (ps_set (i := 8) sc__law_blocks.nd rfl (.inl rfl) (pe_lst pa_nil))
          (pss_cons (ps_for PassesOwn.never rfl (pi_range1 (by rfl) z.range (pa_cons (pe_ix ix_list (pv 0) pe_int (fun _ _ => rfl)) pa_nil)) (pg_name (i := 9) sc__law_blocks.nd rfl (.inl rfl))
            (pss_cons (ps_set (i := 10) sc__law_blocks.nd rfl (.inl rfl) (pe_ifExp (pt_cmpR op_eq (pv 9) (pv 7) (nomark _)) (pe_tup (pa_cons (pv 5) (pa_cons (pe_strS (l := []) (by decide +kernel)) pa_nil))) pe_non))
            (pss_cons (ps_set (i := 11) sc__law_blocks.nd rfl (.inl rfl) (pe_tup (pa_cons (pv 5) (pa_cons pe_int (pa_cons pe_int pa_nil)))))
            (C8.pss_cut (ps_if (pt_cmpR op_lt (pv 6) (pv 1) (nomark _))
              (pss_cons (ps_set (i := 10) sc__law_blocks.nd rfl (.inl rfl) (pe_ix ix_list (pe_ix ix_list (pe_ix ix_list (pv 0) pe_int (fun _ _ => rfl)) (pv 5) (fun _ _ => rfl)) (pv 9) (fun _ _ => rfl)))
              (pss_one (ps_set (i := 11) sc__law_blocks.nd rfl (.inl rfl) (pe_ifExp (pt_cmpR op_isNo (pv 10) pe_non (nomark _)) pe_non (pe_tup (pa_cons (pe_ix ix_tup (pv 10) pe_int (fun _ _ => rfl)) (pa_cons (pe_op op_add (pv 6) pe_int) (pa_cons (pe_op op_mod (pe_callTy call_intN (by rfl) z.int (by decide +kernel) (pa_cons (pe_op op_add (pv 7) (pv 9)) pa_nil)) (pe_ix ix_list (pv 0) pe_int (fun _ _ => rfl))) pa_nil))))))))
              pss_nil)
            (pss_cons (ps_if (PW.pt (pw_and (pt_cmpR op_notN (pv 10) pe_non (nomark _)) (pw_and1 (pt_cmpR (op_notInD (room65 hr)) (pv 11) (pv 2) (by rfl)))))
              (pss_one (ps_expr (pe_bm PySem.F.plainAttrs_list PySem.F.slot_list_append PySem.F.type_list_append mt_append (pv 2) (pa_cons (pv 11) pa_nil))))
              pss_nil)
            (pss_one (ps_expr (pe_bm PySem.F.plainAttrs_list PySem.F.slot_list_append PySem.F.type_list_append mt_append (pv 8) (pa_cons (pe_ifExp (pt_cmpR op_isNo (pv 10) pe_non (nomark _)) pe_non (pe_tup (pa_cons (pe_bm PySem.F.plainAttrs_list PySem.F.slot_list_index PySem.F.type_list_index (mt_indexD (room65 hr)) (pv 2) (pa_cons (pv 11) pa_nil)) (pa_cons (pe_ix ix_tup (pv 10) pe_int (fun _ _ => rfl)) pa_nil)))) pa_nil)))))))))
          (pss_one (ps_expr (pe_bm PySem.F.plainAttrs_list PySem.F.slot_list_append PySem.F.type_list_append mt_append (pv 3) (pa_cons (pv 8) pa_nil)))))))
          pss_nil)))
      (pss_one (ps_ret (pe_lst (pa_cons (pe_ix ix_list (pv 0) pe_int (fun _ _ => rfl)) (pa_cons (pv 3) (pa_cons (pe_lc (own := [("place", 12)]) (g := gName 12) (tt := tYes) rfl sc__law_blocks.nd (pi_list (pv 2)) (blkOk_by (own := [("place", 12)]) (N := n__law_blocks) (sc := defScope s__law_blocks) (by decide +kernel)) (fun _ _ _ _ _ => (pg_name (i := 12) sc__law_blocks.nd rfl (.inl rfl))) (fun _ _ _ _ _ => pts_nil) (fun _ _ _ _ _ => (pe_ifExp (pt_cmpR op_eq (pe_ix (r := rIxT K) ix_tup (pv 12) pe_int (fun _ _ => rfl)) pe_int (nomark _)) (pe_ix (r := rIxL K) ix_list (pe_ix (r := rIxL K) ix_list (pv 0) pe_int (fun _ _ => rfl)) (pe_ix (r := rIxT K) ix_tup (pv 12) pe_int (fun _ _ => rfl)) (fun _ _ => rfl)) pe_non))) pa_nil)))))))), ?_⟩
    have n5 := g.n5
    have smI : ∀ p, InB st.length n m p → SmP p := fun p hp => by obtain ⟨h1, h2, h3⟩ := hp; have := g.s6; exact ⟨by omega, by omega, by omega⟩
    walk_at "rd"
    refine newT0 (Nat.le_of_ble_eq_true rfl) fun t0 H1 nt0 s1 et0 => ?_
    walk_at "rd"
    refine newL0 (Nat.le_of_ble_eq_true rfl) fun fp H2 nfp s2 efp => ?_
    walk_at "rd"
    refine newL0 (Nat.le_of_ble_eq_true rfl) fun rp H3 nrp s3 erp => ?_
    have nfr : fp ≠ rp := ne_of_none efp nrp
    have s03 := s1.trans (s2.trans s3)
    have hfp : H fp = none := s1.free nfp
    have hrp : H rp = none := s1.free (s2.free nrp)
    have b3 : B2 H3 fp rp (bfs (rowP st n m) 0) ((stC st n m).take 0) := ⟨⟨_, s3 _ _ efp, .cons ⟨t0, rfl, (s2.trans s3) _ _ et0⟩ .nil⟩, ⟨_, erp, .nil⟩⟩
    have lC : (stC st n m).length = (finP st n m).length := by simp only [stC, List.length_map]
    walk_at "rd"
    refine i_rng (by omega) (by omega) ?_
    refine go_for walk_rangeZ (fun i σ Hx => ∃ (u4 u5 u6 u7 u8 u9 ua ub uc : Option V), σ = [some (.ref pp), some (iV m), some (.ref fp), some (.ref rp), u4, u5, u6, u7, u8, u9, ua, ub, uc] ∧ B2 Hx fp rp (bfs (rowP st n m) i) ((stC st n m).take i) ∧ Kp3 fp fp rp H3 Hx)
      ⟨_, _, _, _, _, _, _, _, _, rfl, b3, Kp3.refl⟩ (fun _ _ _ _ _ => trivial) (fun i v σ Hx Hy hi h y => ?_) (fun σ Hx h => ?_)
    · obtain ⟨u4, u5, u6, u7, u8, u9, ua, ub, uc, rfl, bx, kx⟩ := h
      obtain ⟨rfl, rfl⟩ := y
      have hi : i < 200 := hi
      have k0x : Same H Hy := kx.same s03 hfp hfp hrp
      obtain ⟨v1, ev1, pr1⟩ := id bx.hp
      obtain ⟨v2, ev2, pr2⟩ := id bx.hr
      have lv1 : v1.length = (bfs (rowP st n m) i).length := Paired.length pr1
      obtain ⟨zf, hzf⟩ := fin_pre (st := st) (n := n) (m := m) (Nat.le_of_lt hi)
      walk_at "rd"
      rw [lv1]
      refine iteB (fun c => ?_) (fun c => ?_)
      · have c : i < (bfs (rowP st n m) i).length := by omega
        have gp : (bfs (rowP st n m) i)[i]? = some (bfs (rowP st n m) i)[i] := List.getElem?_eq_getElem c
        generalize epq : (bfs (rowP st n m) i)[i] = p at *
        obtain ⟨pv, gpv, tp, rfl, etp⟩ := pairedAt2 pr1 gp
        obtain ⟨en1, en2⟩ := bfs_next gp
        have hin := few.inb i p (List.mem_of_getElem? gp)
        have mpf : p ∈ finP st n m := by rw [hzf]; exact List.mem_append_left _ (List.mem_of_getElem? gp)
        have gF : (finP st n m)[i]? = some p := by rw [hzf, List.getElem?_append_left c]; exact gp
        have gC : (stC st n m)[i]? = some ((rowP st n m p).map (nE st n m)) := by
          rw [stC, List.getElem?_map, gF]; rfl
        obtain ⟨q1, q2, q3⟩ := p
        obtain ⟨c1, c2, c3⟩ : q1 < st.length ∧ q2 ≤ m ∧ q3 < n := hin
        walk_at "rd"
        refine i_ixLv ev1 (by omega) (by rw [Int.toNat_natCast]; exact gpv) ?_
        walk_at "rd"
        refine newL0 (Nat.le_of_ble_eq_true rfl) fun rw_ H4 nrw s4 erw => ?_
        have b4 := bx.same s4
        have ev2' := s4 _ _ ev2
        have nrf : rw_ ≠ fp := Ne.symm (ne_of_none ev1 nrw)
        have nrr : rw_ ≠ rp := Ne.symm (ne_of_none ev2 nrw)
        have nin := bx.notin ev2 nrw
        have k04 : Same H H4 := k0x.trans s4
        have hrw : H rw_ = none := k0x.free nrw
        have epp4 := k04 _ _ epp
        walk_at "rd"
        refine i_rng (by omega) (by omega) ?_
        rw [Int.toNat_natCast]
        refine go_for walk_rangeZ (fun j σ Hz => ∃ (u9 ua ub uc : Option V) (us : List V), σ = [some (.ref pp), some (iV m), some (.ref fp), some (.ref rp), some (iV i), some (iV q1), some (iV q2), some (iV q3), some (.ref rw_), u9, ua, ub, uc] ∧ B2 Hz fp rp (((rowP st n m (q1, q2, q3)).take j).foldl addP (bfs (rowP st n m) i)) ((stC st n m).take i) ∧ Hz rp = some (.lst v2) ∧
            Hz rw_ = some (.lst us) ∧ Paired (EntAt Hz) us (((rowP st n m (q1, q2, q3)).map (nE st n m)).take j) ∧ Kp3 fp rw_ rp H4 Hz)
          ⟨u9, ua, ub, uc, [], rfl, by rw [List.take_zero]; exact b4, ev2', erw, .nil, Kp3.refl⟩ (fun _ _ _ _ _ => trivial) (fun j v σ Hz Hw hj h y => ?_) (fun σ Hz h => ?_)
        · obtain ⟨u9, ua, ub, uc, us, rfl, bz, ez2, erz, prz, kz⟩ := h
          obtain ⟨rfl, rfl⟩ := y
          have k0z : Same H Hw := kz.same k04 hfp hrw hrp
          have eppz := k0z _ _ epp
          have hj : j < n := hj
          walk_at "rd"
          refine val_ifH (fun v H' => Same Hw H' ∧ ((j = q3 ∧ ∃ te, v = .ref te ∧ H' te = some (.tup [iV q1, .str (S [])])) ∨ (j ≠ q3 ∧ v = .non))) (fun Q' kQ => ?_) (fun ev H5 hq => ?_)
          · refine iteB (fun c => ?_) (fun c => ?_)
            · have c : j = q3 := by have c : (j : Int) = (q3 : Int) := c; omega
              walk_at "rd"
              refine newT0 (Nat.le_of_ble_eq_true rfl) fun te H5 nte s5 ete => ?_
              exact kQ _ _ ⟨s5, .inl ⟨c, te, rfl, ete⟩⟩
            · have c : ¬ j = q3 := by have c : ¬ (j : Int) = (q3 : Int) := c; omega
              walk_at "rd"
              exact kQ _ _ ⟨Same.refl _, .inr ⟨c, rfl⟩⟩
          obtain ⟨s5, hev⟩ := hq
          walk_at "rd"
          refine newT0 (Nat.le_of_ble_eq_true rfl) fun gt H6 ngt s6 egt => ?_
          have s56 := s5.trans s6
          have k06 := k0z.trans s56
          have epp6 := k06 _ _ epp
          obtain ⟨ps_, vst, eps, ep6, pr6⟩ := hst.same k06
          have gq : st[q1]? = some (st.getD q1 []) := by rw [List.getD_eq_getElem?_getD, List.getElem?_eq_getElem c1]; rfl
          have lq := g.row _ (List.mem_of_getElem? gq)
          obtain ⟨vr, gvr, rr, rs, rfl, err, prr⟩ := pairedAt2 pr6 gq
          have gx : (st.getD q1 [])[j]? = some ((st.getD q1 []).getD j none) := by rw [List.getD_eq_getElem?_getD (l := st.getD q1 []), List.getElem?_eq_getElem (by rw [lq]; exact hj)]; rfl
          obtain ⟨ve, gve, hve⟩ := pairedAt2 prr gx
          subst eps
          walk_at "rd"
          refine i_cut (fun σ' H' => ∃ (ev gv : V), σ' = [some (.ref pp), some (iV m), some (.ref fp), some (.ref rp), some (iV i), some (iV q1), some (iV q2), some (iV q3), some (.ref rw_), some (iV j), some ev, some gv, uc] ∧ Same Hw H' ∧ EGAt H' ev gv (entP st n m (q1, q2, q3) j)) ?_ (fun σ' H7 hm => ?_)
          · walk_at "rd"
            refine iteB (fun c => ?_) (fun c => ?_)
            · have c : ¬ q2 = m := by have c : (q2 : Int) < (m : Int) := c; omega
              walk_at "rd"
              refine i_ixLv ep6 (by omega) (by rw [Int.toNat_natCast]; exact gvr) ?_
              walk_at "rd"
              refine i_ixLv err (by omega) (by rw [Int.toNat_natCast]; exact gve) ?_
              walk_at "rd"
              rcases e : (st.getD q1 []).getD j none with _ | ⟨q', wd⟩
              · rw [e] at hve
                cases (show ve = V.non from hve)
                walk_at "rd"
                have ee : entP st n m (q1, q2, q3) j = none := by simp only [entP, if_neg c, e]; rfl
                exact ⟨s56, by rw [ee]; exact rfl⟩
              · rw [e] at hve
                obtain ⟨te, rfl, ete⟩ := hve
                walk_at "rd"
                rw [show ((q3 : Int) + (j : Int)) % (n : Int) = (((q3 + j) % n : Nat) : Int) by rw [Int.natCast_emod, Int.natCast_add]]
                refine newT0 (Nat.le_of_ble_eq_true rfl) fun gt2 H7 ngt2 s7 egt2 => ?_
                walk_at "rd"
                have ee : entP st n m (q1, q2, q3) j = some ((q', q2 + 1, (q3 + j) % n), wd) := by simp only [entP, if_neg c, e]; rfl
                refine ⟨s56.trans s7, ?_⟩
                rw [ee]
                exact ⟨te, _, gt2, rfl, s7 _ _ ete, rfl, gt2, rfl, egt2⟩
            · have c : q2 = m := by have c : ¬ (q2 : Int) < (m : Int) := c; omega
              walk_at "rd"
              refine ⟨s56, ?_⟩
              rcases hev with ⟨cj, te, rfl, ete⟩ | ⟨cj, rfl⟩
              · have ee : entP st n m (q1, q2, q3) j = some ((q1, 0, 0), []) := by simp [entP, c, cj]
                rw [ee]
                exact ⟨te, _, gt, rfl, s6 _ _ ete, rfl, gt, rfl, egt⟩
              · have ee : entP st n m (q1, q2, q3) j = none := by simp [entP, c, cj]
                rw [ee]; exact rfl
          obtain ⟨ev, gv, rfl, s7, hE⟩ := hm
          have b7 := bz.same s7
          have ez7 := s7 _ _ ez2
          have er7 := s7 _ _ erz
          have pr7 := Paired.mapP prz fun _ _ z => EntAt.same s7 z
          have k7 := kz.trans (Kp3.of s7)
          have lus : us.length = j := by rw [Paired.length prz, List.length_take, List.length_map, rowP, List.length_map, List.length_range]; omega
          have gEe : (rowP st n m (q1, q2, q3))[j]? = some (entP st n m (q1, q2, q3) j) := by rw [rowP, List.getElem?_map, List.getElem?_range hj]; rfl
          have enx : ((rowP st n m (q1, q2, q3)).take (j + 1)).foldl addP (bfs (rowP st n m) i) = addP (((rowP st n m (q1, q2, q3)).take j).foldl addP (bfs (rowP st n m) i)) (entP st n m (q1, q2, q3) j) := by
            rw [List.take_add_one, gEe, List.foldl_append]; rfl
          have rnx : ((rowP st n m (q1, q2, q3)).map (nE st n m)).take (j + 1) = ((rowP st n m (q1, q2, q3)).map (nE st n m)).take j ++ [nE st n m (entP st n m (q1, q2, q3) j)] := by
            rw [List.take_add_one, List.getElem?_map, gEe]; rfl
          obtain ⟨zs, hzs⟩ := Bf.fold_pre ((rowP st n m (q1, q2, q3)).drop (j + 1)) (((rowP st n m (q1, q2, q3)).take (j + 1)).foldl addP (bfs (rowP st n m) i))
          rw [← List.foldl_append, List.take_append_drop, ← en1, enx] at hzs
          obtain ⟨zg, hzg⟩ := fin_pre (st := st) (n := n) (m := m) (show i + 1 ≤ 200 by omega)
          rw [hzs, List.append_assoc] at hzg
          rw [enx, rnx]
          generalize ((rowP st n m (q1, q2, q3)).take j).foldl addP (bfs (rowP st n m) i) = ps at *
          generalize entP st n m (q1, q2, q3) j = ee at *
          have smps : ∀ p ∈ addP ps ee, SmP p := fun p hp => smI p (fin_in few p (by rw [hzg]; exact List.mem_append_left _ hp))
          obtain ⟨w1, ew1, pw1⟩ := id b7.hp
          have lw1 : w1.length ≤ 75 := by
            rw [Paired.length pw1]
            have h1 := fin_75 few
            obtain ⟨z1, h2⟩ := Bf.add_pre ps ee
            rw [hzg, h2, List.length_append, List.length_append] at h1
            omega
          walk_at "rd"
          rcases ee with _ | ⟨gg, wd⟩
          · cases (show ev = V.non from hE)
            refine ⟨rfl, _, rfl, ?_⟩
            rw [decide_eq_true (show V.non = V.non from rfl)]
            walk_at "rd"
            refine i_append er7 (sm100 (by omega)) ?_
            refine ⟨_, _, _, _, us ++ [.non], rfl, b7.other nrf nrr er7 (fun ws ew => by cases ez7.symm.trans ew; exact nin), by rw [upd_ne (Ne.symm nrr)]; exact ez7, upd_same, Paired.snoc (Paired.mapP pr7 fun _ _ z => z.tk (TK.lst er7)) (show EntAt _ V.non none from rfl), fun a o a1 a2 a3 e => by rw [upd_ne a2]; exact k7 _ _ a1 a2 a3 e⟩
          · obtain ⟨te, x, u, rfl, ete, rfl, hgu⟩ := hE
            have sg : SmP gg := smps gg (Bf.add_mem)
            have smp0 : ∀ p ∈ ps, SmP p := fun p hp => smps p (by obtain ⟨z1, h2⟩ := Bf.add_pre ps (some (gg, wd)); rw [h2]; exact List.mem_append_left _ hp)
            have idf : (finP st n m).idxOf gg = (addP ps (some (gg, wd))).idxOf gg := idx_pre hzg Bf.add_mem
            refine ⟨rfl, _, rfl, ?_⟩
            rw [decide_eq_false (show ¬ V.ref te = V.non from fun e => by cases e)]
            walk_at "rd"
            refine i_notInP ew1 pw1 hgu smp0 sg ?_
            by_cases cm : gg ∈ ps
            · rw [decide_eq_true cm]
              have eadd : addP ps (some (gg, wd)) = ps := by simp only [addP, if_pos cm]
              rw [eadd] at idf ⊢
              walk_at "rd"
              refine i_idxP ew1 pw1 hgu smp0 sg cm ?_
              walk_at "rd"
              refine newT0 (Nat.le_of_ble_eq_true rfl) fun t2 H8 nt2 s8 et2 => ?_
              have er8 := s8 _ _ er7
              walk_at "rd"
              refine i_append er8 (sm100 (by omega)) ?_
              refine ⟨_, _, _, _, us ++ [.ref t2], rfl, (b7.same s8).other nrf nrr er8 (fun ws ew => by cases (s8 _ _ ez7).symm.trans ew; exact nin), by rw [upd_ne (Ne.symm nrr)]; exact s8 _ _ ez7, upd_same, Paired.snoc (Paired.mapP pr7 fun _ _ z => (z.same s8).tk (TK.lst er8)) ⟨t2, rfl, TK.lst er8 _ _ (by rw [idf]; exact et2)⟩, fun a o a1 a2 a3 e => by rw [upd_ne a2]; exact s8 _ _ (k7 _ _ a1 a2 a3 e)⟩
            · rw [decide_eq_false cm]
              have eadd : addP ps (some (gg, wd)) = ps ++ [gg] := by simp only [addP, if_neg cm]
              rw [eadd] at idf smps ⊢
              walk_at "rd"
              refine i_append ew1 (sm100 (by omega)) ?_
              have b8 := b7.push nfr ew1 hgu
              have tk8 := TK.lst (ys := w1 ++ [.ref u]) ew1
              have er8 : upd H7 fp (.lst (w1 ++ [.ref u])) rw_ = some (.lst us) := by rw [upd_ne nrf]; exact er7
              have ez8 : upd H7 fp (.lst (w1 ++ [.ref u])) rp = some (.lst v2) := by rw [upd_ne (Ne.symm nfr)]; exact ez7
              have ete8 := tk8 _ _ ete
              have pr8 := Paired.mapP pr7 fun _ _ z => EntAt.tk tk8 z
              have hgu8 := hgu.tk tk8
              have k8 : Kp3 fp rw_ rp H4 (upd H7 fp (.lst (w1 ++ [.ref u]))) := fun a o a1 a2 a3 e => by rw [upd_ne a1]; exact k7 _ _ a1 a2 a3 e
              generalize upd H7 fp (.lst (w1 ++ [.ref u])) = H8 at *
              obtain ⟨w8, ew8, pw8⟩ := id b8.hp
              walk_at "rd"
              refine i_idxP ew8 pw8 hgu8 smps sg (List.mem_append_right _ (List.mem_singleton.mpr rfl)) ?_
              walk_at "rd"
              refine newT0 (Nat.le_of_ble_eq_true rfl) fun t2 H9 nt2 s9 et2 => ?_
              have er9 := s9 _ _ er8
              walk_at "rd"
              refine i_append er9 (sm100 (by omega)) ?_
              refine ⟨_, _, _, _, us ++ [.ref t2], rfl, (b8.same s9).other nrf nrr er9 (fun ws ew => by cases (s9 _ _ ez8).symm.trans ew; exact nin), by rw [upd_ne (Ne.symm nrr)]; exact s9 _ _ ez8, upd_same, Paired.snoc (Paired.mapP pr8 fun _ _ z => (z.same s9).tk (TK.lst er9)) ⟨t2, rfl, TK.lst er9 _ _ (by rw [idf]; exact et2)⟩, fun a o a1 a2 a3 e => by rw [upd_ne a2]; exact s9 _ _ (k8 _ _ a1 a2 a3 e)⟩
        · obtain ⟨u9, ua, ub, uc, us, rfl, bz, ez2, erz, prz, kz⟩ := h
          rw [List.take_of_length_le (by simp [rowP]), ← en1] at bz
          rw [List.take_of_length_le (by simp [rowP])] at prz
          have lv2 : v2.length ≤ 75 := by rw [Paired.length pr2, List.length_take, lC]; have := fin_75 few; omega
          walk_at "rd"
          refine i_append ez2 (sm100 (by omega)) ?_
          refine ⟨_, _, _, _, _, _, _, _, _, rfl, ?_, fun a o a1 _ a3 e => ?_⟩
          · rw [List.take_add_one, gC]
            exact bz.row nfr ez2 ⟨rw_, us, rfl, erz, prz⟩ ⟨nrf, nrr⟩
          · have e4 := s4 _ _ (kx _ _ a1 a1 a3 e)
            rw [upd_ne a3]
            exact kz _ _ a1 (fun c => by rw [c] at e; have := kx _ _ nrf nrf nrr e; rw [nrw] at this; cases this) a3 e4
      · have c : (bfs (rowP st n m) i).length ≤ i := by omega
        walk_at "rd"
        refine ⟨_, _, _, _, _, _, _, _, _, rfl, ?_, kx⟩
        rw [Bf.bfs_stop c (i + 1) (Nat.le_succ i), List.take_of_length_le (by rw [lC, fin_of few c]; omega)]
        rw [List.take_of_length_le (by rw [lC, fin_of few c]; omega)] at bx
        exact bx
    · obtain ⟨u4, u5, u6, u7, u8, u9, ua, ub, uc, rfl, bx, kx⟩ := h
      have e200 : bfs (rowP st n m) (Int.toNat 200) = finP st n m := (fin_def st n m).symm
      have l75 := fin_75 few
      rw [e200, List.take_of_length_le (show (stC st n m).length ≤ Int.toNat 200 by show _ ≤ 200; omega)] at bx
      have k0x : Same H Hx := kx.same s03 hfp hfp hrp
      have eppx := k0x _ _ epp
      obtain ⟨v1, ev1, pr1⟩ := id bx.hp
      obtain ⟨v2, ev2, pr2⟩ := id bx.hr
      obtain ⟨pe, rfl, epe⟩ := hen
      walk_at "rd"
      refine ⟨⟨_, sqL_of ev1⟩, ?_⟩
      refine go_lc (walk_list (xs := v1)) (fun p i Hy => Hy p = some (.lst (((enC st en n m).take i).map endV)) ∧ Same Hx Hy) (fun p np => ⟨by rw [List.take_zero]; exact upd_same, same_upd np⟩) (fun p i Hy hi h => sqL_of (h.2 _ _ ev1)) (fun ep np i v Hy Hz hi h y => ?_) (fun ep Hy nep h => ?_)
      · obtain ⟨eE, sy⟩ := h
        obtain ⟨rfl, hv⟩ := y
        obtain ⟨pq, gpq, tp, rfl, etp⟩ := pairedAt pr1 hv
        obtain ⟨q1, q2, q3⟩ := pq
        have mpq := List.mem_of_getElem? gpq
        have hq : q1 < st.length := (fin_in few _ mpq).1
        have etp := sy _ _ etp
        have eppy := sy _ _ eppx
        have epey := sy _ _ (k0x _ _ epe)
        have gE : (enC st en n m)[i]? = some (if q2 = 0 then en.getD q1 none else none) := by rw [enC, List.getElem?_map, gpq]; rfl
        have gq : (en.map endV)[q1]? = some (endV (en.getD q1 none)) := by rw [List.getElem?_map, List.getD_eq_getElem?_getD, List.getElem?_eq_getElem (by rw [g.le]; exact hq)]; rfl
        have lE : (enC st en n m).length ≤ 75 := by simp only [enC, List.length_map]; exact l75
        have ll : ((((enC st en n m).take i).map endV)).length < sizeLine := sm100 (by rw [List.length_map, List.length_take]; omega)
        rw [List.take_add_one, gE]
        walk_at "rd"
        refine ⟨rfl, i_yes (iteT ?_)⟩
        walk_at "rd"
        refine iteB (fun c0 => ?_) (fun c0 => ?_)
        · have c0 : q2 = 0 := by have c0 : (q2 : Int) = 0 := c0; omega
          rw [if_pos c0]
          walk_at "rd"
          refine i_ixLv epey (by omega) (by rw [Int.toNat_natCast]; exact gq) ?_
          exact ⟨_, eE, ll, by rw [upd_same, List.map_append]; rfl, Same.set_new sy np⟩
        · have c0 : ¬ q2 = 0 := by have c0 : ¬ (q2 : Int) = 0 := c0; omega
          rw [if_neg c0]
          walk_at "rd"
          exact ⟨_, eE, ll, by rw [upd_same, List.map_append]; rfl, Same.set_new sy np⟩
      obtain ⟨eE, sy⟩ := h
      have lvE : v1.length = (enC st en n m).length := by rw [Paired.length pr1]; simp only [enC, List.length_map]
      rw [lvE, List.take_length] at eE
      walk_at "rd"
      refine newL0 (Nat.le_of_ble_eq_true rfl) fun q Hz nq s9 eq => ?_
      have s99 := sy.trans s9
      exact k _ _ (k0x.trans s99) ⟨q, _, _, rfl, eq, StAt.same s99 ⟨rp, v2, rfl, ev2, Paired.mapP pr2 fun _ _ z => z.1⟩, ⟨ep, rfl, s9 _ _ eE⟩⟩
end
end Sw
namespace Sw
open PySem PySem.Spec PyProof.Rows L2
local macro_rules | `(tactic| walk_at "hp") => `(tactic| first
  | (with_reducible assumption) | (with_reducible exact upd_same)
  | ((with_reducible refine' upd_old ?q1 ?q2); (case q1 => (with_reducible assumption)); (case q2 => walk_at "hp"))
  | ((with_reducible refine' Same.at ?q1 ?q2); (case q1 => (with_reducible assumption)); (case q2 => walk_at "hp"))
  | ((with_reducible refine' upd_skip ?q1 ?q2); (case q1 => walk_at "ne"); (case q2 => walk_at "hp"))
  | fail)
local macro_rules | `(tactic| walk_at "ne") => `(tactic| first
  | (with_reducible assumption) | (with_reducible exact Ne.symm (by assumption))
  | ((with_reducible refine' ne_of_none ?q1 ?q2); (case q2 => (with_reducible assumption)); (case q1 => walk_at "hp"))
  | fail)
local macro_rules | `(tactic| walk_at "ci") => `(tactic| first | assumption | (show (0 : Int) < _; first | decide | (with_reducible omega)) | exact ⟨by decide, by decide⟩ | exact .inl ⟨by decide, by decide⟩ | exact .inr ⟨by decide, by decide⟩)
local macro_rules | `(tactic| walk_at "ln") => `(tactic| first | (with_reducible assumption) | (with_reducible omega) | (simp only [List.length_append, List.length_take, List.length_drop, List.length_reverse, List.length_cons, List.length_nil]; with_reducible omega))
local macro_rules | `(tactic| walk_at "rd1") => `(tactic| first
  | (with_reducible refine i_seq ?_) | (with_reducible refine i_asg ?_) | (with_reducible refine i_ret ?_) | (with_reducible refine i_name ?_) | ((with_reducible refine' i_var ?q1 ?_); (case q1 => exact rfl)) | (with_reducible refine i_c ?_) | (with_reducible refine i_op ?_) | (with_reducible refine i_un ?_)
  | (with_reducible refine i_rI0 ?_) | (with_reducible refine i_cb ?_) | (with_reducible refine i_cons ?_) | (with_reducible refine i_nil ?_) | (with_reducible refine i_call ?_) | (with_reducible refine i_if ?_) | (with_reducible refine i_ifE ?_) | (with_reducible refine i_test ?_) | (with_reducible refine i_bl ?_)
  | (with_reducible refine i_and ?_) | (with_reducible refine i_or ?_) | (with_reducible refine i_not ?_) | (with_reducible refine i_lstM ?_) | (with_reducible refine i_lstLM ?_) | (with_reducible refine i_tupM ?_) | (with_reducible refine i_next ?_) | (with_reducible refine i_drop ?_) | (with_reducible refine i_sub ?_)
  | (with_reducible refine i_bm ?_) | (with_reducible refine i_sl ?_) | (with_reducible refine i_part ?_) | (with_reducible refine i_nopart ?_) | (with_reducible refine i_exI ?_) | (with_reducible refine i_chain ?_) | ((with_reducible refine' i_aug ?q1 ?_); (case q1 => exact rfl)) | (with_reducible refine i_ip ?_)
  | (with_reducible refine i_par ?_) | (with_reducible refine i_pair ?_) | (with_reducible refine i_andV ?_) | (with_reducible refine i_orV ?_) | (with_reducible refine i_notV ?_) | (with_reducible refine i_m1 ?_) | (with_reducible refine i_str ?_)
  | (with_reducible refine iteF ?_) | (with_reducible refine iteT ?_) | (with_reducible refine iteNT ?_) | (with_reducible refine iteNF ?_) | (with_reducible refine i_tyS ?_) | (with_reducible refine i_tB ?_) | (with_reducible refine i_retN ?_) | (with_reducible refine i_par3 ?_) | (with_reducible refine i_trip ?_) | (with_reducible refine i_gCons ?_) | (with_reducible refine i_gNil ?_) | (with_reducible refine i_lstRg ?_) | (with_reducible refine i_rg1 ?_)
  | (with_reducible refine i_lc ?_) | (with_reducible refine i_for ?_) | (with_reducible refine i_iList ?_) | (with_reducible refine i_iTup ?_) | (with_reducible refine i_iStr ?_) | (with_reducible refine i_iRng1 ?_) | (with_reducible refine i_iEnS ?_)
  | ((with_reducible refine' i_ixTH ?q1 ?q2 ?_); (case q1 => walk_at "hp"); (case q2 => exact rfl))
  | ((with_reducible refine' i_ixLH ?q1 ?q2 ?_); (case q1 => walk_at "hp"); (case q2 => exact rfl))
  | ((with_reducible refine i_addS ?q1 ?_); (case q1 => walk_at "ln")) | ((with_reducible refine i_lenSS ?q1 ?_); (case q1 => walk_at "ln")) | ((with_reducible refine i_slFrom ?q1 ?q2 ?_); (case q1 => walk_at "ln"); (case q2 => walk_at "ln")) | ((with_reducible refine i_slTo ?q1 ?q2 ?_); (case q1 => walk_at "ln"); (case q2 => walk_at "ln"))
  | ((with_reducible refine' i_tyL ?q1 ?_); (case q1 => walk_at "hp"))
  | ((with_reducible refine' i_gTupH ?q1 ?q2 ?_); (case q1 => walk_at "hp"); (case q2 => exact rfl))
  | (with_reducible refine i_dnewM ?_) | (with_reducible refine i_init ?_) | (with_reducible refine i_fst ?_) | (with_reducible refine i_mk ?_) | (with_reducible refine i_mkF ?_) | (with_reducible refine i_raise ?_) | (with_reducible refine i_callS ?_) | (with_reducible refine i_kwS ?_)
  | (with_reducible refine i_revT ?_) | (with_reducible refine i_kw ?_) | ((with_reducible refine' ⟨_, _, rfl, sqT_of ?q1, ?_⟩); (case q1 => walk_at "hp"))
  | (with_reducible refine i_revS ?_) | ((with_reducible refine i_revSS ?q1 ?_); (case q1 => walk_at "ln"))
  | (with_reducible refine i_startS ?_) | (with_reducible refine i_inSg ?_) | (with_reducible refine i_absN ?_) | (with_reducible refine i_min2 ?_) | (with_reducible refine i_max2 ?_) | (with_reducible refine i_min3 ?_) | (with_reducible refine i_intN ?_) | (with_reducible refine i_intNB ?_)
  | ((with_reducible refine' i_lenL ?q1 ?_); (case q1 => walk_at "hp")) | ((with_reducible refine' i_lenT ?q1 ?_); (case q1 => walk_at "hp"))
  | (with_reducible refine i_eqI ?_) | (with_reducible refine i_neI ?_) | (with_reducible refine i_eqS ?_) | (with_reducible refine i_neS ?_) | (with_reducible refine i_isNoI ?_) | (with_reducible refine i_isNoN ?_) | (with_reducible refine i_isNoR ?_)
  | ((with_reducible refine i_pow ?q1 ?q2 ?q3 ?_); (case q1 => decide); (case q2 => decide); (case q3 => (with_reducible omega)))
  | ((with_reducible refine i_rI ?q1 ?_); (case q1 => walk_at "ci"))
  | (with_reducible refine Or.inl ⟨_, rfl, ?_⟩) | (with_reducible refine Or.inr ⟨_, rfl, ?_⟩) | (with_reducible refine ⟨_, rfl, ?_⟩) | (with_reducible refine ⟨_, _, rfl, ?_⟩) | (with_reducible refine ⟨_, _, rfl, rfl, ?_⟩)
  | ((with_reducible refine' ⟨_, _, rfl, Or.inl (sqL_of ?q1), ?_⟩); (case q1 => walk_at "hp")) | ((with_reducible refine' ⟨_, _, rfl, Or.inr (sqT_of ?q1), ?_⟩); (case q1 => walk_at "hp")) | (with_reducible refine i_dget ?_) | (with_reducible refine i_disp1T ?_) | (with_reducible refine i_dcT ?_) | (with_reducible refine i_dnewT ?_) | (with_reducible refine i_fld ?_) | (with_reducible refine i_sFld ?_) | (with_reducible refine i_make ?_) | (with_reducible refine i_meth ?_) | (with_reducible refine i_star ?_) | (with_reducible refine i_isNoS ?_) | (with_reducible refine i_lc2 ?_) | (with_reducible refine i_iEnT ?_) | (with_reducible refine i_iZipT ?_) | fail)
local macro_rules | `(tactic| walk_at "rd") => `(tactic| repeat' walk_at "rd1")

theorem call_list_ofB {X : Cx} {K : PySem.W.Frag} (e : X.K = K) : CallR X (.type "list") (fun xs H Q => ∃ p ys, xs = [V.ref p] ∧ (SqL K H p ys ∨ SqT K H p ys) ∧ ∀ l, H l = none → Q (.ref l) (upd H l (.lst ys))) := by
  subst e
  exact call_list_of
/-- _law_marked(plain) -/
def spMark : Sp := fun vs H Q _ => ∃ (v : V) (n : Nat) (st : List (List Ent)) (en : List (Option (List Nat))), vs = [v] ∧ PlnAt H v n st en ∧ Good n st en ∧ ∀ v' H', Same H H' → PlnAt H' v' (n + 1) (stM st en) en → Q v' H'
/-- _law_written(plain, line) -/
def spWrt : Sp := fun vs H Q _ => ∃ (v : V) (n : Nat) (st : List (List Ent)) (en : List (Option (List Nat))) (lp : Addr) (l : List Nat), vs = [v, .ref lp] ∧ PlnAt H v n st en ∧ Good n st en ∧ H lp = some (.lst (l.map iV)) ∧ l.length ≤ 100 ∧ (∀ x ∈ l, x < n) ∧ ∀ H', Same H H' → Q (endV (writD st en l)) H'
section
variable {P : Program} {w : World} {K : PySem.W.Frag} {mg : Str → Option Value} {base : Heap} {f : Addr} {fd : FuncData}
theorem ok_mark (F : Fun K "_law_marked" "_law_marked" s__law_marked f fd) (z : Z mg) : FnOk P w K mg base CX0 1 f fd ["plain"] spMark := by
  refine F.ok sc__law_marked (fun vs H Q E h => ?_) (fun cdv A outer s H vs Q E hr h => ?_)
  · obtain ⟨v, n, st, en, rfl, _⟩ := h; rfl
  · obtain ⟨v, n, st, en, rfl, ⟨pp, sv, evv, rfl, epp, hst, ⟨pe, rfl, epe⟩⟩, g, k⟩ := h
    refine ⟨_, (pss_cons (ps_set (i := 1) sc__law_marked.nd rfl (.inr rfl) (pe_lc (own := [("end", 2)]) (g := gName 2) (tt := tYes) rfl sc__law_marked.nd (pi_list (pe_ix ix_list (pv 0) pe_int (fun _ _ => rfl))) (blkOk_by (own := [("end", 2)]) (N := n__law_marked) (sc := defScope s__law_marked) (by decide +kernel)) (fun _ _ _ _ _ => (pg_name (i := 2) sc__law_marked.nd rfl (.inl rfl))) (fun _ _ _ _ _ => pts_nil) (fun _ _ _ _ _ => (pe_ifExp (pt_cmpR op_isNo (pv 2) pe_non (nomark _)) pe_non (pe_tup (pa_cons pe_int (pa_cons (pv 2) pa_nil)))))))
      (pss_one (ps_ret (pe_lst (pa_cons (pe_op op_add (pe_ix ix_list (pv 0) pe_int (fun _ _ => rfl)) pe_int) (pa_cons (pe_lc (own := [("k", 3)]) (g := gName 3) (tt := tYes) rfl sc__law_marked.nd (pi_range1 (by rfl) z.range (pa_cons (pe_callB call_lenQ (by rfl) z.len PySem.boot_len (pa_cons (pv 1) pa_nil)) pa_nil)) (blkOk_by (own := [("k", 3)]) (N := n__law_marked) (sc := defScope s__law_marked) (by decide +kernel)) (fun _ _ _ _ _ => (pg_name (i := 3) sc__law_marked.nd rfl (.inl rfl))) (fun _ _ _ _ _ => pts_nil) (fun _ _ _ _ _ => (pe_op op_cat (pe_callTy (call_list_ofB (K := K) rfl) (by rfl) z.list (by decide +kernel) (pa_cons (pe_ix (r := rIxL K) ix_list (pe_ix (r := rIxL K) ix_list (pv 0) pe_int (fun _ _ => rfl)) (pv 3) (fun _ _ => rfl)) pa_nil)) (pe_lst (pa_cons (pe_ix (r := rIxL K) ix_list (pv 1) (pv 3) (fun _ _ => rfl)) pa_nil))))) (pa_cons (pe_ix ix_list (pv 0) pe_int (fun _ _ => rfl)) pa_nil))))))), ?_⟩
    have g6 := g.s6
    have gl := g.le
    have n5 := g.n5
    walk_at "rd"
    refine ⟨⟨_, sqL_of epe⟩, ?_⟩
    refine go_lc (walk_list (xs := en.map endV)) (fun p i Hx => EUp H p ((en.map markE).take i) Hx) (fun p np => EUp.nil np) (fun p i Hx hi h => sqL_of (h.row.2 _ _ epe)) (fun p np i v Hx Hy hi h y => ?_) (fun mp Hx nmp h => ?_)
    · obtain ⟨rfl, hv⟩ := y
      rw [List.length_map] at hi
      have ge : en[i]? = some en[i] := List.getElem?_eq_getElem hi
      rw [List.getElem?_map, ge] at hv
      cases hv
      rw [List.take_add_one, List.getElem?_map, ge]
      generalize en[i] = ee at *
      walk_at "rd"
      refine ⟨rfl, i_yes (iteT ?_)⟩
      walk_at "rd"
      rcases ee with _ | wd
      · walk_at "rd"
        exact h.pushN np (Same.refl _) (by rw [List.length_take]; omega)
      · walk_at "rd"
        refine newT0 (Nat.le_of_ble_eq_true rfl) fun t2 Hw nt2 s2 et2 => ?_
        exact h.push np s2 et2 (by rw [List.length_take]; omega)
    rw [List.length_map, ← List.length_map (f := markE), List.take_length] at h
    obtain ⟨⟨mp', ms, e1, emp, prm⟩, s1⟩ := h.row
    cases e1
    have epp1 := s1 _ _ epp
    obtain ⟨q1, vs, rfl, eq1, prs⟩ := hst.same s1
    have lvs : vs.length = st.length := Paired.length prs
    have lms : ms.length = en.length := by rw [Paired.length prm, List.length_map]
    have lM := len_stM gl
    walk_at "rd"
    refine i_rng (by omega) (by omega) ?_
    rw [Int.toNat_natCast, lms, gl, ← lM]
    refine go_lc walk_rangeZ (fun p i Hy => ∃ ws, SUp p ((stM st en).take i) ws Hy ∧ Same Hx Hy) (fun p np => ⟨[], ⟨upd_same, .nil⟩, same_upd np⟩) (fun _ _ _ _ _ => trivial) (fun sp np i v Hy Hz hi h y => ?_) (fun sp Hy nsp h => ?_)
    · obtain ⟨ws, up, sx⟩ := h
      obtain ⟨rfl, rfl⟩ := y
      have hi : i < (stM st en).length := hi
      have gst : st[i]? = some st[i] := List.getElem?_eq_getElem (by omega)
      generalize st[i] = row at *
      obtain ⟨e0, ge0, gM⟩ := stM_get gl gst
      obtain ⟨vr, gvr, rr, rs, rfl, err, prr⟩ := pairedAt2 prs gst
      have gm : (en.map markE)[i]? = some (markE e0) := by rw [List.getElem?_map, ge0]; rfl
      obtain ⟨vm, gvm, hm⟩ := pairedAt2 prm gm
      have hm := hm.same sx
      have lws : ws.length ≤ 40 := by have := Paired.length up.pr; rw [List.length_take] at this; omega
      rw [List.take_add_one, gM]
      have lrs : rs.length = n := by rw [Paired.length prr]; exact g.row row (List.mem_of_getElem? gst)
      have eppz := sx _ _ epp1
      have eq1z := sx _ _ eq1
      have errz := sx _ _ err
      have empz := sx _ _ emp
      walk_at "rd"
      refine ⟨rfl, i_yes (iteT ?_)⟩
      walk_at "rd"
      refine i_ixLv eq1z (by omega) (by rw [Int.toNat_natCast]; exact gvr) ?_
      walk_at "rd"
      intro cp ncp
      have sc := same_upd (o := HO.lst rs) ncp
      have ec := upd_same (H := Hz) (a := cp) (o := HO.lst rs)
      generalize upd Hz cp (.lst rs) = Hc at *
      walk_at "rd"
      refine i_ixLv (sc _ _ empz) (by omega) (by rw [Int.toNat_natCast]; exact gvm) ?_
      walk_at "rd"
      refine newL0 (Nat.le_of_ble_eq_true rfl) fun dp Hd ndp sd ed => ?_
      refine ⟨cp, dp, rs, [vm], rfl, rfl, sd _ _ ec, ed, Nat.le_of_lt (sm100 (by rw [lrs]; simp only [List.length_cons, List.length_nil]; omega)), fun rp nrp => ?_⟩
      have sr := same_upd (o := HO.lst (rs ++ [vm])) nrp
      have er := upd_same (H := Hd) (a := rp) (o := HO.lst (rs ++ [vm]))
      generalize upd Hd rp (.lst (rs ++ [vm])) = Hu at *
      have su := sc.trans (sd.trans sr)
      have hr : RowAt Hu (.ref rp) (row ++ [markE e0]) := ⟨rp, _, rfl, er, Paired.snoc (Paired.mapP prr fun _ _ z => (z.same sx).same su) (hm.same su)⟩
      have nqp : rp ≠ sp := Ne.symm (ne_of_none ((sc.trans sd) _ _ up.e) nrp)
      exact ⟨ws, su _ _ up.e, sm100 (by omega), _, (up.same su).push hr nqp, Same.set_new (sx.trans su) np⟩
    obtain ⟨ws, up, sy⟩ := h
    rw [List.take_length] at up
    have epp2 := sy _ _ epp1
    walk_at "rd"
    refine newL0 (Nat.le_of_ble_eq_true rfl) fun rp Hz nrp sz ez => ?_
    have s0 := s1.trans (sy.trans sz)
    exact k _ _ s0 ⟨rp, _, _, rfl, ez, (up.same sz).st, ⟨pe, rfl, s0 _ _ epe⟩⟩
theorem ok_wrt (F : Fun K "_law_written" "_law_written" s__law_written f fd) (z : Z mg) : FnOk P w K mg base CX0 1 f fd ["plain", "line"] spWrt := by
  refine F.ok sc__law_written (fun vs H Q E h => ?_) (fun cdv A outer s H vs Q E hr h => ?_)
  · obtain ⟨v, n, st, en, lp, l, rfl, _⟩ := h; rfl
  · obtain ⟨v, n, st, en, lp, l, rfl, ⟨pp, sv, evv, rfl, epp, ⟨ps_, vst, rfl, eps, prs⟩, ⟨pe, rfl, epe⟩⟩, g, elp, ll, ln, k⟩ := h
    refine ⟨_, (pss_cons (ps_asg (pe_tup (pa_cons pe_int (pa_cons (pe_strS (l := []) (by decide +kernel)) pa_nil))) (pg_tup rfl (pgs_cons (pg_name (i := 2) sc__law_written.nd rfl (.inl rfl)) (pgs_cons (pg_name (i := 3) sc__law_written.nd rfl (.inl rfl)) pgs_nil))))
      (pss_cons (ps_for PassesOwn.never rfl (pi_list (pv 1)) (pg_name (i := 4) sc__law_written.nd rfl (.inl rfl))
        (pss_cons (ps_set (i := 5) sc__law_written.nd rfl (.inl rfl) (pe_ix ix_list (pe_ix ix_list (pe_ix ix_list (pv 0) pe_int (fun _ _ => rfl)) (pv 2) (fun _ _ => rfl)) (pv 4) (fun _ _ => rfl)))
        (pss_cons (ps_if (pt_cmpR op_isNo (pv 5) pe_non (nomark _))
          (pss_one (ps_ret pe_non))
          pss_nil)
        (pss_one (ps_par (i := 2) (j := 3) rfl sc__law_written.nd rfl rfl (by decide) rfl rfl (pa_cons (pe_ix ix_tup (pv 5) pe_int (fun _ _ => rfl)) (pa_cons (pe_op op_addS (pv 3) (pe_ix ix_tup (pv 5) pe_int (fun _ _ => rfl))) pa_nil)) (by rfl))))))
      (pss_one (ps_ret (pe_ifExp (pt_cmpR op_isNo (pe_ix ix_list (pe_ix ix_list (pv 0) pe_int (fun _ _ => rfl)) (pv 2) (fun _ _ => rfl)) pe_non (nomark _)) pe_non (pe_op op_addS (pv 3) (pe_ix ix_list (pe_ix ix_list (pv 0) pe_int (fun _ _ => rfl)) (pv 2) (fun _ _ => rfl)))))))), ?_⟩
    walk_at "rd"
    refine newT0 (Nat.le_of_ble_eq_true rfl) fun t0 H1 nt0 s1 et0 => ?_
    have elp1 := s1 _ _ elp
    have epp1 := s1 _ _ epp
    have eps1 := s1 _ _ eps
    have epe1 := s1 _ _ epe
    walk_at "rd"
    refine ⟨⟨_, sqL_of elp1⟩, ?_⟩
    refine go_for (walk_list (xs := l.map iV)) (fun i σ Hx => ∃ (q : Nat) (t : List Nat) (u4 u5 : Option V), σ = [some (.ref pp), some (.ref lp), some (iV q), some (.str (S t)), u4, u5] ∧ runD st 0 [] (l.take i) = some (q, t) ∧ q < st.length ∧ t.length ≤ 3 * i ∧ Hx = H1)
      ⟨0, [], none, none, rfl, by rw [List.take_zero]; rfl, g.s1, by simp, rfl⟩ (fun i σ Hx hi h => by obtain ⟨_, _, _, _, _, _, _, _, rfl⟩ := h; exact sqL_of elp1) (fun i v σ Hx Hy hi h y => ?_) (fun σ Hx h => ?_)
    · obtain ⟨q, t, u4, u5, rfl, run, hq, lt, rfl⟩ := h
      obtain ⟨rfl, hv⟩ := y
      rw [List.length_map] at hi
      have gx : l[i]? = some l[i] := List.getElem?_eq_getElem hi
      rw [List.getElem?_map, gx] at hv
      cases hv
      have hx : l[i] < n := ln _ (List.getElem_mem hi)
      generalize l[i] = x at *
      have gq : st[q]? = some (st.getD q []) := by rw [List.getD_eq_getElem?_getD, List.getElem?_eq_getElem hq]; rfl
      have mq := List.mem_of_getElem? gq
      have lq := g.row _ mq
      have oq := g.ent _ mq
      obtain ⟨vr, gvr, rr, rs, rfl, err, prr⟩ := pairedAt2 prs gq
      have gxr : (st.getD q [])[x]? = some ((st.getD q []).getD x none) := by rw [List.getD_eq_getElem?_getD (l := st.getD q []), List.getElem?_eq_getElem (by rw [lq]; exact hx)]; rfl
      have ox := oq _ (List.mem_of_getElem? gxr)
      obtain ⟨ve, gve, hve⟩ := pairedAt2 prr gxr
      have hve := hve.same s1
      have run' : ∀ e, (st.getD q []).getD x none = e → runD st 0 [] (l.take (i + 1)) = match e with | none => none | some (q2, w) => some (q2, t ++ w) := fun e he => by
        rw [List.take_add_one, gx, runD_app, run]
        simp only [Option.toList, runD]
        rw [he]
        try (cases e <;> rfl)
      generalize (st.getD q []).getD x none = ee at *
      walk_at "rd"
      refine i_ixLv eps1 (by omega) (by rw [Int.toNat_natCast]; exact gvr) ?_
      walk_at "rd"
      refine i_ixLv (s1 _ _ err) (by omega) (by rw [Int.toNat_natCast]; exact gve) ?_
      walk_at "rd"
      rcases ee with _ | ⟨q2, wd⟩
      · cases (show ve = V.non from hve)
        walk_at "rd"
        have e0 : runD st 0 [] l = none := by
          have := run' none rfl
          rw [show l = l.take (i + 1) ++ l.drop (i + 1) by rw [List.take_append_drop], runD_app, this]
        have e1 : writD st en l = none := by unfold writD; rw [e0]
        rw [e1] at k
        exact k _ s1
      · obtain ⟨te, rfl, ete⟩ := hve
        obtain ⟨hq2, az, lw⟩ := ox
        have run2 := run' _ rfl
        have lt2 : t.length ≤ 300 := by omega
        walk_at "rd"
        exact ⟨q2, t ++ wd, _, _, rfl, run2, hq2, by rw [List.length_append]; omega, rfl⟩
    · obtain ⟨q, t, u4, u5, rfl, run, hq, lt, rfl⟩ := h
      rw [List.length_map, List.take_length] at run
      rw [List.length_map] at lt
      have gq : (en.map endV)[q]? = some (endV (en.getD q none)) := by rw [List.getElem?_map, List.getD_eq_getElem?_getD, List.getElem?_eq_getElem (by rw [g.le]; exact hq)]; rfl
      have oe : endOk (en.getD q none) := by
        refine g.enk _ ?_
        rw [List.getD_eq_getElem?_getD, List.getElem?_eq_getElem (by rw [g.le]; exact hq)]; exact List.getElem_mem _
      have ew : writD st en l = match en.getD q none with | none => none | some w => some (t ++ w) := by
        simp only [writD, run]
        try (rcases en.getD q none with _ | w <;> rfl)
      rw [ew] at k
      generalize en.getD q none = ee at *
      have lt2 : t.length ≤ 300 := by omega
      walk_at "rd"
      refine i_ixLv epe1 (by omega) (by rw [Int.toNat_natCast]; exact gq) ?_
      walk_at "rd"
      rcases ee with _ | wd
      · walk_at "rd"
        exact k _ s1
      · walk_at "rd"
        refine i_ixLv epe1 (by omega) (by rw [Int.toNat_natCast]; exact gq) ?_
        walk_at "rd"
        refine i_addS (by have := oe.2; omega) ?_
        exact k _ s1
end
end Sw
namespace Sw
open PySem PySem.Spec PyProof.Rows L2
local macro_rules | `(tactic| walk_at "hp") => `(tactic| first
  | (with_reducible assumption) | (with_reducible exact upd_same)
  | ((with_reducible refine' upd_old ?q1 ?q2); (case q1 => (with_reducible assumption)); (case q2 => walk_at "hp"))
  | ((with_reducible refine' Same.at ?q1 ?q2); (case q1 => (with_reducible assumption)); (case q2 => walk_at "hp"))
  | ((with_reducible refine' upd_skip ?q1 ?q2); (case q1 => walk_at "ne"); (case q2 => walk_at "hp"))
  | fail)
local macro_rules | `(tactic| walk_at "ne") => `(tactic| first
  | (with_reducible assumption) | (with_reducible exact Ne.symm (by assumption))
  | ((with_reducible refine' ne_of_none ?q1 ?q2); (case q2 => (with_reducible assumption)); (case q1 => walk_at "hp"))
  | fail)
local macro_rules | `(tactic| walk_at "ci") => `(tactic| first | assumption | (show (0 : Int) < _; first | decide | (with_reducible omega)) | exact ⟨by decide, by decide⟩ | exact .inl ⟨by decide, by decide⟩ | exact .inr ⟨by decide, by decide⟩)
local macro_rules | `(tactic| walk_at "ln") => `(tactic| first | (with_reducible assumption) | (with_reducible omega) | (simp only [List.length_append, List.length_take, List.length_drop, List.length_reverse, List.length_cons, List.length_nil]; with_reducible omega))
local macro_rules | `(tactic| walk_at "rd1") => `(tactic| first
  | (with_reducible refine i_seq ?_) | (with_reducible refine i_asg ?_) | (with_reducible refine i_ret ?_) | (with_reducible refine i_name ?_) | ((with_reducible refine' i_var ?q1 ?_); (case q1 => exact rfl)) | (with_reducible refine i_c ?_) | (with_reducible refine i_op ?_) | (with_reducible refine i_un ?_)
  | (with_reducible refine i_rI0 ?_) | (with_reducible refine i_cb ?_) | (with_reducible refine i_cons ?_) | (with_reducible refine i_nil ?_) | (with_reducible refine i_call ?_) | (with_reducible refine i_if ?_) | (with_reducible refine i_ifE ?_) | (with_reducible refine i_test ?_) | (with_reducible refine i_bl ?_)
  | (with_reducible refine i_and ?_) | (with_reducible refine i_or ?_) | (with_reducible refine i_not ?_) | (with_reducible refine i_lstM ?_) | (with_reducible refine i_lstLM ?_) | (with_reducible refine i_tupM ?_) | (with_reducible refine i_next ?_) | (with_reducible refine i_drop ?_) | (with_reducible refine i_sub ?_)
  | (with_reducible refine i_bm ?_) | (with_reducible refine i_sl ?_) | (with_reducible refine i_part ?_) | (with_reducible refine i_nopart ?_) | (with_reducible refine i_exI ?_) | (with_reducible refine i_chain ?_) | ((with_reducible refine' i_aug ?q1 ?_); (case q1 => exact rfl)) | (with_reducible refine i_ip ?_)
  | (with_reducible refine i_par ?_) | (with_reducible refine i_pair ?_) | (with_reducible refine i_andV ?_) | (with_reducible refine i_orV ?_) | (with_reducible refine i_notV ?_) | (with_reducible refine i_m1 ?_) | (with_reducible refine i_str ?_)
  | (with_reducible refine iteF ?_) | (with_reducible refine iteT ?_) | (with_reducible refine iteNT ?_) | (with_reducible refine iteNF ?_) | (with_reducible refine i_tyS ?_) | (with_reducible refine i_tB ?_) | (with_reducible refine i_retN ?_) | (with_reducible refine i_par3 ?_) | (with_reducible refine i_trip ?_) | (with_reducible refine i_gCons ?_) | (with_reducible refine i_gNil ?_) | (with_reducible refine i_lstRg ?_) | (with_reducible refine i_rg1 ?_)
  | (with_reducible refine i_lc ?_) | (with_reducible refine i_for ?_) | (with_reducible refine i_iList ?_) | (with_reducible refine i_iTup ?_) | (with_reducible refine i_iStr ?_) | (with_reducible refine i_iRng1 ?_) | (with_reducible refine i_iEnS ?_)
  | ((with_reducible refine' i_ixTH ?q1 ?q2 ?_); (case q1 => walk_at "hp"); (case q2 => exact rfl))
  | ((with_reducible refine' i_ixLH ?q1 ?q2 ?_); (case q1 => walk_at "hp"); (case q2 => exact rfl))
  | ((with_reducible refine i_addS ?q1 ?_); (case q1 => walk_at "ln")) | ((with_reducible refine i_lenSS ?q1 ?_); (case q1 => walk_at "ln")) | ((with_reducible refine i_slFrom ?q1 ?q2 ?_); (case q1 => walk_at "ln"); (case q2 => walk_at "ln")) | ((with_reducible refine i_slTo ?q1 ?q2 ?_); (case q1 => walk_at "ln"); (case q2 => walk_at "ln"))
  | ((with_reducible refine' i_tyL ?q1 ?_); (case q1 => walk_at "hp"))
  | ((with_reducible refine' i_gTupH ?q1 ?q2 ?_); (case q1 => walk_at "hp"); (case q2 => exact rfl))
  | (with_reducible refine i_dnewM ?_) | (with_reducible refine i_init ?_) | (with_reducible refine i_fst ?_) | (with_reducible refine i_mk ?_) | (with_reducible refine i_mkF ?_) | (with_reducible refine i_raise ?_) | (with_reducible refine i_callS ?_) | (with_reducible refine i_kwS ?_)
  | (with_reducible refine i_revT ?_) | (with_reducible refine i_kw ?_) | ((with_reducible refine' ⟨_, _, rfl, sqT_of ?q1, ?_⟩); (case q1 => walk_at "hp"))
  | (with_reducible refine i_revS ?_) | ((with_reducible refine i_revSS ?q1 ?_); (case q1 => walk_at "ln"))
  | (with_reducible refine i_startS ?_) | (with_reducible refine i_inSg ?_) | (with_reducible refine i_absN ?_) | (with_reducible refine i_min2 ?_) | (with_reducible refine i_max2 ?_) | (with_reducible refine i_min3 ?_) | (with_reducible refine i_intN ?_) | (with_reducible refine i_intNB ?_)
  | ((with_reducible refine' i_lenL ?q1 ?_); (case q1 => walk_at "hp")) | ((with_reducible refine' i_lenT ?q1 ?_); (case q1 => walk_at "hp"))
  | (with_reducible refine i_eqI ?_) | (with_reducible refine i_neI ?_) | (with_reducible refine i_eqS ?_) | (with_reducible refine i_neS ?_) | (with_reducible refine i_isNoI ?_) | (with_reducible refine i_isNoN ?_) | (with_reducible refine i_isNoR ?_)
  | ((with_reducible refine i_pow ?q1 ?q2 ?q3 ?_); (case q1 => decide); (case q2 => decide); (case q3 => (with_reducible omega)))
  | ((with_reducible refine i_rI ?q1 ?_); (case q1 => walk_at "ci"))
  | (with_reducible refine Or.inl ⟨_, rfl, ?_⟩) | (with_reducible refine Or.inr ⟨_, rfl, ?_⟩) | (with_reducible refine ⟨_, rfl, ?_⟩) | (with_reducible refine ⟨_, _, rfl, ?_⟩) | (with_reducible refine ⟨_, _, rfl, rfl, ?_⟩)
  | ((with_reducible refine' ⟨_, _, rfl, Or.inl (sqL_of ?q1), ?_⟩); (case q1 => walk_at "hp")) | ((with_reducible refine' ⟨_, _, rfl, Or.inr (sqT_of ?q1), ?_⟩); (case q1 => walk_at "hp")) | (with_reducible refine i_dget ?_) | (with_reducible refine i_disp1T ?_) | (with_reducible refine i_dcT ?_) | (with_reducible refine i_dnewT ?_) | (with_reducible refine i_fld ?_) | (with_reducible refine i_sFld ?_) | (with_reducible refine i_make ?_) | (with_reducible refine i_meth ?_) | (with_reducible refine i_star ?_) | (with_reducible refine i_isNoS ?_) | (with_reducible refine i_lc2 ?_) | (with_reducible refine i_iEnT ?_) | (with_reducible refine i_iZipT ?_) | fail)
local macro_rules | `(tactic| walk_at "rd") => `(tactic| repeat' walk_at "rd1")

theorem dp_of {K : PySem.W.Frag} {H : Hp} : ∀ {vs : List V} {ds : List PyData}, DeAll K H vs ds → (∀ y ∈ ds, y.hasDict = false) → DpAll K H vs ds
  | _, _, .nil, _ => .nil
  | _, _, .cons h1 h2, z => .cons (h1.dp (z _ List.mem_cons_self)) (dp_of h2 fun y hy => z y (List.mem_cons_of_mem _ hy))
theorem eqvAll_nil (ds : List PyData) : PyData.eqvAll ds [] = ds.isEmpty := by cases ds <;> simp [PyData.eqvAll]
theorem i_eqL {K : PySem.W.Frag} {H : Hp} {a b : Addr} {vs : List V} {ds : List PyData} {n w : Nat} {Q : VK} (h1 : H a = some (.lst vs)) (h2 : DeAll K H vs ds) (h3 : H b = some (.lst [])) (s : SdAll n w ds) (z : ∀ y ∈ ds, y.hasDict = false) (k : Q (.bl ds.isEmpty) H) (hn : n ≤ 50 := by omega) : rEqD K (.ref a) (.ref b) H Q := by
  refine ⟨.list ds, .list [], .lst (sqL_of h1) (dp_of h2 z), .lst (sqL_of h3) .nil, (sd_lst' s).shaped (by omega) ?_, (sd_lst' (n := 0) SdAll.nil).shaped (by omega) (by simp [PyData.hasDict, PyData.hasDictAll]), ?_⟩
  · have := hasDict_tup.mpr z
    simpa only [PyData.hasDict] using this
  · rw [show PyData.eqv (.list ds) (.list []) = ds.isEmpty by simp only [PyData.eqv]; exact eqvAll_nil ds]; exact k
theorem ints_sd {l : List Nat} (h : ∀ n ∈ l, n < 500) : SdAll 0 (l.length * 10) (l.map fun (n : Nat) => PyData.int (n : Int)) := by
  have := sd_all (n := 0) (w := 9) (ds := l.map fun (n : Nat) => PyData.int (n : Int)) fun d hd => by
    obtain ⟨s, hs, rfl⟩ := List.mem_map.mp hd
    exact sd_int9 (by have := h s hs; omega)
  rwa [List.length_map] at this
theorem ints_flat {l : List Nat} : ∀ y ∈ l.map (fun (n : Nat) => PyData.int (n : Int)), y.hasDict = false := fun y hy => by
  obtain ⟨s, _, rfl⟩ := List.mem_map.mp hy
  rfl
theorem i_eqLi {K : PySem.W.Frag} {H : Hp} {a b : Addr} {l : List Nat} {Q : VK} (h1 : H a = some (.lst (l.map iV))) (h3 : H b = some (.lst [])) (h : ∀ n ∈ l, n < 500) (k : Q (.bl l.isEmpty) H) : rEqD K (.ref a) (.ref b) H Q :=
  i_eqL h1 (ints_de l) h3 (ints_sd h) ints_flat (by rw [show (l.map fun (n : Nat) => PyData.int (n : Int)).isEmpty = l.isEmpty by cases l <;> rfl]; exact k)
theorem SB.fresh {b a : Addr} {H H1 : Hp} (s : SB b H H1) (ne : a ≠ b) (n : H1 a = none) : H a = none := by
  rcases e : H a with _ | o
  · rfl
  · have := s _ _ ne e
    rw [n] at this
    cases this
theorem cond_orH {c0 : Bool} {t : L2.St → Hp → (Bool → Hp → Prop) → Prop} {σ : L2.St} {H : Hp} {R : Bool → Hp → Prop} (P : Bool → Hp → Prop) (h1 : ∀ R' : Bool → Hp → Prop, (∀ c H', P c H' → R' c H') → if c0 = true then R' true H else t σ H R') (h2 : ∀ c H', P c H' → R c H') : if c0 = true then R true H else t σ H R := h1 R h2
/-- _law_line(box, plain, most) -/
def spLineB : Sp := fun vs H Q _ => ∃ (b : Addr) (v : V) (n M : Nat) (st : List (List Ent)) (en : List (Option (List Nat))) (d : Int), vs = [.ref b, v, iV M] ∧ PlnAt (L2.del H b) v n st en ∧ Good n st en ∧ M ≤ 4 ∧ BoxAt H b d ∧ d + 20 ≤ 1000000 ∧
  ∀ lp (l : List Nat) H', H lp = none → L2.del H' b lp = some (.lst (l.map iV)) → l.length ≤ M → (∀ x ∈ l, x < n) → BoxAt H' b (d + 20) → SB b H H' → Q (.ref lp) H'
section
variable {P : Program} {w : World} {K : PySem.W.Frag} {mg : Str → Option Value} {base : Heap} {f : Addr} {fd : FuncData}
theorem ok_lline (F : Fun K "_law_line" "_law_line" s__law_line f fd) (z : Z mg) (c__law_take : Cal P w K mg base "_law_take" ["box", "many"] 1 spTake) : FnOk P w K mg base CX0 2 f fd ["box", "plain", "most"] spLineB := by
  refine F.ok sc__law_line (fun vs H Q E h => ?_) (fun cdv A outer s H vs Q E hr h => ?_)
  · obtain ⟨b, v, n, M, st, en, d, rfl, _⟩ := h; rfl
  · obtain ⟨b, v, n, M, st, en, d, rfl, ⟨pp, sv, evv, rfl, epp, ⟨ps_, vst, rfl, eps, prs⟩, _⟩, g, m4, B, hd, k⟩ := h
    refine ⟨_, (pss_cons (ps_asg (pe_tup (pa_cons (pe_lst pa_nil) (pa_cons pe_int pa_nil))) (pg_tup rfl (pgs_cons (pg_name (i := 3) sc__law_line.nd rfl (.inl rfl)) (pgs_cons (pg_name (i := 4) sc__law_line.nd rfl (.inr rfl)) pgs_nil))))
      (pss_cons (ps_for PassesOwn.never rfl (pi_range1 (by rfl) z.range (pa_cons (pe_cal c__law_take hr (pa_cons (pv 0) (pa_cons (pe_op op_add (pv 2) pe_int) pa_nil))) pa_nil)) (pg_name (i := 5) sc__law_line.nd rfl (.inl rfl))
        (pss_cons (ps_setLc (i := 6) (own := [("sign", 7)]) (g := gName 7) (tt := _) rfl sc__law_line.nd rfl rfl (sw_true rfl rfl rfl (by decide +kernel)) (pi_range1 (by rfl) z.range (pa_cons (pe_ix ix_list (pv 1) pe_int (fun _ _ => rfl)) pa_nil)) (blkOk_by (own := [("sign", 7)]) (N := n__law_line) (sc := defScope s__law_line) (by decide +kernel)) (fun _ _ _ _ _ => (pg_name (i := 7) sc__law_line.nd rfl (.inl rfl))) (fun _ _ _ _ _ => (pts_one (pt_cmpR op_notN (pe_ix (r := rIxL K) ix_list (pe_ix (r := rIxL K) ix_list (pe_ix (r := rIxL K) ix_list (pv 1) pe_int (fun _ _ => rfl)) (pv 4) (fun _ _ => rfl)) (pv 7) (fun _ _ => rfl)) pe_non (nomark _)))) (fun _ _ _ _ _ => (pv 7)))
        (C8.pss_cut (ps_if (PW.pt (pw_or (pt_cmpR (op_eqD hr.units) (pv 6) (pe_lst pa_nil) (nomark _)) (pw_or1 (pt_cmpR op_eq (pe_cal c__law_take hr (pa_cons (pv 0) (pa_cons pe_int pa_nil))) pe_int (nomark _)))))
          (pss_one (ps_expr (pe_bm PySem.F.plainAttrs_list PySem.F.slot_list_append PySem.F.type_list_append mt_append (pv 3) (pa_cons (pe_cal c__law_take hr (pa_cons (pv 0) (pa_cons (pe_ix ix_list (pv 1) pe_int (fun _ _ => rfl)) pa_nil))) pa_nil))))
          (pss_one (ps_expr (pe_bm PySem.F.plainAttrs_list PySem.F.slot_list_append PySem.F.type_list_append mt_append (pv 3) (pa_cons (pe_ix ix_list (pv 6) (pe_cal c__law_take hr (pa_cons (pv 0) (pa_cons (pe_callB call_lenQ (by rfl) z.len PySem.boot_len (pa_cons (pv 6) pa_nil)) pa_nil))) (fun _ _ => rfl)) pa_nil)))))
        (pss_cons (ps_set (i := 8) sc__law_line.nd rfl (.inl rfl) (pe_ix ix_list (pe_ix ix_list (pe_ix ix_list (pv 1) pe_int (fun _ _ => rfl)) (pv 4) (fun _ _ => rfl)) (pe_ix ix_list (pv 3) (pe_un un_neg pe_int) (fun _ _ => rfl)) (fun _ _ => rfl)))
        (pss_one (ps_set (i := 4) sc__law_line.nd rfl (.inr rfl) (pe_ifExp (pt_cmpR op_isNo (pv 8) pe_non (nomark _)) (pv 4) (pe_ix ix_tup (pv 8) pe_int (fun _ _ => rfl)))))))))
      (pss_one (ps_ret (pv 3))))), ?_⟩
    have n5 := g.n5
    have n1 := g.n1
    walk_at "rd"
    refine newLn B (Nat.le_of_ble_eq_true rfl) fun lp H1' flp nlp B1' s1' e1' t1' => ?_
    walk_at "rd"
    refine newT B1' (Nat.le_of_ble_eq_true rfl) fun tt H1 B1 s1'' e1'' t1'' => ?_
    have e1 := s1'' _ _ e1'
    have t1 := t1'.trans t1''
    have ett := del_sub _ _ e1''
    walk_at "rd"
    refine ⟨b, (M : Int) + 1, _, rfl, B1, by omega, by omega, by omega, fun r H2 r0 r1 B2 s2 => ?_⟩
    walk_at "rd"
    refine i_rng (by omega) (by omega) ?_
    refine go_for walk_rangeZ (fun i σ Hx => ∃ (u5 u6 u7 u8 : Option V) (l : List Nat) (q : Nat), σ = [some (.ref b), some (.ref pp), some (iV M), some (.ref lp), some (iV q), u5, u6, u7, u8] ∧ L2.del Hx b lp = some (.lst (l.map iV)) ∧ l.length = i ∧ (∀ x ∈ l, x < n) ∧ q < st.length ∧ BoxAt Hx b (d + 1 + 2 * i) ∧ SB b H Hx)
      ⟨_, _, _, _, [], 0, rfl, (del_sb s2) _ _ e1, rfl, nofun, g.s1, B2.mono (by omega), (SB.of t1).trans s2⟩ (fun _ _ _ _ _ => trivial) (fun i v σ Hx Hy hi h y => ?_) (fun σ Hx h => ?_)
    · obtain ⟨u5, u6, u7, u8, l, q, rfl, elp, ll, ln, hq, Bx, sx⟩ := h
      obtain ⟨rfl, rfl⟩ := y
      have hi4 : i < 4 := by omega
      have dz := del_sb sx
      have eppz := del_sub _ _ (dz _ _ epp)
      have epsz := del_sub _ _ (dz _ _ eps)
      have gq : st[q]? = some (st.getD q []) := by rw [List.getD_eq_getElem?_getD, List.getElem?_eq_getElem hq]; rfl
      have mq := List.mem_of_getElem? gq
      have lq := g.row _ mq
      obtain ⟨vr, gvr, rr, rs, rfl, err, prr⟩ := pairedAt2 prs gq
      have errz := del_sub _ _ (dz _ _ err)
      walk_at "rd"
      refine i_rng (by omega) (by omega) ?_
      rw [Int.toNat_natCast]
      refine go_lc walk_rangeZ (fun p x Hu => ∃ ss : List Nat, Hu p = some (.lst (ss.map iV)) ∧ (∀ y ∈ ss, y < n) ∧ ss.length ≤ x ∧ Same Hy Hu) (fun p np => ⟨[], upd_same, nofun, by simp, same_upd np⟩) (fun _ _ _ _ _ => trivial) (fun p np x v Hu Hv hx h y => ?_) (fun sp Hu nsp h => ?_)
      · obtain ⟨ss, ess, hss, lss, su⟩ := h
        obtain ⟨rfl, rfl⟩ := y
        have hx : x < n := hx
        have gx : (st.getD q [])[x]? = some ((st.getD q []).getD x none) := by rw [List.getD_eq_getElem?_getD (l := st.getD q []), List.getElem?_eq_getElem (by rw [lq]; exact hx)]; rfl
        obtain ⟨ve, gve, hve⟩ := pairedAt2 prr gx
        have hve := EntAt.same su (EntAt.same del_sub (EntAt.same dz hve))
        have eppu := su _ _ eppz
        have epsu := su _ _ epsz
        have erru := su _ _ errz
        walk_at "rd"
        refine ⟨rfl, ?_⟩
        walk_at "rd"
        refine i_ixLv epsu (by omega) (by rw [Int.toNat_natCast]; exact gvr) ?_
        walk_at "rd"
        refine i_ixLv erru (by omega) (by rw [Int.toNat_natCast]; exact gve) ?_
        walk_at "rd"
        rcases e : (st.getD q []).getD x none with _ | ⟨q', wd⟩
        · rw [e] at hve
          cases (show ve = V.non from hve)
          refine ⟨rfl, _, rfl, ?_⟩
          rw [decide_eq_true (show V.non = V.non from rfl)]
          walk_at "rd"
          exact ⟨ss, ess, hss, by omega, su⟩
        · rw [e] at hve
          obtain ⟨te, rfl, ete⟩ := hve
          refine ⟨rfl, _, rfl, ?_⟩
          rw [decide_eq_false (show ¬ V.ref te = V.non from fun e => by cases e)]
          walk_at "rd"
          refine ⟨_, ess, sm100 (by rw [List.length_map]; omega), ss ++ [x], by rw [upd_same, List.map_append]; rfl, fun y hy => ?_, by rw [List.length_append, List.length_singleton]; omega, Same.set_new su np⟩
          rcases List.mem_append.mp hy with hy | hy
          · exact hss y hy
          · rw [List.mem_singleton.mp hy]; exact hx
      obtain ⟨ss, ess, hss, lss, su⟩ := h
      have Bu := Bx.same su
      have nspb := box_ne Bx nsp
      have s500 : ∀ y ∈ ss, y < 500 := fun y hy => by have := hss y hy; omega
      have sdu : Same (L2.del Hy b) (L2.del Hu b) := del_sb (SB.of su)
      have lspn : sp ≠ lp := Ne.symm (ne_of_none (del_sub _ _ elp) nsp)
      walk_at "rd"
      refine i_cut (fun σ' H' => ∃ x : Nat, σ' = [some (.ref b), some (.ref pp), some (iV M), some (.ref lp), some (iV q), some (iV i), some (.ref sp), u7, u8] ∧ x < n ∧ L2.del H' b lp = some (.lst ((l ++ [x]).map iV)) ∧ BoxAt H' b (d + 1 + 2 * ((i + 1 : Nat) : Int)) ∧ SB b H H') ?_ (fun σ' H6 hm => ?_)
      · walk_at "rd"
        refine newL Bu (Nat.le_of_ble_eq_true rfl) fun e0 H5 B5 s5 e5 t5 => ?_
        refine i_eqLi (t5 _ _ ess) (del_sub _ _ e5) s500 ?_
        have ess5 := t5 _ _ ess
        have s05 : SB b H H5 := sx.trans ((SB.of su).trans (SB.of t5))
        have elp5 := (sdu.trans s5) _ _ elp
        have epp5 := (su.trans t5) _ _ eppz
        refine ⟨_, rfl, ?_⟩
        have fin : ∀ (x : Nat) (H' : Hp), x < n → L2.del H' b lp = some (.lst (l.map iV)) → BoxAt H' b (d + 1 + 2 * ((i + 1 : Nat) : Int)) → SB b H H' → ∃ x' : Nat, ([some (.ref b), some (.ref pp), some (iV M), some (.ref lp), some (iV q), some (iV i), some (.ref sp), u7, u8] : L2.St) = [some (.ref b), some (.ref pp), some (iV M), some (.ref lp), some (iV q), some (iV i), some (.ref sp), u7, u8] ∧ x' < n ∧ L2.del (L2.upd H' lp (.lst (l.map iV ++ [iV x]))) b lp = some (.lst ((l ++ [x']).map iV)) ∧ BoxAt (L2.upd H' lp (.lst (l.map iV ++ [iV x]))) b (d + 1 + 2 * ((i + 1 : Nat) : Int)) ∧ SB b H (L2.upd H' lp (.lst (l.map iV ++ [iV x]))) :=
          fun x H' hx e' B' s' => ⟨x, rfl, hx, by rw [del_upd nlp, upd_same, List.map_append]; rfl, B'.upd_ne' nlp, SB.set_new s' flp⟩
        refine cond_orH (fun c H' => (c = false → ss ≠ []) ∧ BoxAt H' b (d + 2 + 2 * i) ∧ SB b H5 H') (fun R' kR => ?_) (fun c H7 hc => ?_)
        · rcases ess0 : ss with _ | ⟨y0, ys⟩
          · refine iteT ?_
            exact kR _ _ ⟨nofun, B5.mono (by omega), SB.refl _⟩
          · refine iteF ?_
            walk_at "rd"
            refine ⟨b, 12, _, rfl, B5, by omega, by omega, by omega, fun x H6 x0 x1 B6 s6 => ?_⟩
            walk_at "rd"
            exact kR _ _ ⟨fun _ => (by rw [ess0]; simp), B6.mono (by omega), s6⟩
        obtain ⟨hne, B7, s7⟩ := hc
        have elp7 := (del_sb s7) _ _ elp5
        have elp7f := del_sub _ _ elp7
        have npb : pp ≠ b := fun c => by rw [c, L2.del_same] at epp; cases epp
        have epp7 := s7 _ _ npb epp5
        have ess7 := s7 _ _ nspb ess5
        have s07 := s05.trans s7
        refine iteC (fun c => ?_) (fun c => ?_)
        · walk_at "rd"
          refine ⟨b, n, _, rfl, B7, by omega, by omega, by omega, fun x H8 x0 x1 B8 s8 => ?_⟩
          obtain ⟨x, rfl⟩ : ∃ y : Nat, x = y := ⟨x.toNat, by omega⟩
          have elp8 := (del_sb s8) _ _ elp7
          walk_at "rd"
          refine i_append (del_sub _ _ elp8) (sm100 (by rw [List.length_map]; omega)) ?_
          exact fin x H8 (by omega) elp8 (B8.mono (by omega)) (s07.trans s8)
        · have l1 : 1 ≤ ss.length := by
            rcases ss with _ | ⟨y0, ys⟩
            · exact (hne c rfl).elim
            · simp
          walk_at "rd"
          rw [List.length_map]
          refine ⟨b, (ss.length : Int), _, rfl, B7, by omega, by omega, by omega, fun x H8 x0 x1 B8 s8 => ?_⟩
          have lx : x.toNat < ss.length := by omega
          have gx : (ss.map iV)[x.toNat]? = some (iV ss[x.toNat]) := by rw [List.getElem?_map, List.getElem?_eq_getElem lx]; rfl
          refine i_ixLv (s8 _ _ nspb ess7) x0 gx ?_
          have elp8 := (del_sb s8) _ _ elp7
          walk_at "rd"
          refine i_append (del_sub _ _ elp8) (sm100 (by rw [List.length_map]; omega)) ?_
          exact fin _ H8 (hss _ (List.getElem_mem lx)) elp8 (B8.mono (by omega)) (s07.trans s8)
      obtain ⟨x, rfl, hx, el6, B6, s6⟩ := hm
      have d6 := del_sb s6
      have epp6 := del_sub _ _ (d6 _ _ epp)
      have eps6 := del_sub _ _ (d6 _ _ eps)
      have err6 := del_sub _ _ (d6 _ _ err)
      have el6f := del_sub _ _ el6
      have gx : (st.getD q [])[x]? = some ((st.getD q []).getD x none) := by rw [List.getD_eq_getElem?_getD (l := st.getD q []), List.getElem?_eq_getElem (by rw [lq]; exact hx)]; rfl
      obtain ⟨ve, gve, hve⟩ := pairedAt2 prr gx
      have hve := EntAt.same del_sub (EntAt.same d6 hve)
      have oe := g.ent _ mq _ (List.mem_of_getElem? gx)
      have lnx : ∀ y ∈ l ++ [x], y < n := fun y hy => by
        rcases List.mem_append.mp hy with hy | hy
        · exact ln y hy
        · rw [List.mem_singleton.mp hy]; exact hx
      generalize (st.getD q []).getD x none = ee at *
      walk_at "rd"
      refine i_ixLv eps6 (by omega) (by rw [Int.toNat_natCast]; exact gvr) ?_
      walk_at "rd"
      refine i_rU ?_
      refine i_ixLH el6f (atI_neg1 (n := i) (by rw [List.length_map, List.length_append, ll]; rfl) (by rw [List.getElem?_map, List.getElem?_append_right (by omega), ll, Nat.sub_self]; rfl)) ?_
      refine i_ixLv err6 (by omega) (by rw [Int.toNat_natCast]; exact gve) ?_
      walk_at "rd"
      rcases ee with _ | ⟨q2, wd⟩
      · cases (show ve = V.non from hve)
        walk_at "rd"
        exact ⟨_, _, _, _, l ++ [x], q, rfl, el6, by rw [List.length_append, ll]; rfl, lnx, hq, B6, s6⟩
      · obtain ⟨te, rfl, ete⟩ := hve
        walk_at "rd"
        exact ⟨_, _, _, _, l ++ [x], q2, rfl, el6, by rw [List.length_append, ll]; rfl, lnx, oe.1, B6, s6⟩
    · obtain ⟨u5, u6, u7, u8, l, q, rfl, elp, ll, ln, hq, Bx, sx⟩ := h
      walk_at "rd"
      exact k lp l _ flp elp (by omega) ln (Bx.mono (by omega)) sx
end
end Sw
namespace Sw
open PySem PySem.Spec PyProof.Rows L2
/-! ### lines with markers are written as their parts -/
section
variable {st : List (List Ent)} {en : List (Option (List Nat))} {n m : Nat}
theorem runD_pre (u : List Nat) : ∀ (l : List Nat) (q : Nat) (t : List Nat), runD st q (u ++ t) l = (runD st q t l).map fun x => (x.1, u ++ x.2)
  | [], q, t => rfl
  | x :: l, q, t => by
    simp only [runD]
    rcases (st.getD q []).getD x none with _ | ⟨q2, w⟩
    · rfl
    · simp only []
      rw [List.append_assoc]
      exact runD_pre u l q2 (t ++ w)
theorem writ_end (l : List Nat) : writD st en l = endR en (runD st 0 [] l) := by
  unfold writD
  rcases runD st 0 [] l with _ | ⟨q, t⟩
  · rfl
  · simp only [endR]
    try (rcases en.getD q none with _ | w <;> rfl)
theorem stM_row (g : Good n st en) {q : Nat} (hq : q < st.length) : (stM st en).getD q [] = st.getD q [] ++ [markE (en.getD q none)] ∧ (st.getD q []).length = n := by
  have gq : st[q]? = some (st.getD q []) := by rw [List.getD_eq_getElem?_getD, List.getElem?_eq_getElem hq]; rfl
  obtain ⟨e, h1, h2⟩ := stM_get g.le gq
  exact ⟨by rw [List.getD_eq_getElem?_getD (l := stM st en), h2, List.getD_eq_getElem?_getD (l := en), h1]; rfl, g.row _ (List.mem_of_getElem? gq)⟩
theorem stM_low (g : Good n st en) {q x : Nat} (hq : q < st.length) (hx : x < n) : ((stM st en).getD q []).getD x none = (st.getD q []).getD x none := by
  obtain ⟨h1, h2⟩ := stM_row g hq
  rw [h1, List.getD_eq_getElem?_getD, List.getElem?_append_left (by omega), ← List.getD_eq_getElem?_getD]
theorem stM_top (g : Good n st en) {q : Nat} (hq : q < st.length) : ((stM st en).getD q []).getD n none = markE (en.getD q none) := by
  obtain ⟨h1, h2⟩ := stM_row g hq
  rw [h1, List.getD_eq_getElem?_getD, List.getElem?_append_right (by omega), h2, Nat.sub_self]; rfl
theorem runM (g : Good n st en) : ∀ (l : List Nat) (q : Nat) (t : List Nat), q < st.length → (∀ x ∈ l, x < n) → runD (stM st en) q t l = runD st q t l
  | [], q, t, _, _ => rfl
  | x :: l, q, t, hq, hl => by
    simp only [runD]
    rw [stM_low g hq (hl x List.mem_cons_self)]
    rcases e : (st.getD q []).getD x none with _ | ⟨q2, w⟩
    · rfl
    · exact runM g l q2 _ (ent_get g hq e).1 fun y hy => hl y (List.mem_cons_of_mem _ hy)
def joinT : List (Option (List Nat)) → Option (List Nat)
  | [] => some []
  | none :: _ => none
  | some w :: ts => (joinT ts).map fun u => w ++ u
theorem joinT_none {ts : List (Option (List Nat))} (h : none ∈ ts) : joinT ts = none := by
  induction ts with
  | nil => cases h
  | cons o ts ih =>
    rcases o with _ | w
    · rfl
    · simp only [joinT]
      rw [ih (by simpa using h)]; rfl
theorem joinT_some {ts : List (Option (List Nat))} (h : none ∉ ts) : joinT ts = some ((ts.map fun o => o.getD []).flatten) := by
  induction ts with
  | nil => rfl
  | cons o ts ih =>
    rcases o with _ | w
    · exact (h List.mem_cons_self).elim
    · simp only [joinT]
      rw [ih fun c => h (List.mem_cons_of_mem _ c)]; rfl
theorem runM_parts (g : Good n st en) : ∀ (ps : List (List Nat)) (p : List Nat) (q : Nat) (t : List Nat), q < st.length → azW t → (∀ x ∈ p, x < n) → (∀ p ∈ ps, ∀ x ∈ p, x < n) →
    endR en (runD (stM st en) q t (p ++ (ps.map fun p => n :: p).flatten)) = match endR en (runD st q t p) with
      | none => none
      | some u => (joinT (ps.map (writD st en))).map fun w => u ++ w
  | [], p, q, t, hq, az, hp, _ => by
    rw [List.map_nil, List.flatten_nil, List.append_nil, runM g p q t hq hp, List.map_nil]
    rcases endR en (runD st q t p) with _ | u
    · rfl
    · simp only [joinT, Option.map, List.append_nil]
  | p1 :: ps, p, q, t, hq, az, hp, hps => by
    rw [List.map_cons, List.flatten_cons, runD_app, runM g p q t hq hp]
    rcases e : runD st q t p with _ | ⟨q2, t2⟩
    · rfl
    · obtain ⟨hq2, az2, _⟩ := runD_ok g p q t hq az q2 t2 e
      have hR : endR en (some (q2, t2)) = match en.getD q2 none with | none => none | some w => some (t2 ++ w) := rfl
      have hL : runD (stM st en) q2 t2 (n :: (p1 ++ (ps.map fun p => n :: p).flatten)) = match markE (en.getD q2 none) with | none => none | some (q', w) => runD (stM st en) q' (t2 ++ w) (p1 ++ (ps.map fun p => n :: p).flatten) := by
        rw [← stM_top g hq2]; rfl
      rw [hR]
      show endR en (runD (stM st en) q2 t2 (n :: (p1 ++ (ps.map fun p => n :: p).flatten))) = _
      rw [hL]
      rcases e2 : en.getD q2 none with _ | w
      · rfl
      · show endR en (runD (stM st en) 0 (t2 ++ w) (p1 ++ (ps.map fun p => n :: p).flatten)) = (joinT ((p1 :: ps).map (writD st en))).map fun u => (t2 ++ w) ++ u
        have azw : azW (t2 ++ w) := fun c hc => by
          have oe : endOk (some w) := by
            rw [← e2]
            refine g.enk _ ?_
            rw [List.getD_eq_getElem?_getD, List.getElem?_eq_getElem (by rw [g.le]; exact hq2)]; exact List.getElem_mem _
          rcases List.mem_append.mp hc with hc | hc
          · exact az2 c hc
          · exact oe.1 c hc
        rw [runM_parts g ps p1 0 (t2 ++ w) g.s1 azw (hps p1 List.mem_cons_self) fun p hp => hps p (List.mem_cons_of_mem _ hp)]
        have h1 := runD_pre (st := st) (t2 ++ w) p1 0 []
        rw [List.append_nil] at h1
        rw [h1, List.map_cons, writ_end]
        rcases runD st 0 [] p1 with _ | ⟨q3, t3⟩
        · rfl
        · simp only [Option.map, endR]
          rcases en.getD q3 none with _ | w3
          · rfl
          · simp only [joinT]
            rcases joinT (ps.map (writD st en)) with _ | u
            · rfl
            · simp only [Option.map, List.append_assoc]
theorem writ_parts (g : Good n st en) {p : List Nat} {ps : List (List Nat)} (h : ∀ q ∈ p :: ps, ∀ x ∈ q, x < n) : writD (stM st en) en (((p :: ps).map fun p => n :: p).flatten.drop 1) = joinT ((p :: ps).map (writD st en)) := by
  rw [writ_end, List.map_cons, List.flatten_cons, List.cons_append, List.drop_succ_cons, List.drop_zero, runM_parts g ps p 0 [] g.s1 (fun c hc => by cases hc) (h p List.mem_cons_self) fun q hq => h q (List.mem_cons_of_mem _ hq), ← writ_end, List.map_cons]
  rcases writD st en p with _ | u <;> rfl
/-! ### passings through blocks with checks -/
theorem readB_snoc {B : List Nat} {c : Nat} (hB : B.length = m) : ∀ (k : Nat) (l : List Nat) (q : Nat) (t : List Nat), l.length = k * (m + 1) →
    readB st n m (k + 1) q t (l ++ (B ++ [c])) = match readB st n m k q t l with
      | none => none
      | some (q1, t1) => match runD st q1 t1 B with
        | none => none
        | some (q2, t2) => if c = B.sum % n then some (q2, t2) else none
  | 0, l, q, t, hl => by
    have : l = [] := List.length_eq_zero_iff.mp (by simpa using hl)
    subst this
    have h1 : (B ++ [c]).take m = B := by rw [← hB, List.take_left]
    have h2 : (B ++ [c]).getD m 0 = c := by rw [List.getD_eq_getElem?_getD, List.getElem?_append_right (by omega), hB, Nat.sub_self]; rfl
    simp only [readB, List.nil_append]
    simp only [h1, h2]
    try (rcases runD st q t B with _ | ⟨q2, t2⟩ <;> rfl)
  | k + 1, l, q, t, hl => by
    have hlm : m + 1 ≤ l.length := by rw [hl, Nat.add_mul]; omega
    have h1 : (l ++ (B ++ [c])).take m = l.take m := List.take_append_of_le_length (by omega)
    have h2 : (l ++ (B ++ [c])).getD m 0 = l.getD m 0 := by rw [List.getD_eq_getElem?_getD, List.getElem?_append_left (by omega), ← List.getD_eq_getElem?_getD]
    have h3 : (l ++ (B ++ [c])).drop (m + 1) = l.drop (m + 1) ++ (B ++ [c]) := List.drop_append_of_le_length hlm
    have hr : ∀ l' : List Nat, readB st n m (k + 1 + 1) q t l' = (match runD st q t (l'.take m) with | none => none | some (q', t') => if l'.getD m 0 = (l'.take m).sum % n then readB st n m (k + 1) q' t' (l'.drop (m + 1)) else none) := fun _ => rfl
    have hs : readB st n m (k + 1) q t l = (match runD st q t (l.take m) with | none => none | some (q', t') => if l.getD m 0 = (l.take m).sum % n then readB st n m k q' t' (l.drop (m + 1)) else none) := rfl
    rw [hr, hs]
    simp only [h1, h2, h3]
    rcases runD st q t (l.take m) with _ | ⟨q2, t2⟩
    · rfl
    · by_cases c1 : l.getD m 0 = (l.take m).sum % n
      · simp only [if_pos c1]
        exact readB_snoc hB k (l.drop (m + 1)) q2 t2 (by rw [List.length_drop, hl, Nat.add_mul]; omega)
      · simp only [if_neg c1]
theorem mod_cancel {a b c : Nat} : (a + c) % n = (b + c) % n ↔ a % n = b % n := by
  have := Int.emod_add_cancel_right (m := (a : Int)) (n := (n : Int)) (k := (b : Int)) (c : Int)
  exact_mod_cast this
/-- what is read so far: blocks as they were sent, as they came -/
structure Exch (st : List (List Ent)) (n m : Nat) (al : Bool) (spot i : Nat) (L1 L2 C O : List Nat) : Prop where
  l1 : L1.length = i * (m + 1)
  l2 : L2.length = i * (m + 1)
  r1 : readB st n m i 0 [] L1 = runD st 0 [] C
  r2 : readB st n m i 0 [] L2 = if al = true ∧ spot < i ∧ C.sum % n ≠ O.sum % n then none else runD st 0 [] O
  e : i ≤ spot → C = O
theorem Exch.zero {al : Bool} {spot : Nat} : Exch st n m al spot 0 [] [] [] [] := ⟨by simp, by simp, rfl, by rw [if_neg (by simp)]; rfl, fun _ => rfl⟩
theorem runD_two {C B : List Nat} : (match runD st 0 [] C with
      | none => none
      | some (q1, t1) => match runD st q1 t1 B with
        | none => none
        | some (q2, t2) => some (q2, t2)) = runD st 0 [] (C ++ B) := by
  rw [runD_app]
  rcases runD st 0 [] C with _ | ⟨q, t⟩
  · rfl
  · simp only []
    rcases runD st q t B with _ | ⟨q2, t2⟩ <;> rfl
theorem Exch.step {al : Bool} {spot i : Nat} {L1 L2 C O B F : List Nat} (h : Exch st n m al spot i L1 L2 C O) (hB : B.length = m) (hF : F.length = m) (hf : i ≠ spot → F = B) :
    Exch st n m al spot (i + 1) (L1 ++ (B ++ [B.sum % n])) (L2 ++ (F ++ [if al = true then B.sum % n else F.sum % n])) (C ++ B) (O ++ F) := by
  obtain ⟨l1, l2, r1, r2, e⟩ := h
  refine ⟨by simp only [List.length_append, List.length_singleton, l1, hB, Nat.add_mul]; omega, by simp only [List.length_append, List.length_singleton, l2, hF, Nat.add_mul]; omega, ?_, ?_, fun c => ?_⟩
  · rw [readB_snoc hB i L1 0 [] l1, r1, ← runD_two]
    simp
  · rw [readB_snoc hF i L2 0 [] l2, r2, List.sum_append, List.sum_append]
    have go := runD_two (st := st) (C := O) (B := F)
    rcases al with _ | _
    · simp only [Bool.false_eq_true, false_and, if_false]
      exact go
    · simp only [true_and, if_true]
      by_cases c : i = spot
      · subst c
        have eC := e (Nat.le_refl _)
        subst eC
        rw [if_neg (by omega)]
        have hs : (C.sum + B.sum) % n ≠ (C.sum + F.sum) % n ↔ B.sum % n ≠ F.sum % n := by
          rw [Nat.add_comm C.sum, Nat.add_comm C.sum]
          exact not_congr mod_cancel
        by_cases c2 : B.sum % n = F.sum % n
        · rw [if_neg (fun q => hs.mp q.2 c2)]
          simp only [if_pos c2]
          exact go
        · rw [if_pos ⟨by omega, hs.mpr c2⟩]
          rcases runD st 0 [] C with _ | ⟨q, t⟩
          · rfl
          · simp only []
            rcases runD st q t F with _ | ⟨q2, t2⟩
            · rfl
            · simp only [if_neg c2]
      · have eF := hf c
        subst eF
        have hs : (C.sum + F.sum) % n ≠ (O.sum + F.sum) % n ↔ C.sum % n ≠ O.sum % n := not_congr mod_cancel
        have hi : (spot < i + 1) ↔ spot < i := by omega
        by_cases c2 : spot < i ∧ C.sum % n ≠ O.sum % n
        · rw [if_pos c2, if_pos ⟨by omega, hs.mpr c2.2⟩]
        · rw [if_neg c2, if_neg (fun q => c2 ⟨by omega, hs.mp q.2⟩)]
          simp only [if_true]
          exact go
  · have h1 := e (by omega)
    rw [h1, hf (by omega)]
theorem Exch.fin {al : Bool} {spot i : Nat} {L1 L2 C O : List Nat} (h : Exch st n m al spot i L1 L2 C O) : readP st en n m L1 = writD st en C ∧ readP st en n m L2 = if al = true ∧ spot < i ∧ C.sum % n ≠ O.sum % n then none else writD st en O := by
  obtain ⟨l1, l2, r1, r2, e⟩ := h
  have q : i * (m + 1) / (m + 1) = i := Nat.mul_div_cancel _ (by omega)
  have z : i * (m + 1) % (m + 1) = 0 := Nat.mul_mod_left _ _
  unfold readP
  rw [l1, l2, q, if_pos z, if_pos z, r1, r2, writ_end, writ_end]
  refine ⟨rfl, ?_⟩
  split <;> rfl
end
end Sw
namespace Sw
open PySem PySem.Spec PyProof.Rows L2
local macro_rules | `(tactic| walk_at "hp") => `(tactic| first
  | (with_reducible assumption) | (with_reducible exact upd_same)
  | ((with_reducible refine' upd_old ?q1 ?q2); (case q1 => (with_reducible assumption)); (case q2 => walk_at "hp"))
  | ((with_reducible refine' Same.at ?q1 ?q2); (case q1 => (with_reducible assumption)); (case q2 => walk_at "hp"))
  | ((with_reducible refine' upd_skip ?q1 ?q2); (case q1 => walk_at "ne"); (case q2 => walk_at "hp"))
  | fail)
local macro_rules | `(tactic| walk_at "ne") => `(tactic| first
  | (with_reducible assumption) | (with_reducible exact Ne.symm (by assumption))
  | ((with_reducible refine' ne_of_none ?q1 ?q2); (case q2 => (with_reducible assumption)); (case q1 => walk_at "hp"))
  | fail)
local macro_rules | `(tactic| walk_at "ci") => `(tactic| first | assumption | (show (0 : Int) < _; first | decide | (with_reducible omega)) | exact ⟨by decide, by decide⟩ | exact .inl ⟨by decide, by decide⟩ | exact .inr ⟨by decide, by decide⟩)
local macro_rules | `(tactic| walk_at "ln") => `(tactic| first | (with_reducible assumption) | (with_reducible omega) | (simp only [List.length_append, List.length_take, List.length_drop, List.length_reverse, List.length_cons, List.length_nil]; with_reducible omega))
local macro_rules | `(tactic| walk_at "rd1") => `(tactic| first
  | (with_reducible refine i_seq ?_) | (with_reducible refine i_asg ?_) | (with_reducible refine i_ret ?_) | (with_reducible refine i_name ?_) | ((with_reducible refine' i_var ?q1 ?_); (case q1 => exact rfl)) | (with_reducible refine i_c ?_) | (with_reducible refine i_op ?_) | (with_reducible refine i_un ?_)
  | (with_reducible refine i_rI0 ?_) | (with_reducible refine i_cb ?_) | (with_reducible refine i_cons ?_) | (with_reducible refine i_nil ?_) | (with_reducible refine i_call ?_) | (with_reducible refine i_if ?_) | (with_reducible refine i_ifE ?_) | (with_reducible refine i_test ?_) | (with_reducible refine i_bl ?_)
  | (with_reducible refine i_and ?_) | (with_reducible refine i_or ?_) | (with_reducible refine i_not ?_) | (with_reducible refine i_lstM ?_) | (with_reducible refine i_lstLM ?_) | (with_reducible refine i_tupM ?_) | (with_reducible refine i_next ?_) | (with_reducible refine i_drop ?_) | (with_reducible refine i_sub ?_)
  | (with_reducible refine i_bm ?_) | (with_reducible refine i_sl ?_) | (with_reducible refine i_part ?_) | (with_reducible refine i_nopart ?_) | (with_reducible refine i_exI ?_) | (with_reducible refine i_chain ?_) | ((with_reducible refine' i_aug ?q1 ?_); (case q1 => exact rfl)) | (with_reducible refine i_ip ?_)
  | (with_reducible refine i_par ?_) | (with_reducible refine i_pair ?_) | (with_reducible refine i_andV ?_) | (with_reducible refine i_orV ?_) | (with_reducible refine i_notV ?_) | (with_reducible refine i_m1 ?_) | (with_reducible refine i_str ?_)
  | (with_reducible refine iteF ?_) | (with_reducible refine iteT ?_) | (with_reducible refine iteNT ?_) | (with_reducible refine iteNF ?_) | (with_reducible refine i_tyS ?_) | (with_reducible refine i_tB ?_) | (with_reducible refine i_retN ?_) | (with_reducible refine i_par3 ?_) | (with_reducible refine i_trip ?_) | (with_reducible refine i_gCons ?_) | (with_reducible refine i_gNil ?_) | (with_reducible refine i_lstRg ?_) | (with_reducible refine i_rg1 ?_)
  | (with_reducible refine i_lc ?_) | (with_reducible refine i_for ?_) | (with_reducible refine i_iList ?_) | (with_reducible refine i_iTup ?_) | (with_reducible refine i_iStr ?_) | (with_reducible refine i_iRng1 ?_) | (with_reducible refine i_iEnS ?_)
  | ((with_reducible refine' i_ixTH ?q1 ?q2 ?_); (case q1 => walk_at "hp"); (case q2 => exact rfl))
  | ((with_reducible refine' i_ixLH ?q1 ?q2 ?_); (case q1 => walk_at "hp"); (case q2 => exact rfl))
  | ((with_reducible refine i_addS ?q1 ?_); (case q1 => walk_at "ln")) | ((with_reducible refine i_lenSS ?q1 ?_); (case q1 => walk_at "ln")) | ((with_reducible refine i_slFrom ?q1 ?q2 ?_); (case q1 => walk_at "ln"); (case q2 => walk_at "ln")) | ((with_reducible refine i_slTo ?q1 ?q2 ?_); (case q1 => walk_at "ln"); (case q2 => walk_at "ln"))
  | ((with_reducible refine' i_tyL ?q1 ?_); (case q1 => walk_at "hp"))
  | ((with_reducible refine' i_gTupH ?q1 ?q2 ?_); (case q1 => walk_at "hp"); (case q2 => exact rfl))
  | (with_reducible refine i_dnewM ?_) | (with_reducible refine i_init ?_) | (with_reducible refine i_fst ?_) | (with_reducible refine i_mk ?_) | (with_reducible refine i_mkF ?_) | (with_reducible refine i_raise ?_) | (with_reducible refine i_callS ?_) | (with_reducible refine i_kwS ?_)
  | (with_reducible refine i_revT ?_) | (with_reducible refine i_kw ?_) | ((with_reducible refine' ⟨_, _, rfl, sqT_of ?q1, ?_⟩); (case q1 => walk_at "hp"))
  | (with_reducible refine i_revS ?_) | ((with_reducible refine i_revSS ?q1 ?_); (case q1 => walk_at "ln"))
  | (with_reducible refine i_startS ?_) | (with_reducible refine i_inSg ?_) | (with_reducible refine i_absN ?_) | (with_reducible refine i_min2 ?_) | (with_reducible refine i_max2 ?_) | (with_reducible refine i_min3 ?_) | (with_reducible refine i_intN ?_) | (with_reducible refine i_intNB ?_)
  | ((with_reducible refine' i_lenL ?q1 ?_); (case q1 => walk_at "hp")) | ((with_reducible refine' i_lenT ?q1 ?_); (case q1 => walk_at "hp"))
  | (with_reducible refine i_eqI ?_) | (with_reducible refine i_neI ?_) | (with_reducible refine i_eqS ?_) | (with_reducible refine i_neS ?_) | (with_reducible refine i_isNoI ?_) | (with_reducible refine i_isNoN ?_) | (with_reducible refine i_isNoR ?_)
  | ((with_reducible refine i_pow ?q1 ?q2 ?q3 ?_); (case q1 => decide); (case q2 => decide); (case q3 => (with_reducible omega)))
  | ((with_reducible refine i_rI ?q1 ?_); (case q1 => walk_at "ci"))
  | (with_reducible refine Or.inl ⟨_, rfl, ?_⟩) | (with_reducible refine Or.inr ⟨_, rfl, ?_⟩) | (with_reducible refine ⟨_, rfl, ?_⟩) | (with_reducible refine ⟨_, _, rfl, ?_⟩) | (with_reducible refine ⟨_, _, rfl, rfl, ?_⟩)
  | ((with_reducible refine' ⟨_, _, rfl, Or.inl (sqL_of ?q1), ?_⟩); (case q1 => walk_at "hp")) | ((with_reducible refine' ⟨_, _, rfl, Or.inr (sqT_of ?q1), ?_⟩); (case q1 => walk_at "hp")) | (with_reducible refine i_dget ?_) | (with_reducible refine i_disp1T ?_) | (with_reducible refine i_dcT ?_) | (with_reducible refine i_dnewT ?_) | (with_reducible refine i_fld ?_) | (with_reducible refine i_sFld ?_) | (with_reducible refine i_make ?_) | (with_reducible refine i_meth ?_) | (with_reducible refine i_star ?_) | (with_reducible refine i_isNoS ?_) | (with_reducible refine i_lc2 ?_) | (with_reducible refine i_iEnT ?_) | (with_reducible refine i_iZipT ?_) | fail)
local macro_rules | `(tactic| walk_at "rd") => `(tactic| repeat' walk_at "rd1")

/-- _law_is(made, plain), just these parts -/
def spIs (C : Addr) : Sp := fun vs H Q _ => ∃ (mv v : V) (n : Nat) (st : List (List Ent)) (en : List (Option (List Nat))), vs = [mv, v] ∧ DAt C H mv n st en ∧ PlnAt H v n st en ∧ Good n st en ∧ ∀ H', Same H H' → Q (.bl true) H'
section
variable {P : Program} {w : World} {K : PySem.W.Frag} {mg : Str → Option Value} {base : Heap} {f : Addr} {fd : FuncData}
theorem ok_is {C : Addr} (F : Fun K "_law_is" "_law_is" s__law_is f fd) (z : Z mg) (hmD : mg "Decoder" = some (.ref C)) (dc : DcC K C) (ic_Decoder : C8.InsC K C) : FnG P w K mg base CX0 1 f fd ["made", "plain"] (spIs C) := by
  refine Sw.Fun.okG0 F sc__law_is (fun vs H Q E h => ?_) (fun cdv A outer s H vs Q E hr quiet h => ?_)
  · obtain ⟨mv, v, n, st, en, rfl, _⟩ := h; rfl
  · obtain ⟨mv, v, n, st, en, rfl, ⟨am, dxm, y1, y2, rfl, ham, hy1, hy2⟩, ⟨pp, sv, evv, rfl, epp, ⟨sp, svs, rfl, esp, prs⟩, ⟨ne, rfl, ene⟩⟩, g, k⟩ := h
    refine ⟨_, (pss_cons (ps_if (pt_not (pt_val (pe_callB (C8.call_isC ic_Decoder) (by rfl) z.isinstance (by decide +kernel) (pa_cons (pv 0) (pa_cons (pe_glob (v := .ref C) rfl hmD rfl) pa_nil)))))
        (pss_one (ps_ret pe_bl))
        pss_nil)
      (pss_cons (ps_par (i := 2) (j := 3) rfl sc__law_is.nd rfl rfl (by decide) rfl rfl (pa_cons (pe_callTy call_tuple_of (by rfl) z.tuple (by decide +kernel) (pa_cons (pe_lc (own := [("row", 4)]) (g := gName 4) (tt := tYes) rfl sc__law_is.nd (pi_list (pe_ix ix_list (pv 1) pe_int (fun _ _ => rfl))) (blkOk_by (own := [("row", 4)]) (N := n__law_is) (sc := defScope s__law_is) (by decide +kernel)) (fun _ _ _ _ _ => (pg_name (i := 4) sc__law_is.nd rfl (.inl rfl))) (fun _ _ _ _ _ => pts_nil) (fun _ _ _ _ _ => (pe_callTy (call_tuple_ofB (K := K) rfl) (by rfl) z.tuple (by decide +kernel) (pa_cons (pv 4) pa_nil)))) pa_nil)) (pa_cons (pe_callTy call_tuple_of (by rfl) z.tuple (by decide +kernel) (pa_cons (pe_ix ix_list (pv 1) pe_int (fun _ _ => rfl)) pa_nil)) pa_nil)) (by rfl))
      (pss_one (ps_ret (pe_cmpR op_eq (pe_callB (call_repE quiet hr.units) (by rfl) z.repr (by decide +kernel) (pa_cons (pe_tup (pa_cons (pe_fld (pv 0) (by rfl)) (pa_cons (pe_fld (pv 0) (by rfl)) (pa_cons (pe_fld (pv 0) (by rfl)) (pa_cons (pe_fld (pv 0) (by rfl)) pa_nil))))) pa_nil)) (pe_callB (call_repE quiet hr.units) (by rfl) z.repr (by decide +kernel) (pa_cons (pe_tup (pa_cons (pe_ix ix_list (pv 1) pe_int (fun _ _ => rfl)) (pa_cons (pe_callB call_lenQ (by rfl) z.len PySem.boot_len (pa_cons (pv 2) pa_nil)) (pa_cons (pv 2) (pa_cons (pv 3) pa_nil))))) pa_nil)) (nomark _)))))), ?_⟩
    have g6 := g.s6
    have n5 := g.n5
    have lsv : svs.length = st.length := Paired.length prs
    walk_at "rd"
    refine ⟨am, dxm, _, rfl, ham, ?_⟩
    walk_at "rd"
    refine ⟨⟨_, sqL_of esp⟩, ?_⟩
    refine go_lc (walk_list (xs := svs)) (fun p i Hx => ∃ ws, Hx p = some (.lst ws) ∧ Paired (TRow Hx) ws (st.take i) ∧ Same H Hx) (fun p np => ⟨[], upd_same, .nil, same_upd np⟩) (fun p i Hx hi q => sqL_of (q.choose_spec.2.2 _ _ esp)) (fun p np i v Hx Hy hi q y => ?_) (fun lp HB nlp q => ?_)
    · obtain ⟨ws, ew, pw, sx⟩ := q
      obtain ⟨rfl, hv⟩ := y
      obtain ⟨row, gr, rp, rs, rfl, er, prr⟩ := pairedAt prs hv
      have er := sx _ _ er
      have prr := Paired.mapP prr fun _ _ zz => EntAt.same sx zz
      have lw : ws.length ≤ 40 := by have := Paired.length pw; rw [List.length_take] at this; omega
      rw [List.take_add_one, gr]
      walk_at "rd"
      refine ⟨rfl, i_yes (iteT ?_)⟩
      walk_at "rd"
      refine ⟨rp, rs, rfl, .inl ⟨sqL_of er, fun t nt => ?_⟩⟩
      have st' := same_upd (o := .tup rs) nt
      have et := upd_same (H := Hy) (a := t) (o := .tup rs)
      generalize upd Hy t (.tup rs) = H7 at *
      have tk := (TK.of st').trans (TK.lst (ys := ws ++ [.ref t]) (st' _ _ ew))
      exact ⟨ws, st' _ _ ew, sm100 (by omega), _, upd_same, Paired.snoc (Paired.mapP pw fun _ _ zz => zz.tk tk) ⟨t, rs, rfl, TK.lst (st' _ _ ew) _ _ et, Paired.mapP prr fun _ _ zz => zz.tk tk⟩, Same.set_new (sx.trans st') np⟩
    obtain ⟨ws, ew, pw, sAB⟩ := q
    rw [lsv, List.take_length] at pw
    walk_at "rd"
    refine ⟨lp, ws, rfl, .inl ⟨sqL_of ew, fun q1 np1 => ?_⟩⟩
    have s10 := same_upd (o := .tup ws) np1
    have e10 := upd_same (H := HB) (a := q1) (o := .tup ws)
    generalize upd HB q1 (.tup ws) = HC at *
    have TC : TSt HC (.ref q1) st := ⟨q1, ws, rfl, e10, Paired.mapP pw fun _ _ zz => zz.same s10⟩
    have eppC := (sAB.trans s10) _ _ epp
    walk_at "rd"
    refine ⟨ne, _, rfl, .inl ⟨sqL_of ((sAB.trans s10) _ _ ene), fun q2 np2 => ?_⟩⟩
    have s11 := same_upd (o := .tup (en.map endV)) np2
    have e11 := upd_same (H := HC) (a := q2) (o := .tup (en.map endV))
    generalize upd HC q2 (.tup (en.map endV)) = HD at *
    have sAD := sAB.trans (s10.trans s11)
    have hamD := sAD _ _ ham
    have eppD := sAD _ _ epp
    walk_at "rd"
    refine i_fldD dc.cl dc.a1 hamD rfl ?_
    walk_at "rd"
    refine i_fldD dc.cl dc.a2 hamD rfl ?_
    walk_at "rd"
    refine i_fldD dc.cl dc.a3 hamD rfl ?_
    walk_at "rd"
    refine i_fldD dc.cl dc.a4 hamD rfl ?_
    walk_at "rd"
    refine newT0 (Nat.le_of_ble_eq_true rfl) fun t10 HE n10 s12 e12 => ?_
    have sd4 : Sd 4 30000 (.tuple [.int n, .int st.length, stD st, enD en]) := (sd_tup' (n := 3) (.cons ((sd_int9 (by omega)).mono (by omega) (Nat.le_refl _)) (.cons ((sd_int9 (by omega)).mono (by omega) (Nat.le_refl _)) (.cons (g.stSd.mono (by omega) (Nat.le_refl _)) (.cons (g.enSd.mono (by omega) (Nat.le_refl _)) .nil))))).mono (by omega) (by omega)
    walk_at "rd"
    refine i_repE (d := .tuple [.int n, .int st.length, stD st, enD en]) (.tup (sqT_of e12) (.cons (.int _) (.cons (.int _) (.cons ((hy1.same (sAD.trans s12)).de) (.cons (.tup (sqT_of ((sAD.trans s12) _ _ hy2)) (ends_de _)) .nil))))) sd4 (by omega) (by omega) ?_
    have eppE := s12 _ _ eppD
    have e10E := (s11.trans s12) _ _ e10
    have lws : ws.length = st.length := Paired.length pw
    walk_at "rd"
    rw [lws]
    refine newT0 (Nat.le_of_ble_eq_true rfl) fun t11 HF n11 s13 e13 => ?_
    walk_at "rd"
    refine i_repE (d := .tuple [.int n, .int st.length, stD st, enD en]) (.tup (sqT_of e13) (.cons (.int _) (.cons (.int _) (.cons ((TC.same (s11.trans (s12.trans s13))).de) (.cons (.tup (sqT_of ((s12.trans s13) _ _ e11)) (ends_de _)) .nil))))) sd4 (by omega) (by omega) ?_
    walk_at "rd"
    refine ⟨rfl, ?_⟩
    rw [decide_eq_true rfl]
    exact k _ (sAD.trans (s12.trans s13))
end
end Sw
namespace Sw
open PySem PySem.Spec PyProof.Rows L2
local macro_rules | `(tactic| walk_at "hp") => `(tactic| first
  | (with_reducible assumption) | (with_reducible exact upd_same)
  | ((with_reducible refine' upd_old ?q1 ?q2); (case q1 => (with_reducible assumption)); (case q2 => walk_at "hp"))
  | ((with_reducible refine' Same.at ?q1 ?q2); (case q1 => (with_reducible assumption)); (case q2 => walk_at "hp"))
  | ((with_reducible refine' upd_skip ?q1 ?q2); (case q1 => walk_at "ne"); (case q2 => walk_at "hp"))
  | fail)
local macro_rules | `(tactic| walk_at "ne") => `(tactic| first
  | (with_reducible assumption) | (with_reducible exact Ne.symm (by assumption))
  | ((with_reducible refine' ne_of_none ?q1 ?q2); (case q2 => (with_reducible assumption)); (case q1 => walk_at "hp"))
  | fail)
local macro_rules | `(tactic| walk_at "ci") => `(tactic| first | assumption | (show (0 : Int) < _; first | decide | (with_reducible omega)) | exact ⟨by decide, by decide⟩ | exact .inl ⟨by decide, by decide⟩ | exact .inr ⟨by decide, by decide⟩)
local macro_rules | `(tactic| walk_at "ln") => `(tactic| first | (with_reducible assumption) | (with_reducible omega) | (simp only [List.length_append, List.length_take, List.length_drop, List.length_reverse, List.length_cons, List.length_nil]; with_reducible omega))
local macro_rules | `(tactic| walk_at "rd1") => `(tactic| first
  | (with_reducible refine i_seq ?_) | (with_reducible refine i_asg ?_) | (with_reducible refine i_ret ?_) | (with_reducible refine i_name ?_) | ((with_reducible refine' i_var ?q1 ?_); (case q1 => exact rfl)) | (with_reducible refine i_c ?_) | (with_reducible refine i_op ?_) | (with_reducible refine i_un ?_)
  | (with_reducible refine i_rI0 ?_) | (with_reducible refine i_cb ?_) | (with_reducible refine i_cons ?_) | (with_reducible refine i_nil ?_) | (with_reducible refine i_call ?_) | (with_reducible refine i_if ?_) | (with_reducible refine i_ifE ?_) | (with_reducible refine i_test ?_) | (with_reducible refine i_bl ?_)
  | (with_reducible refine i_and ?_) | (with_reducible refine i_or ?_) | (with_reducible refine i_not ?_) | (with_reducible refine i_lstM ?_) | (with_reducible refine i_lstLM ?_) | (with_reducible refine i_tupM ?_) | (with_reducible refine i_next ?_) | (with_reducible refine i_drop ?_) | (with_reducible refine i_sub ?_)
  | (with_reducible refine i_bm ?_) | (with_reducible refine i_sl ?_) | (with_reducible refine i_part ?_) | (with_reducible refine i_nopart ?_) | (with_reducible refine i_exI ?_) | (with_reducible refine i_chain ?_) | ((with_reducible refine' i_aug ?q1 ?_); (case q1 => exact rfl)) | (with_reducible refine i_ip ?_)
  | (with_reducible refine i_par ?_) | (with_reducible refine i_pair ?_) | (with_reducible refine i_andV ?_) | (with_reducible refine i_orV ?_) | (with_reducible refine i_notV ?_) | (with_reducible refine i_m1 ?_) | (with_reducible refine i_str ?_)
  | (with_reducible refine iteF ?_) | (with_reducible refine iteT ?_) | (with_reducible refine iteNT ?_) | (with_reducible refine iteNF ?_) | (with_reducible refine i_tyS ?_) | (with_reducible refine i_tB ?_) | (with_reducible refine i_retN ?_) | (with_reducible refine i_par3 ?_) | (with_reducible refine i_trip ?_) | (with_reducible refine i_gCons ?_) | (with_reducible refine i_gNil ?_) | (with_reducible refine i_lstRg ?_) | (with_reducible refine i_rg1 ?_)
  | (with_reducible refine i_lc ?_) | (with_reducible refine i_for ?_) | (with_reducible refine i_iList ?_) | (with_reducible refine i_iTup ?_) | (with_reducible refine i_iStr ?_) | (with_reducible refine i_iRng1 ?_) | (with_reducible refine i_iEnS ?_)
  | ((with_reducible refine' i_ixTH ?q1 ?q2 ?_); (case q1 => walk_at "hp"); (case q2 => exact rfl))
  | ((with_reducible refine' i_ixLH ?q1 ?q2 ?_); (case q1 => walk_at "hp"); (case q2 => exact rfl))
  | ((with_reducible refine i_addS ?q1 ?_); (case q1 => walk_at "ln")) | ((with_reducible refine i_lenSS ?q1 ?_); (case q1 => walk_at "ln")) | ((with_reducible refine i_slFrom ?q1 ?q2 ?_); (case q1 => walk_at "ln"); (case q2 => walk_at "ln")) | ((with_reducible refine i_slTo ?q1 ?q2 ?_); (case q1 => walk_at "ln"); (case q2 => walk_at "ln"))
  | ((with_reducible refine' i_tyL ?q1 ?_); (case q1 => walk_at "hp"))
  | ((with_reducible refine' i_gTupH ?q1 ?q2 ?_); (case q1 => walk_at "hp"); (case q2 => exact rfl))
  | (with_reducible refine i_dnewM ?_) | (with_reducible refine i_init ?_) | (with_reducible refine i_fst ?_) | (with_reducible refine i_mk ?_) | (with_reducible refine i_mkF ?_) | (with_reducible refine i_raise ?_) | (with_reducible refine i_callS ?_) | (with_reducible refine i_kwS ?_)
  | (with_reducible refine i_revT ?_) | (with_reducible refine i_kw ?_) | ((with_reducible refine' ⟨_, _, rfl, sqT_of ?q1, ?_⟩); (case q1 => walk_at "hp"))
  | (with_reducible refine i_revS ?_) | ((with_reducible refine i_revSS ?q1 ?_); (case q1 => walk_at "ln"))
  | (with_reducible refine i_startS ?_) | (with_reducible refine i_inSg ?_) | (with_reducible refine i_absN ?_) | (with_reducible refine i_min2 ?_) | (with_reducible refine i_max2 ?_) | (with_reducible refine i_min3 ?_) | (with_reducible refine i_intN ?_) | (with_reducible refine i_intNB ?_)
  | ((with_reducible refine' i_lenL ?q1 ?_); (case q1 => walk_at "hp")) | ((with_reducible refine' i_lenT ?q1 ?_); (case q1 => walk_at "hp"))
  | (with_reducible refine i_eqI ?_) | (with_reducible refine i_neI ?_) | (with_reducible refine i_eqS ?_) | (with_reducible refine i_neS ?_) | (with_reducible refine i_isNoI ?_) | (with_reducible refine i_isNoN ?_) | (with_reducible refine i_isNoR ?_)
  | ((with_reducible refine i_pow ?q1 ?q2 ?q3 ?_); (case q1 => decide); (case q2 => decide); (case q3 => (with_reducible omega)))
  | ((with_reducible refine i_rI ?q1 ?_); (case q1 => walk_at "ci"))
  | (with_reducible refine Or.inl ⟨_, rfl, ?_⟩) | (with_reducible refine Or.inr ⟨_, rfl, ?_⟩) | (with_reducible refine ⟨_, rfl, ?_⟩) | (with_reducible refine ⟨_, _, rfl, ?_⟩) | (with_reducible refine ⟨_, _, rfl, rfl, ?_⟩)
  | ((with_reducible refine' ⟨_, _, rfl, Or.inl (sqL_of ?q1), ?_⟩); (case q1 => walk_at "hp")) | ((with_reducible refine' ⟨_, _, rfl, Or.inr (sqT_of ?q1), ?_⟩); (case q1 => walk_at "hp")) | (with_reducible refine i_dget ?_) | (with_reducible refine i_disp1T ?_) | (with_reducible refine i_dcT ?_) | (with_reducible refine i_dnewT ?_) | (with_reducible refine i_fld ?_) | (with_reducible refine i_sFld ?_) | (with_reducible refine i_make ?_) | (with_reducible refine i_meth ?_) | (with_reducible refine i_star ?_) | (with_reducible refine i_isNoS ?_) | (with_reducible refine i_lc2 ?_) | (with_reducible refine i_iEnT ?_) | (with_reducible refine i_iZipT ?_) | fail)
local macro_rules | `(tactic| walk_at "rd") => `(tactic| repeat' walk_at "rd1")

theorem box_lst {H : Hp} {b : Addr} {d : Int} (B : BoxAt H b d) : ∃ i xs, H b = some (.lst (.int i :: xs)) := by
  obtain ⟨n, g, c, e, hb, _⟩ := B.ex
  exact ⟨_, _, hb⟩
theorem DAt.box {C : Addr} {H : Hp} {b : Addr} {dd : Int} (B : BoxAt H b dd) {v : V} {n : Nat} {st : List (List Ent)} {en : List (Option (List Nat))} (h : DAt C H v n st en) : DAt C (L2.del H b) v n st en := by
  obtain ⟨i, xs, eb⟩ := box_lst B
  have tup : ∀ {p : Addr} {zs : List V}, H p = some (.tup zs) → L2.del H b p = some (.tup zs) := fun {p zs} e => by
    rw [L2.del_ne fun c => by rw [c, eb] at e; cases e]; exact e
  obtain ⟨a, dx, p1, p2, rfl, ha, ⟨q, ws, eq, hq, pr⟩, h2⟩ := h
  refine ⟨a, dx, p1, p2, rfl, by rw [L2.del_ne fun c => by rw [c, eb] at ha; cases ha]; exact ha, ⟨q, ws, eq, tup hq, Paired.mapP pr fun v r h => ?_⟩, tup h2⟩
  obtain ⟨p, vs, rfl, hp, pe⟩ := h
  refine ⟨p, vs, rfl, tup hp, Paired.mapP pe fun v y h => ?_⟩
  rcases y with _ | ⟨s, w⟩
  · exact h
  · obtain ⟨t, rfl, et⟩ := h
    exact ⟨t, rfl, tup et⟩
def lst2 (w : List Nat) (d : PyData) : PyData := .list [.str (S w), d]
theorem lst2_de {K : PySem.W.Frag} {H : Hp} {t : Addr} {w : List Nat} {y : V} {d : PyData} (e : H t = some (.lst [.str (S w), y])) (lt : sysModules < t) (h : De K H y d) : De K H (.ref t) (lst2 w d) := .lst e lt (.cons (.str _) (.cons h .nil))
theorem lst2_sd {w : List Nat} {d : PyData} {n m : Nat} (hw : ∀ c ∈ w, c ≤ 1000) (lw : w.length ≤ 20) (h : Sd n m d) (hn : n ≤ 5) (hm : m ≤ 400) : Sd 6 1000 (lst2 w d) := (sd_lst' (n := 5) (.cons ((sd_str hw).mono (by omega) (Nat.le_refl _)) (.cons (h.mono (by omega) (Nat.le_refl _)) .nil))).mono (by omega) (by simp; omega)
theorem lst2_flat {w : List Nat} {i : Int} : (lst2 w (.int i)).hasDict = false := by simp [lst2, PyData.hasDict, PyData.hasDictAll]
/-- _law_refused_right(box) -/
def spRef : Sp := fun vs H Q _ => ∃ (b : Addr) (d : Int), vs = [.ref b] ∧ BoxAt H b d ∧ d + 110 ≤ 1000000 ∧ ∀ H', BoxAt H' b (d + 110) → SB b H H' → Q (.bl true) H'
section
variable {P : Program} {w : World} {K : PySem.W.Frag} {mg : Str → Option Value} {base : Heap} {f : Addr} {fd : FuncData}
theorem ok_ref {C : Addr} (F : Fun K "_law_refused_right" "_law_refused_right" s__law_refused_right f fd) (z : Z mg) (m_Decoder : C8.Mak P w K mg base 5 "Decoder" C (spIni C) [])
    (c__law_take : Cal P w K mg base "_law_take" ["box", "many"] 1 spTake) (c__law_free : Cal P w K mg base "_law_free" ["box", "many", "states"] 2 spFreeB) (c__law_told : Cal P w K mg base "_law_told" ["way", "thing", "many"] 8 (spTold K C)) :
    FnG P w K mg base CX0 9 f fd ["box"] spRef := by
  refine Sw.Fun.okG0 F sc__law_refused_right (fun vs H Q E h => ?_) (fun cdv A outer s H vs Q E hr quiet h => ?_)
  · obtain ⟨b, d, rfl, _⟩ := h; rfl
  · obtain ⟨b, d, rfl, B, hd, k⟩ := h
    refine ⟨_, (pss_cons (ps_set (i := 1) sc__law_refused_right.nd rfl (.inl rfl) (pe_ix ix_list (pe_lstL (pa_cons pe_non (pa_cons (pe_lstL pa_nil) (pa_cons (pe_tup (pa_cons pe_int (pa_cons (pe_tup (pa_cons (pe_tup (pa_cons pe_non pa_nil)) pa_nil)) (pa_cons (pe_tup (pa_cons (pe_strS (l := []) (by decide +kernel)) pa_nil)) pa_nil)))) (pa_cons (pe_strS (l := [115, 105, 103, 110, 115, 32, 49, 32, 115, 116, 97, 116, 101, 115, 32, 49]) (by decide +kernel)) (pa_cons pe_int (pa_cons pe_bl pa_nil))))))) (pe_cal c__law_take hr (pa_cons (pv 0) (pa_cons pe_int pa_nil))) (fun _ _ => rfl)))
      (pss_cons (ps_set (i := 2) sc__law_refused_right.nd rfl (.inl rfl) (pe_cal c__law_take hr (pa_cons (pv 0) (pa_cons pe_int pa_nil))))
      (pss_cons (ps_if (pt_cmpR op_ne (pe_callB (call_repE quiet hr.units) (by rfl) z.repr (by decide +kernel) (pa_cons (pe_cal c__law_told hr (pa_cons (pv 2) (pa_cons (pv 1) (pa_cons pe_int pa_nil)))) pa_nil)) (pe_callB (call_repE quiet hr.units) (by rfl) z.repr (by decide +kernel) (pa_cons (pe_lstL (pa_cons (pe_strS (l := [100, 101, 99, 111, 100, 101, 114]) (by decide +kernel)) (pa_cons (pv 1) pa_nil))) pa_nil)) (nomark _))
        (pss_one (ps_ret pe_bl))
        pss_nil)
      (pss_cons (ps_set (i := 3) sc__law_refused_right.nd rfl (.inl rfl) (pe_cal c__law_free hr (pa_cons (pv 0) (pa_cons pe_int (pa_cons (pe_op op_add pe_int (pe_cal c__law_take hr (pa_cons (pv 0) (pa_cons pe_int pa_nil)))) pa_nil)))))
      (pss_cons (ps_set (i := 4) sc__law_refused_right.nd rfl (.inl rfl) (C8.pe_mk m_Decoder hr (by decide) (by rfl) (pa_cons (pe_ix ix_list (pv 3) pe_int (fun _ _ => rfl)) (pa_cons (pe_ix ix_list (pv 3) pe_int (fun _ _ => rfl)) (pa_cons (pe_ix ix_list (pv 3) pe_int (fun _ _ => rfl)) pa_nil)))))
      (pss_one (ps_ret (pe_cmpR (op_eqD hr.units) (pe_cal c__law_told hr (pa_cons (pe_op op_sub pe_int (pv 2)) (pa_cons (pv 4) (pa_cons pe_int pa_nil)))) (pe_lstL (pa_cons (pe_strS (l := [115, 105, 103, 110, 115]) (by decide +kernel)) (pa_cons pe_int pa_nil))) (nomark _))))))))), ?_⟩
    walk_at "rd"
    refine newLL B (Nat.le_of_ble_eq_true rfl) fun p4 H1 l4 n4 B1 s1 e4 u1 => ?_
    walk_at "rd"
    refine newT B1 (Nat.le_of_ble_eq_true rfl) fun t1 H2 B2 s2 e1 u2 => ?_
    walk_at "rd"
    refine newT B2 (Nat.le_of_ble_eq_true rfl) fun t2 H3 B3 s3 e2 u3 => ?_
    walk_at "rd"
    refine newT B3 (Nat.le_of_ble_eq_true rfl) fun t3 H4 B4 s4 e3 u4 => ?_
    walk_at "rd"
    refine newT B4 (Nat.le_of_ble_eq_true rfl) fun t5 H5 B5 s5 e5 u5 => ?_
    walk_at "rd"
    refine newLL B5 (Nat.le_of_ble_eq_true rfl) fun p6 H6 l6 n6 B6 s6 e6 u6 => ?_
    have n6b := box_ne B5 n6
    walk_at "rd"
    refine ⟨b, 6, _, rfl, B6, by omega, by omega, by omega, fun r H7 r0 r1 B7 s7 => ?_⟩
    have z5 := s6.trans (del_sb s7)
    have z4 := s5.trans z5
    have z3 := s4.trans z4
    have z2 := s3.trans z3
    have z1 := s2.trans z2
    obtain ⟨x, dd, ex, hx, sx⟩ : ∃ x dd, ([.non, .ref p4, .ref t5, .str (S [115, 105, 103, 110, 115, 32, 49, 32, 115, 116, 97, 116, 101, 115, 32, 49]), .int 2, .bl true] : List V)[r.toNat]? = some x ∧ De K (L2.del H7 b) x dd ∧ Sd 4 300 dd := by
      have hr : r = 0 ∨ r = 1 ∨ r = 2 ∨ r = 3 ∨ r = 4 ∨ r = 5 := by omega
      rcases hr with rfl | rfl | rfl | rfl | rfl | rfl
      · exact ⟨_, _, rfl, .non, sd_non.mono (by omega) (by omega)⟩
      · exact ⟨_, _, rfl, .lst (z1 _ _ e4) l4 .nil, (sd_lst' (n := 0) .nil).mono (by omega) (by omega)⟩
      · exact ⟨_, _, rfl, .tup (sqT_of (z5 _ _ e5)) (.cons (.int _) (.cons (.tup (sqT_of (z3 _ _ e2)) (.cons (.tup (sqT_of (z2 _ _ e1)) (.cons .non .nil)) .nil)) (.cons (.tup (sqT_of (z4 _ _ e3)) (.cons (.str _) .nil)) .nil))),
          (sd_tup' (n := 2) (.cons ((sd_int9 (i := 1) (by decide)).mono (by omega) (Nat.le_refl _)) (.cons ((sd_tup' (n := 1) (.cons (sd_tup' (n := 0) (.cons sd_non .nil)) .nil)).mono (by omega) (Nat.le_refl _)) (.cons ((sd_tup' (n := 0) (.cons (sd_str (l := []) (by decide)) .nil)).mono (by omega) (Nat.le_refl _)) .nil)))).mono (by omega) (by simp)⟩
      · exact ⟨_, _, rfl, .str _, (sd_str (by decide)).mono (by omega) (by decide)⟩
      · exact ⟨_, _, rfl, .int _, (sd_int9 (by decide)).mono (by omega) (by omega)⟩
      · exact ⟨_, _, rfl, .bl _, (sd_bl _).mono (by omega) (by omega)⟩
    refine i_ixLv (s7 _ _ n6b (del_sub _ _ e6)) r0 ex ?_
    have f07 : SB b H H7 := (SB.of (u1.trans (u2.trans (u3.trans (u4.trans (u5.trans u6)))))).trans s7
    walk_at "rd"
    refine ⟨b, 2, _, rfl, B7, by omega, by omega, by omega, fun r2 H8 r20 r21 B8 s8 => ?_⟩
    have hx8 := (hx.same (del_sb s8)).same del_sub
    walk_at "rd"
    refine ⟨r2, x, .int 1, rfl, .inl ⟨by omega, .inl ⟨dd, hx8, fun t HD nt lt sD et => ?_⟩⟩⟩
    have sd1 : Sd 6 1000 (lst2 tDec dd) := lst2_sd (by decide) (by decide) sx (by omega) (by omega)
    walk_at "rd"
    refine i_repE (lst2_de et lt (hx8.same sD)) sd1 (by omega) (by omega) ?_
    walk_at "rd"
    refine newLL0 (Nat.le_of_ble_eq_true rfl) fun q1 HE nq1 lq1 sE eq1 => ?_
    walk_at "rd"
    refine i_repE (lst2_de eq1 lq1 ((hx8.same sD).same sE)) sd1 (by omega) (by omega) ?_
    walk_at "rd"
    refine ⟨rfl, ?_⟩
    rw [decide_eq_true rfl]
    walk_at "rd"
    have BE := B8.same (sD.trans sE)
    have f0E := f07.trans (s8.trans (SB.of (sD.trans sE)))
    refine ⟨b, 2, _, rfl, BE, by omega, by omega, by omega, fun r3 HF r30 r31 BF sF => ?_⟩
    walk_at "rd"
    refine ⟨b, 5, (1 + r3).toNat, _, ?_, by omega, by omega, by omega, by omega, BF, by omega, fun v st en HG hv g l5 BG sG => ?_⟩
    · show [V.ref b, .int 5, .int (1 + r3)] = [V.ref b, .int ((5 : Nat) : Int), .int ((1 + r3).toNat : Int)]
      rw [Int.toNat_of_nonneg (by omega)]; rfl
    obtain ⟨pp, sv, ev, rfl, epp, hst, hen⟩ := hv
    have eppf := del_sub _ _ epp
    walk_at "rd"
    refine i_makeD (hst.same del_sub) (hen.en.same del_sub) g fun hv HI sI DI => ?_
    walk_at "rd"
    refine ⟨1 - r2, hv, .int 1, rfl, .inl ⟨by omega, .inr (.inl ⟨st, en, DI, fun t2 HJ nt2 lt2 sJ et2 => ?_⟩)⟩⟩
    walk_at "rd"
    refine newLL0 (Nat.le_of_ble_eq_true rfl) fun q2 HK nq2 lq2 sK eq2 => ?_
    have sd2 : Sd 6 1000 (lst2 tSig (.int 6)) := lst2_sd (by decide) (by decide) (sd_int9 (i := 6) (by decide)) (by omega) (by omega)
    refine i_eqE (lst2_de (sK _ _ et2) lt2 (.int _)) (lst2_de eq2 lq2 (.int _)) sd2 sd2 lst2_flat lst2_flat ?_
    rw [eqv_self _ lst2_flat]
    have sK' := sI.trans (sJ.trans sK)
    exact k _ ((BG.same sK').mono (by omega)) (f0E.trans (sF.trans (sG.trans (SB.of sK'))))
end
end Sw
namespace Sw
open PySem PySem.Spec PyProof.Rows L2
local macro_rules | `(tactic| walk_at "hp") => `(tactic| first
  | (with_reducible assumption) | (with_reducible exact upd_same)
  | ((with_reducible refine' upd_old ?q1 ?q2); (case q1 => (with_reducible assumption)); (case q2 => walk_at "hp"))
  | ((with_reducible refine' Same.at ?q1 ?q2); (case q1 => (with_reducible assumption)); (case q2 => walk_at "hp"))
  | ((with_reducible refine' upd_skip ?q1 ?q2); (case q1 => walk_at "ne"); (case q2 => walk_at "hp"))
  | fail)
local macro_rules | `(tactic| walk_at "ne") => `(tactic| first
  | (with_reducible assumption) | (with_reducible exact Ne.symm (by assumption))
  | ((with_reducible refine' ne_of_none ?q1 ?q2); (case q2 => (with_reducible assumption)); (case q1 => walk_at "hp"))
  | fail)
local macro_rules | `(tactic| walk_at "ci") => `(tactic| first | assumption | (show (0 : Int) < _; first | decide | (with_reducible omega)) | exact ⟨by decide, by decide⟩ | exact .inl ⟨by decide, by decide⟩ | exact .inr ⟨by decide, by decide⟩)
local macro_rules | `(tactic| walk_at "ln") => `(tactic| first | (with_reducible assumption) | (with_reducible omega) | (simp only [List.length_append, List.length_take, List.length_drop, List.length_reverse, List.length_cons, List.length_nil]; with_reducible omega))
local macro_rules | `(tactic| walk_at "rd1") => `(tactic| first
  | (with_reducible refine i_seq ?_) | (with_reducible refine i_asg ?_) | (with_reducible refine i_ret ?_) | (with_reducible refine i_name ?_) | ((with_reducible refine' i_var ?q1 ?_); (case q1 => exact rfl)) | (with_reducible refine i_c ?_) | (with_reducible refine i_op ?_) | (with_reducible refine i_un ?_)
  | (with_reducible refine i_rI0 ?_) | (with_reducible refine i_cb ?_) | (with_reducible refine i_cons ?_) | (with_reducible refine i_nil ?_) | (with_reducible refine i_call ?_) | (with_reducible refine i_if ?_) | (with_reducible refine i_ifE ?_) | (with_reducible refine i_test ?_) | (with_reducible refine i_bl ?_)
  | (with_reducible refine i_and ?_) | (with_reducible refine i_or ?_) | (with_reducible refine i_not ?_) | (with_reducible refine i_lstM ?_) | (with_reducible refine i_lstLM ?_) | (with_reducible refine i_tupM ?_) | (with_reducible refine i_next ?_) | (with_reducible refine i_drop ?_) | (with_reducible refine i_sub ?_)
  | (with_reducible refine i_bm ?_) | (with_reducible refine i_sl ?_) | (with_reducible refine i_part ?_) | (with_reducible refine i_nopart ?_) | (with_reducible refine i_exI ?_) | (with_reducible refine i_chain ?_) | ((with_reducible refine' i_aug ?q1 ?_); (case q1 => exact rfl)) | (with_reducible refine i_ip ?_)
  | (with_reducible refine i_par ?_) | (with_reducible refine i_pair ?_) | (with_reducible refine i_andV ?_) | (with_reducible refine i_orV ?_) | (with_reducible refine i_notV ?_) | (with_reducible refine i_m1 ?_) | (with_reducible refine i_str ?_)
  | (with_reducible refine iteF ?_) | (with_reducible refine iteT ?_) | (with_reducible refine iteNT ?_) | (with_reducible refine iteNF ?_) | (with_reducible refine i_tyS ?_) | (with_reducible refine i_tB ?_) | (with_reducible refine i_retN ?_) | (with_reducible refine i_par3 ?_) | (with_reducible refine i_trip ?_) | (with_reducible refine i_gCons ?_) | (with_reducible refine i_gNil ?_) | (with_reducible refine i_lstRg ?_) | (with_reducible refine i_rg1 ?_)
  | (with_reducible refine i_lc ?_) | (with_reducible refine i_for ?_) | (with_reducible refine i_iList ?_) | (with_reducible refine i_iTup ?_) | (with_reducible refine i_iStr ?_) | (with_reducible refine i_iRng1 ?_) | (with_reducible refine i_iEnS ?_)
  | ((with_reducible refine' i_ixTH ?q1 ?q2 ?_); (case q1 => walk_at "hp"); (case q2 => exact rfl))
  | ((with_reducible refine' i_ixLH ?q1 ?q2 ?_); (case q1 => walk_at "hp"); (case q2 => exact rfl))
  | ((with_reducible refine i_addS ?q1 ?_); (case q1 => walk_at "ln")) | ((with_reducible refine i_lenSS ?q1 ?_); (case q1 => walk_at "ln")) | ((with_reducible refine i_slFrom ?q1 ?q2 ?_); (case q1 => walk_at "ln"); (case q2 => walk_at "ln")) | ((with_reducible refine i_slTo ?q1 ?q2 ?_); (case q1 => walk_at "ln"); (case q2 => walk_at "ln"))
  | ((with_reducible refine' i_tyL ?q1 ?_); (case q1 => walk_at "hp"))
  | ((with_reducible refine' i_gTupH ?q1 ?q2 ?_); (case q1 => walk_at "hp"); (case q2 => exact rfl))
  | (with_reducible refine i_dnewM ?_) | (with_reducible refine i_init ?_) | (with_reducible refine i_fst ?_) | (with_reducible refine i_mk ?_) | (with_reducible refine i_mkF ?_) | (with_reducible refine i_raise ?_) | (with_reducible refine i_callS ?_) | (with_reducible refine i_kwS ?_)
  | (with_reducible refine i_revT ?_) | (with_reducible refine i_kw ?_) | ((with_reducible refine' ⟨_, _, rfl, sqT_of ?q1, ?_⟩); (case q1 => walk_at "hp"))
  | (with_reducible refine i_revS ?_) | ((with_reducible refine i_revSS ?q1 ?_); (case q1 => walk_at "ln"))
  | (with_reducible refine i_startS ?_) | (with_reducible refine i_inSg ?_) | (with_reducible refine i_absN ?_) | (with_reducible refine i_min2 ?_) | (with_reducible refine i_max2 ?_) | (with_reducible refine i_min3 ?_) | (with_reducible refine i_intN ?_) | (with_reducible refine i_intNB ?_)
  | ((with_reducible refine' i_lenL ?q1 ?_); (case q1 => walk_at "hp")) | ((with_reducible refine' i_lenT ?q1 ?_); (case q1 => walk_at "hp"))
  | (with_reducible refine i_eqI ?_) | (with_reducible refine i_neI ?_) | (with_reducible refine i_eqS ?_) | (with_reducible refine i_neS ?_) | (with_reducible refine i_isNoI ?_) | (with_reducible refine i_isNoN ?_) | (with_reducible refine i_isNoR ?_)
  | ((with_reducible refine i_pow ?q1 ?q2 ?q3 ?_); (case q1 => decide); (case q2 => decide); (case q3 => (with_reducible omega)))
  | ((with_reducible refine i_rI ?q1 ?_); (case q1 => walk_at "ci"))
  | (with_reducible refine Or.inl ⟨_, rfl, ?_⟩) | (with_reducible refine Or.inr ⟨_, rfl, ?_⟩) | (with_reducible refine ⟨_, rfl, ?_⟩) | (with_reducible refine ⟨_, _, rfl, ?_⟩) | (with_reducible refine ⟨_, _, rfl, rfl, ?_⟩)
  | ((with_reducible refine' ⟨_, _, rfl, Or.inl (sqL_of ?q1), ?_⟩); (case q1 => walk_at "hp")) | ((with_reducible refine' ⟨_, _, rfl, Or.inr (sqT_of ?q1), ?_⟩); (case q1 => walk_at "hp")) | (with_reducible refine i_dget ?_) | (with_reducible refine i_disp1T ?_) | (with_reducible refine i_dcT ?_) | (with_reducible refine i_dnewT ?_) | (with_reducible refine i_fld ?_) | (with_reducible refine i_sFld ?_) | (with_reducible refine i_make ?_) | (with_reducible refine i_meth ?_) | (with_reducible refine i_star ?_) | (with_reducible refine i_isNoS ?_) | (with_reducible refine i_lc2 ?_) | (with_reducible refine i_iEnT ?_) | (with_reducible refine i_iZipT ?_) | fail)
local macro_rules | `(tactic| walk_at "rd") => `(tactic| repeat' walk_at "rd1")

theorem cutV_to' (l : List Nat) {k : Nat} (h : k ≤ l.length) : cutV (l.map iV) none (some (k : Int)) = (l.take k).map iV := by
  unfold cutV
  rw [HT.sIx_nat, HT.sIx_none, List.drop_zero, Nat.sub_zero, List.length_map, Nat.min_eq_left h, List.map_take]
theorem cutV_from' (l : List Nat) {k : Nat} (h : k ≤ l.length) : cutV (l.map iV) (some (k : Int)) none = (l.drop k).map iV := by
  unfold cutV
  rw [HT.sIx_nat, HT.sIx_none, List.length_map, Nat.min_eq_left h, ← List.map_drop, List.take_of_length_le (by rw [List.length_map, List.length_drop]; omega)]
theorem val_ifH2 {c : Bool} {t u : TE} {σ : L2.St} {H : Hp} {Q : VK} (P : V → Hp → Prop) (h1 : ∀ Q' : VK, (∀ v H', P v H' → Q' v H') → if c = true then t σ H Q' else u σ H Q') (h2 : ∀ v H', P v H' → Q v H') : if c = true then t σ H Q else u σ H Q := h1 Q h2
theorem BoxAt.sb {H H' : Hp} {b p : Addr} {d : Int} (B : BoxAt H b d) (s : SB p H H') (ne : b ≠ p) : BoxAt H' b d := by
  obtain ⟨n, g, c, e, hb, r⟩ := B.ex
  exact ⟨n, g, c, e, s _ _ ne hb, r⟩
theorem inV_none (ts : List (Option (List Nat))) : inV .non (ts.map endV) = decide (none ∈ ts) := by
  unfold inV
  rw [Bool.eq_iff_iff, List.any_eq_true, decide_eq_true_iff]
  constructor
  · rintro ⟨x, hx, he⟩
    obtain ⟨o, ho, rfl⟩ := List.mem_map.mp hx
    rcases o with _ | w
    · exact ho
    · cases he
  · intro h
    exact ⟨_, List.mem_map.mpr ⟨none, h, rfl⟩, rfl⟩
theorem flat_ends (ts : List (Option (List Nat))) : (ts.map endV).all flatV = true := by
  rw [List.all_map, List.all_eq_true]
  intro o _
  rcases o with _ | w <;> rfl
theorem ends_strs {ts : List (Option (List Nat))} (h : none ∉ ts) : ts.map endV = (ts.map fun o => o.getD []).map fun l => V.str (S l) := by
  rw [List.map_map]
  refine List.map_congr_left fun o ho => ?_
  rcases o with _ | w
  · exact (h ho).elim
  · rfl
/-- a list of signs, not at p -/
def LsAt (b p : Addr) (H : Hp) (v : V) (l : List Nat) : Prop := ∃ q, v = .ref q ∧ q ≠ p ∧ L2.del H b q = some (.lst (l.map iV))
theorem flat_len {n M : Nat} : ∀ {ps : List (List Nat)}, (∀ l ∈ ps, l.length ≤ M) → ((ps.map fun p => n :: p).flatten).length ≤ ps.length * (M + 1)
  | [], _ => by simp
  | p :: ps, h => by
    have h1 := h p List.mem_cons_self
    have h2 := flat_len (n := n) (M := M) (ps := ps) fun l hl => h l (List.mem_cons_of_mem _ hl)
    rw [List.map_cons, List.flatten_cons, List.length_append, List.length_cons, List.length_cons, Nat.add_mul]
    omega
theorem flat_lt {n : Nat} {ps : List (List Nat)} (h : ∀ l ∈ ps, ∀ x ∈ l, x < n) : ∀ x ∈ (ps.map fun p => n :: p).flatten, x < n + 1 := by
  intro x hx
  obtain ⟨l, hl, hx⟩ := List.mem_flatten.mp hx
  obtain ⟨p, hp, rfl⟩ := List.mem_map.mp hl
  rcases List.mem_cons.mp hx with rfl | hx
  · omega
  · have := h p hp x hx; omega
theorem flat_texts {M : Nat} : ∀ {ws : List (List Nat)}, (∀ w ∈ ws, w.length ≤ M) → ws.flatten.length ≤ ws.length * M
  | [], _ => by simp
  | w :: ws, h => by
    have h1 := h w List.mem_cons_self
    have h2 := flat_texts (M := M) (ws := ws) fun l hl => h l (List.mem_cons_of_mem _ hl)
    rw [List.flatten_cons, List.length_append, List.length_cons, Nat.add_mul]
    omega
/-- _law_parts_right(box, made, plain) -/
def spPR (C : Addr) : Sp := fun vs H Q _ => ∃ (b : Addr) (mv v : V) (n : Nat) (st : List (List Ent)) (en : List (Option (List Nat))) (d : Int), vs = [.ref b, mv, v] ∧ DAt C (L2.del H b) mv (n + 1) (stM st en) en ∧ PlnAt (L2.del H b) v n st en ∧ Good n st en ∧ n ≤ 4 ∧ BoxAt H b d ∧ d + 400 ≤ 1000000 ∧
  ∀ H', BoxAt H' b (d + 400) → SB b H H' → Q (.bl true) H'
section
variable {P : Program} {w : World} {K : PySem.W.Frag} {mg : Str → Option Value} {base : Heap} {f : Addr} {fd : FuncData}
theorem ok_pr {C : Addr} (F : Fun K "_law_parts_right" "_law_parts_right" s__law_parts_right f fd) (z : Z mg) (mt_Decoder_written : C8.Met P w K mg base 5 C "written" (spWr K C) [])
    (c__law_take : Cal P w K mg base "_law_take" ["box", "many"] 1 spTake) (c__law_line : Cal P w K mg base "_law_line" ["box", "plain", "most"] 2 spLineB) (c__law_written : Cal P w K mg base "_law_written" ["plain", "line"] 1 spWrt) :
    FnG P w K mg base CX0 6 f fd ["box", "made", "plain"] (spPR C) := by
  refine Sw.Fun.okG0 F sc__law_parts_right (fun vs H Q E h => ?_) (fun cdv A outer s H vs Q E hr quiet h => ?_)
  · obtain ⟨b, mv, v, n, st, en, d, rfl, _⟩ := h; rfl
  · obtain ⟨b, mv, v, n, st, en, d, rfl, D, hp, g, n4, B, hd, k⟩ := h
    refine ⟨_, (pss_cons (ps_for PassesOwn.never rfl (pi_range1 (by rfl) z.range (pa_cons pe_int pa_nil)) (pg_name (i := 3) sc__law_parts_right.nd rfl (.inl rfl))
        (pss_cons (ps_setLc (i := 4) (own := [("part", 5)]) (g := gName 5) (tt := tYes) rfl sc__law_parts_right.nd rfl rfl (sw_true rfl rfl rfl (by decide +kernel)) (pi_range1 (by rfl) z.range (pa_cons (pe_op op_add pe_int (pe_cal c__law_take hr (pa_cons (pv 0) (pa_cons pe_int pa_nil)))) pa_nil)) (blkOk_by (own := [("part", 5)]) (N := n__law_parts_right) (sc := defScope s__law_parts_right) (by decide +kernel)) (fun _ _ _ _ _ => (pg_name (i := 5) sc__law_parts_right.nd rfl (.inl rfl))) (fun _ _ _ _ _ => pts_nil) (fun _ _ _ _ _ => (pe_cal c__law_line hr (pa_cons (pv 0) (pa_cons (pv 2) (pa_cons pe_int pa_nil))))))
        (pss_cons (ps_par (i := 6) (j := 7) rfl sc__law_parts_right.nd rfl rfl (by decide) rfl rfl (pa_cons (pe_lstL pa_nil) (pa_cons (pe_lstL pa_nil) pa_nil)) (by rfl))
        (pss_cons (ps_for PassesOwn.never rfl (pi_list (pv 4)) (pg_name (i := 5) sc__law_parts_right.nd rfl (.inl rfl))
          (pss_cons (ps_set (i := 6) sc__law_parts_right.nd rfl (.inl rfl) (pe_op op_cat (pe_op op_cat (pv 6) (pe_lstL (pa_cons (pe_ix ix_list (pv 2) pe_int (fun _ _ => rfl)) pa_nil))) (pv 5)))
          (pss_one (ps_expr (pe_bm PySem.F.plainAttrs_list PySem.F.slot_list_append PySem.F.type_list_append mt_append (pv 7) (pa_cons (pe_cal c__law_written hr (pa_cons (pv 2) (pa_cons (pv 5) pa_nil))) pa_nil))))))
        (pss_cons (ps_set (i := 8) sc__law_parts_right.nd rfl (.inl rfl) (pe_ifExp (pt_cmpR op_in_seq pe_non (pv 7) (by rfl)) pe_non (pe_m1 PySem.F.slot_str_join PySem.F.type_str_join mt_joinS (pe_strS (l := []) (by decide +kernel)) (pv 7))))
        (pss_one (ps_if (pt_cmpR op_ne (pe_callB (call_repE quiet hr.units) (by rfl) z.repr (by decide +kernel) (pa_cons (C8.pe_mt mt_Decoder_written hr (by decide) (pv 1) (pa_cons (pe_callTy call_tuple_of (by rfl) z.tuple (by decide +kernel) (pa_cons (pe_slice sl_list (pv 6) (po_some pe_int) po_none) pa_nil)) pa_nil)) pa_nil)) (pe_callB (call_repE quiet hr.units) (by rfl) z.repr (by decide +kernel) (pa_cons (pv 8) pa_nil)) (nomark _))
          (pss_one (ps_ret pe_bl))
          pss_nil)))))))
      (pss_one (ps_ret pe_bl))), ?_⟩
    have n1 := g.n1
    have gM := good_M g n4
    obtain ⟨a, dx, p1, p2, rfl, ha, hp1, hp2⟩ := D
    obtain ⟨pp, sv, evv, rfl, epp, hst, hen⟩ := hp
    walk_at "rd"
    refine i_rng (by omega) (by omega) ?_
    refine go_for walk_rangeZ (fun i σ Hx => ∃ (u3 u4 u5 u6 u7 u8 : Option V), σ = [some (.ref b), some (.ref a), some (.ref pp), u3, u4, u5, u6, u7, u8] ∧ BoxAt Hx b (d + 110 * i) ∧ SB b H Hx)
      ⟨_, _, _, _, _, _, rfl, B.mono (by omega), SB.refl _⟩ (fun _ _ _ _ _ => trivial) (fun i y0 σ Hx Hy hi h y => ?_) (fun σ Hx h => ?_)
    · obtain ⟨u3, u4, u5, u6, u7, u8, rfl, Bx, sx⟩ := h
      obtain ⟨rfl, rfl⟩ := y
      have hi : i < 3 := hi
      have dy := del_sb sx
      walk_at "rd"
      refine ⟨b, 5, _, rfl, Bx, by omega, by omega, by omega, fun r H1 r0 r1 B1 s1 => ?_⟩
      walk_at "rd"
      refine i_rng (by omega) (by omega) ?_
      have hpl : ∀ {H' : Hp}, Same (L2.del H b) H' → PlnAt H' (.ref pp) n st en := fun s => ⟨pp, sv, evv, rfl, s _ _ epp, hst.same s, hen.same s⟩
      refine go_lc walk_rangeZ (fun p x Hu => ∃ (vs : List V) (pts : List (List Nat)), Hu p = some (.lst vs) ∧ Paired (LsAt b p Hu) vs pts ∧ pts.length = x ∧ (∀ l ∈ pts, l.length ≤ 4 ∧ ∀ y ∈ l, y < n) ∧ BoxAt Hu b (d + 110 * i + 1 + 20 * x) ∧ SB b H1 Hu)
        (fun p np => ⟨[], [], upd_same, .nil, rfl, nofun, (B1.same (same_upd np)).mono (by omega), SB.of (same_upd np)⟩) (fun _ _ _ _ _ => trivial) (fun p np x v Hu Hv hx h y => ?_) (fun sp Hu nsp h => ?_)
      · obtain ⟨vs, pts, ep, pr, lp, hpts, Bu, su⟩ := h
        obtain ⟨rfl, rfl⟩ := y
        have npb := box_ne B1 np
        have lvs : vs.length = pts.length := Paired.length pr
        have hx5 : x < 5 := by omega
        walk_at "rd"
        refine ⟨rfl, i_yes (iteT ?_)⟩
        walk_at "rd"
        refine ⟨b, .ref pp, n, 4, st, en, _, rfl, hpl (dy.trans (del_sb (s1.trans su))), g, by omega, Bu, by omega, fun q l H2 nq eq ll ln B2 s2 => ?_⟩
        have ep2 := s2 _ _ npb ep
        have nqp : q ≠ p := Ne.symm (ne_of_none ep nq)
        refine ⟨vs, ep2, sm100 (by omega), vs ++ [.ref q], pts ++ [l], upd_same, Paired.snoc (Paired.mapP pr fun v l z => ?_) ⟨q, rfl, nqp, by rw [del_upd npb, upd_ne nqp]; exact eq⟩, by rw [List.length_append, lp]; rfl, fun y hy => ?_, (B2.upd_ne' npb).mono (by omega), SB.set_new (su.trans s2) np⟩
        · obtain ⟨q', rfl, h1, h2⟩ := z
          exact ⟨q', rfl, h1, by rw [del_upd npb, upd_ne h1]; exact (del_sb s2) _ _ h2⟩
        · rcases List.mem_append.mp hy with hy | hy
          · exact hpts y hy
          · rw [List.mem_singleton.mp hy]; exact ⟨ll, ln⟩
      obtain ⟨vs, pts, ep, pr, lpt, hpts, Bu, su⟩ := h
      have nspb := box_ne B1 nsp
      have lvs : vs.length = pts.length := Paired.length pr
      have l5 : pts.length ≤ 5 := by omega
      have l1 : 1 ≤ pts.length := by omega
      have du := dy.trans (del_sb (s1.trans su))
      walk_at "rd"
      refine newLL Bu (Nat.le_of_ble_eq_true rfl) fun l0 H4 ll0 nl0 B4 s4 e4 u4' => ?_
      have e4f := del_sub _ _ e4
      walk_at "rd"
      refine newLL B4 (Nat.le_of_ble_eq_true rfl) fun tp H5 lltp ntp B5 s5 e5 u5' => ?_
      have ntpb := box_ne B4 ntp
      have e5f := del_sub _ _ e5
      have ep5 := u5' _ _ (u4' _ _ ep)
      have d4 := du.trans s4
      have pr4 : Paired (fun v l => ∃ q, v = .ref q ∧ H4 q = some (.lst (l.map iV))) vs pts := Paired.mapP pr fun v l z => by
        obtain ⟨q, rfl, _, h2⟩ := z
        exact ⟨q, rfl, del_sub _ _ (s4 _ _ h2)⟩
      have hp4 : PlnAt H4 (.ref pp) n st en := (hpl d4).same del_sub
      walk_at "rd"
      refine ⟨⟨_, sqL_of ep5⟩, ?_⟩
      refine go_for (walk_list (xs := vs)) (fun j σ Hz => ∃ (u5 u8 : Option V) (lp : Addr), σ = [some (.ref b), some (.ref a), some (.ref pp), some (iV i), some (.ref sp), u5, some (.ref lp), some (.ref tp), u8] ∧ Hz lp = some (.lst ((((pts.take j).map fun p => n :: p).flatten).map iV)) ∧ lp ≠ tp ∧ Hz tp = some (.lst (((pts.take j).map (writD st en)).map endV)) ∧ Same H4 Hz ∧ SB tp H5 Hz)
        ⟨_, _, l0, rfl, by rw [List.take_zero]; exact u5' _ _ e4f, ne_of_none e4f ntp, by rw [List.take_zero]; exact e5f, u5', SB.refl _⟩ (fun j σ Hz hj h => by obtain ⟨_, _, _, _, _, _, _, _, sz⟩ := h; exact sqL_of (sz _ _ (ne_of_none (u4' _ _ ep) ntp) ep5)) (fun j v σ Hz Hw hj h y => ?_) (fun σ Hz h => ?_)
      · obtain ⟨u5, u8, lp, rfl, el, nlt, et, s4z, s5z⟩ := h
        obtain ⟨rfl, hv⟩ := y
        obtain ⟨l, gl, q, rfl, eq⟩ := pairedAt pr4 hv
        have ml := List.mem_of_getElem? gl
        obtain ⟨ll, ln⟩ := hpts l ml
        have eqz := s4z _ _ eq
        have hpz := hp4.same s4z
        have fl : (((pts.take j).map fun p => n :: p).flatten).length ≤ 25 := by
          refine Nat.le_trans (flat_len (M := 4) fun l hl => (hpts l (List.mem_of_mem_take hl)).1) ?_
          rw [List.length_take]; omega
        obtain ⟨pp', sv', evv', epp', eppz, _⟩ := id hpz
        cases epp'
        walk_at "rd"
        refine newLL0 (Nat.le_of_ble_eq_true rfl) fun c1 H6 nc1 lc1 s6 ec1 => ?_
        refine ⟨lp, c1, _, _, rfl, rfl, s6 _ _ el, ec1, Nat.le_trans (m := 1000) (by rw [List.length_map]; simp only [List.length_cons, List.length_nil]; omega) (Nat.le_of_ble_eq_true rfl), fun c2 nc2 => ?_⟩
        have s7 := same_upd (o := HO.lst ((((pts.take j).map fun p => n :: p).flatten).map iV ++ [iV n])) nc2
        have ec2 := upd_same (H := H6) (a := c2) (o := HO.lst ((((pts.take j).map fun p => n :: p).flatten).map iV ++ [iV n]))
        generalize upd H6 c2 (.lst ((((pts.take j).map fun p => n :: p).flatten).map iV ++ [iV n])) = H7 at *
        walk_at "rd"
        have eq7 := (s6.trans s7) _ _ eqz
        refine ⟨c2, q, _, _, rfl, rfl, ec2, eq7, Nat.le_trans (m := 1000) (by rw [List.length_append, List.length_map, List.length_map]; simp only [List.length_cons, List.length_nil]; omega) (Nat.le_of_ble_eq_true rfl), fun c3 nc3 => ?_⟩
        have ex : (((pts.take j).map fun p => n :: p).flatten).map iV ++ [iV n] ++ l.map iV = (((pts.take (j + 1)).map fun p => n :: p).flatten).map iV := by
          rw [List.take_add_one, gl]
          simp only [Option.toList, List.map_append, List.flatten_append, List.map_cons, List.map_nil, List.flatten_cons, List.flatten_nil, List.append_nil, List.append_assoc, List.cons_append, List.nil_append]
        rw [ex]
        have s8 := same_upd (o := HO.lst ((((pts.take (j + 1)).map fun p => n :: p).flatten).map iV)) nc3
        have ec3 := upd_same (H := H7) (a := c3) (o := HO.lst ((((pts.take (j + 1)).map fun p => n :: p).flatten).map iV))
        generalize upd H7 c3 (.lst ((((pts.take (j + 1)).map fun p => n :: p).flatten).map iV)) = H8 at *
        have s68 := s6.trans (s7.trans s8)
        have et8 := s68 _ _ et
        have nc3t : c3 ≠ tp := Ne.symm (ne_of_none ((s6.trans s7) _ _ et) nc3)
        walk_at "rd"
        refine ⟨.ref pp, n, st, en, q, l, rfl, hpz.same s68, g, s8 _ _ eq7, by omega, ln, fun H9 s9 => ?_⟩
        walk_at "rd"
        have et9 := s9 _ _ et8
        refine i_append et9 (sm100 (by rw [List.length_map, List.length_map, List.length_take]; omega)) ?_
        have s69 := s68.trans s9
        have nt4 : H4 tp = none := ntp
        refine ⟨_, _, c3, rfl, by rw [upd_ne nc3t]; exact s9 _ _ ec3, nc3t, ?_, Same.set_new (s4z.trans s69) nt4, fun x o nx hx => by rw [upd_ne nx]; exact (s5z.trans (SB.of s69)) x o nx hx⟩
        rw [upd_same, List.take_add_one, gl, List.map_append, List.map_append]; rfl
      · obtain ⟨u5, u8, lp, rfl, el, nlt, et, s4z, s5z⟩ := h
        rw [lvs, List.take_length] at el et
        have Bz : BoxAt Hz b (d + 110 * i + 101) := (B5.sb s5z (Ne.symm ntpb)).mono (by omega)
        have dz : Same (L2.del H b) (L2.del Hz b) := d4.trans (del_sb (SB.of s4z))
        have sz : SB b H Hz := sx.trans (s1.trans (su.trans (SB.of (u4'.trans s4z))))
        have fl : ((pts.map fun p => n :: p).flatten).length ≤ 25 := by
          refine Nat.le_trans (flat_len (M := 4) fun l hl => (hpts l hl).1) ?_
          omega
        have wp : writD (stM st en) en (((pts.map fun p => n :: p).flatten).drop 1) = joinT (pts.map (writD st en)) := by
          rcases pts with _ | ⟨p, ps⟩
          · simp at l1
          · exact writ_parts g fun l hl => (hpts l hl).2
        have flt := flat_lt (n := n) (ps := pts) fun l hl => (hpts l hl).2
        have wl : ∀ w ∈ ((pts.map (writD st en)).map fun o => o.getD []), w.length ≤ 15 := fun w hw => by
          obtain ⟨o, ho, rfl⟩ := List.mem_map.mp hw
          obtain ⟨l, hl, rfl⟩ := List.mem_map.mp ho
          rcases e : writD st en l with _ | t
          · simp
          · have := (writD_ok g e).2
            have := (hpts l hl).1
            simp only [Option.getD]; omega
        have wl2 := flat_texts wl
        rw [List.length_map, List.length_map] at wl2
        have f1 : 1 ≤ ((pts.map fun p => n :: p).flatten).length := by
          rcases pts with _ | ⟨p, ps⟩
          · simp at l1
          · simp
        generalize pts.map (writD st en) = ts at *
        generalize (pts.map fun p => n :: p).flatten = fs at *
        walk_at "rd"
        refine i_inSeq (.inl (sqL_of et)) rfl (flat_ends _) ?_
        rw [inV_none]
        refine ⟨_, rfl, ?_⟩
        refine val_ifH2 (fun v H' => v = endV (joinT ts) ∧ H' = Hz) (fun Q' kQ => ?_) (fun v H6 hv => ?_)
        · by_cases c : none ∈ ts
          · rw [decide_eq_true c]
            refine iteT ?_
            walk_at "rd"
            exact kQ _ _ ⟨(congrArg endV (joinT_none c)).symm, rfl⟩
          · rw [decide_eq_false c]
            refine iteF ?_
            walk_at "rd"
            rw [ends_strs c] at et
            refine i_joinS et (by omega) ?_
            exact kQ _ _ ⟨(congrArg endV (joinT_some c)).symm, rfl⟩
        obtain ⟨rfl, rfl⟩ := hv
        have haz := del_sub _ _ (dz _ _ ha)
        walk_at "rd"
        refine ⟨a, dx, _, rfl, haz, rfl, ?_⟩
        walk_at "rd"
        refine ⟨lp, _, rfl, sqL_of el, fun c4 nc4 => ?_⟩
        rw [show (1 : Int) = ((1 : Nat) : Int) from rfl, cutV_from' fs f1]
        have s7 := same_upd (o := HO.lst ((fs.drop 1).map iV)) nc4
        have ec4 := upd_same (H := H6) (a := c4) (o := HO.lst ((fs.drop 1).map iV))
        generalize upd H6 c4 (.lst ((fs.drop 1).map iV)) = H7 at *
        walk_at "rd"
        refine ⟨c4, _, rfl, .inl ⟨sqL_of ec4, fun c5 nc5 => ?_⟩⟩
        have s8 := same_upd (o := HO.tup ((fs.drop 1).map iV)) nc5
        have ec5 := upd_same (H := H7) (a := c5) (o := HO.tup ((fs.drop 1).map iV))
        generalize upd H7 c5 (.tup ((fs.drop 1).map iV)) = H8 at *
        have D8 : DAt C H8 (.ref a) (n + 1) (stM st en) en := ((DAt.same dz ⟨a, dx, p1, p2, rfl, ha, hp1, hp2⟩).same del_sub).same (s7.trans s8)
        have sdw := writD_sd gM (l := fs.drop 1) (by rw [List.length_drop]; omega)
        walk_at "rd"
        refine ⟨.ref a, .ref c5, n + 1, _, _, fs.drop 1, rfl, D8, gM, ⟨c5, rfl, sqT_of ec5⟩, by rw [List.length_drop]; omega, fun x hx => flt x (List.mem_of_mem_drop hx), fun H9 s9 => ?_⟩
        rw [wp]
        rw [wp] at sdw
        walk_at "rd"
        refine i_repE (end_de _) sdw (by omega) (by omega) ?_
        walk_at "rd"
        refine i_repE (end_de _) sdw (by omega) (by omega) ?_
        walk_at "rd"
        refine ⟨rfl, ?_⟩
        rw [decide_eq_true rfl]
        walk_at "rd"
        have s69 := s7.trans (s8.trans s9)
        exact ⟨_, _, _, _, _, _, rfl, (Bz.same s69).mono (by omega), sz.trans (SB.of s69)⟩
    · obtain ⟨u3, u4, u5, u6, u7, u8, rfl, Bx, sx⟩ := h
      walk_at "rd"
      exact k _ (Bx.mono (by omega)) sx
end
end Sw
namespace Sw
open PySem PySem.Spec PyProof.Rows L2
local macro_rules | `(tactic| walk_at "hp") => `(tactic| first
  | (with_reducible assumption) | (with_reducible exact upd_same)
  | ((with_reducible refine' upd_old ?q1 ?q2); (case q1 => (with_reducible assumption)); (case q2 => walk_at "hp"))
  | ((with_reducible refine' Same.at ?q1 ?q2); (case q1 => (with_reducible assumption)); (case q2 => walk_at "hp"))
  | ((with_reducible refine' upd_skip ?q1 ?q2); (case q1 => walk_at "ne"); (case q2 => walk_at "hp"))
  | fail)
local macro_rules | `(tactic| walk_at "ne") => `(tactic| first
  | (with_reducible assumption) | (with_reducible exact Ne.symm (by assumption))
  | ((with_reducible refine' ne_of_none ?q1 ?q2); (case q2 => (with_reducible assumption)); (case q1 => walk_at "hp"))
  | fail)
local macro_rules | `(tactic| walk_at "ci") => `(tactic| first | assumption | (show (0 : Int) < _; first | decide | (with_reducible omega)) | exact ⟨by decide, by decide⟩ | exact .inl ⟨by decide, by decide⟩ | exact .inr ⟨by decide, by decide⟩)
local macro_rules | `(tactic| walk_at "ln") => `(tactic| first | (with_reducible assumption) | (with_reducible omega) | (simp only [List.length_append, List.length_take, List.length_drop, List.length_reverse, List.length_cons, List.length_nil]; with_reducible omega))
local macro_rules | `(tactic| walk_at "rd1") => `(tactic| first
  | (with_reducible refine i_seq ?_) | (with_reducible refine i_asg ?_) | (with_reducible refine i_ret ?_) | (with_reducible refine i_name ?_) | ((with_reducible refine' i_var ?q1 ?_); (case q1 => exact rfl)) | (with_reducible refine i_c ?_) | (with_reducible refine i_op ?_) | (with_reducible refine i_un ?_)
  | (with_reducible refine i_rI0 ?_) | (with_reducible refine i_cb ?_) | (with_reducible refine i_cons ?_) | (with_reducible refine i_nil ?_) | (with_reducible refine i_call ?_) | (with_reducible refine i_if ?_) | (with_reducible refine i_ifE ?_) | (with_reducible refine i_test ?_) | (with_reducible refine i_bl ?_)
  | (with_reducible refine i_and ?_) | (with_reducible refine i_or ?_) | (with_reducible refine i_not ?_) | (with_reducible refine i_lstM ?_) | (with_reducible refine i_lstLM ?_) | (with_reducible refine i_tupM ?_) | (with_reducible refine i_next ?_) | (with_reducible refine i_drop ?_) | (with_reducible refine i_sub ?_)
  | (with_reducible refine i_bm ?_) | (with_reducible refine i_sl ?_) | (with_reducible refine i_part ?_) | (with_reducible refine i_nopart ?_) | (with_reducible refine i_exI ?_) | (with_reducible refine i_chain ?_) | ((with_reducible refine' i_aug ?q1 ?_); (case q1 => exact rfl)) | (with_reducible refine i_ip ?_)
  | (with_reducible refine i_par ?_) | (with_reducible refine i_pair ?_) | (with_reducible refine i_andV ?_) | (with_reducible refine i_orV ?_) | (with_reducible refine i_notV ?_) | (with_reducible refine i_m1 ?_) | (with_reducible refine i_str ?_)
  | (with_reducible refine iteF ?_) | (with_reducible refine iteT ?_) | (with_reducible refine iteNT ?_) | (with_reducible refine iteNF ?_) | (with_reducible refine i_tyS ?_) | (with_reducible refine i_tB ?_) | (with_reducible refine i_retN ?_) | (with_reducible refine i_par3 ?_) | (with_reducible refine i_trip ?_) | (with_reducible refine i_gCons ?_) | (with_reducible refine i_gNil ?_) | (with_reducible refine i_lstRg ?_) | (with_reducible refine i_rg1 ?_)
  | (with_reducible refine i_lc ?_) | (with_reducible refine i_for ?_) | (with_reducible refine i_iList ?_) | (with_reducible refine i_iTup ?_) | (with_reducible refine i_iStr ?_) | (with_reducible refine i_iRng1 ?_) | (with_reducible refine i_iEnS ?_)
  | ((with_reducible refine' i_ixTH ?q1 ?q2 ?_); (case q1 => walk_at "hp"); (case q2 => exact rfl))
  | ((with_reducible refine' i_ixLH ?q1 ?q2 ?_); (case q1 => walk_at "hp"); (case q2 => exact rfl))
  | ((with_reducible refine i_addS ?q1 ?_); (case q1 => walk_at "ln")) | ((with_reducible refine i_lenSS ?q1 ?_); (case q1 => walk_at "ln")) | ((with_reducible refine i_slFrom ?q1 ?q2 ?_); (case q1 => walk_at "ln"); (case q2 => walk_at "ln")) | ((with_reducible refine i_slTo ?q1 ?q2 ?_); (case q1 => walk_at "ln"); (case q2 => walk_at "ln"))
  | ((with_reducible refine' i_tyL ?q1 ?_); (case q1 => walk_at "hp"))
  | ((with_reducible refine' i_gTupH ?q1 ?q2 ?_); (case q1 => walk_at "hp"); (case q2 => exact rfl))
  | (with_reducible refine i_dnewM ?_) | (with_reducible refine i_init ?_) | (with_reducible refine i_fst ?_) | (with_reducible refine i_mk ?_) | (with_reducible refine i_mkF ?_) | (with_reducible refine i_raise ?_) | (with_reducible refine i_callS ?_) | (with_reducible refine i_kwS ?_)
  | (with_reducible refine i_revT ?_) | (with_reducible refine i_kw ?_) | ((with_reducible refine' ⟨_, _, rfl, sqT_of ?q1, ?_⟩); (case q1 => walk_at "hp"))
  | (with_reducible refine i_revS ?_) | ((with_reducible refine i_revSS ?q1 ?_); (case q1 => walk_at "ln"))
  | (with_reducible refine i_startS ?_) | (with_reducible refine i_inSg ?_) | (with_reducible refine i_absN ?_) | (with_reducible refine i_min2 ?_) | (with_reducible refine i_max2 ?_) | (with_reducible refine i_min3 ?_) | (with_reducible refine i_intN ?_) | (with_reducible refine i_intNB ?_)
  | ((with_reducible refine' i_lenL ?q1 ?_); (case q1 => walk_at "hp")) | ((with_reducible refine' i_lenT ?q1 ?_); (case q1 => walk_at "hp"))
  | (with_reducible refine i_eqI ?_) | (with_reducible refine i_neI ?_) | (with_reducible refine i_eqS ?_) | (with_reducible refine i_neS ?_) | (with_reducible refine i_isNoI ?_) | (with_reducible refine i_isNoN ?_) | (with_reducible refine i_isNoR ?_)
  | ((with_reducible refine i_pow ?q1 ?q2 ?q3 ?_); (case q1 => decide); (case q2 => decide); (case q3 => (with_reducible omega)))
  | ((with_reducible refine i_rI ?q1 ?_); (case q1 => walk_at "ci"))
  | (with_reducible refine Or.inl ⟨_, rfl, ?_⟩) | (with_reducible refine Or.inr ⟨_, rfl, ?_⟩) | (with_reducible refine ⟨_, rfl, ?_⟩) | (with_reducible refine ⟨_, _, rfl, ?_⟩) | (with_reducible refine ⟨_, _, rfl, rfl, ?_⟩)
  | ((with_reducible refine' ⟨_, _, rfl, Or.inl (sqL_of ?q1), ?_⟩); (case q1 => walk_at "hp")) | ((with_reducible refine' ⟨_, _, rfl, Or.inr (sqT_of ?q1), ?_⟩); (case q1 => walk_at "hp")) | (with_reducible refine i_dget ?_) | (with_reducible refine i_disp1T ?_) | (with_reducible refine i_dcT ?_) | (with_reducible refine i_dnewT ?_) | (with_reducible refine i_fld ?_) | (with_reducible refine i_sFld ?_) | (with_reducible refine i_make ?_) | (with_reducible refine i_meth ?_) | (with_reducible refine i_star ?_) | (with_reducible refine i_isNoS ?_) | (with_reducible refine i_lc2 ?_) | (with_reducible refine i_iEnT ?_) | (with_reducible refine i_iZipT ?_) | fail)
local macro_rules | `(tactic| walk_at "rd") => `(tactic| repeat' walk_at "rd1")

open Lev (lev)
theorem cutV_mid {α : Type} (l : List α) (f : α → V) {i j : Nat} (h : i ≤ j) (h2 : j ≤ l.length) : cutV (l.map f) (some (i : Int)) (some (j : Int)) = ((l.drop i).take (j - i)).map f := by
  unfold cutV
  rw [HT.sIx_nat, HT.sIx_nat, List.length_map, show min i l.length = i by omega, show min j l.length = j by omega, ← List.map_drop, ← List.map_take]
theorem sum_iV (l : List Nat) : (l.map fun x : Nat => (x : Int)).sum = ((l.sum : Nat) : Int) := by
  induction l with
  | nil => rfl
  | cons x l ih => rw [List.map_cons, List.sum_cons, List.sum_cons, ih]; omega
theorem i_sumN {K : PySem.W.Frag} {p : Addr} {l : List Nat} {H : Hp} {Q : VK} (h1 : H p = some (.lst (l.map iV))) (h : Q (.int ((l.sum : Nat) : Int)) H) : rSum K [.ref p] H Q :=
  ⟨p, l.map fun x : Nat => (x : Int), rfl, sqL_of (by rw [List.map_map]; exact h1), by rw [sum_iV]; exact h⟩
theorem val_andH {c0 : Bool} {t : TE} {σ : L2.St} {H : Hp} {Q : VK} (P : V → Hp → Prop) (h1 : ∀ Q' : VK, (∀ v H', P v H' → Q' v H') → if c0 = true then t σ H Q' else Q' (.bl false) H) (h2 : ∀ v H', P v H' → Q v H') : if c0 = true then t σ H Q else Q (.bl false) H := h1 Q h2
theorem val_orH {c0 : Bool} {t : TE} {σ : L2.St} {H : Hp} {Q : VK} (P : V → Hp → Prop) (h1 : ∀ Q' : VK, (∀ v H', P v H' → Q' v H') → if c0 = true then Q' (.bl true) H else t σ H Q') (h2 : ∀ v H', P v H' → Q v H') : if c0 = true then Q (.bl true) H else t σ H Q := h1 Q h2
theorem cutV_toV (xs : List V) {k : Nat} (h : k ≤ xs.length) : cutV xs none (some (k : Int)) = xs.take k := by
  unfold cutV
  rw [HT.sIx_nat, HT.sIx_none, List.drop_zero, Nat.sub_zero, Nat.min_eq_left h]
theorem cutV_from1 (x : Nat) (l : List Nat) : cutV ((x :: l).map iV) (some 1) none = l.map iV := cutV_from' (x :: l) (k := 1) (by simp)
theorem cutV_from2 (x y : Nat) (l : List Nat) : cutV ((x :: y :: l).map iV) (some 2) none = l.map iV := cutV_from' (x :: y :: l) (k := 2) (by simp)
theorem cutV_to1 {xs : List V} (h : 1 ≤ xs.length) : cutV xs none (some 1) = xs.take 1 := cutV_toV xs (k := 1) h
theorem i_iZip {K : PySem.W.Frag} {ta : TA} {σ : L2.St} {H : Hp} {R : It → Hp → Prop} (h : ta σ H fun vs H1 => ∃ a b xs ys, vs = [.ref a, .ref b] ∧ SqL K H1 a xs ∧ SqL K H1 b ys ∧ R (Itz K a b) H1) : iZip K ta σ H R := h
def stepVs (p : Nat × Nat) : List V := if p.1 = p.2 then [.str (S tSame), iV p.1] else [.str (S tTurned), iV p.1, iV p.2]
/-- a step of a passing -/
def StpAt (H : Hp) (v : V) (p : Nat × Nat) : Prop := ∃ t, v = .ref t ∧ H t = some (.tup (stepVs p))
theorem StpAt.tk {H H' : Hp} (s : TK H H') {v : V} {p : Nat × Nat} (h : StpAt H v p) : StpAt H' v p := by
  obtain ⟨t, e, h⟩ := h; exact ⟨t, e, s _ _ h⟩
theorem StpAt.box {H : Hp} {b : Addr} {dd : Int} (B : BoxAt H b dd) {v : V} {p : Nat × Nat} (h : StpAt H v p) : StpAt (L2.del H b) v p := by
  obtain ⟨i, xs, eb⟩ := box_lst B
  obtain ⟨t, rfl, e⟩ := h
  exact ⟨t, rfl, by rw [L2.del_ne fun c => by rw [c, eb] at e; cases e]; exact e⟩
theorem StpAt.de {K : PySem.W.Frag} {H : Hp} {v : V} {p : Nat × Nat} (h : StpAt H v p) : De K H v (stepD p) := by
  obtain ⟨t, rfl, e⟩ := h
  unfold stepVs at e
  unfold stepD
  split at e
  · rename_i c; rw [if_pos c]; exact .tup (sqT_of e) (.cons (.str _) (.cons (.int _) .nil))
  · rename_i c; rw [if_neg c]; exact .tup (sqT_of e) (.cons (.str _) (.cons (.int _) (.cons (.int _) .nil)))
theorem stps_de {K : PySem.W.Frag} {H : Hp} {vs : List V} {ps : List (Nat × Nat)} (h : Paired (StpAt H) vs ps) : DeAll K H vs (ps.map stepD) := by
  induction h with
  | nil => exact .nil
  | cons h _ ih => exact .cons h.de ih
theorem cond_orH' {c0 : Bool} {t : L2.St → Hp → (Bool → Hp → Prop) → Prop} {σ : L2.St} {H : Hp} {R : Bool → Hp → Prop} (P : Bool → Hp → Prop) (h1 : ∀ R' : Bool → Hp → Prop, (∀ c H', P c H' → R' c H') → if c0 = true then R' true H else t σ H R') (h2 : ∀ c H', P c H' → R c H') : if c0 = true then R true H else t σ H R := h1 R h2
theorem mods_len (zs : List Int) (n : Nat) : (zs.map fun z => (z % (n : Int)).toNat).length = zs.length := List.length_map ..
theorem mods_id {n : Nat} {B : List Nat} (h : ∀ x ∈ B, x < n) : ((B.map fun x : Nat => (x : Int)).map fun z => (z % (n : Int)).toNat) = B := by
  rw [List.map_map]
  refine (List.map_congr_left fun x hx => ?_).trans (List.map_id B)
  have := h x hx
  simp only [Function.comp, id]
  rw [← Int.natCast_emod, Nat.mod_eq_of_lt this]; rfl
theorem mods_lt {n : Nat} (hn : 1 ≤ n) {zs : List Int} : ∀ x ∈ (zs.map fun z => (z % (n : Int)).toNat), x < n := by
  intro x hx
  obtain ⟨z, _, rfl⟩ := List.mem_map.mp hx
  have h1 := Int.emod_lt_of_pos z (show (0 : Int) < n by omega)
  have h0 := Int.emod_nonneg z (show (n : Int) ≠ 0 by omega)
  omega
theorem zip_fst {α β : Type} : ∀ {xs : List α} {ys : List β}, xs.length = ys.length → (xs.zip ys).map Prod.fst = xs
  | [], [], _ => rfl
  | x :: xs, y :: ys, h => by
    rw [List.zip_cons_cons, List.map_cons, zip_fst (by simpa using h)]
theorem zip_snd {α β : Type} : ∀ {xs : List α} {ys : List β}, xs.length = ys.length → (xs.zip ys).map Prod.snd = ys
  | [], [], _ => rfl
  | x :: xs, y :: ys, h => by
    rw [List.zip_cons_cons, List.map_cons, zip_snd (by simpa using h)]
def harmD : Option (List Nat) → Option (List Nat) → PyData
  | some a, some b => .int (lev a b : Nat)
  | _, _ => .none
theorem harm_de {K : PySem.W.Frag} {H : Hp} : ∀ a b : Option (List Nat), De K H (harmV a b) (harmD a b)
  | some _, some _ => .int _
  | some _, none => .non
  | none, _ => .non
theorem harm_sd : ∀ {a b : Option (List Nat)}, (∀ t, a = some t → t.length ≤ 100) → (∀ t, b = some t → t.length ≤ 100) → Sd 0 300 (harmD a b)
  | some a, some b, h1, h2 => by
    have h1 := h1 a rfl
    have h2 := h2 b rfl
    have := Lev.lev_le_max a b
    exact (sd_int9 (i := ((lev a b : Nat) : Int)) (by omega)).mono (by omega) (by omega)
  | some _, none, _, _ => sd_non.mono (by omega) (by omega)
  | none, _, _, _ => sd_non.mono (by omega) (by omega)
/-- _law_exchanged_right(box, plain, many) -/
def spXR : Sp := fun vs H Q _ => ∃ (b : Addr) (v : V) (n m : Nat) (st : List (List Ent)) (en : List (Option (List Nat))) (d : Int), vs = [.ref b, v, iV m] ∧ PlnAt (L2.del H b) v n st en ∧ Good n st en ∧ n ≤ 4 ∧ st.length ≤ 4 ∧ 1 ≤ m ∧ m ≤ 2 ∧ BoxAt H b d ∧ d + 100 ≤ 1000000 ∧
  ∀ H', BoxAt H' b (d + 100) → SB b H H' → Q (.bl true) H'
section
variable {P : Program} {w : World} {K : PySem.W.Frag} {mg : Str → Option Value} {base : Heap} {f : Addr} {fd : FuncData}
theorem ok_xr {C XD XM : Addr} (F : Fun K "_law_exchanged_right" "_law_exchanged_right" s__law_exchanged_right f fd) (z : Z mg) (m_Decoder : C8.Mak P w K mg base 5 "Decoder" C (spIni C) [])
    (x_with_check : CalX P w K mg base "with_check" ["decoder", "size"] 7 (spWC K C XD XM))
    (c__law_take : Cal P w K mg base "_law_take" ["box", "many"] 1 spTake) (c__law_line : Cal P w K mg base "_law_line" ["box", "plain", "most"] 2 spLineB) (c__law_written : Cal P w K mg base "_law_written" ["plain", "line"] 1 spWrt)
    (c__law_blocks : Cal P w K mg base "_law_blocks" ["plain", "many"] 1 spBlk) (c_harm_of : Cal P w K mg base "harm_of" ["decoder", "passing"] 8 (spHarm K C)) (c__law_distance : Cal P w K mg base "_law_distance" ["one", "other"] 1 spTable) :
    FnG P w K mg base CX0 9 f fd ["box", "plain", "many"] spXR := by
  refine Sw.Fun.okG0 F sc__law_exchanged_right (fun vs H Q E h => ?_) (fun cdv A outer s H vs Q E hr quiet h => ?_)
  · obtain ⟨b, v, n, m, st, en, d, rfl, _⟩ := h; rfl
  · obtain ⟨b, v, n, m, st, en, d, rfl, hp, g, n4, S4, m1, m2, B, hd, k⟩ := h
    refine ⟨_, (pss_cons (ps_set (i := 3) sc__law_exchanged_right.nd rfl (.inl rfl) (pe_cal c__law_blocks hr (pa_cons (pv 1) (pa_cons (pv 2) pa_nil))))
      (pss_cons (ps_if (PW.pt (pw_or (pt_cmpR op_gt (pe_callB call_lenQ (by rfl) z.len PySem.boot_len (pa_cons (pe_ix ix_list (pv 3) pe_int (fun _ _ => rfl)) pa_nil)) pe_int (nomark _)) (pw_or1 (pt_cmpR op_lt (pe_ix ix_list (pv 1) pe_int (fun _ _ => rfl)) pe_int (nomark _)))))
        (pss_one (ps_ret pe_bl))
        pss_nil)
      (pss_cons (ps_set (i := 4) sc__law_exchanged_right.nd rfl (.inl rfl) (pe_calX x_with_check hr takes_none (pa_cons (C8.pe_mk m_Decoder hr (by decide) (by rfl) (pa_cons (pe_ix ix_list (pv 1) pe_int (fun _ _ => rfl)) (pa_cons (pe_ix ix_list (pv 1) pe_int (fun _ _ => rfl)) (pa_cons (pe_ix ix_list (pv 1) pe_int (fun _ _ => rfl)) pa_nil)))) (pa_cons (pv 2) pa_nil))))
      (pss_cons (ps_asg (pe_tup (pa_cons (pe_cal c__law_line hr (pa_cons (pv 0) (pa_cons (pv 1) (pa_cons (pe_op op_mul pe_int (pv 2)) pa_nil)))) (pa_cons (pe_lstL pa_nil) (pa_cons (pe_lstL pa_nil) (pa_cons (pe_lstL pa_nil) pa_nil))))) (pg_tup rfl (pgs_cons (pg_name (i := 5) sc__law_exchanged_right.nd rfl (.inl rfl)) (pgs_cons (pg_name (i := 6) sc__law_exchanged_right.nd rfl (.inl rfl)) (pgs_cons (pg_name (i := 7) sc__law_exchanged_right.nd rfl (.inl rfl)) (pgs_cons (pg_name (i := 8) sc__law_exchanged_right.nd rfl (.inl rfl)) pgs_nil))))))
      (pss_cons (ps_set (i := 5) sc__law_exchanged_right.nd rfl (.inl rfl) (pe_slice sl_list (pv 5) po_none (po_some (pe_op op_mul (pe_op op_fdiv (pe_callB call_lenQ (by rfl) z.len PySem.boot_len (pa_cons (pv 5) pa_nil)) (pv 2)) (pv 2)))))
      (pss_cons (ps_par3 (i := 9) (j := 10) (l := 11) rfl sc__law_exchanged_right.nd rfl rfl rfl (by decide) (by decide) (by decide) rfl rfl rfl (pa_cons (pe_cal c__law_take hr (pa_cons (pv 0) (pa_cons (pe_op op_add (pe_op op_fdiv (pe_callB call_lenQ (by rfl) z.len PySem.boot_len (pa_cons (pv 5) pa_nil)) (pv 2)) pe_int) pa_nil))) (pa_cons (pe_op op_add pe_int (pe_cal c__law_take hr (pa_cons (pv 0) (pa_cons (pe_op op_sub (pe_ix ix_list (pv 1) pe_int (fun _ _ => rfl)) pe_int) pa_nil)))) (pa_cons (pe_cmpR op_eq (pe_cal c__law_take hr (pa_cons (pv 0) (pa_cons pe_int pa_nil))) pe_int (nomark _)) pa_nil))) (by rfl))
      (pss_cons (ps_for PassesOwn.never rfl (pi_range1 (by rfl) z.range (pa_cons (pe_op op_fdiv (pe_callB call_lenQ (by rfl) z.len PySem.boot_len (pa_cons (pv 5) pa_nil)) (pv 2)) pa_nil)) (pg_name (i := 12) sc__law_exchanged_right.nd rfl (.inl rfl))
        (pss_cons (ps_set (i := 13) sc__law_exchanged_right.nd rfl (.inl rfl) (pe_slice sl_list (pv 5) (po_some (pe_op op_mul (pv 12) (pv 2))) (po_some (pe_op op_add (pe_op op_mul (pv 12) (pv 2)) (pv 2)))))
        (pss_cons (ps_set (i := 14) sc__law_exchanged_right.nd rfl (.inl rfl) (pe_op op_cat (pe_lstL (pa_cons (pe_op op_add (pe_ix ix_list (pv 13) pe_int (fun _ _ => rfl)) (pe_ifExp (pt_cmpR op_eq (pv 12) (pv 9) (nomark _)) (pv 10) pe_int)) pa_nil)) (pe_slice sl_list (pv 13) (po_some pe_int) po_none)))
        (pss_cons (ps_set (i := 15) sc__law_exchanged_right.nd rfl (.inl rfl) (pe_and (pe_cmpR op_eq (pv 12) (pv 9) (nomark _)) (pe_and (pe_cmpR op_gt (pv 2) pe_int (nomark _)) (pe_one (pe_cmpR op_eq (pe_cal c__law_take hr (pa_cons (pv 0) (pa_cons pe_int pa_nil))) pe_int (nomark _))))))
        (C8.pss_cut (ps_if (pt_val (pv 15))
          (pss_one (ps_set (i := 14) sc__law_exchanged_right.nd rfl (.inl rfl) (pe_op op_cat (pe_op op_cat (pe_slice sl_list (pv 14) po_none (po_some pe_int)) (pe_lstL (pa_cons (pe_op op_sub (pe_ix ix_list (pv 13) pe_int (fun _ _ => rfl)) (pv 10)) pa_nil))) (pe_slice sl_list (pv 13) (po_some pe_int) po_none))))
          pss_nil)
        (pss_cons (ps_setLc (i := 14) (own := [("sign", 16)]) (g := gName 16) (tt := tYes) rfl sc__law_exchanged_right.nd rfl rfl (sw_true rfl rfl rfl (by decide +kernel)) (pi_list (pv 14)) (blkOk_by (own := [("sign", 16)]) (N := n__law_exchanged_right) (sc := defScope s__law_exchanged_right) (by decide +kernel)) (fun _ _ _ _ _ => (pg_name (i := 16) sc__law_exchanged_right.nd rfl (.inl rfl))) (fun _ _ _ _ _ => pts_nil) (fun _ _ _ _ _ => (pe_op op_mod (pe_callTy call_intN (by rfl) z.int (by decide +kernel) (pa_cons (pv 16) pa_nil)) (pe_ix (r := rIxL K) ix_list (pv 1) pe_int (fun _ _ => rfl)))))
        (pss_cons (ps_set (i := 17) sc__law_exchanged_right.nd rfl (.inl rfl) (pe_ifExp (pt_val (pv 11)) (pe_op op_mod (pe_callB (cr_sum rfl) (by rfl) z.sum (by decide +kernel) (pa_cons (pv 13) pa_nil)) (pe_ix ix_list (pv 1) pe_int (fun _ _ => rfl))) (pe_op op_mod (pe_callB (cr_sum rfl) (by rfl) z.sum (by decide +kernel) (pa_cons (pv 14) pa_nil)) (pe_ix ix_list (pv 1) pe_int (fun _ _ => rfl)))))
        (pss_cons (ps_for PassesOwn.never rfl (pi_zip (by rfl) z.zip (pa_cons (pe_op op_cat (pv 13) (pe_lstL (pa_cons (pe_op op_mod (pe_callB (cr_sum rfl) (by rfl) z.sum (by decide +kernel) (pa_cons (pv 13) pa_nil)) (pe_ix ix_list (pv 1) pe_int (fun _ _ => rfl))) pa_nil))) (pa_cons (pe_op op_cat (pv 14) (pe_lstL (pa_cons (pv 17) pa_nil))) pa_nil))) (pg_tup rfl (pgs_cons (pg_name (i := 18) sc__law_exchanged_right.nd rfl (.inl rfl)) (pgs_cons (pg_name (i := 19) sc__law_exchanged_right.nd rfl (.inl rfl)) pgs_nil)))
          (pss_one (ps_expr (pe_bm PySem.F.plainAttrs_list PySem.F.slot_list_append PySem.F.type_list_append mt_append (pv 6) (pa_cons (pe_ifExp (pt_cmpR op_eq (pv 18) (pv 19) (nomark _)) (pe_tup (pa_cons (pe_strS (l := [115, 97, 109, 101]) (by decide +kernel)) (pa_cons (pv 18) pa_nil))) (pe_tup (pa_cons (pe_strS (l := [116, 117, 114, 110, 101, 100]) (by decide +kernel)) (pa_cons (pv 18) (pa_cons (pv 19) pa_nil))))) pa_nil)))))
        (pss_one (ps_par (i := 7) (j := 8) rfl sc__law_exchanged_right.nd rfl rfl (by decide) rfl rfl (pa_cons (pe_op op_cat (pv 7) (pv 14)) (pa_cons (pe_op op_cat (pv 8) (pv 13)) pa_nil)) (by rfl)))))))))))
      (pss_cons (ps_set (i := 20) sc__law_exchanged_right.nd rfl (.inl rfl) (pe_lstL (pa_cons (pe_cal c__law_written hr (pa_cons (pv 1) (pa_cons (pv 8) pa_nil))) (pa_cons (pe_cal c__law_written hr (pa_cons (pv 1) (pa_cons (pv 7) pa_nil))) pa_nil))))
      (pss_cons (ps_set (i := 21) sc__law_exchanged_right.nd rfl (.inl rfl) (pe_or (pe_cmpR op_in_seq pe_non (pv 20) (by rfl)) (pe_one (pe_and (pv 11) (pe_and (pe_cmpR op_lt (pv 9) (pe_op op_fdiv (pe_callB call_lenQ (by rfl) z.len PySem.boot_len (pa_cons (pv 5) pa_nil)) (pv 2)) (nomark _)) (pe_one (pe_cmpR op_ne (pe_op op_mod (pe_callB (cr_sum rfl) (by rfl) z.sum (by decide +kernel) (pa_cons (pv 8) pa_nil)) (pe_ix ix_list (pv 1) pe_int (fun _ _ => rfl))) (pe_op op_mod (pe_callB (cr_sum rfl) (by rfl) z.sum (by decide +kernel) (pa_cons (pv 7) pa_nil)) (pe_ix ix_list (pv 1) pe_int (fun _ _ => rfl))) (nomark _))))))))
      (pss_cons (ps_set (i := 22) sc__law_exchanged_right.nd rfl (.inl rfl) (pe_cal c_harm_of hr (pa_cons (pv 4) (pa_cons (pe_callTy call_tuple_of (by rfl) z.tuple (by decide +kernel) (pa_cons (pv 6) pa_nil)) pa_nil))))
      (pss_one (ps_ret (pe_cmpR op_eq (pe_callB (call_repE quiet hr.units) (by rfl) z.repr (by decide +kernel) (pa_cons (pv 22) pa_nil)) (pe_callB (call_repE quiet hr.units) (by rfl) z.repr (by decide +kernel) (pa_cons (pe_ifExp (pt_val (pv 21)) pe_non (pe_cal c__law_distance hr (pa_cons (pe_ix ix_list (pv 20) pe_int (fun _ _ => rfl)) (pa_cons (pe_ix ix_list (pv 20) pe_int (fun _ _ => rfl)) pa_nil)))) pa_nil)) (nomark _)))))))))))))), ?_⟩
    have n1 := g.n1
    have few := few_of (m := m) g S4 (by omega) m2
    have hpf := hp.same del_sub
    obtain ⟨pp, sv, evv, rfl, epp, hst, hen⟩ := hp
    walk_at "rd"
    refine ⟨.ref pp, n, m, st, en, rfl, hpf, g, few, m1, by omega, fun v' H1 s1 hD => ?_⟩
    obtain ⟨dp, dsv, dev, rfl, edp, ⟨spd, svs, rfl, esd, prsd⟩, _⟩ := hD
    have lsv : svs.length = (finP st n m).length := by rw [Paired.length prsd]; simp only [stC, List.length_map]
    have epp1 := s1 _ _ (del_sub _ _ epp)
    walk_at "rd"
    rw [lsv]
    by_cases h40 : (finP st n m).length ≤ 40
    rotate_left
    · rw [decide_eq_true (show (40 : Int) < ((finP st n m).length : Int) by omega)]
      walk_at "rd"
      exact k _ ((B.same s1).mono (by omega)) (SB.of s1)
    rw [decide_eq_false (show ¬ (40 : Int) < ((finP st n m).length : Int) by omega)]
    walk_at "rd"
    by_cases hn2 : n < 2
    · rw [decide_eq_true (show (n : Int) < 2 by omega)]
      walk_at "rd"
      exact k _ ((B.same s1).mono (by omega)) (SB.of s1)
    rw [decide_eq_false (show ¬ (n : Int) < 2 by omega)]
    walk_at "rd"
    refine i_makeD ((hst.same del_sub).same s1) ((hen.en.same del_sub).same s1) g fun hv H2 s2 D2 => ?_
    walk_at "rd"
    refine ⟨hv, iV m, rfl, .inr ⟨n, m, st, en, D2, g, few, rfl, m1, by omega, fun h => by omega, fun _ cv H3 s3 D3 => ?_⟩⟩
    have gC := good_C g few h40
    have s03 := s1.trans (s2.trans s3)
    have B3 := B.same s03
    have d3 := del_sb (SB.of (b := b) s03)
    have hpl : ∀ {H' : Hp}, Same (L2.del H b) H' → PlnAt H' (.ref pp) n st en := fun s => ⟨pp, sv, evv, rfl, s _ _ epp, hst.same s, hen.same s⟩
    walk_at "rd"
    refine ⟨b, .ref pp, n, 2 * m, st, en, _, ?_, hpl d3, g, by omega, B3, by omega, fun lp0 l0 H4 nlp0 elp0 ll0 ln0 B4 s4 => ?_⟩
    · show [V.ref b, V.ref pp, V.int (2 * (m : Int))] = [V.ref b, V.ref pp, V.int ((2 * m : Nat) : Int)]
      rw [Int.natCast_mul]; rfl
    walk_at "rd"
    refine newLL B4 (Nat.le_of_ble_eq_true rfl) fun pl H5 ltpl npl B5 s5 e5 u5 => ?_
    walk_at "rd"
    refine newLL B5 (Nat.le_of_ble_eq_true rfl) fun op H6 ltop nop B6 s6 e6 u6 => ?_
    walk_at "rd"
    refine newLL B6 (Nat.le_of_ble_eq_true rfl) fun cp H7 ltcp ncp B7 s7 e7 u7 => ?_
    walk_at "rd"
    refine newT B7 (Nat.le_of_ble_eq_true rfl) fun tt H8 B8 s8 e8 u8 => ?_
    have e8f := del_sub _ _ e8
    have nplb := box_ne B4 npl
    have hpl0 : H4 pl = none := npl
    have elp8 := (s5.trans (s6.trans (s7.trans s8))) _ _ elp0
    have elp8f := del_sub _ _ elp8
    walk_at "rd"
    rw [List.length_map]
    refine i_rI (by first | exact ⟨by omega, by omega⟩ | omega) ?_
    walk_at "rd"
    refine i_rI (Or.inr ⟨by omega, by omega⟩) ?_
    walk_at "rd"
    refine ⟨lp0, l0.map iV, rfl, sqL_of elp8f, fun lp nlp => ?_⟩
    have ek : (l0.length : Int) / (m : Int) * (m : Int) = ((l0.length / m * m : Nat) : Int) := by rw [Int.natCast_mul, Int.natCast_ediv]
    have hkk : l0.length / m ≤ 2 := Nat.le_of_lt_succ ((Nat.div_lt_iff_lt_mul (by omega)).mpr (by omega))
    rw [ek, cutV_to' l0 (Nat.div_mul_le_self _ _)]
    generalize hK : l0.length / m = kk at *
    have hle : kk * m ≤ l0.length := by rw [← hK]; exact Nat.div_mul_le_self _ _
    generalize hl : l0.take (kk * m) = l at *
    have ll : l.length = kk * m := by rw [← hl, List.length_take]; omega
    have ln : ∀ x ∈ l, x < n := fun x hx => ln0 x (by rw [← hl] at hx; exact List.mem_of_mem_take hx)
    have s9 := same_upd (o := HO.lst (l.map iV)) nlp
    have e9 := upd_same (H := H8) (a := lp) (o := HO.lst (l.map iV))
    have nlpb := box_ne B8 nlp
    have B9 := B8.same s9
    generalize upd H8 lp (.lst (l.map iV)) = H9 at *
    have e9d : L2.del H9 b lp = some (.lst (l.map iV)) := by rw [L2.del_ne nlpb]; exact e9
    have edk : (((l.map iV).length : Nat) : Int) / (m : Int) = (kk : Int) := by rw [List.length_map, ll, ← Int.natCast_ediv, Nat.mul_div_cancel _ (by omega)]
    walk_at "rd"
    refine i_rI (by first | exact ⟨by omega, by omega⟩ | omega) ?_
    rw [edk]
    walk_at "rd"
    refine ⟨b, (kk : Int) + 1, _, rfl, B9, by omega, by omega, by omega, fun sp H10 sp0 sp1 B10 s10 => ?_⟩
    obtain ⟨sp, rfl⟩ : ∃ y : Nat, sp = y := ⟨sp.toNat, by omega⟩
    have d4 : Same (L2.del H b) (L2.del H4 b) := d3.trans (del_sb s4)
    have d49 : Same (L2.del H4 b) (L2.del H9 b) := s5.trans (s6.trans (s7.trans (s8.trans (del_sb (SB.of s9)))))
    have epp10 := del_sub _ _ ((d4.trans (d49.trans (del_sb s10))) _ _ epp)
    walk_at "rd"
    refine ⟨b, (n : Int) - 1, _, rfl, B10, by omega, by omega, by omega, fun up H11 up0 up1 B11 s11 => ?_⟩
    walk_at "rd"
    refine ⟨b, 5, _, rfl, B11, by omega, by omega, by omega, fun al H12 al0 al1 B12 s12 => ?_⟩
    have s912 := s10.trans (s11.trans s12)
    have e12 := s912 _ _ nlpb e9
    have d912 := del_sb s912
    have d12 := d4.trans (d49.trans d912)
    have epp12 := del_sub _ _ (d12 _ _ epp)
    walk_at "rd"
    generalize hal : decide (al = 0) = ab at *
    refine i_rI ⟨by omega, by omega⟩ ?_
    rw [edk]
    walk_at "rd"
    refine i_rng (by omega) (by omega) ?_
    rw [Int.toNat_natCast]
    have k412 : Same (L2.del H4 b) (L2.del H12 b) := d49.trans d912
    have k512 : Same (L2.del H5 b) (L2.del H12 b) := s6.trans (s7.trans (s8.trans ((del_sb (SB.of s9)).trans d912)))
    have s012 : SB b H H12 := ((SB.of s03).trans s4).trans ((SB.of ((u5.trans (u6.trans (u7.trans u8))).trans s9)).trans s912)
    have nopp : op ≠ pl := Ne.symm (ne_of_none (del_sub _ _ e5) nop)
    have ncpp : cp ≠ pl := Ne.symm (ne_of_none (del_sub _ _ (s6 _ _ e5)) ncp)
    have nlpp : lp ≠ pl := Ne.symm (ne_of_none (del_sub _ _ ((s6.trans (s7.trans s8)) _ _ e5)) nlp)
    have k612 : Same (L2.del H6 b) (L2.del H12 b) := s7.trans (s8.trans ((del_sb (SB.of s9)).trans d912))
    have k712 : Same (L2.del H7 b) (L2.del H12 b) := s8.trans ((del_sb (SB.of s9)).trans d912)
    have e12d : L2.del H12 b lp = some (.lst (l.map iV)) := by rw [L2.del_ne nlpb]; exact e12
    refine go_for walk_rangeZ (fun i σ Hx => ∃ (w12 w13 w14 w15 w16 w17 w18 w19 : Option V) (ps : List (Nat × Nat)) (Cs Os : List Nat) (oq cq : Addr) (vs : List V),
        σ = [some (.ref b), some (.ref pp), some (iV m), some (.ref dp), some cv, some (.ref lp), some (.ref pl), some (.ref oq), some (.ref cq), some (iV sp), some (.int (1 + up)), some (.bl ab), w12, w13, w14, w15, w16, w17, w18, w19, none, none, none] ∧
        L2.del Hx b pl = some (.lst vs) ∧ Paired (StpAt (L2.del Hx b)) vs ps ∧ ps.length ≤ 3 * i ∧ (∀ p ∈ ps, p.1 < n ∧ p.2 < n) ∧ Exch st n m ab sp i (ps.map Prod.fst) (ps.map Prod.snd) Cs Os ∧
        L2.del Hx b oq = some (.lst (Os.map iV)) ∧ L2.del Hx b cq = some (.lst (Cs.map iV)) ∧ oq ≠ pl ∧ cq ≠ pl ∧ Cs.length = i * m ∧ Os.length = i * m ∧ (∀ x ∈ Cs, x < n) ∧ (∀ x ∈ Os, x < n) ∧
        L2.del Hx b lp = some (.lst (l.map iV)) ∧ BoxAt Hx b (d + 23 + i) ∧ Same (L2.del H4 b) (L2.del Hx b) ∧ SB b H Hx)
      ⟨_, _, _, _, _, _, _, _, [], [], [], op, cp, [], rfl, k512 _ _ e5, .nil, by simp, nofun, Exch.zero, k612 _ _ e6, k712 _ _ e7, nopp, ncpp, by simp, by simp, nofun, nofun, e12d, B12.mono (by omega), k412, s012⟩ (fun _ _ _ _ _ => trivial) (fun i y0 σ Hx Hy hi h y => ?_) (fun σ Hx h => ?_)
    · obtain ⟨w12, w13, w14, w15, w16, w17, w18, w19, ps, Cs, Os, oq, cq, vs, rfl, epl, prs, lps, hps, ex, eo, ec, noq, ncq, lC, lO, hC, hO, elp, Bx, k4x, sx⟩ := h
      obtain ⟨rfl, rfl⟩ := y
      have hi : i < kk := hi
      have dx := d4.trans k4x
      have eppx := del_sub _ _ (dx _ _ epp)
      have elpx := del_sub _ _ elp
      have nlpb' : lp ≠ b := nlpb
      walk_at "rd"
      refine i_rI (Or.inr ⟨by omega, by omega⟩) ?_
      walk_at "rd"
      refine i_rI (Or.inr ⟨by omega, by omega⟩) ?_
      walk_at "rd"
      refine ⟨lp, l.map iV, rfl, sqL_of elpx, fun bp nbp => ?_⟩
      have him : i * m + m ≤ kk * m := by
        have : (i + 1) * m ≤ kk * m := Nat.mul_le_mul_right _ (by omega)
        rw [Nat.add_mul, Nat.one_mul] at this
        exact this
      rw [show (i : Int) * (m : Int) + (m : Int) = ((i * m + m : Nat) : Int) by rw [Int.natCast_add, Int.natCast_mul], show (i : Int) * (m : Int) = ((i * m : Nat) : Int) by rw [Int.natCast_mul], cutV_mid l iV (by omega) (by omega), show i * m + m - i * m = m by omega]
      have hBl : ((l.drop (i * m)).take m).length = m := by rw [List.length_take, List.length_drop]; omega
      have hBn : ∀ x ∈ (l.drop (i * m)).take m, x < n := fun x hx => ln x (List.mem_of_mem_drop (List.mem_of_mem_take hx))
      generalize (l.drop (i * m)).take m = Bk at *
      obtain ⟨b0, bs, rfl⟩ : ∃ b0 bs, Bk = b0 :: bs := by
        rcases Bk with _ | ⟨b0, bs⟩
        · simp at hBl; omega
        · exact ⟨_, _, rfl⟩
      have q1 := same_upd (o := HO.lst ((b0 :: bs).map iV)) nbp
      have f1 := upd_same (H := Hy) (a := bp) (o := HO.lst ((b0 :: bs).map iV))
      generalize upd Hy bp (.lst ((b0 :: bs).map iV)) = G1 at *
      walk_at "rd"
      refine i_ixLv f1 (by omega) rfl ?_
      walk_at "rd"
      refine val_ifH2 (fun v H' => H' = G1 ∧ ∃ zz : Int, v = .int zz ∧ (i ≠ sp → zz = 0)) (fun Q' kQ => ?_) (fun v Ga hv => ?_)
      · refine iteB (fun c => ?_) (fun c => ?_)
        · walk_at "rd"
          have c : i = sp := by have c : (i : Int) = (sp : Int) := c; omega
          exact kQ _ _ ⟨rfl, _, rfl, fun h => (h c).elim⟩
        · walk_at "rd"
          exact kQ _ _ ⟨rfl, _, rfl, fun _ => rfl⟩
      obtain ⟨rfl, zz, rfl, hzz⟩ := hv
      walk_at "rd"
      refine newLL0 (Nat.le_of_ble_eq_true rfl) fun c1 G2 nc1 lc1 q2 f2 => ?_
      have f12 := q2 _ _ f1
      walk_at "rd"
      refine ⟨bp, _, rfl, sqL_of f12, fun c2 nc2 => ?_⟩
      rw [cutV_from1]
      have q3 := same_upd (o := HO.lst (bs.map iV)) nc2
      have f3 := upd_same (H := G2) (a := c2) (o := HO.lst (bs.map iV))
      generalize upd G2 c2 (.lst (bs.map iV)) = G3 at *
      have lbs : bs.length ≤ 1 := by simp at hBl; omega
      refine ⟨c1, c2, _, _, rfl, rfl, q3 _ _ f2, f3, Nat.le_trans (m := 1000) (by rw [List.length_map]; simp only [List.length_cons, List.length_nil]; omega) (Nat.le_of_ble_eq_true rfl), fun c3 nc3 => ?_⟩
      have ez : [V.int ((b0 : Int) + zz)] ++ bs.map iV = (((b0 : Int) + zz) :: bs.map fun x : Nat => (x : Int)).map V.int := by rw [List.map_cons, List.map_map]; rfl
      rw [ez]
      have hz1 : (((b0 : Int) + zz) :: bs.map fun x : Nat => (x : Int)).length = m := by rw [List.length_cons, List.length_map]; exact hBl
      have hz2 : i ≠ sp → ((b0 : Int) + zz) :: bs.map (fun x : Nat => (x : Int)) = (b0 :: bs).map fun x : Nat => (x : Int) := fun h => by rw [hzz h, Int.add_zero, List.map_cons]
      have hz0 : ((((b0 : Int) + zz) :: bs.map fun x : Nat => (x : Int)).map V.int).take 1 = [V.int ((b0 : Int) + zz)] := rfl
      generalize ((b0 : Int) + zz) :: bs.map (fun x : Nat => (x : Int)) = zs at *
      have q4 := same_upd (o := HO.lst (zs.map V.int)) nc3
      have f4 := upd_same (H := G3) (a := c3) (o := HO.lst (zs.map V.int))
      generalize upd G3 c3 (.lst (zs.map V.int)) = G4 at *
      have q04 := q1.trans (q2.trans (q3.trans q4))
      have B4' := Bx.same q04
      have nbpb := box_ne Bx nbp
      have nc3b := box_ne ((Bx.same q1).same (q2.trans q3)) nc3
      have f14 := (q3.trans q4) _ _ f12
      walk_at "rd"
      refine val_andH (fun v H' => ∃ dn : Bool, v = .bl dn ∧ (dn = true → i = sp ∧ m = 2) ∧ BoxAt H' b (d + 23 + (i + 1 : Nat)) ∧ SB b G4 H') (fun Q' kQ => ?_) (fun v G5 hv => ?_)
      · refine iteB (fun c => ?_) (fun c => ?_)
        · have c : i = sp := by have c : (i : Int) = (sp : Int) := c; omega
          walk_at "rd"
          refine iteB (fun c5 => ?_) (fun c5 => ?_)
          · have c5 : 1 < m := by have c5 : (1 : Int) < (m : Int) := c5; omega
            walk_at "rd"
            refine ⟨b, 2, _, rfl, B4', by omega, by omega, by omega, fun x G5 x0 x1 B5' s5' => ?_⟩
            walk_at "rd"
            exact kQ _ _ ⟨_, rfl, fun _ => ⟨c, by omega⟩, B5'.mono (by omega), s5'⟩
          · walk_at "rd"
            exact kQ _ _ ⟨_, rfl, nofun, B4'.mono (by omega), SB.refl _⟩
        · walk_at "rd"
          exact kQ _ _ ⟨_, rfl, nofun, B4'.mono (by omega), SB.refl _⟩
      obtain ⟨dn, rfl, hdn, Bd, s45⟩ := hv
      have f15 := s45 _ _ nbpb f14
      have f45 := s45 _ _ nc3b f4
      walk_at "rd"
      refine i_cut (fun σ' H' => ∃ (fq : Addr) (zs' : List Int), σ' = [some (.ref b), some (.ref pp), some (iV m), some (.ref dp), some cv, some (.ref lp), some (.ref pl), some (.ref oq), some (.ref cq), some (iV sp), some (.int (1 + up)), some (.bl ab), some (iV i), some (.ref bp), some (.ref fq), some (.bl dn), w16, w17, w18, w19, none, none, none] ∧
          H' fq = some (.lst (zs'.map V.int)) ∧ zs'.length = m ∧ (i ≠ sp → zs' = (b0 :: bs).map fun x : Nat => (x : Int)) ∧ Same G5 H') ?_ (fun σ' G6 hm => ?_)
      · walk_at "rd"
        refine iteC (fun c => ?_) (fun c => ?_)
        · obtain ⟨ci, cm⟩ := hdn c
          obtain ⟨b1, rfl⟩ : ∃ b1, bs = [b1] := by
            rcases bs with _ | ⟨b1, _ | ⟨b2, bs⟩⟩
            · simp at hBl; omega
            · exact ⟨_, rfl⟩
            · simp at hBl; omega
          walk_at "rd"
          refine ⟨c3, _, rfl, sqL_of f45, fun c4 nc4 => ?_⟩
          rw [cutV_to1 (by rw [List.length_map]; omega), hz0]
          have r1 := same_upd (o := HO.lst [V.int ((b0 : Int) + zz)]) nc4
          have g1 := upd_same (H := G5) (a := c4) (o := HO.lst [V.int ((b0 : Int) + zz)])
          generalize upd G5 c4 (.lst [V.int ((b0 : Int) + zz)]) = J1 at *
          have f51 := r1 _ _ f15
          walk_at "rd"
          refine newLL0 (Nat.le_of_ble_eq_true rfl) fun c5 J2 nc5 lc5 r2 g2 => ?_
          refine ⟨c4, c5, _, _, rfl, rfl, r2 _ _ g1, g2, Nat.le_of_ble_eq_true rfl, fun c6 nc6 => ?_⟩
          have r3 := same_upd (o := HO.lst ([V.int ((b0 : Int) + zz)] ++ [V.int ((b1 : Int) - (1 + up))])) nc6
          have g3 := upd_same (H := J2) (a := c6) (o := HO.lst ([V.int ((b0 : Int) + zz)] ++ [V.int ((b1 : Int) - (1 + up))]))
          generalize upd J2 c6 (.lst ([V.int ((b0 : Int) + zz)] ++ [V.int ((b1 : Int) - (1 + up))])) = J3 at *
          have f53 := (r2.trans r3) _ _ f51
          walk_at "rd"
          refine ⟨bp, _, rfl, sqL_of f53, fun c7 nc7 => ?_⟩
          rw [cutV_from2]
          have r4 := same_upd (o := HO.lst (([] : List Nat).map iV)) nc7
          have g4 := upd_same (H := J3) (a := c7) (o := HO.lst (([] : List Nat).map iV))
          generalize upd J3 c7 (.lst (([] : List Nat).map iV)) = J4 at *
          refine ⟨c6, c7, _, _, rfl, rfl, r4 _ _ g3, g4, Nat.le_of_ble_eq_true rfl, fun c8 nc8 => ?_⟩
          walk_at "rd"
          exact ⟨c8, [(b0 : Int) + zz, (b1 : Int) - (1 + up)], rfl, by rw [upd_same]; rfl, by rw [cm]; rfl, fun h => (h ci).elim, r1.trans (r2.trans (r3.trans (r4.trans (same_upd nc8))))⟩
        · walk_at "rd"
          exact ⟨c3, zs, rfl, f45, hz1, hz2, Same.refl _⟩
      obtain ⟨fq, zs', rfl, f6, hz3, hz4, s56⟩ := hm
      walk_at "rd"
      have dG5 : Same (L2.del Hy b) (L2.del G5 b) := (del_sb (SB.of q04)).trans (del_sb s45)
      have dG6 : Same (L2.del Hy b) (L2.del G6 b) := dG5.trans (del_sb (SB.of s56))
      have epp6 := del_sub _ _ ((dx.trans dG6) _ _ epp)
      have f16 := s56 _ _ f15
      have hF1 := mods_len zs' n
      have hF2 := mods_lt (n := n) n1 (zs := zs')
      have hF3 : i ≠ sp → (zs'.map fun z => (z % (n : Int)).toNat) = b0 :: bs := fun h => by rw [hz4 h]; exact mods_id hBn
      have hFe : ∀ (j : Nat) (x : Int), zs'[j]? = some x → (zs'.map fun z => (z % (n : Int)).toNat)[j]? = some (x % (n : Int)).toNat := fun j x e => by rw [List.getElem?_map, e]; rfl
      generalize hF : (zs'.map fun z => (z % (n : Int)).toNat) = Fs at *
      refine ⟨⟨_, sqL_of f6⟩, ?_⟩
      refine go_lc (walk_list (xs := zs'.map V.int)) (fun p j Hx => Hx p = some (.lst ((Fs.take j).map iV)) ∧ Same G6 Hx) (fun p np => ⟨by rw [List.take_zero]; exact upd_same, same_upd np⟩) (fun p j Hx hj h => sqL_of (h.2 _ _ f6)) (fun p np j v Hx Hw hj h y => ?_) (fun fp G7 nfp h => ?_)
      · obtain ⟨ep, sq⟩ := h
        obtain ⟨rfl, hv⟩ := y
        rw [List.length_map] at hj
        have gx : zs'[j]? = some zs'[j] := List.getElem?_eq_getElem hj
        rw [List.getElem?_map, gx] at hv
        cases hv
        have gF := hFe j _ gx
        generalize zs'[j] = xz at *
        have eppx := sq _ _ epp6
        rw [List.take_add_one, gF]
        walk_at "rd"
        refine ⟨rfl, i_yes (iteT ?_)⟩
        walk_at "rd"
        have h0 := Int.emod_nonneg xz (show (n : Int) ≠ 0 by omega)
        refine ⟨_, ep, sm100 (by rw [List.length_map, List.length_take]; omega), by rw [upd_same, List.map_append]; show some (HO.lst (_ ++ [V.int (xz % (n : Int))])) = some (HO.lst (_ ++ [V.int ((xz % (n : Int)).toNat : Int)])); rw [Int.toNat_of_nonneg h0], Same.set_new sq np⟩
      obtain ⟨f7, s67⟩ := h
      rw [List.length_map, ← hF1, List.take_length] at f7
      have f17 := s67 _ _ f16
      have epp7 := s67 _ _ epp6
      walk_at "rd"
      refine val_ifH2 (fun v H' => v = iV (if ab = true then (b0 :: bs).sum % n else Fs.sum % n) ∧ H' = G7) (fun Q' kQ => ?_) (fun v Gb hv => ?_)
      · refine iteC (fun c => ?_) (fun c => ?_)
        · walk_at "rd"
          refine i_sumN f17 ?_
          walk_at "rd"
          refine kQ _ _ ⟨?_, rfl⟩
          rw [if_pos c, ← Int.natCast_emod]
        · walk_at "rd"
          refine i_sumN f7 ?_
          walk_at "rd"
          refine kQ _ _ ⟨?_, rfl⟩
          rw [if_neg (by rw [c]; simp), ← Int.natCast_emod]
      obtain ⟨rfl, eGb⟩ := hv
      subst eGb
      generalize hck : (if ab = true then (b0 :: bs).sum % n else Fs.sum % n) = ck at *
      walk_at "rd"
      refine i_iZip ?_
      walk_at "rd"
      refine i_sumN f17 ?_
      walk_at "rd"
      refine newLL0 (Nat.le_of_ble_eq_true rfl) fun c4 G8 nc4 lc4 q8 f8 => ?_
      have f18 := q8 _ _ f17
      refine ⟨bp, c4, _, _, rfl, rfl, f18, f8, Nat.le_trans (m := 1000) (by rw [List.length_map]; simp only [List.length_cons, List.length_nil]; omega) (Nat.le_of_ble_eq_true rfl), fun c5 nc5 => ?_⟩
      have ex1 : (b0 :: bs).map iV ++ [V.int (((b0 :: bs).sum : Nat) % (n : Int))] = ((b0 :: bs) ++ [(b0 :: bs).sum % n]).map iV := by rw [List.map_append, ← Int.natCast_emod]; rfl
      rw [ex1]
      have q9 := same_upd (o := HO.lst (((b0 :: bs) ++ [(b0 :: bs).sum % n]).map iV)) nc5
      have f9 := upd_same (H := G8) (a := c5) (o := HO.lst (((b0 :: bs) ++ [(b0 :: bs).sum % n]).map iV))
      generalize upd G8 c5 (.lst (((b0 :: bs) ++ [(b0 :: bs).sum % n]).map iV)) = G9 at *
      have f79 := (q8.trans q9) _ _ f7
      walk_at "rd"
      refine newLL0 (Nat.le_of_ble_eq_true rfl) fun c6 G10 nc6 lc6 q10 f10 => ?_
      refine ⟨fp, c6, _, _, rfl, rfl, q10 _ _ f79, f10, Nat.le_trans (m := 1000) (by rw [List.length_map]; simp only [List.length_cons, List.length_nil]; omega) (Nat.le_of_ble_eq_true rfl), fun c7 nc7 => ?_⟩
      have ex2 : Fs.map iV ++ [iV ck] = (Fs ++ [ck]).map iV := by rw [List.map_append]; rfl
      rw [ex2]
      have q11 := same_upd (o := HO.lst ((Fs ++ [ck]).map iV)) nc7
      have f11 := upd_same (H := G10) (a := c7) (o := HO.lst ((Fs ++ [ck]).map iV))
      generalize upd G10 c7 (.lst ((Fs ++ [ck]).map iV)) = G11 at *
      walk_at "rd"
      have d7 : Same (L2.del Hy b) (L2.del Gb b) := dG6.trans (del_sb (SB.of s67))
      have q711 := q8.trans (q9.trans (q10.trans q11))
      have d11 : Same (L2.del Hy b) (L2.del G11 b) := d7.trans (del_sb (SB.of q711))
      have epl7 := del_sub _ _ (d7 _ _ epl)
      have epl11 := q711 _ _ epl7
      have prs11 : Paired (StpAt G11) vs ps := Paired.mapP prs fun _ _ zz => zz.tk (TK.of (d11.trans del_sub))
      have nc5p : c5 ≠ pl := Ne.symm (ne_of_none (q8 _ _ epl7) nc5)
      have nc7p : c7 ≠ pl := Ne.symm (ne_of_none ((q8.trans (q9.trans q10)) _ _ epl7) nc7)
      have f911 := (q10.trans q11) _ _ f9
      have lvs : vs.length = ps.length := Paired.length prs
      have hB1 : ((b0 :: bs) ++ [(b0 :: bs).sum % n]).length = m + 1 := by rw [List.length_append, hBl]; rfl
      have hG1 : (Fs ++ [ck]).length = m + 1 := by rw [List.length_append, hF1, hz3]; rfl
      have hst := ex.step (B := b0 :: bs) (F := Fs) hBl (by rw [hF1, hz3]) hF3
      rw [hck] at hst
      have hB2 : ∀ x ∈ (b0 :: bs) ++ [(b0 :: bs).sum % n], x < n := fun x hx => by
        rcases List.mem_append.mp hx with hx | hx
        · exact hBn x hx
        · rw [List.mem_singleton.mp hx]; exact Nat.mod_lt _ (by omega)
      have hG2 : ∀ x ∈ Fs ++ [ck], x < n := fun x hx => by
        rcases List.mem_append.mp hx with hx | hx
        · exact hF2 x hx
        · rw [List.mem_singleton.mp hx, ← hck]
          split <;> exact Nat.mod_lt _ (by omega)
      generalize hB' : (b0 :: bs) ++ [(b0 :: bs).sum % n] = Bc at *
      generalize hG' : Fs ++ [ck] = Fc at *
      refine ⟨c5, c7, _, _, rfl, sqL_of f911, sqL_of f11, ?_⟩
      refine go_for (walk_zip (n := m + 1) (xs := Bc.map iV) (ys := Fc.map iV) (by rw [List.length_map, List.length_map, hB1, hG1, Nat.min_self])) (fun j σ Hz => ∃ (w18 w19 : Option V) (us : List V), σ = [some (.ref b), some (.ref pp), some (iV m), some (.ref dp), some cv, some (.ref lp), some (.ref pl), some (.ref oq), some (.ref cq), some (iV sp), some (.int (1 + up)), some (.bl ab), some (iV i), some (.ref bp), some (.ref fp), some (.bl dn), w16, some (iV ck), w18, w19, none, none, none] ∧
          Hz pl = some (.lst us) ∧ Paired (StpAt Hz) us (ps ++ (Bc.zip Fc).take j) ∧ SB pl G11 Hz)
        ⟨_, _, vs, rfl, epl11, by rw [List.take_zero, List.append_nil]; exact prs11, SB.refl _⟩ (fun j σ Hz hj h => by obtain ⟨_, _, _, _, _, _, sz⟩ := h; exact ⟨sqL_of (sz _ _ nc5p f911), sqL_of (sz _ _ nc7p f11)⟩) (fun j v σ Hz Hw hj h y => ?_) (fun σ Hz h => ?_)
      · obtain ⟨w18, w19, us, rfl, eus, pru, sz⟩ := h
        obtain ⟨T, x1, y1, rfl, nT, rfl, gx, gy⟩ := y
        have hj : j < m + 1 := hj
        have gB : Bc[j]? = some Bc[j] := List.getElem?_eq_getElem (by omega)
        have gF : Fc[j]? = some Fc[j] := List.getElem?_eq_getElem (by omega)
        have gx : (Bc.map iV)[j]? = some x1 := gx
        have gy : (Fc.map iV)[j]? = some y1 := gy
        rw [List.getElem?_map, gB] at gx
        rw [List.getElem?_map, gF] at gy
        cases gx
        cases gy
        generalize Bc[j] = xa at *
        generalize Fc[j] = ya at *
        have gz : (Bc.zip Fc)[j]? = some (xa, ya) := List.getElem?_zip_eq_some.mpr ⟨gB, gF⟩
        have lus : us.length ≤ 20 := by
          rw [Paired.length pru, List.length_append, List.length_take]; omega
        have nTp : T ≠ pl := Ne.symm (ne_of_none eus nT)
        have sT := same_upd (o := HO.tup [iV xa, iV ya]) nT
        have eT := upd_same (H := Hz) (a := T) (o := HO.tup [iV xa, iV ya])
        generalize upd Hz T (.tup [iV xa, iV ya]) = Hv at *
        have eusv := sT _ _ eus
        walk_at "rd"
        refine val_ifH2 (fun v H' => ∃ t, v = .ref t ∧ H' t = some (.tup (stepVs (xa, ya))) ∧ Same Hv H') (fun Q' kQ => ?_) (fun v Hs hv => ?_)
        · refine iteB (fun c => ?_) (fun c => ?_)
          · have c : xa = ya := by have c : (xa : Int) = (ya : Int) := c; omega
            walk_at "rd"
            refine newT0 (Nat.le_of_ble_eq_true rfl) fun t Hs nt st' et => ?_
            exact kQ _ _ ⟨t, rfl, by rw [stepVs, if_pos c]; exact et, st'⟩
          · have c : ¬ xa = ya := by have c : ¬ (xa : Int) = (ya : Int) := c; omega
            walk_at "rd"
            refine newT0 (Nat.le_of_ble_eq_true rfl) fun t Hs nt st' et => ?_
            exact kQ _ _ ⟨t, rfl, by rw [stepVs, if_neg c]; exact et, st'⟩
        obtain ⟨t, rfl, et, ss⟩ := hv
        have euss := ss _ _ eusv
        walk_at "rd"
        refine i_append euss (sm100 (by omega)) ?_
        have tk := (TK.of (sT.trans ss)).trans (TK.lst (ys := us ++ [.ref t]) euss)
        refine ⟨_, _, us ++ [.ref t], rfl, upd_same, ?_, SB.set_old (sz.trans (SB.of (sT.trans ss)))⟩
        rw [List.take_add_one, gz, ← List.append_assoc]
        exact Paired.snoc (Paired.mapP pru fun _ _ zz => zz.tk tk) ⟨t, rfl, TK.lst euss _ _ et⟩
      obtain ⟨w18, w19, us, rfl, eus, pru, sz⟩ := h
      rw [List.take_of_length_le (by rw [List.length_zip, hB1, hG1, Nat.min_self]; exact Nat.le_refl _)] at pru
      walk_at "rd"
      have eoz := sz _ _ noq (del_sub _ _ (d11 _ _ eo))
      have ecz := sz _ _ ncq (del_sub _ _ (d11 _ _ ec))
      have nbpp : bp ≠ pl := Ne.symm (ne_of_none (del_sub _ _ epl) nbp)
      have nfpp : fp ≠ pl := Ne.symm (ne_of_none (del_sub _ _ (dG6 _ _ epl)) nfp)
      have fbz := sz _ _ nbpp (q711 _ _ f17)
      have ffz := sz _ _ nfpp (q711 _ _ f7)
      have lFs : Fs.length = m := by rw [hF1, hz3]
      have lim : i * m ≤ 1 * 2 := Nat.mul_le_mul (by omega) m2
      refine ⟨oq, fp, _, _, rfl, rfl, eoz, ffz, Nat.le_trans (m := 1000) (by rw [List.length_map, List.length_map]; omega) (Nat.le_of_ble_eq_true rfl), fun cA ncA => ?_⟩
      have t1 := same_upd (o := HO.lst (Os.map iV ++ Fs.map iV)) ncA
      have h1 := upd_same (H := Hz) (a := cA) (o := HO.lst (Os.map iV ++ Fs.map iV))
      generalize upd Hz cA (.lst (Os.map iV ++ Fs.map iV)) = Z1 at *
      walk_at "rd"
      refine ⟨cq, bp, _, _, rfl, rfl, t1 _ _ ecz, t1 _ _ fbz, Nat.le_trans (m := 1000) (by rw [List.length_map, List.length_map]; omega) (Nat.le_of_ble_eq_true rfl), fun cB ncB => ?_⟩
      have t2 := same_upd (o := HO.lst (Cs.map iV ++ (b0 :: bs).map iV)) ncB
      have h2 := upd_same (H := Z1) (a := cB) (o := HO.lst (Cs.map iV ++ (b0 :: bs).map iV))
      generalize upd Z1 cB (.lst (Cs.map iV ++ (b0 :: bs).map iV)) = Z2 at *
      walk_at "rd"
      have sF := t1.trans t2
      have B11 : BoxAt G11 b (d + 23 + (i + 1 : Nat)) := Bd.same (s56.trans (s67.trans q711))
      have Bz : BoxAt Hz b (d + 23 + (i + 1 : Nat)) := B11.sb sz (Ne.symm nplb)
      have BF := Bz.same sF
      have ncAb := box_ne Bz ncA
      have ncBb := box_ne (Bz.same t1) ncB
      have ncAp : cA ≠ pl := Ne.symm (ne_of_none eus ncA)
      have ncBp : cB ≠ pl := Ne.symm (ne_of_none (t1 _ _ eus) ncB)
      have sH4 : SB b H H4 := (SB.of s03).trans s4
      have hplH : H pl = none := sH4.fresh nplb hpl0
      have sH11 : SB b H G11 := sx.trans ((SB.of q04).trans (s45.trans (SB.of (s56.trans (s67.trans q711)))))
      refine ⟨_, _, _, _, _, _, _, _, ps ++ Bc.zip Fc, Cs ++ (b0 :: bs), Os ++ Fs, cA, cB, us, rfl, by rw [L2.del_ne nplb]; exact sF _ _ eus, Paired.mapP pru fun _ _ zz => (zz.tk (TK.of sF)).box BF, by rw [List.length_append, List.length_zip, hB1, hG1, Nat.min_self]; omega, fun p hp => ?_, ?_,
        by rw [L2.del_ne ncAb, t2 _ _ h1, List.map_append], by rw [L2.del_ne ncBb, h2, List.map_append], ncAp, ncBp, by rw [List.length_append, lC, hBl, Nat.add_mul, Nat.one_mul], by rw [List.length_append, lO, lFs, Nat.add_mul, Nat.one_mul], fun x hx => ?_, fun x hx => ?_,
        by rw [L2.del_ne nlpb]; exact sF _ _ (sz _ _ nlpp (del_sub _ _ (d11 _ _ elp))), BF, fun x o e => ?_, fun x o nx e => sF _ _ (sz x o (fun c => by rw [c, hplH] at e; cases e) (sH11 x o nx e))⟩
      · rcases List.mem_append.mp hp with hp | hp
        · exact hps p hp
        · obtain ⟨p1, p2⟩ := p
          have := List.of_mem_zip hp
          exact ⟨hB2 _ this.1, hG2 _ this.2⟩
      · rw [List.map_append, List.map_append, zip_fst (by omega), zip_snd (by omega)]
        exact hst
      · rcases List.mem_append.mp hx with hx | hx
        · exact hC x hx
        · exact hBn x hx
      · rcases List.mem_append.mp hx with hx | hx
        · exact hO x hx
        · exact hF2 x hx
      · have nxb : x ≠ b := fun c => by rw [c, L2.del_same] at e; cases e
        have nxp : x ≠ pl := fun c => by rw [c] at e; rw [del_sub _ _ e] at hpl0; cases hpl0
        rw [L2.del_ne nxb]
        exact sF _ _ (sz _ _ nxp (del_sub _ _ (d11 _ _ (k4x _ _ e))))
    · obtain ⟨w12, w13, w14, w15, w16, w17, w18, w19, ps, Cs, Os, oq, cq, vs, rfl, epl, prs, lps, hps, ex, eo, ec, noq, ncq, lC, lO, hC, hO, elp, Bx, k4x, sx⟩ := h
      walk_at "rd"
      have dx := d4.trans k4x
      have hpx : PlnAt Hx (.ref pp) n st en := (hpl dx).same del_sub
      have lkm : kk * m ≤ 2 * 2 := Nat.mul_le_mul hkk m2
      have ex2 := ex.fin (en := en)
      have hl1 : ∀ x ∈ ps.map Prod.fst, x < n := fun x hx => by
        obtain ⟨q, hq, rfl⟩ := List.mem_map.mp hx
        exact (hps q hq).1
      have hl2 : ∀ x ∈ ps.map Prod.snd, x < n := fun x hx => by
        obtain ⟨q, hq, rfl⟩ := List.mem_map.mp hx
        exact (hps q hq).2
      have eh1 : writD (stC st n m) (enC st en n m) (ps.map Prod.fst) = writD st en Cs := by rw [writ_check few n1 hl1]; exact ex2.1
      have eh2 : writD (stC st n m) (enC st en n m) (ps.map Prod.snd) = if ab = true ∧ sp < kk ∧ Cs.sum % n ≠ Os.sum % n then none else writD st en Os := by rw [writ_check few n1 hl2]; exact ex2.2
      have o1 : ∀ t, writD st en Cs = some t → t.length ≤ 100 := fun t e => by have := (writD_ok g e).2; omega
      have o2 : ∀ t, writD st en Os = some t → t.length ≤ 100 := fun t e => by have := (writD_ok g e).2; omega
      refine ⟨.ref pp, n, st, en, cq, Cs, rfl, hpx, g, del_sub _ _ ec, by omega, hC, fun Ha sa => ?_⟩
      walk_at "rd"
      refine ⟨.ref pp, n, st, en, oq, Os, rfl, hpx.same sa, g, sa _ _ (del_sub _ _ eo), by omega, hO, fun Hb sb => ?_⟩
      generalize writD st en Cs = w1 at *
      generalize writD st en Os = w2 at *
      walk_at "rd"
      refine newLL0 (Nat.le_of_ble_eq_true rfl) fun tp Hc ntp ltp sc etp => ?_
      have sxc := sa.trans (sb.trans sc)
      have ecc := sxc _ _ (del_sub _ _ ec)
      have eoc := sxc _ _ (del_sub _ _ eo)
      have elc := sxc _ _ (del_sub _ _ elp)
      have eplc := sxc _ _ (del_sub _ _ epl)
      have eppc := sxc _ _ (del_sub _ _ (dx _ _ epp))
      walk_at "rd"
      refine i_inSeq (xs := [w1, w2].map endV) (.inl (sqL_of etp)) rfl (flat_ends _) ?_
      rw [inV_none]
      walk_at "rd"
      refine val_orH (fun v H' => v = .bl (decide (none ∈ [w1, w2]) || (ab && (decide (sp < kk) && decide (Cs.sum % n ≠ Os.sum % n)))) ∧ H' = Hc) (fun Q' kQ => ?_) (fun v Hd hv => ?_)
      · by_cases cn : none ∈ [w1, w2]
        · rw [decide_eq_true cn] at kQ ⊢
          refine iteT ?_
          exact kQ _ _ ⟨by simp, rfl⟩
        · rw [decide_eq_false cn] at kQ ⊢
          refine iteF ?_
          walk_at "rd"
          rcases ab with _ | _
          · refine iteF ?_
            exact kQ _ _ ⟨by simp, rfl⟩
          · refine iteT ?_
            walk_at "rd"
            refine i_rI ⟨by omega, by omega⟩ ?_
            rw [edk]
            walk_at "rd"
            by_cases cs : sp < kk
            · rw [decide_eq_true (show (sp : Int) < (kk : Int) by omega)]
              walk_at "rd"
              refine i_sumN ecc ?_
              walk_at "rd"
              refine i_sumN eoc ?_
              walk_at "rd"
              refine kQ _ _ ⟨?_, rfl⟩
              rw [← Int.natCast_emod, ← Int.natCast_emod, decide_eq_true cs]
              by_cases cz : Cs.sum % n = Os.sum % n
              · rw [cz]; simp
              · rw [decide_eq_true (show Cs.sum % n ≠ Os.sum % n from cz), decide_eq_false (fun q => cz (by omega))]; rfl
            · rw [decide_eq_false (show ¬ (sp : Int) < (kk : Int) by omega)]
              walk_at "rd"
              refine kQ _ _ ⟨?_, rfl⟩
              rw [decide_eq_false cs]; rfl
      obtain ⟨rfl, eHd⟩ := hv
      subst eHd
      walk_at "rd"
      refine ⟨pl, _, rfl, .inl ⟨sqL_of eplc, fun qt nqt => ?_⟩⟩
      have s1' := same_upd (o := HO.tup vs) nqt
      have et1 := upd_same (H := Hd) (a := qt) (o := HO.tup vs)
      generalize upd Hd qt (.tup vs) = He at *
      have dxe : Same (L2.del Hx b) He := del_sub.trans (sxc.trans s1')
      have De4 : DAt C He cv n (stC st n m) (enC st en n m) := (((D3.box B3).same (del_sb s4)).same k4x).same dxe
      have hde : De K He (.ref qt) (psD ps) := .tup (sqT_of et1) (stps_de (Paired.mapP prs fun _ _ zz => zz.tk (TK.of dxe)))
      have hbad : (decide (none ∈ [w1, w2]) || (ab && (decide (sp < kk) && decide (Cs.sum % n ≠ Os.sum % n)))) = true ↔ none ∈ [w1, w2] ∨ (ab = true ∧ sp < kk ∧ Cs.sum % n ≠ Os.sum % n) := by
        simp only [Bool.or_eq_true, Bool.and_eq_true, decide_eq_true_eq]
      generalize (decide (none ∈ [w1, w2]) || (ab && (decide (sp < kk) && decide (Cs.sum % n ≠ Os.sum % n)))) = Wv at *
      walk_at "rd"
      refine ⟨cv, .ref qt, n, _, _, ps, rfl, De4, gC, hde, hps, by omega, fun Hf sf => ?_⟩
      rw [eh1, eh2]
      have o3 : ∀ t, (if ab = true ∧ sp < kk ∧ Cs.sum % n ≠ Os.sum % n then none else w2) = some t → t.length ≤ 100 := fun t e => by
        split at e
        · cases e
        · exact o2 t e
      have sdh := harm_sd o1 o3
      have etf := (s1'.trans sf) _ _ etp
      have sxf := sxc.trans (s1'.trans sf)
      have fin : ∀ Hg, Same Hf Hg → Q (.bl true) Hg := fun Hg sg => k _ ((Bx.same (sxf.trans sg)).mono (by omega)) (sx.trans (SB.of (sxf.trans sg)))
      walk_at "rd"
      refine i_repE (harm_de _ _) sdh (by omega) (by omega) ?_
      walk_at "rd"
      refine val_ifH2 (fun v H' => v = harmV w1 (if ab = true ∧ sp < kk ∧ Cs.sum % n ≠ Os.sum % n then none else w2) ∧ Same Hf H') (fun Q' kQ => ?_) (fun v Hg hv => ?_)
      · refine iteC (fun cw => ?_) (fun cw => ?_)
        · walk_at "rd"
          refine kQ _ _ ⟨?_, Same.refl _⟩
          rcases hbad.mp cw with c | c
          · rcases w1 with _ | u1
            · rfl
            · rcases w2 with _ | u2
              · split <;> rfl
              · simp at c
          · rw [if_pos c]
            rcases w1 with _ | u1 <;> rfl
        · have cw' : ¬ (none ∈ [w1, w2] ∨ (ab = true ∧ sp < kk ∧ Cs.sum % n ≠ Os.sum % n)) := fun q => by rw [hbad.mpr q] at cw; cases cw
          rw [if_neg (fun q => cw' (.inr q))] at kQ
          obtain ⟨u1, rfl⟩ : ∃ u, w1 = some u := by
            rcases w1 with _ | u
            · exact (cw' (.inl (by simp))).elim
            · exact ⟨u, rfl⟩
          obtain ⟨u2, rfl⟩ : ∃ u, w2 = some u := by
            rcases w2 with _ | u
            · exact (cw' (.inl (by simp))).elim
            · exact ⟨u, rfl⟩
          have p1 := o1 _ rfl
          have p2 := o2 _ rfl
          walk_at "rd"
          refine ⟨u1, u2, rfl, by omega, by omega, fun Hg sg => ?_⟩
          exact kQ _ _ ⟨rfl, sg⟩
      obtain ⟨rfl, sg⟩ := hv
      walk_at "rd"
      refine i_repE (harm_de _ _) sdh (by omega) (by omega) ?_
      walk_at "rd"
      refine ⟨rfl, ?_⟩
      rw [decide_eq_true rfl]
      exact fin _ sg
end
end Sw
namespace Sw
open PySem PySem.Spec PyProof.Rows L2
local macro_rules | `(tactic| walk_at "hp") => `(tactic| first
  | (with_reducible assumption) | (with_reducible exact upd_same)
  | ((with_reducible refine' upd_old ?q1 ?q2); (case q1 => (with_reducible assumption)); (case q2 => walk_at "hp"))
  | ((with_reducible refine' Same.at ?q1 ?q2); (case q1 => (with_reducible assumption)); (case q2 => walk_at "hp"))
  | ((with_reducible refine' upd_skip ?q1 ?q2); (case q1 => walk_at "ne"); (case q2 => walk_at "hp"))
  | fail)
local macro_rules | `(tactic| walk_at "ne") => `(tactic| first
  | (with_reducible assumption) | (with_reducible exact Ne.symm (by assumption))
  | ((with_reducible refine' ne_of_none ?q1 ?q2); (case q2 => (with_reducible assumption)); (case q1 => walk_at "hp"))
  | fail)
local macro_rules | `(tactic| walk_at "ci") => `(tactic| first | assumption | (show (0 : Int) < _; first | decide | (with_reducible omega)) | exact ⟨by decide, by decide⟩ | exact .inl ⟨by decide, by decide⟩ | exact .inr ⟨by decide, by decide⟩)
local macro_rules | `(tactic| walk_at "ln") => `(tactic| first | (with_reducible assumption) | (with_reducible omega) | (simp only [List.length_append, List.length_take, List.length_drop, List.length_reverse, List.length_cons, List.length_nil]; with_reducible omega))
local macro_rules | `(tactic| walk_at "rd1") => `(tactic| first
  | (with_reducible refine i_seq ?_) | (with_reducible refine i_asg ?_) | (with_reducible refine i_ret ?_) | (with_reducible refine i_name ?_) | ((with_reducible refine' i_var ?q1 ?_); (case q1 => exact rfl)) | (with_reducible refine i_c ?_) | (with_reducible refine i_op ?_) | (with_reducible refine i_un ?_)
  | (with_reducible refine i_rI0 ?_) | (with_reducible refine i_cb ?_) | (with_reducible refine i_cons ?_) | (with_reducible refine i_nil ?_) | (with_reducible refine i_call ?_) | (with_reducible refine i_if ?_) | (with_reducible refine i_ifE ?_) | (with_reducible refine i_test ?_) | (with_reducible refine i_bl ?_)
  | (with_reducible refine i_and ?_) | (with_reducible refine i_or ?_) | (with_reducible refine i_not ?_) | (with_reducible refine i_lstM ?_) | (with_reducible refine i_lstLM ?_) | (with_reducible refine i_tupM ?_) | (with_reducible refine i_next ?_) | (with_reducible refine i_drop ?_) | (with_reducible refine i_sub ?_)
  | (with_reducible refine i_bm ?_) | (with_reducible refine i_sl ?_) | (with_reducible refine i_part ?_) | (with_reducible refine i_nopart ?_) | (with_reducible refine i_exI ?_) | (with_reducible refine i_chain ?_) | ((with_reducible refine' i_aug ?q1 ?_); (case q1 => exact rfl)) | (with_reducible refine i_ip ?_)
  | (with_reducible refine i_par ?_) | (with_reducible refine i_pair ?_) | (with_reducible refine i_andV ?_) | (with_reducible refine i_orV ?_) | (with_reducible refine i_notV ?_) | (with_reducible refine i_m1 ?_) | (with_reducible refine i_str ?_)
  | (with_reducible refine iteF ?_) | (with_reducible refine iteT ?_) | (with_reducible refine iteNT ?_) | (with_reducible refine iteNF ?_) | (with_reducible refine i_tyS ?_) | (with_reducible refine i_tB ?_) | (with_reducible refine i_retN ?_) | (with_reducible refine i_par3 ?_) | (with_reducible refine i_trip ?_) | (with_reducible refine i_gCons ?_) | (with_reducible refine i_gNil ?_) | (with_reducible refine i_lstRg ?_) | (with_reducible refine i_rg1 ?_)
  | (with_reducible refine i_lc ?_) | (with_reducible refine i_for ?_) | (with_reducible refine i_iList ?_) | (with_reducible refine i_iTup ?_) | (with_reducible refine i_iStr ?_) | (with_reducible refine i_iRng1 ?_) | (with_reducible refine i_iEnS ?_)
  | ((with_reducible refine' i_ixTH ?q1 ?q2 ?_); (case q1 => walk_at "hp"); (case q2 => exact rfl))
  | ((with_reducible refine' i_ixLH ?q1 ?q2 ?_); (case q1 => walk_at "hp"); (case q2 => exact rfl))
  | ((with_reducible refine i_addS ?q1 ?_); (case q1 => walk_at "ln")) | ((with_reducible refine i_lenSS ?q1 ?_); (case q1 => walk_at "ln")) | ((with_reducible refine i_slFrom ?q1 ?q2 ?_); (case q1 => walk_at "ln"); (case q2 => walk_at "ln")) | ((with_reducible refine i_slTo ?q1 ?q2 ?_); (case q1 => walk_at "ln"); (case q2 => walk_at "ln"))
  | ((with_reducible refine' i_tyL ?q1 ?_); (case q1 => walk_at "hp"))
  | ((with_reducible refine' i_gTupH ?q1 ?q2 ?_); (case q1 => walk_at "hp"); (case q2 => exact rfl))
  | (with_reducible refine i_dnewM ?_) | (with_reducible refine i_init ?_) | (with_reducible refine i_fst ?_) | (with_reducible refine i_mk ?_) | (with_reducible refine i_mkF ?_) | (with_reducible refine i_raise ?_) | (with_reducible refine i_callS ?_) | (with_reducible refine i_kwS ?_)
  | (with_reducible refine i_revT ?_) | (with_reducible refine i_kw ?_) | ((with_reducible refine' ⟨_, _, rfl, sqT_of ?q1, ?_⟩); (case q1 => walk_at "hp"))
  | (with_reducible refine i_revS ?_) | ((with_reducible refine i_revSS ?q1 ?_); (case q1 => walk_at "ln"))
  | (with_reducible refine i_startS ?_) | (with_reducible refine i_inSg ?_) | (with_reducible refine i_absN ?_) | (with_reducible refine i_min2 ?_) | (with_reducible refine i_max2 ?_) | (with_reducible refine i_min3 ?_) | (with_reducible refine i_intN ?_) | (with_reducible refine i_intNB ?_)
  | ((with_reducible refine' i_lenL ?q1 ?_); (case q1 => walk_at "hp")) | ((with_reducible refine' i_lenT ?q1 ?_); (case q1 => walk_at "hp"))
  | (with_reducible refine i_eqI ?_) | (with_reducible refine i_neI ?_) | (with_reducible refine i_eqS ?_) | (with_reducible refine i_neS ?_) | (with_reducible refine i_isNoI ?_) | (with_reducible refine i_isNoN ?_) | (with_reducible refine i_isNoR ?_)
  | ((with_reducible refine i_pow ?q1 ?q2 ?q3 ?_); (case q1 => decide); (case q2 => decide); (case q3 => (with_reducible omega)))
  | ((with_reducible refine i_rI ?q1 ?_); (case q1 => walk_at "ci"))
  | (with_reducible refine Or.inl ⟨_, rfl, ?_⟩) | (with_reducible refine Or.inr ⟨_, rfl, ?_⟩) | (with_reducible refine ⟨_, rfl, ?_⟩) | (with_reducible refine ⟨_, _, rfl, ?_⟩) | (with_reducible refine ⟨_, _, rfl, rfl, ?_⟩)
  | ((with_reducible refine' ⟨_, _, rfl, Or.inl (sqL_of ?q1), ?_⟩); (case q1 => walk_at "hp")) | ((with_reducible refine' ⟨_, _, rfl, Or.inr (sqT_of ?q1), ?_⟩); (case q1 => walk_at "hp")) | (with_reducible refine i_dget ?_) | (with_reducible refine i_disp1T ?_) | (with_reducible refine i_dcT ?_) | (with_reducible refine i_dnewT ?_) | (with_reducible refine i_fld ?_) | (with_reducible refine i_sFld ?_) | (with_reducible refine i_make ?_) | (with_reducible refine i_meth ?_) | (with_reducible refine i_star ?_) | (with_reducible refine i_isNoS ?_) | (with_reducible refine i_lc2 ?_) | (with_reducible refine i_iEnT ?_) | (with_reducible refine i_iZipT ?_) | fail)
local macro_rules | `(tactic| walk_at "rd") => `(tactic| repeat' walk_at "rd1")

theorem cond_andH {c0 : Bool} {t : L2.St → Hp → (Bool → Hp → Prop) → Prop} {σ : L2.St} {H : Hp} {R : Bool → Hp → Prop} (P : Bool → Hp → Prop) (h1 : ∀ R' : Bool → Hp → Prop, (∀ c H', P c H' → R' c H') → if c0 = true then t σ H R' else R' false H) (h2 : ∀ c H', P c H' → R c H') : if c0 = true then t σ H R else R false H := h1 R h2
theorem EntAt.box {H : Hp} {b : Addr} {dd : Int} (B : BoxAt H b dd) {v : V} {e : Ent} (h : EntAt H v e) : EntAt (L2.del H b) v e := by
  obtain ⟨i, xs, eb⟩ := box_lst B
  rcases e with _ | ⟨q, w⟩
  · exact h
  · obtain ⟨t, rfl, e⟩ := h
    exact ⟨t, rfl, by rw [L2.del_ne fun c => by rw [c, eb] at e; cases e]; exact e⟩
theorem RowAt.box {H : Hp} {b : Addr} {dd : Int} (B : BoxAt H b dd) {v : V} {r : List Ent} (h : RowAt H v r) : RowAt (L2.del H b) v r := by
  obtain ⟨i, xs, eb⟩ := box_lst B
  obtain ⟨p, vs, rfl, e, pr⟩ := h
  have ne : p ≠ b := fun c => by
    rw [c, eb] at e
    cases e
    cases pr with
    | @cons _ y _ _ h _ =>
      rcases y with _ | ⟨q, w⟩
      · cases (show V.int i = V.non from h)
      · obtain ⟨t, e, _⟩ := h; cases e
  exact ⟨p, vs, rfl, by rw [L2.del_ne ne]; exact e, Paired.mapP pr fun _ _ z => z.box B⟩
theorem PlnAt.box {H : Hp} {b : Addr} {dd : Int} (B : BoxAt H b dd) {v : V} {n : Nat} {st : List (List Ent)} {en : List (Option (List Nat))} (h : PlnAt H v n st en) : PlnAt (L2.del H b) v n st en := by
  obtain ⟨bn, bg, bc, be, eb, _⟩ := B.ex
  obtain ⟨p, sv, ev, rfl, e1, ⟨q, vs, rfl, e2, pr⟩, ⟨r, rfl, e3⟩⟩ := h
  have n1 : p ≠ b := fun c => by rw [c, eb] at e1; cases e1
  have n2 : q ≠ b := fun c => by
    rw [c, eb] at e2; cases e2
    cases pr with
    | cons h _ => obtain ⟨t, vs, e, _⟩ := h; cases e
  have n3 : r ≠ b := fun c => by
    rw [c, eb] at e3
    rcases en with _ | ⟨o, en⟩
    · cases e3
    · rcases o with _ | w <;> cases e3
  exact ⟨p, .ref q, .ref r, rfl, by rw [L2.del_ne n1]; exact e1, ⟨q, vs, rfl, by rw [L2.del_ne n2]; exact e2, Paired.mapP pr fun _ _ z => z.box B⟩, ⟨r, rfl, by rw [L2.del_ne n3]; exact e3⟩⟩
/-- _law_one_right(box) -/
def spOne : Sp := fun vs H Q _ => ∃ (b : Addr) (d0 : Int), vs = [.ref b] ∧ BoxAt H b d0 ∧ d0 + 1000 ≤ 1000000 ∧ ∀ H', SB b H H' → Q (.bl true) H'
section
variable {P : Program} {w : World} {K : PySem.W.Frag} {mg : Str → Option Value} {base : Heap} {f : Addr} {fd : FuncData}
theorem ok_one {C XD XM : Addr} (F : Fun K "_law_one_right" "_law_one_right" s__law_one_right f fd) (z : Z mg) (m_Decoder : C8.Mak P w K mg base 5 "Decoder" C (spIni C) [])
    (x_with_check : CalX P w K mg base "with_check" ["decoder", "size"] 7 (spWC K C XD XM))
    (c__law_take : Cal P w K mg base "_law_take" ["box", "many"] 1 spTake) (c__law_plain : Cal P w K mg base "_law_plain" ["box"] 3 (spDrawn 200)) (c__law_told : Cal P w K mg base "_law_told" ["way", "thing", "many"] 8 (spTold K C)) (c__law_marked : Cal P w K mg base "_law_marked" ["plain"] 1 spMark) (c__law_blocks : Cal P w K mg base "_law_blocks" ["plain", "many"] 1 spBlk)
    (q__law_refused_right : CalG P w K mg base "_law_refused_right" ["box"] 9 spRef) (q__law_is : CalG P w K mg base "_law_is" ["made", "plain"] 1 (spIs C)) (q__law_parts_right : CalG P w K mg base "_law_parts_right" ["box", "made", "plain"] 6 (spPR C)) (q__law_exchanged_right : CalG P w K mg base "_law_exchanged_right" ["box", "plain", "many"] 9 spXR) : FnG P w K mg base CX0 10 f fd ["box"] spOne := by
  refine Sw.Fun.okG0 F sc__law_one_right (fun vs H Q E h => ?_) (fun cdv A outer s H vs Q E hr quiet h => ?_)
  · obtain ⟨b, d0, rfl, _⟩ := h; rfl
  · obtain ⟨b, d0, rfl, B, hd, k⟩ := h
    refine ⟨_, (pss_cons (ps_par3 (i := 1) (j := 2) (l := 3) rfl sc__law_one_right.nd rfl rfl rfl (by decide) (by decide) (by decide) rfl rfl rfl (pa_cons (pe_cal c__law_take hr (pa_cons (pv 0) (pa_cons pe_int pa_nil))) (pa_cons (pe_cal c__law_plain hr (pa_cons (pv 0) pa_nil)) (pa_cons (pe_op op_add pe_int (pe_cal c__law_take hr (pa_cons (pv 0) (pa_cons pe_int pa_nil)))) pa_nil))) (by rfl))
      (pss_cons (ps_if (PW.pt (pw_and (pt_cmpR op_eq (pv 1) pe_int (nomark _)) (pw_and1 (pt_not (pt_val (pe_calG q__law_refused_right hr quiet (pa_cons (pv 0) pa_nil)))))))
        (pss_one (ps_ret pe_bl))
        pss_nil)
      (pss_cons (ps_set (i := 4) sc__law_one_right.nd rfl (.inl rfl) (C8.pe_mk m_Decoder hr (by decide) (by rfl) (pa_cons (pe_ix ix_list (pv 2) pe_int (fun _ _ => rfl)) (pa_cons (pe_ix ix_list (pv 2) pe_int (fun _ _ => rfl)) (pa_cons (pe_ix ix_list (pv 2) pe_int (fun _ _ => rfl)) pa_nil)))))
      (pss_cons (ps_par (i := 5) (j := 6) rfl sc__law_one_right.nd rfl rfl (by decide) rfl rfl (pa_cons (pe_cal c__law_told hr (pa_cons (pe_op op_mod (pe_callTy call_intN (by rfl) z.int (by decide +kernel) (pa_cons (pv 1) pa_nil)) pe_int) (pa_cons (pv 4) (pa_cons (pv 3) pa_nil)))) (pa_cons (pe_cal c__law_marked hr (pa_cons (pv 2) pa_nil)) pa_nil)) (by rfl))
      (pss_cons (ps_if (PW.pt (pw_or (pt_cmpR (op_neX hr.units) (pe_ix ix_list (pv 5) pe_int (fun _ _ => rfl)) (pe_strS (l := [109, 97, 100, 101]) (by decide +kernel)) (nomark _)) (pw_or (pt_not (pt_val (pe_calG q__law_is hr quiet (pa_cons (pe_ix ix_list (pv 5) pe_int (fun _ _ => rfl)) (pa_cons (pv 6) pa_nil))))) (pw_or1 (pt_not (pt_val (pe_calG q__law_is hr quiet (pa_cons (pv 4) (pa_cons (pv 2) pa_nil)))))))))
        (pss_one (ps_ret pe_bl))
        pss_nil)
      (pss_cons (ps_if (PW.pt (pw_or (pt_not (pt_val (pe_calG q__law_parts_right hr quiet (pa_cons (pv 0) (pa_cons (pe_ix ix_list (pv 5) pe_int (fun _ _ => rfl)) (pa_cons (pv 2) pa_nil)))))) (pw_or1 (pt_not (pt_val (pe_calG q__law_exchanged_right hr quiet (pa_cons (pv 0) (pa_cons (pv 2) (pa_cons (pv 3) pa_nil)))))))))
        (pss_one (ps_ret pe_bl))
        pss_nil)
      (pss_cons (ps_par (i := 7) (j := 8) rfl sc__law_one_right.nd rfl rfl (by decide) rfl rfl (pa_cons (pe_cal c__law_blocks hr (pa_cons (pv 6) (pa_cons (pv 3) pa_nil))) (pa_cons (pe_cal c__law_blocks hr (pa_cons (pv 2) (pa_cons (pv 3) pa_nil))) pa_nil)) (by rfl))
      (pss_cons (ps_set (i := 9) sc__law_one_right.nd rfl (.inl rfl) (pe_cal c__law_told hr (pa_cons pe_int (pa_cons (pe_ix ix_list (pv 5) pe_int (fun _ _ => rfl)) (pa_cons (pv 3) pa_nil)))))
      (pss_cons (ps_if (pt_cmpR op_gt (pe_callB call_lenQ (by rfl) z.len PySem.boot_len (pa_cons (pe_ix ix_list (pv 7) pe_int (fun _ _ => rfl)) pa_nil)) pe_int (nomark _))
        (pss_one (ps_ret (pe_cmpR (op_eqD hr.units) (pv 9) (pe_lstL (pa_cons (pe_strS (l := [109, 97, 110, 121]) (by decide +kernel)) (pa_cons (pe_callB call_lenQ (by rfl) z.len PySem.boot_len (pa_cons (pe_ix ix_list (pv 7) pe_int (fun _ _ => rfl)) pa_nil)) pa_nil))) (nomark _))))
        pss_nil)
      (pss_cons (ps_if (PW.pt (pw_or (pt_cmpR (op_neX hr.units) (pe_ix ix_list (pv 9) pe_int (fun _ _ => rfl)) (pe_strS (l := [109, 97, 100, 101]) (by decide +kernel)) (nomark _)) (pw_or1 (pt_not (pt_val (pe_calG q__law_is hr quiet (pa_cons (pe_ix ix_list (pv 9) pe_int (fun _ _ => rfl)) (pa_cons (pv 7) pa_nil))))))))
        (pss_one (ps_ret pe_bl))
        pss_nil)
      (pss_cons (ps_if (pt_cmpR op_gt (pe_callB call_lenQ (by rfl) z.len PySem.boot_len (pa_cons (pe_ix ix_list (pv 8) pe_int (fun _ _ => rfl)) pa_nil)) pe_int (nomark _))
        (pss_one (ps_ret (pe_cmpR (op_eqD hr.units) (pe_cal c__law_told hr (pa_cons pe_int (pa_cons (pv 4) (pa_cons (pv 3) pa_nil)))) (pe_lstL (pa_cons (pe_strS (l := [109, 97, 110, 121]) (by decide +kernel)) (pa_cons (pe_callB call_lenQ (by rfl) z.len PySem.boot_len (pa_cons (pe_ix ix_list (pv 8) pe_int (fun _ _ => rfl)) pa_nil)) pa_nil))) (nomark _))))
        pss_nil)
      (pss_cons (ps_set (i := 9) sc__law_one_right.nd rfl (.inl rfl) (pe_cal c__law_told hr (pa_cons pe_int (pa_cons (pe_calX x_with_check hr takes_none (pa_cons (pv 4) (pa_cons (pv 3) pa_nil))) (pa_cons (pv 3) pa_nil)))))
      (pss_one (ps_ret (pe_and (pe_cmpR (op_eqX hr.units) (pe_ix ix_list (pv 9) pe_int (fun _ _ => rfl)) (pe_strS (l := [109, 97, 100, 101]) (by decide +kernel)) (nomark _)) (pe_one (pe_calG q__law_is hr quiet (pa_cons (pe_ix ix_list (pv 9) pe_int (fun _ _ => rfl)) (pa_cons (pe_cal c__law_marked hr (pa_cons (pv 8) pa_nil)) pa_nil))))))))))))))))))), ?_⟩
    walk_at "rd"
    refine ⟨b, 5, _, rfl, B, by omega, by omega, by omega, fun ch H1 c0 c1 B1 s1 => ?_⟩
    walk_at "rd"
    refine ⟨b, _, rfl, B1, by omega, fun v n st en H2 hp2 g n4 S4 B2 s2 => ?_⟩
    walk_at "rd"
    refine ⟨b, 2, _, rfl, B2, by omega, by omega, by omega, fun r H3 r0 r1 B3 s3 => ?_⟩
    obtain ⟨m, em, m1, m2⟩ : ∃ m : Nat, (1 : Int) + r = m ∧ 1 ≤ m ∧ m ≤ 2 := ⟨(1 + r).toNat, by omega, by omega, by omega⟩
    have hp3 := hp2.same (del_sb s3)
    have s03 := s1.trans (s2.trans s3)
    walk_at "rd"
    rw [em]
    refine cond_andH (fun c H' => c = false ∧ BoxAt H' b (d0 + 320) ∧ SB b H3 H') (fun R' kR => ?_) (fun c H5 hc => ?_)
    · rcases e : decide (ch = 0) with _ | _
      · refine iteF ?_
        exact kR _ _ ⟨rfl, B3.mono (by omega), SB.refl _⟩
      · refine iteT ?_
        walk_at "rd"
        refine ⟨b, _, rfl, B3, by omega, fun H' B' s' => ?_⟩
        walk_at "rd"
        exact kR _ _ ⟨rfl, B'.mono (by omega), s'⟩
    obtain ⟨rfl, B5, s35⟩ := hc
    have s05 := s03.trans s35
    have hp5 := hp3.same (del_sb s35)
    obtain ⟨pp, sv, ev, rfl, epp, hst, hen⟩ := id hp5
    have eppf := del_sub _ _ epp
    have gM := good_M g n4
    have few := few_of (m := m) g S4 (by omega) m2
    have fewM := few_of (m := m) gM (by rw [len_stM g.le]; exact S4) (by omega) m2
    walk_at "rd"
    refine i_makeD (hst.same del_sub) (hen.en.same del_sub) g fun hv H6 s6 D6 => ?_
    have hpf : ∀ {H'}, Same H6 H' → PlnAt H' (.ref pp) n st en := fun s' => ((hp5.same del_sub).same s6).same s'
    walk_at "rd"
    refine ⟨ch % 2, hv, iV m, rfl, .inl ⟨by omega, .inr (.inr ⟨n, st, en, D6, g, n4, fun t mv H7 s7 M7 et7 => ?_⟩)⟩⟩
    walk_at "rd"
    refine ⟨.ref pp, n, st, en, rfl, hpf s7, g, fun kv H8 s8 K8 => ?_⟩
    have et8 := s8 _ _ et7
    have M8 := M7.same s8
    have s68 := s7.trans s8
    have hs : (!isS [109, 97, 100, 101] (.str (S [109, 97, 100, 101]))) = false := by simp [isS]
    walk_at "rd"
    refine i_neS1 (.str _) (sd_str (l := [109, 97, 100, 101]) (by decide)) (.inr rfl) (by decide) ?_
    refine ⟨_, rfl, ?_⟩
    rw [hs]
    walk_at "rd"
    refine ⟨mv, kv, n + 1, _, _, rfl, M8, K8, gM, fun H9 s9 => ?_⟩
    walk_at "rd"
    refine ⟨hv, .ref pp, n, st, en, rfl, D6.same (s68.trans s9), hpf (s68.trans s9), g, fun H10 s10 => ?_⟩
    have s810 := s9.trans s10
    have s610 := s68.trans s810
    have B10 := B5.same (s6.trans s610)
    have et10 := s810 _ _ et8
    have dd10 : Same (L2.del H5 b) (L2.del H10 b) := del_sb (SB.of (s6.trans s610))
    walk_at "rd"
    refine ⟨b, mv, .ref pp, n, st, en, _, rfl, (M8.same s810).box B10, hp5.same dd10, g, n4, B10, by omega, fun H11 B11 s11 => ?_⟩
    walk_at "rd"
    refine ⟨b, .ref pp, n, m, st, en, _, rfl, hp5.same (dd10.trans (del_sb s11)), g, n4, S4, m1, m2, B11, by omega, fun H12 B12 s12 => ?_⟩
    have s1012 : SB b H10 H12 := s11.trans s12
    have d1012 := del_sb s1012
    -- the old things, in the heap now
    have tb : ∀ {a : Addr} {xs : List V}, H10 a = some (.lst xs) → a ≠ b → H12 a = some (.lst xs) := fun e ne => s1012 _ _ ne e
    have M12 : DAt C H12 mv (n + 1) (stM st en) en := (((M8.same s810).box B10).same d1012).same del_sub
    have D12 : DAt C H12 hv n st en := (((D6.same s610).box B10).same d1012).same del_sub
    have hp12 : PlnAt H12 (.ref pp) n st en := (hp5.same (dd10.trans d1012)).same del_sub
    have K12 : PlnAt H12 kv (n + 1) (stM st en) en := (((K8.same s810).box B10).same d1012).same del_sub
    have tnb : t ≠ b := fun c => by
      obtain ⟨bn, bg, bc, be, eb, _⟩ := B10.ex
      rw [c, eb] at et10; cases et10
    have et12 := s1012 _ _ tnb et10
    have s012 : SB b H H12 := s05.trans ((SB.of (s6.trans s610)).trans s1012)
    have fin : ∀ H', Same H12 H' → Q (.bl true) H' := fun H' s' => k _ (s012.trans (SB.of s'))
    clear tb
    walk_at "rd"
    refine ⟨kv, n + 1, m, _, _, rfl, K12, gM, fewM, m1, by omega, fun ov H13 s13 O13 => ?_⟩
    walk_at "rd"
    refine ⟨.ref pp, n, m, st, en, rfl, hp12.same s13, g, few, m1, by omega, fun uv H14 s14 U14 => ?_⟩
    have s1214 := s13.trans s14
    have et14 := s1214 _ _ et12
    have O14 := O13.same s14
    obtain ⟨op, osv, oev, rfl, eop, ⟨osp, osvs, rfl, eosp, oprs⟩, _⟩ := id O14
    obtain ⟨up, usv, uev, rfl, eup, ⟨usp, usvs, rfl, eusp, uprs⟩, _⟩ := id U14
    have lov : osvs.length = (finP (stM st en) (n + 1) m).length := by rw [Paired.length oprs]; simp only [stC, List.length_map]
    have luv : usvs.length = (finP st n m).length := by rw [Paired.length uprs]; simp only [stC, List.length_map]
    have l75 := fin_75 fewM
    have u75 := fin_75 few
    walk_at "rd"
    by_cases h40 : (finP (stM st en) (n + 1) m).length ≤ 40
    rotate_left
    · refine ⟨2, mv, iV m, rfl, .inr ⟨rfl, .inr ⟨n + 1, m, _, _, M12.same s1214, gM, fewM, rfl, m1, by omega, fun _ => fun t2 H15 nt2 lt2 s15 et2 => ?_, fun h => (h40 h).elim⟩⟩⟩
      have eop15 := s15 _ _ eop
      have eosp15 := s15 _ _ eosp
      walk_at "rd"
      rw [lov, decide_eq_true (show (40 : Int) < ((finP (stM st en) (n + 1) m).length : Int) by omega)]
      walk_at "rd"
      rw [lov]
      refine newLL0 (Nat.le_of_ble_eq_true rfl) fun q2 H16 nq2 lq2 s16 eq2 => ?_
      have sd2 : Sd 6 1000 (lst2 tMany (.int (finP (stM st en) (n + 1) m).length)) := lst2_sd (by decide) (by decide) (sd_int9 (i := ((finP (stM st en) (n + 1) m).length : Int)) (by omega)) (by omega) (by omega)
      refine i_eqE (lst2_de (s16 _ _ et2) lt2 (.int _)) (lst2_de eq2 lq2 (.int _)) sd2 sd2 lst2_flat lst2_flat ?_
      rw [eqv_self _ lst2_flat]
      exact fin _ (s1214.trans (s15.trans s16))
    refine ⟨2, mv, iV m, rfl, .inr ⟨rfl, .inr ⟨n + 1, m, _, _, M12.same s1214, gM, fewM, rfl, m1, by omega, fun h => by omega, fun _ t2 mv2 H15 s15 M15 et15 => ?_⟩⟩⟩
    have gCM := good_C gM fewM h40
    have eop15 := s15 _ _ eop
    have eosp15 := s15 _ _ eosp
    walk_at "rd"
    rw [lov, decide_eq_false (show ¬ (40 : Int) < ((finP (stM st en) (n + 1) m).length : Int) by omega)]
    walk_at "rd"
    refine i_neS1 (.str _) (sd_str (l := [109, 97, 100, 101]) (by decide)) (.inr rfl) (by decide) ?_
    refine ⟨_, rfl, ?_⟩
    rw [hs]
    walk_at "rd"
    refine ⟨mv2, .ref op, n + 1, _, _, rfl, M15, O14.same s15, gCM, fun H16 s16 => ?_⟩
    have s1416 := s15.trans s16
    have eup16 := s1416 _ _ eup
    have eusp16 := s1416 _ _ eusp
    have D16 := D12.same (s1214.trans s1416)
    have U16 := U14.same s1416
    walk_at "rd"
    rw [luv]
    by_cases u40 : (finP st n m).length ≤ 40
    rotate_left
    · rw [decide_eq_true (show (40 : Int) < ((finP st n m).length : Int) by omega)]
      walk_at "rd"
      refine ⟨2, hv, iV m, rfl, .inr ⟨rfl, .inr ⟨n, m, _, _, D16, g, few, rfl, m1, by omega, fun _ => fun t3 H17 nt3 lt3 s17 et3 => ?_, fun h => (u40 h).elim⟩⟩⟩
      have eup17 := s17 _ _ eup16
      have eusp17 := s17 _ _ eusp16
      walk_at "rd"
      rw [luv]
      refine newLL0 (Nat.le_of_ble_eq_true rfl) fun q2 H18 nq2 lq2 s18 eq2 => ?_
      have sd2 : Sd 6 1000 (lst2 tMany (.int (finP st n m).length)) := lst2_sd (by decide) (by decide) (sd_int9 (i := ((finP st n m).length : Int)) (by omega)) (by omega) (by omega)
      refine i_eqE (lst2_de (s18 _ _ et3) lt3 (.int _)) (lst2_de eq2 lq2 (.int _)) sd2 sd2 lst2_flat lst2_flat ?_
      rw [eqv_self _ lst2_flat]
      exact fin _ (s1214.trans (s1416.trans (s17.trans s18)))
    rw [decide_eq_false (show ¬ (40 : Int) < ((finP st n m).length : Int) by omega)]
    have gCU := good_C g few u40
    walk_at "rd"
    refine ⟨hv, iV m, rfl, .inr ⟨n, m, st, en, D16, g, few, rfl, m1, by omega, fun h => by omega, fun _ cv H17 s17 C17 => ?_⟩⟩
    walk_at "rd"
    refine ⟨0, cv, iV m, rfl, .inl ⟨.inl rfl, .inr (.inr ⟨n, _, _, C17, gCU, n4, fun t3 mv3 H18 s18 M18 et18 => ?_⟩)⟩⟩
    walk_at "rd"
    refine i_eqS1 (.str _) (sd_str (l := [109, 97, 100, 101]) (by decide)) (.inr rfl) (by decide) ?_
    rw [show isS [109, 97, 100, 101] (.str (S [109, 97, 100, 101])) = true by simp [isS]]
    walk_at "rd"
    refine ⟨.ref up, n, _, _, rfl, U16.same (s17.trans s18), gCU, fun nv H19 s19 N19 => ?_⟩
    walk_at "rd"
    refine ⟨mv3, nv, n + 1, _, _, rfl, M18.same s19, N19, good_M gCU n4, fun H20 s20 => ?_⟩
    exact fin _ (s1214.trans (s1416.trans (s17.trans (s18.trans (s19.trans s20)))))
end
end Sw
namespace Sw
open PySem PySem.Spec PyProof.Rows L2
local macro_rules | `(tactic| walk_at "hp") => `(tactic| first
  | (with_reducible assumption) | (with_reducible exact upd_same)
  | ((with_reducible refine' upd_old ?q1 ?q2); (case q1 => (with_reducible assumption)); (case q2 => walk_at "hp"))
  | ((with_reducible refine' Same.at ?q1 ?q2); (case q1 => (with_reducible assumption)); (case q2 => walk_at "hp"))
  | ((with_reducible refine' upd_skip ?q1 ?q2); (case q1 => walk_at "ne"); (case q2 => walk_at "hp"))
  | fail)
local macro_rules | `(tactic| walk_at "ne") => `(tactic| first
  | (with_reducible assumption) | (with_reducible exact Ne.symm (by assumption))
  | ((with_reducible refine' ne_of_none ?q1 ?q2); (case q2 => (with_reducible assumption)); (case q1 => walk_at "hp"))
  | fail)
local macro_rules | `(tactic| walk_at "ci") => `(tactic| first | assumption | (show (0 : Int) < _; first | decide | (with_reducible omega)) | exact ⟨by decide, by decide⟩ | exact .inl ⟨by decide, by decide⟩ | exact .inr ⟨by decide, by decide⟩)
local macro_rules | `(tactic| walk_at "ln") => `(tactic| first | (with_reducible assumption) | (with_reducible omega) | (simp only [List.length_append, List.length_take, List.length_drop, List.length_reverse, List.length_cons, List.length_nil]; with_reducible omega))
local macro_rules | `(tactic| walk_at "rd1") => `(tactic| first
  | (with_reducible refine i_seq ?_) | (with_reducible refine i_asg ?_) | (with_reducible refine i_ret ?_) | (with_reducible refine i_name ?_) | ((with_reducible refine' i_var ?q1 ?_); (case q1 => exact rfl)) | (with_reducible refine i_c ?_) | (with_reducible refine i_op ?_) | (with_reducible refine i_un ?_)
  | (with_reducible refine i_rI0 ?_) | (with_reducible refine i_cb ?_) | (with_reducible refine i_cons ?_) | (with_reducible refine i_nil ?_) | (with_reducible refine i_call ?_) | (with_reducible refine i_if ?_) | (with_reducible refine i_ifE ?_) | (with_reducible refine i_test ?_) | (with_reducible refine i_bl ?_)
  | (with_reducible refine i_and ?_) | (with_reducible refine i_or ?_) | (with_reducible refine i_not ?_) | (with_reducible refine i_lstM ?_) | (with_reducible refine i_lstLM ?_) | (with_reducible refine i_tupM ?_) | (with_reducible refine i_next ?_) | (with_reducible refine i_drop ?_) | (with_reducible refine i_sub ?_)
  | (with_reducible refine i_bm ?_) | (with_reducible refine i_sl ?_) | (with_reducible refine i_part ?_) | (with_reducible refine i_nopart ?_) | (with_reducible refine i_exI ?_) | (with_reducible refine i_chain ?_) | ((with_reducible refine' i_aug ?q1 ?_); (case q1 => exact rfl)) | (with_reducible refine i_ip ?_)
  | (with_reducible refine i_par ?_) | (with_reducible refine i_pair ?_) | (with_reducible refine i_andV ?_) | (with_reducible refine i_orV ?_) | (with_reducible refine i_notV ?_) | (with_reducible refine i_m1 ?_) | (with_reducible refine i_str ?_)
  | (with_reducible refine iteF ?_) | (with_reducible refine iteT ?_) | (with_reducible refine iteNT ?_) | (with_reducible refine iteNF ?_) | (with_reducible refine i_tyS ?_) | (with_reducible refine i_tB ?_) | (with_reducible refine i_retN ?_) | (with_reducible refine i_par3 ?_) | (with_reducible refine i_trip ?_) | (with_reducible refine i_gCons ?_) | (with_reducible refine i_gNil ?_) | (with_reducible refine i_lstRg ?_) | (with_reducible refine i_rg1 ?_)
  | (with_reducible refine i_lc ?_) | (with_reducible refine i_for ?_) | (with_reducible refine i_iList ?_) | (with_reducible refine i_iTup ?_) | (with_reducible refine i_iStr ?_) | (with_reducible refine i_iRng1 ?_) | (with_reducible refine i_iEnS ?_)
  | ((with_reducible refine' i_ixTH ?q1 ?q2 ?_); (case q1 => walk_at "hp"); (case q2 => exact rfl))
  | ((with_reducible refine' i_ixLH ?q1 ?q2 ?_); (case q1 => walk_at "hp"); (case q2 => exact rfl))
  | ((with_reducible refine i_addS ?q1 ?_); (case q1 => walk_at "ln")) | ((with_reducible refine i_lenSS ?q1 ?_); (case q1 => walk_at "ln")) | ((with_reducible refine i_slFrom ?q1 ?q2 ?_); (case q1 => walk_at "ln"); (case q2 => walk_at "ln")) | ((with_reducible refine i_slTo ?q1 ?q2 ?_); (case q1 => walk_at "ln"); (case q2 => walk_at "ln"))
  | ((with_reducible refine' i_tyL ?q1 ?_); (case q1 => walk_at "hp"))
  | ((with_reducible refine' i_gTupH ?q1 ?q2 ?_); (case q1 => walk_at "hp"); (case q2 => exact rfl))
  | (with_reducible refine i_dnewM ?_) | (with_reducible refine i_init ?_) | (with_reducible refine i_fst ?_) | (with_reducible refine i_mk ?_) | (with_reducible refine i_mkF ?_) | (with_reducible refine i_raise ?_) | (with_reducible refine i_callS ?_) | (with_reducible refine i_kwS ?_)
  | (with_reducible refine i_revT ?_) | (with_reducible refine i_kw ?_) | ((with_reducible refine' ⟨_, _, rfl, sqT_of ?q1, ?_⟩); (case q1 => walk_at "hp"))
  | (with_reducible refine i_revS ?_) | ((with_reducible refine i_revSS ?q1 ?_); (case q1 => walk_at "ln"))
  | (with_reducible refine i_startS ?_) | (with_reducible refine i_inSg ?_) | (with_reducible refine i_absN ?_) | (with_reducible refine i_min2 ?_) | (with_reducible refine i_max2 ?_) | (with_reducible refine i_min3 ?_) | (with_reducible refine i_intN ?_) | (with_reducible refine i_intNB ?_)
  | ((with_reducible refine' i_lenL ?q1 ?_); (case q1 => walk_at "hp")) | ((with_reducible refine' i_lenT ?q1 ?_); (case q1 => walk_at "hp"))
  | (with_reducible refine i_eqI ?_) | (with_reducible refine i_neI ?_) | (with_reducible refine i_eqS ?_) | (with_reducible refine i_neS ?_) | (with_reducible refine i_isNoI ?_) | (with_reducible refine i_isNoN ?_) | (with_reducible refine i_isNoR ?_)
  | ((with_reducible refine i_pow ?q1 ?q2 ?q3 ?_); (case q1 => decide); (case q2 => decide); (case q3 => (with_reducible omega)))
  | ((with_reducible refine i_rI ?q1 ?_); (case q1 => walk_at "ci"))
  | (with_reducible refine Or.inl ⟨_, rfl, ?_⟩) | (with_reducible refine Or.inr ⟨_, rfl, ?_⟩) | (with_reducible refine ⟨_, rfl, ?_⟩) | (with_reducible refine ⟨_, _, rfl, ?_⟩) | (with_reducible refine ⟨_, _, rfl, rfl, ?_⟩)
  | ((with_reducible refine' ⟨_, _, rfl, Or.inl (sqL_of ?q1), ?_⟩); (case q1 => walk_at "hp")) | ((with_reducible refine' ⟨_, _, rfl, Or.inr (sqT_of ?q1), ?_⟩); (case q1 => walk_at "hp")) | (with_reducible refine i_dget ?_) | (with_reducible refine i_disp1T ?_) | (with_reducible refine i_dcT ?_) | (with_reducible refine i_dnewT ?_) | (with_reducible refine i_fld ?_) | (with_reducible refine i_sFld ?_) | (with_reducible refine i_make ?_) | (with_reducible refine i_meth ?_) | (with_reducible refine i_star ?_) | (with_reducible refine i_isNoS ?_) | (with_reducible refine i_lc2 ?_) | (with_reducible refine i_iEnT ?_) | (with_reducible refine i_iZipT ?_) | fail)
local macro_rules | `(tactic| walk_at "rd") => `(tactic| repeat' walk_at "rd1")

/-- law(script) -/
def spLaw (K : PySem.W.Frag) : Sp := fun vs H Q _ => ∃ (a : Addr) (ns : List Int), vs = [.ref a] ∧ SqL K H a (ns.map V.int) ∧ ∀ H', Same H H' → Q (.bl true) H'
section
variable {P : Program} {w : World} {K : PySem.W.Frag} {mg : Str → Option Value} {base : Heap} {f : Addr} {fd : FuncData}
theorem ok_law (F : Fun K "law" "law" s_law f fd) (z : Z mg) (q__law_one_right : CalG P w K mg base "_law_one_right" ["box"] 10 spOne)
    (c__law_box : Cal P w K mg base "_law_box" ["great"] 1 spBox) (c__law_cell : Cal P w K mg base "_law_cell" ["script", "k"] 1 (spCell K)) : FnG P w K mg base CX0 11 f fd ["script"] (spLaw K) := by
  refine Sw.Fun.okG0 F sc_law (fun vs H Q E h => ?_) (fun cdv A outer s H vs Q E hr quiet h => ?_)
  · obtain ⟨a, ns, rfl, _⟩ := h; rfl
  · obtain ⟨a, ns, rfl, L, k⟩ := h
    refine ⟨_, (pss_cons (ps_for PassesOwn.never rfl (pi_range1 (by rfl) z.range (pa_cons (pe_callB (call_max2N rfl) (by rfl) z.max_ (by decide +kernel) (pa_cons pe_int (pa_cons (pe_callB (call_min2N rfl) (by rfl) z.min_ (by decide +kernel) (pa_cons pe_int (pa_cons (pe_callB call_lenQ (by rfl) z.len PySem.boot_len (pa_cons (pv 0) pa_nil)) pa_nil))) pa_nil))) pa_nil)) (pg_name (i := 1) sc_law.nd rfl (.inl rfl))
        (pss_one (ps_if (pt_not (pt_val (pe_calG q__law_one_right hr quiet (pa_cons (pe_cal c__law_box hr (pa_cons (pe_cal c__law_cell hr (pa_cons (pv 0) (pa_cons (pv 1) pa_nil))) pa_nil)) pa_nil))))
          (pss_one (ps_ret pe_bl))
          pss_nil)))
      (pss_one (ps_ret pe_bl))), ?_⟩
    walk_at "rd"
    refine i_lenK L ?_
    walk_at "rd"
    rw [List.length_map]
    refine i_rng (by omega) (by omega) ?_
    refine go_for walk_rangeZ (fun i σ H2 => ∃ u1, σ = [some (.ref a), u1] ∧ Same H H2) ⟨none, rfl, Same.refl _⟩ (fun _ _ _ _ _ => trivial) (fun i v σ H2 H3 hi p y => ?_) (fun σ H2 p => ?_)
    · obtain ⟨u1, rfl, s2⟩ := p
      obtain ⟨rfl, rfl⟩ := y
      walk_at "rd"
      refine ⟨a, ns, i, rfl, Same.sqL s2 L, by omega, by omega, fun v H4 s4 => ?_⟩
      walk_at "rd"
      refine ⟨v, rfl, fun b H5 nb s5 B5 => ?_⟩
      walk_at "rd"
      refine ⟨b, 0, rfl, B5, by omega, fun H6 s6 => ?_⟩
      have keep : Same H H6 := fun x o e => by
        have e4 := s4 _ _ (s2 _ _ e)
        have nxb : x ≠ b := ne_of_none e4 nb
        exact s6 _ _ nxb (s5 _ _ e4)
      walk_at "rd"
      exact keep
    · obtain ⟨u1, rfl, s2⟩ := p
      walk_at "rd"
      exact k _ s2
end
end Sw
namespace Sw
open PySem PySem.Spec PyProof.Rows L2
theorem def_mk {K : PySem.W.Frag} {h : Heap} {mg : Str → Option Value} {x : Str} {st : Stmt} {f : Addr} {od an : Option Addr} {sl : Array (Option Value)} {oc kV dc pm cd ct : Value} (X : K.In h) (G : h.Ns mainGlobals mg)
    (a : PySem.W.nsIn K mainGlobals x = some (some (.ref f))) (l : K.lookup f = some ⟨oc, od, .func (PySem.W.fnOf x x (defArgs st) (defBody st) (defScope st) .none kV dc pm an cd ct), sl⟩) (c : PySem.W.codeIn K cd x = true) (k : PySem.W.keepIn K (.ref f) = true) : Def K mg x st :=
  ⟨f, _, fun_mk l c k, PySem.W.mg_of X G a⟩
theorem oex_mk {K : PySem.W.Frag} {C B N : Addr} {nm q : Str} {bs : List Value} {sn : List Str} {sub : List Value} {ab : Bool} {col : Option Bool} {dd : Option Addr} {k0 k1 k2 k3 k5 : Option Value}
    (h : K.lookup C = some (excClassObj nm q C N bs [.ref B, .type "Exception", .type "BaseException", .type "object"] true sn sub ab col dd k0 k1 k2 k3 k5 "Exception.__new__")) (sa : PySem.W.findIn K (.ref C) "__setattr__" = some (some (.builtin "object.__setattr__"))) (exC : PySem.W.subIn K (.ref C) (.type "BaseException") = some true)
    (tyC : PySem.W.typeIn K (.ref C) = some (.type "type")) (kC : PySem.W.keepIn K (.ref C) = true) : OexE K C := ⟨⟨nm, q, N, bs, [B], sn, sub, ab, col, dd, k0, k1, k2, k3, k5, h⟩, sa, exC, tyC, kC⟩
theorem exm_mk {K : PySem.W.Frag} {c : Value} (h1 : PySem.W.subIn K c (.type "BaseException") = some true) (h2 : PySem.W.kitCls K c c = some true) : PySem.W.exmOne K c c = some true := by
  unfold PySem.W.exmOne
  rw [h1]
  exact h2
theorem exn_mk {K : PySem.W.Frag} {d c : Value} (h1 : PySem.W.subIn K c (.type "BaseException") = some true) (h2 : PySem.W.kitCls K d c = some false) : PySem.W.exmOne K d c = some false := by
  unfold PySem.W.exmOne
  rw [h1]
  exact h2
/-- an own exception class, its __init__ apart -/
structure XI (x q : Str) (st : Stmt) (K : PySem.W.Frag) (mg : Str → Option Value) (C : Addr) : Prop where
  T : OexE K C
  xf : XfC K C
  no : PySem.W.findIn K (.ref C) "given" = some none
  hm : mg x = some (.ref C)
  me : PySem.W.exmOne K (.ref C) (.ref C) = some true
  ini : ∃ (fI : Addr) (fd : FuncData), PySem.W.findIn K (.ref C) "__init__" = some (some (.ref fI)) ∧ PySem.W.typeIn K (.ref fI) = some (.type "function") ∧ Fun K "__init__" q st fI fd
theorem iniq_mk {K : PySem.W.Frag} {q : Str} {st : Stmt} {C fI : Addr} {od an : Option Addr} {sl : Array (Option Value)} {oc kV dc pm cd ct : Value} (i : PySem.W.findIn K (.ref C) "__init__" = some (some (.ref fI))) (t : PySem.W.typeIn K (.ref fI) = some (.type "function"))
    (l : K.lookup fI = some ⟨oc, od, .func (PySem.W.fnOf "__init__" q (defArgs st) (defBody st) (defScope st) .none kV dc pm an cd ct), sl⟩) (c : PySem.W.codeIn K cd q = true) (k : PySem.W.keepIn K (.ref fI) = true) :
    ∃ (fI : Addr) (fd : FuncData), PySem.W.findIn K (.ref C) "__init__" = some (some (.ref fI)) ∧ PySem.W.typeIn K (.ref fI) = some (.type "function") ∧ Fun K "__init__" q st fI fd := ⟨fI, _, i, t, fun_mk l c k⟩
/-- the class Decoder -/
structure XD_Decoder (K : PySem.W.Frag) (mg : Str → Option Value) (C : Addr) : Prop where
  hm : mg "Decoder" = some (.ref C)
  dc : DcC K C
  ic : C8.InsC K C
  mks : PySem.W.makesIn K C = true
  kc : PySem.W.keepIn K (.ref C) = true
  m_ini : ∃ (f : Addr) (fd : FuncData), PySem.W.findIn K (.ref C) "__init__" = some (some (.ref f)) ∧ PySem.W.isFn K (.ref f) = true ∧ PySem.W.keepIn K (.ref f) = true ∧ Fun K "__init__" "Decoder.__init__" s_Decoder___init__ f fd
  m_written : ∃ (f : Addr) (fd : FuncData), PySem.W.findIn K (.ref C) "written" = some (some (.ref f)) ∧ PySem.W.isFn K (.ref f) = true ∧ PySem.W.keepIn K (.ref f) = true ∧ Fun K "written" "Decoder.written" s_Decoder_written f fd
  nc : NoC K C
theorem mth_mk_Decoder {K : PySem.W.Frag} {m q : Str} {st : Stmt} {C f : Addr} {od an : Option Addr} {sl : Array (Option Value)} {oc kV dc pm cd ct : Value} (i : PySem.W.findIn K (.ref C) m = some (some (.ref f))) (t : PySem.W.isFn K (.ref f) = true)
    (l : K.lookup f = some ⟨oc, od, .func (PySem.W.fnOf m q (defArgs st) (defBody st) (defScope st) .none kV dc pm an cd ct), sl⟩) (c : PySem.W.codeIn K cd q = true) (k : PySem.W.keepIn K (.ref f) = true) :
    ∃ (f : Addr) (fd : FuncData), PySem.W.findIn K (.ref C) m = some (some (.ref f)) ∧ PySem.W.isFn K (.ref f) = true ∧ PySem.W.keepIn K (.ref f) = true ∧ Fun K m q st f fd := ⟨f, _, i, t, k, fun_mk l c k⟩
theorem dc_mk_Decoder {K : PySem.W.Frag} {C : Addr} (pg : PySem.W.plainGet K C Str.empty = true) (hd : PySem.W.hasDictIn K C = true) (po : PySem.W.plainOver K C = true) (sa : PySem.W.findIn K (.ref C) "__setattr__" = some (some (.builtin "object.__setattr__")))
    (a_signs : PySem.W.findIn K (.ref C) "signs" = some none) (a_states : PySem.W.findIn K (.ref C) "states" = some none) (a_steps : PySem.W.findIn K (.ref C) "steps" = some none) (a_ends : PySem.W.findIn K (.ref C) "ends" = some none) : DcC K C := ⟨⟨pg, hd, po, sa⟩, a_signs, a_states, a_steps, a_ends⟩
theorem ic_mk_Decoder {K : PySem.W.Frag} {C : Addr} (c : Cls K C) (ha : PySem.W.findIn K (.ref C) "__class__" = some (some (.builtin "object.__class__"))) (hn : PySem.W.specialIn K (.builtin "object.__class__") "__get__" = some (some (.builtin "getset_descriptor.__get__")))
    (htk : PySem.W.takesIn K (.builtin "object.__class__") = some true) (hm : PySem.W.mroIn K C (.type "object") = some true) (me : PySem.W.kitOne K (.ref C) (.ref C) = some true) : C8.InsC K C := ⟨c, ha, hn, htk, hm, me⟩
/-- an own exception class with the field f, its __init__ apart -/
structure XIF (x q f : Str) (st : Stmt) (K : PySem.W.Frag) (mg : Str → Option Value) (C : Addr) : Prop where
  T : OexE K C
  xf : XfC K C
  no : PySem.W.findIn K (.ref C) f = some none
  hm : mg x = some (.ref C)
  me : PySem.W.exmOne K (.ref C) (.ref C) = some true
  ini : ∃ (fI : Addr) (fd : FuncData), PySem.W.findIn K (.ref C) "__init__" = some (some (.ref fI)) ∧ PySem.W.typeIn K (.ref fI) = some (.type "function") ∧ Fun K "__init__" q st fI fd
theorem all_mk {l : PySem.W.OpenLaw} {w : World} {K : PySem.W.Frag} {mg : Str → Option Value} {fa : Addr} (hfa : mg "law" = some (.ref fa)) (z : Z mg) {t_MOST_SIGNS : Tok} (g_MOST_SIGNS : mg "MOST_SIGNS" = some (.int 5 t_MOST_SIGNS)) {t_MOST_LETTERS : Tok} (g_MOST_LETTERS : mg "MOST_LETTERS" = some (.int 3 t_MOST_LETTERS)) {t_MOST_STATES : Tok} (g_MOST_STATES : mg "MOST_STATES" = some (.int 40 t_MOST_STATES)) {t_MOST_SIZE : Tok} (g_MOST_SIZE : mg "MOST_SIZE" = some (.int 4 t_MOST_SIZE)) {t_LETTERS : Tok} (g_LETTERS : mg "LETTERS" = some (.str (("abcdefghijklmnopqrstuvwxyz" : Str)) t_LETTERS)) {B : Addr} (ov : Over K mg B) {XD : Addr} (xi_XD : XI "InvalidDecoder" "InvalidDecoder.__init__" s_initD K mg XD) {XS : Addr} (xi_XS : XI "InvalidSigns" "InvalidSigns.__init__" s_initS K mg XS) {XM : Addr} (xi_XM : XIF "TooMany" "TooMany.__init__" "count" s_initM K mg XM) {CD : Addr} (xd_CD : XD_Decoder K mg CD) (hSD : PySem.W.exmOne K (.ref XS) (.ref XD) = some false) (hMD : PySem.W.exmOne K (.ref XM) (.ref XD) = some false) (hMS : PySem.W.exmOne K (.ref XM) (.ref XS) = some false) 
    (d_is_list : Def K mg "is_list" s_is_list) (d_is_integer : Def K mg "is_integer" s_is_integer) (d_is_index : Def K mg "is_index" s_is_index) (d_is_signs : Def K mg "is_signs" s_is_signs) (d_is_sign : Def K mg "is_sign" s_is_sign) (d_is_line : Def K mg "is_line" s_is_line) (d_is_text : Def K mg "is_text" s_is_text) (d_is_word : Def K mg "is_word" s_is_word) (d_check_signs : Def K mg "check_signs" s_check_signs) (d_check_line : Def K mg "check_line" s_check_line) (d_is_entry : Def K mg "is_entry" s_is_entry) (d_are_steps : Def K mg "are_steps" s_are_steps) (d_are_ends : Def K mg "are_ends" s_are_ends) (d_check_decoder : Def K mg "check_decoder" s_check_decoder) (d_checked_row : Def K mg "checked_row" s_checked_row) (d_with_check : Def K mg "with_check" s_with_check) (d_with_marker : Def K mg "with_marker" s_with_marker) (d_common_beginning : Def K mg "common_beginning" s_common_beginning) (d_without_common_ends : Def K mg "without_common_ends" s_without_common_ends) (d_next_band : Def K mg "next_band" s_next_band) (d_distance_within : Def K mg "distance_within" s_distance_within) (d_levenshtein : Def K mg "levenshtein" s_levenshtein) (d_is_kind : Def K mg "is_kind" s_is_kind) (d_is_same : Def K mg "is_same" s_is_same) (d_is_passing : Def K mg "is_passing" s_is_passing) (d_check_passing : Def K mg "check_passing" s_check_passing) (d_sent : Def K mg "sent" s_sent) (d_came : Def K mg "came" s_came) (d_harm_of : Def K mg "harm_of" s_harm_of) (d__law_cell : Def K mg "_law_cell" s__law_cell) (d__law_box : Def K mg "_law_box" s__law_box) (d__law_take : Def K mg "_law_take" s__law_take) (d__law_free : Def K mg "_law_free" s__law_free) (d__law_plain : Def K mg "_law_plain" s__law_plain) (d__law_marked : Def K mg "_law_marked" s__law_marked) (d__law_blocks : Def K mg "_law_blocks" s__law_blocks) (d__law_written : Def K mg "_law_written" s__law_written) (d__law_distance : Def K mg "_law_distance" s__law_distance) (d__law_line : Def K mg "_law_line" s__law_line) (d__law_told : Def K mg "_law_told" s__law_told) (d__law_is : Def K mg "_law_is" s__law_is) (d__law_refused_right : Def K mg "_law_refused_right" s__law_refused_right) (d__law_parts_right : Def K mg "_law_parts_right" s__law_parts_right) (d__law_exchanged_right : Def K mg "_law_exchanged_right" s__law_exchanged_right) (d__law_one_right : Def K mg "_law_one_right" s__law_one_right) (d_law : Def K mg "law" s_law) :
    ∃ fd : FuncData, (∀ (s : Shared) (v : Value), BindsTo s fd ⟨[v], []⟩ [("script", v)]) ∧ ∀ base : Heap, K.In base → base.Ns mainGlobals mg → FnG l.prog w K mg base CX0 11 fa fd ["script"] (spLaw K) := by
  obtain ⟨f, fd, F, e⟩ := d_law
  cases hfa.symm.trans e
  have F0 := F
  obtain ⟨oc, od, kV, doc, pm, an, cdv, ct, osl, rfl, lk, hcd⟩ := F.ex
  refine ⟨PySem.W.fnOf "law" "law" (defArgs s_law) (defBody s_law) (defScope s_law) .none kV doc pm an cdv ct, fun s v => .of_eq rfl, fun base _ _ => ?_⟩
  have xq_XD : XQ "InvalidDecoder" l.prog w K mg base XD := by
    obtain ⟨fI, fdI, i1, i2, FI⟩ := xi_XD.ini
    exact ⟨xi_XD.T, xi_XD.xf, xi_XD.no, xi_XD.hm, xi_XD.me, fI, fdI, i1, i2, ok_initD FI ov, FI.binds fun _ _ _ _ _ _ us hl => match us, hl with | [_, _], _ => rfl⟩
  have xq_XS : XQ "InvalidSigns" l.prog w K mg base XS := by
    obtain ⟨fI, fdI, i1, i2, FI⟩ := xi_XS.ini
    exact ⟨xi_XS.T, xi_XS.xf, xi_XS.no, xi_XS.hm, xi_XS.me, fI, fdI, i1, i2, ok_initS FI ov, FI.binds fun _ _ _ _ _ _ us hl => match us, hl with | [_, _], _ => rfl⟩
  have xf_XM : XF "TooMany" "count" l.prog w K mg base XM := by
    obtain ⟨fI, fdI, i1, i2, FI⟩ := xi_XM.ini
    exact ⟨xi_XM.T, xi_XM.xf, xi_XM.no, xi_XM.hm, xi_XM.me, fI, fdI, i1, i2, ok_initM FI ov, FI.binds fun _ _ _ _ _ _ us hl => match us, hl with | [_, _], _ => rfl⟩
  obtain ⟨f_ini, fd_ini, m1_ini, m2_ini, m3_ini, F_ini⟩ := xd_CD.m_ini
  obtain ⟨f_written, fd_written, m1_written, m2_written, m3_written, F_written⟩ := xd_CD.m_written
  have c_int := Sw.Def.cal (P := l.prog) (w := w) (base := base) d_is_integer (ps := ["value"]) (k := 1) (sp := (spInt K)) (fun _ _ _ _ _ _ us hl => match us, hl with | [_], _ => rfl) fun f fd F => ok_integer F z
  have c_idx := Sw.Def.cal (P := l.prog) (w := w) (base := base) d_is_index (ps := ["value", "many"]) (k := 2) (sp := (spIdx K)) (fun _ _ _ _ _ _ us hl => match us, hl with | [_, _], _ => rfl) fun f fd F => ok_index F c_int
  have c_sgs := Sw.Def.cal (P := l.prog) (w := w) (base := base) d_is_signs (ps := ["value"]) (k := 2) (sp := (spSg K)) (fun _ _ _ _ _ _ us hl => match us, hl with | [_], _ => rfl) fun f fd F => ok_signs F c_int g_MOST_SIGNS
  have c_sgn := Sw.Def.cal (P := l.prog) (w := w) (base := base) d_is_sign (ps := ["value", "signs"]) (k := 3) (sp := (spIdx K)) (fun _ _ _ _ _ _ us hl => match us, hl with | [_, _], _ => rfl) fun f fd F => ok_sign F c_idx
  have c_list := Sw.Def.cal (P := l.prog) (w := w) (base := base) d_is_list (ps := ["value"]) (k := 1) (sp := (spSeq K)) (fun _ _ _ _ _ _ us hl => match us, hl with | [_], _ => rfl) fun f fd F => ok_list F z
  have c_ln0 := Sw.Def.cal (P := l.prog) (w := w) (base := base) d_is_line (ps := ["value", "signs"]) (k := 3) (sp := (spLine K)) (fun _ _ _ _ _ _ us hl => match us, hl with | [_, _], _ => rfl) fun f fd F => ok_line F z c_idx
  have c_ckl := Sw.Def.cal (P := l.prog) (w := w) (base := base) d_check_line (ps := ["line", "signs"]) (k := 4) (sp := (spCkL K)) (fun _ _ _ _ _ _ us hl => match us, hl with | [_, _], _ => rfl) fun f fd F => ok_ckL F c_ln0
  have c_ck0 := Sw.Def.cal (P := l.prog) (w := w) (base := base) d_check_signs (ps := ["signs"]) (k := 3) (sp := spCkS0) (fun _ _ _ _ _ _ us hl => match us, hl with | [_], _ => rfl) fun f fd F => ok_ckS0 F c_sgs
  have c_txt := Sw.Def.cal (P := l.prog) (w := w) (base := base) d_is_text (ps := ["value"]) (k := 1) (sp := spTxt) (fun _ _ _ _ _ _ us hl => match us, hl with | [_], _ => rfl) fun f fd F => ok_text F z g_LETTERS
  have c_wd := Sw.Def.cal (P := l.prog) (w := w) (base := base) d_is_word (ps := ["value"]) (k := 2) (sp := spWd) (fun _ _ _ _ _ _ us hl => match us, hl with | [_], _ => rfl) fun f fd F => ok_word F z g_MOST_LETTERS c_txt
  have c_ent := Sw.Def.cal (P := l.prog) (w := w) (base := base) d_is_entry (ps := ["value", "states"]) (k := 3) (sp := spEnt) (fun _ _ _ _ _ _ us hl => match us, hl with | [_, _], _ => rfl) fun f fd F => ok_entry F z c_idx c_wd
  have c_stp := Sw.Def.cal (P := l.prog) (w := w) (base := base) d_are_steps (ps := ["value", "signs"]) (k := 4) (sp := spStp) (fun _ _ _ _ _ _ us hl => match us, hl with | [_, _], _ => rfl) fun f fd F => ok_steps F z g_MOST_STATES c_list c_ent
  have c_ens := Sw.Def.cal (P := l.prog) (w := w) (base := base) d_are_ends (ps := ["value", "states"]) (k := 3) (sp := spEns) (fun _ _ _ _ _ _ us hl => match us, hl with | [_, _], _ => rfl) fun f fd F => ok_ends F z c_list c_wd
  have m_Dec : C8.Mak l.prog w K mg base 5 "Decoder" CD (spIni CD) [] := ⟨f_ini, fd_ini, ["self", "signs", "steps", "ends"], [], ⟨xd_CD.mks, m1_ini, m2_ini, xd_CD.kc⟩, ok_ini F_ini z xd_CD.dc c_ck0 c_stp c_ens, xd_CD.hm, F_ini.binds (fun _ _ _ _ _ _ us hl => match us, hl with | [_, _, _, _], _ => rfl), .nil⟩
  have mt_wr : C8.Met l.prog w K mg base 5 CD "written" (spWr K CD) [] := ⟨f_written, fd_written, ["self", "line"], [], xd_CD.dc.cl, ⟨m1_written, m2_written, m3_written⟩, ok_wr F_written z xd_CD.dc c_ckl, F_written.binds (fun _ _ _ _ _ _ us hl => match us, hl with | [_, _], _ => rfl), .nil⟩
  have x_cd := Sw.Def.calX (P := l.prog) (w := w) (base := base) d_check_decoder (ps := ["decoder"]) (k := 3) (sp := (spCD K CD XD)) (fun _ _ _ _ _ _ us hl => match us, hl with | [_], _ => rfl) fun f fd F => ok_cd F z xd_CD.hm xd_CD.ic xd_CD.nc xq_XD
  have c_cd0 := Sw.Def.cal (P := l.prog) (w := w) (base := base) d_check_decoder (ps := ["decoder"]) (k := 1) (sp := (spCD0 CD)) (fun _ _ _ _ _ _ us hl => match us, hl with | [_], _ => rfl) fun f fd F => ok_cd0 F z xd_CD.hm xd_CD.ic
  have c_row := Sw.Def.cal (P := l.prog) (w := w) (base := base) d_checked_row (ps := ["decoder", "size", "place"]) (k := 1) (sp := (spRow CD)) (fun _ _ _ _ _ _ us hl => match us, hl with | [_, _, _], _ => rfl) fun f fd F => ok_row F z xd_CD.dc
  have x_wc := Sw.Def.calX (P := l.prog) (w := w) (base := base) d_with_check (ps := ["decoder", "size"]) (k := 7) (sp := (spWC K CD XD XM)) (fun _ _ _ _ _ _ us hl => match us, hl with | [_, _], _ => rfl) fun f fd F => ok_wc F z xd_CD.dc xf_XM g_MOST_SIZE g_MOST_STATES x_cd c_int c_row m_Dec
  have x_wm := Sw.Def.calX (P := l.prog) (w := w) (base := base) d_with_marker (ps := ["decoder"]) (k := 7) (sp := (spWM K CD XD XS)) (fun _ _ _ _ _ _ us hl => match us, hl with | [_], _ => rfl) fun f fd F => ok_wm F z xd_CD.dc xq_XS g_MOST_SIGNS x_cd m_Dec
  have kx_wm := Sw.Def.calKX (P := l.prog) (w := w) (base := base) d_with_marker (ps := ["decoder"]) (ks := wmKs) (k := 7) (sp := (spWM K CD XD XS)) (g := one1) (gV := one1)
    (fun kV doc pm an cdv ct us ws hl => by obtain ⟨rfl, a, rfl⟩ := one1_inv hl; rfl) one1_rel fun f fd F => ok_wm F z xd_CD.dc xq_XS g_MOST_SIGNS x_cd m_Dec
  have c_told := Sw.Def.cal (P := l.prog) (w := w) (base := base) d__law_told (ps := ["way", "thing", "many"]) (k := 8) (sp := (spTold K CD)) (fun _ _ _ _ _ _ us hl => match us, hl with | [_, _, _], _ => rfl) fun f fd F => ok_told F xq_XD xq_XS xf_XM hSD hMD hMS x_wc x_wm kx_wm
  have c_com := Sw.Def.cal (P := l.prog) (w := w) (base := base) d_common_beginning (ps := ["one", "other"]) (k := 1) (sp := spCommon) (fun _ _ _ _ _ _ us hl => match us, hl with | [_, _], _ => rfl) fun f fd F => ok_common F z
  have c_wen := Sw.Def.cal (P := l.prog) (w := w) (base := base) d_without_common_ends (ps := ["one", "other"]) (k := 2) (sp := spEnds) (fun _ _ _ _ _ _ us hl => match us, hl with | [_, _], _ => rfl) fun f fd F => ok_wends F z c_com
  have c_nxt := Sw.Def.cal (P := l.prog) (w := w) (base := base) d_next_band (ps := ["band", "letter", "at", "other"]) (k := 1) (sp := (spNext K)) (fun _ _ _ _ _ _ us hl => match us, hl with | [_, _, _, _], _ => rfl) fun f fd F => ok_next F z
  have c_win := Sw.Def.cal (P := l.prog) (w := w) (base := base) d_distance_within (ps := ["one", "other", "most"]) (k := 3) (sp := spWithin) (fun _ _ _ _ _ _ us hl => match us, hl with | [_, _, _], _ => rfl) fun f fd F => ok_within F z c_wen c_nxt
  have c_lev := Sw.Def.cal (P := l.prog) (w := w) (base := base) d_levenshtein (ps := ["one", "other"]) (k := 4) (sp := spLev) (fun _ _ _ _ _ _ us hl => match us, hl with | [_, _], _ => rfl) fun f fd F => ok_lev F z c_win
  have c_knd := Sw.Def.cal (P := l.prog) (w := w) (base := base) d_is_kind (ps := ["value", "signs"]) (k := 4) (sp := (spKind K)) (fun _ _ _ _ _ _ us hl => match us, hl with | [_, _], _ => rfl) fun f fd F => ok_kind F z c_sgs c_sgn
  have c_sam := Sw.Def.cal (P := l.prog) (w := w) (base := base) d_is_same (ps := ["value", "signs"]) (k := 4) (sp := (spSame K)) (fun _ _ _ _ _ _ us hl => match us, hl with | [_, _], _ => rfl) fun f fd F => ok_same F z c_sgn
  have c_pas := Sw.Def.cal (P := l.prog) (w := w) (base := base) d_is_passing (ps := ["value", "signs"]) (k := 5) (sp := (spPass K)) (fun _ _ _ _ _ _ us hl => match us, hl with | [_, _], _ => rfl) fun f fd F => ok_passing F z c_sgs c_sam c_knd
  have c_ckp := Sw.Def.cal (P := l.prog) (w := w) (base := base) d_check_passing (ps := ["passing", "signs"]) (k := 6) (sp := (spCkP K)) (fun _ _ _ _ _ _ us hl => match us, hl with | [_, _], _ => rfl) fun f fd F => ok_ckP F c_pas
  have c_snt := Sw.Def.cal (P := l.prog) (w := w) (base := base) d_sent (ps := ["passing"]) (k := 7) (sp := (spTells K sentD)) (fun _ _ _ _ _ _ us hl => match us, hl with | [_], _ => rfl) fun f fd F => ok_sent F z g_MOST_SIGNS c_ckp
  have c_cam := Sw.Def.cal (P := l.prog) (w := w) (base := base) d_came (ps := ["passing"]) (k := 7) (sp := (spTells K cameD)) (fun _ _ _ _ _ _ us hl => match us, hl with | [_], _ => rfl) fun f fd F => ok_came F z g_MOST_SIGNS c_ckp
  have c_hrm := Sw.Def.cal (P := l.prog) (w := w) (base := base) d_harm_of (ps := ["decoder", "passing"]) (k := 8) (sp := (spHarm K CD)) (fun _ _ _ _ _ _ us hl => match us, hl with | [_, _], _ => rfl) fun f fd F => ok_harm F z xd_CD.dc c_cd0 c_ckp c_snt c_cam mt_wr c_lev
  have c_cell := Sw.Def.cal (P := l.prog) (w := w) (base := base) d__law_cell (ps := ["script", "k"]) (k := 1) (sp := (spCell K)) (fun _ _ _ _ _ _ us hl => match us, hl with | [_, _], _ => rfl) fun f fd F => ok__law_cell F z
  have c_box := Sw.Def.cal (P := l.prog) (w := w) (base := base) d__law_box (ps := ["great"]) (k := 1) (sp := spBox) (fun _ _ _ _ _ _ us hl => match us, hl with | [_], _ => rfl) fun f fd F => ok__law_box F z
  have c_take := Sw.Def.cal (P := l.prog) (w := w) (base := base) d__law_take (ps := ["box", "many"]) (k := 1) (sp := spTake) (fun _ _ _ _ _ _ us hl => match us, hl with | [_, _], _ => rfl) fun f fd F => ok__law_take F z
  have c_free := Sw.Def.cal (P := l.prog) (w := w) (base := base) d__law_free (ps := ["box", "many", "states"]) (k := 2) (sp := spFreeB) (fun _ _ _ _ _ _ us hl => match us, hl with | [_, _, _], _ => rfl) fun f fd F => ok_free F z c_take
  have c_plain := Sw.Def.cal (P := l.prog) (w := w) (base := base) d__law_plain (ps := ["box"]) (k := 3) (sp := (spDrawn 200)) (fun _ _ _ _ _ _ us hl => match us, hl with | [_], _ => rfl) fun f fd F => ok_plain F z c_take c_free
  have c_mark := Sw.Def.cal (P := l.prog) (w := w) (base := base) d__law_marked (ps := ["plain"]) (k := 1) (sp := spMark) (fun _ _ _ _ _ _ us hl => match us, hl with | [_], _ => rfl) fun f fd F => ok_mark F z
  have c_blk := Sw.Def.cal (P := l.prog) (w := w) (base := base) d__law_blocks (ps := ["plain", "many"]) (k := 1) (sp := spBlk) (fun _ _ _ _ _ _ us hl => match us, hl with | [_, _], _ => rfl) fun f fd F => ok_blk F z
  have c_wrt := Sw.Def.cal (P := l.prog) (w := w) (base := base) d__law_written (ps := ["plain", "line"]) (k := 1) (sp := spWrt) (fun _ _ _ _ _ _ us hl => match us, hl with | [_, _], _ => rfl) fun f fd F => ok_wrt F z
  have c_dis := Sw.Def.cal (P := l.prog) (w := w) (base := base) d__law_distance (ps := ["one", "other"]) (k := 1) (sp := spTable) (fun _ _ _ _ _ _ us hl => match us, hl with | [_, _], _ => rfl) fun f fd F => ok_table F z
  have c_line := Sw.Def.cal (P := l.prog) (w := w) (base := base) d__law_line (ps := ["box", "plain", "most"]) (k := 2) (sp := spLineB) (fun _ _ _ _ _ _ us hl => match us, hl with | [_, _, _], _ => rfl) fun f fd F => ok_lline F z c_take
  have q_is := Sw.Def.calG (P := l.prog) (w := w) (base := base) d__law_is (ps := ["made", "plain"]) (k := 1) (sp := (spIs CD)) (fun _ _ _ _ _ _ us hl => match us, hl with | [_, _], _ => rfl) fun f fd F => ok_is F z xd_CD.hm xd_CD.dc xd_CD.ic
  have q_ref := Sw.Def.calG (P := l.prog) (w := w) (base := base) d__law_refused_right (ps := ["box"]) (k := 9) (sp := spRef) (fun _ _ _ _ _ _ us hl => match us, hl with | [_], _ => rfl) fun f fd F => ok_ref F z m_Dec c_take c_free c_told
  have q_pr := Sw.Def.calG (P := l.prog) (w := w) (base := base) d__law_parts_right (ps := ["box", "made", "plain"]) (k := 6) (sp := (spPR CD)) (fun _ _ _ _ _ _ us hl => match us, hl with | [_, _, _], _ => rfl) fun f fd F => ok_pr F z mt_wr c_take c_line c_wrt
  have q_xr := Sw.Def.calG (P := l.prog) (w := w) (base := base) d__law_exchanged_right (ps := ["box", "plain", "many"]) (k := 9) (sp := spXR) (fun _ _ _ _ _ _ us hl => match us, hl with | [_, _, _], _ => rfl) fun f fd F => ok_xr F z m_Dec x_wc c_take c_line c_wrt c_blk c_hrm c_dis
  have q_one := Sw.Def.calG (P := l.prog) (w := w) (base := base) d__law_one_right (ps := ["box"]) (k := 10) (sp := spOne) (fun _ _ _ _ _ _ us hl => match us, hl with | [_], _ => rfl) fun f fd F => ok_one F z m_Dec x_wc c_take c_plain c_told c_mark c_blk q_ref q_is q_pr q_xr
  exact ok_law F0 z q_one c_box c_cell
end Sw
open PySem PySem.W PyProof.Rows
set_option maxHeartbeats 0 in
theorem PySem.Challenge.cw_spoiltways_k55_markers_and_checks_togeth_holds : PySem.Challenge.rw_spoiltways_k55_markers_and_checks_togeth.Holds := by
  w_on; o_law; k_head; (case hw => w_witness2)
  k_fill
  refine Sw.walk_G (l := PySem.Challenge.rw_spoiltways_k55_markers_and_checks_togeth) (n := 63) (k := 11) (x := "script") (sp := Sw.spLaw) rfl (by decide) rfl ⟨rfl, by decide, by decide⟩ (fun w h Y => PySem.W.kIn_of Y) ?F (fun _ _ a ns hl _ hS => ⟨a, ns, rfl, hS, fun _ _ => rfl⟩)
  case F =>
    intro w mg fa h KX G hmg
    have z : Sw.Z mg := by
      refine' ⟨PySem.W.mg_none_of KX G ?z0, PySem.W.mg_none_of KX G ?z1, PySem.W.mg_none_of KX G ?z2, PySem.W.mg_none_of KX G ?z3, PySem.W.mg_none_of KX G ?z4, PySem.W.mg_none_of KX G ?z5, PySem.W.mg_none_of KX G ?z6, PySem.W.mg_none_of KX G ?z7, PySem.W.mg_none_of KX G ?z8, PySem.W.mg_none_of KX G ?z9, PySem.W.mg_none_of KX G ?z10, PySem.W.mg_none_of KX G ?z11, PySem.W.mg_none_of KX G ?z12, PySem.W.mg_none_of KX G ?z13, PySem.W.mg_none_of KX G ?z14, PySem.W.mg_none_of KX G ?z15⟩
      (case z0 => k_is)
      (case z1 => k_is)
      (case z2 => k_is)
      (case z3 => k_is)
      (case z4 => k_is)
      (case z5 => k_is)
      (case z6 => k_is)
      (case z7 => k_is)
      (case z8 => k_is)
      (case z9 => k_is)
      (case z10 => k_is)
      (case z11 => k_is)
      (case z12 => k_is)
      (case z13 => k_is)
      (case z14 => k_is)
      (case z15 => k_is)
    obtain ⟨v_MOST_SIGNS, gv_MOST_SIGNS, t_MOST_SIGNS, rfl⟩ : ∃ v, mg "MOST_SIGNS" = some v ∧ ∃ t, v = .int 5 t := by
      refine' ⟨_, PySem.W.mg_of KX G ?a, ?b⟩
      (case a => k_is)
      (case b => exact ⟨_, rfl⟩)
    obtain ⟨v_MOST_LETTERS, gv_MOST_LETTERS, t_MOST_LETTERS, rfl⟩ : ∃ v, mg "MOST_LETTERS" = some v ∧ ∃ t, v = .int 3 t := by
      refine' ⟨_, PySem.W.mg_of KX G ?a, ?b⟩
      (case a => k_is)
      (case b => exact ⟨_, rfl⟩)
    obtain ⟨v_MOST_STATES, gv_MOST_STATES, t_MOST_STATES, rfl⟩ : ∃ v, mg "MOST_STATES" = some v ∧ ∃ t, v = .int 40 t := by
      refine' ⟨_, PySem.W.mg_of KX G ?a, ?b⟩
      (case a => k_is)
      (case b => exact ⟨_, rfl⟩)
    obtain ⟨v_MOST_SIZE, gv_MOST_SIZE, t_MOST_SIZE, rfl⟩ : ∃ v, mg "MOST_SIZE" = some v ∧ ∃ t, v = .int 4 t := by
      refine' ⟨_, PySem.W.mg_of KX G ?a, ?b⟩
      (case a => k_is)
      (case b => exact ⟨_, rfl⟩)
    obtain ⟨v_LETTERS, gv_LETTERS, t_LETTERS, rfl⟩ : ∃ v, mg "LETTERS" = some v ∧ ∃ t, v = .str (("abcdefghijklmnopqrstuvwxyz" : Str)) t := by
      refine' ⟨_, PySem.W.mg_of KX G ?a, ?b⟩
      (case a => k_is)
      (case b => first | exact ⟨_, rfl⟩ | exact ⟨_, congrArg (fun y => PySem.Value.str y _) (by decide +kernel)⟩)
    refine' Sw.all_mk hmg z gv_MOST_SIGNS gv_MOST_LETTERS gv_MOST_STATES gv_MOST_SIZE gv_LETTERS ?ov ?xi_XD ?xi_XS ?xi_XM ?xd_CD ?hSD ?hMD ?hMS ?d_is_list ?d_is_integer ?d_is_index ?d_is_signs ?d_is_sign ?d_is_line ?d_is_text ?d_is_word ?d_check_signs ?d_check_line ?d_is_entry ?d_are_steps ?d_are_ends ?d_check_decoder ?d_checked_row ?d_with_check ?d_with_marker ?d_common_beginning ?d_without_common_ends ?d_next_band ?d_distance_within ?d_levenshtein ?d_is_kind ?d_is_same ?d_is_passing ?d_check_passing ?d_sent ?d_came ?d_harm_of ?d__law_cell ?d__law_box ?d__law_take ?d__law_free ?d__law_plain ?d__law_marked ?d__law_blocks ?d__law_written ?d__law_distance ?d__law_line ?d__law_told ?d__law_is ?d__law_refused_right ?d__law_parts_right ?d__law_exchanged_right ?d__law_one_right ?d_law
    case xi_XD =>
      refine' ⟨Sw.oex_mk ?h1 ?h2 ?h3 ?h4 ?h5, ⟨?f1, ?f2, ?f3, ?f4⟩, ?no, PySem.W.mg_of KX G ?hm, Sw.exm_mk ?me1 ?me2, Sw.iniq_mk ?i1 ?i2 ?i3 ?i4 ?i5⟩
      (case hm => k_is)
      (case h1 => k_is)
      (case h2 => k_is)
      (case h3 => k_is)
      (case h4 => k_is)
      (case h5 => k_is)
      (case f1 => k_is)
      (case f2 => k_is)
      (case f3 => k_is)
      (case f4 => k_is)
      (case no => k_is)
      (case me1 => k_is)
      (case me2 => first | k_is | rfl | decide +kernel)
      (case i1 => k_is)
      (case i2 => k_is)
      (case i3 => k_is)
      (case i4 => k_is)
      (case i5 => k_is)
    case xi_XS =>
      refine' ⟨Sw.oex_mk ?h1 ?h2 ?h3 ?h4 ?h5, ⟨?f1, ?f2, ?f3, ?f4⟩, ?no, PySem.W.mg_of KX G ?hm, Sw.exm_mk ?me1 ?me2, Sw.iniq_mk ?i1 ?i2 ?i3 ?i4 ?i5⟩
      (case hm => k_is)
      (case h1 => k_is)
      (case h2 => k_is)
      (case h3 => k_is)
      (case h4 => k_is)
      (case h5 => k_is)
      (case f1 => k_is)
      (case f2 => k_is)
      (case f3 => k_is)
      (case f4 => k_is)
      (case no => k_is)
      (case me1 => k_is)
      (case me2 => first | k_is | rfl | decide +kernel)
      (case i1 => k_is)
      (case i2 => k_is)
      (case i3 => k_is)
      (case i4 => k_is)
      (case i5 => k_is)
    case xi_XM =>
      refine' ⟨Sw.oex_mk ?h1 ?h2 ?h3 ?h4 ?h5, ⟨?f1, ?f2, ?f3, ?f4⟩, ?no, PySem.W.mg_of KX G ?hm, Sw.exm_mk ?me1 ?me2, Sw.iniq_mk ?i1 ?i2 ?i3 ?i4 ?i5⟩
      (case hm => k_is)
      (case h1 => k_is)
      (case h2 => k_is)
      (case h3 => k_is)
      (case h4 => k_is)
      (case h5 => k_is)
      (case f1 => k_is)
      (case f2 => k_is)
      (case f3 => k_is)
      (case f4 => k_is)
      (case no => k_is)
      (case me1 => k_is)
      (case me2 => first | k_is | rfl | decide +kernel)
      (case i1 => k_is)
      (case i2 => k_is)
      (case i3 => k_is)
      (case i4 => k_is)
      (case i5 => k_is)
    case xd_CD =>
      refine' ⟨PySem.W.mg_of KX G ?hm, Sw.dc_mk_Decoder ?pg ?hd ?po ?sa ?a_signs ?a_states ?a_steps ?a_ends, Sw.ic_mk_Decoder ⟨?pg2, ?hd2, ?po2, ?sa2⟩ ?ha ?hn ?htk ?hmo ?me, ?mk, ?kc, Sw.mth_mk_Decoder ?i_ini ?t_ini ?l_ini ?c_ini ?k_ini, Sw.mth_mk_Decoder ?i_written ?t_written ?l_written ?c_written ?k_written, ⟨?nc1, ?nc2, ?nc3, ?nc4, ?nc5, ?nc6, ?nc7⟩⟩
      (case hm => k_is)
      (case pg => k_is)
      (case hd => k_is)
      (case po => k_is)
      (case sa => k_is)
      (case a_signs => k_is)
      (case a_states => k_is)
      (case a_steps => k_is)
      (case a_ends => k_is)
      (case pg2 => k_is)
      (case hd2 => k_is)
      (case po2 => k_is)
      (case sa2 => k_is)
      (case ha => k_is)
      (case hn => k_is)
      (case htk => k_is)
      (case hmo => k_is)
      (case me => first | k_is | rfl | decide +kernel)
      (case nc1 => first | k_is | rfl | decide +kernel)
      (case nc2 => first | k_is | rfl | decide +kernel)
      (case nc3 => first | k_is | rfl | decide +kernel)
      (case nc4 => first | k_is | rfl | decide +kernel)
      (case nc5 => first | k_is | rfl | decide +kernel)
      (case nc6 => first | k_is | rfl | decide +kernel)
      (case nc7 => first | k_is | rfl | decide +kernel)
      (case mk => k_is)
      (case kc => k_is)
      (case i_ini => k_is)
      (case t_ini => k_is)
      (case l_ini => k_is)
      (case c_ini => k_is)
      (case k_ini => k_is)
      (case i_written => k_is)
      (case t_written => k_is)
      (case l_written => k_is)
      (case c_written => k_is)
      (case k_written => k_is)
    case ov =>
      refine' ⟨PySem.W.mg_of KX G ?b1, ?b2, ?b3, ?b4, ?b5⟩
      (case b1 => k_is)
      (case b2 => k_is)
      (case b3 => k_is)
      (case b4 => k_is)
      (case b5 => k_is)
    case hSD =>
      refine' Sw.exn_mk ?n1 ?n2
      (case n1 => k_is)
      (case n2 => first | k_is | rfl | decide +kernel)
    case hMD =>
      refine' Sw.exn_mk ?n1 ?n2
      (case n1 => k_is)
      (case n2 => first | k_is | rfl | decide +kernel)
    case hMS =>
      refine' Sw.exn_mk ?n1 ?n2
      (case n1 => k_is)
      (case n2 => first | k_is | rfl | decide +kernel)
    case d_is_list =>
      refine' Sw.def_mk KX G ?a ?l ?c ?k
      (case a => k_is)
      (case l => k_is)
      (case c => k_is)
      (case k => k_is)
    case d_is_integer =>
      refine' Sw.def_mk KX G ?a ?l ?c ?k
      (case a => k_is)
      (case l => k_is)
      (case c => k_is)
      (case k => k_is)
    case d_is_index =>
      refine' Sw.def_mk KX G ?a ?l ?c ?k
      (case a => k_is)
      (case l => k_is)
      (case c => k_is)
      (case k => k_is)
    case d_is_signs =>
      refine' Sw.def_mk KX G ?a ?l ?c ?k
      (case a => k_is)
      (case l => k_is)
      (case c => k_is)
      (case k => k_is)
    case d_is_sign =>
      refine' Sw.def_mk KX G ?a ?l ?c ?k
      (case a => k_is)
      (case l => k_is)
      (case c => k_is)
      (case k => k_is)
    case d_is_line =>
      refine' Sw.def_mk KX G ?a ?l ?c ?k
      (case a => k_is)
      (case l => k_is)
      (case c => k_is)
      (case k => k_is)
    case d_is_text =>
      refine' Sw.def_mk KX G ?a ?l ?c ?k
      (case a => k_is)
      (case l => k_is)
      (case c => k_is)
      (case k => k_is)
    case d_is_word =>
      refine' Sw.def_mk KX G ?a ?l ?c ?k
      (case a => k_is)
      (case l => k_is)
      (case c => k_is)
      (case k => k_is)
    case d_check_signs =>
      refine' Sw.def_mk KX G ?a ?l ?c ?k
      (case a => k_is)
      (case l => k_is)
      (case c => k_is)
      (case k => k_is)
    case d_check_line =>
      refine' Sw.def_mk KX G ?a ?l ?c ?k
      (case a => k_is)
      (case l => k_is)
      (case c => k_is)
      (case k => k_is)
    case d_is_entry =>
      refine' Sw.def_mk KX G ?a ?l ?c ?k
      (case a => k_is)
      (case l => k_is)
      (case c => k_is)
      (case k => k_is)
    case d_are_steps =>
      refine' Sw.def_mk KX G ?a ?l ?c ?k
      (case a => k_is)
      (case l => k_is)
      (case c => k_is)
      (case k => k_is)
    case d_are_ends =>
      refine' Sw.def_mk KX G ?a ?l ?c ?k
      (case a => k_is)
      (case l => k_is)
      (case c => k_is)
      (case k => k_is)
    case d_check_decoder =>
      refine' Sw.def_mk KX G ?a ?l ?c ?k
      (case a => k_is)
      (case l => k_is)
      (case c => k_is)
      (case k => k_is)
    case d_checked_row =>
      refine' Sw.def_mk KX G ?a ?l ?c ?k
      (case a => k_is)
      (case l => k_is)
      (case c => k_is)
      (case k => k_is)
    case d_with_check =>
      refine' Sw.def_mk KX G ?a ?l ?c ?k
      (case a => k_is)
      (case l => k_is)
      (case c => k_is)
      (case k => k_is)
    case d_with_marker =>
      refine' Sw.def_mk KX G ?a ?l ?c ?k
      (case a => k_is)
      (case l => k_is)
      (case c => k_is)
      (case k => k_is)
    case d_common_beginning =>
      refine' Sw.def_mk KX G ?a ?l ?c ?k
      (case a => k_is)
      (case l => k_is)
      (case c => k_is)
      (case k => k_is)
    case d_without_common_ends =>
      refine' Sw.def_mk KX G ?a ?l ?c ?k
      (case a => k_is)
      (case l => k_is)
      (case c => k_is)
      (case k => k_is)
    case d_next_band =>
      refine' Sw.def_mk KX G ?a ?l ?c ?k
      (case a => k_is)
      (case l => k_is)
      (case c => k_is)
      (case k => k_is)
    case d_distance_within =>
      refine' Sw.def_mk KX G ?a ?l ?c ?k
      (case a => k_is)
      (case l => k_is)
      (case c => k_is)
      (case k => k_is)
    case d_levenshtein =>
      refine' Sw.def_mk KX G ?a ?l ?c ?k
      (case a => k_is)
      (case l => k_is)
      (case c => k_is)
      (case k => k_is)
    case d_is_kind =>
      refine' Sw.def_mk KX G ?a ?l ?c ?k
      (case a => k_is)
      (case l => k_is)
      (case c => k_is)
      (case k => k_is)
    case d_is_same =>
      refine' Sw.def_mk KX G ?a ?l ?c ?k
      (case a => k_is)
      (case l => k_is)
      (case c => k_is)
      (case k => k_is)
    case d_is_passing =>
      refine' Sw.def_mk KX G ?a ?l ?c ?k
      (case a => k_is)
      (case l => k_is)
      (case c => k_is)
      (case k => k_is)
    case d_check_passing =>
      refine' Sw.def_mk KX G ?a ?l ?c ?k
      (case a => k_is)
      (case l => k_is)
      (case c => k_is)
      (case k => k_is)
    case d_sent =>
      refine' Sw.def_mk KX G ?a ?l ?c ?k
      (case a => k_is)
      (case l => k_is)
      (case c => k_is)
      (case k => k_is)
    case d_came =>
      refine' Sw.def_mk KX G ?a ?l ?c ?k
      (case a => k_is)
      (case l => k_is)
      (case c => k_is)
      (case k => k_is)
    case d_harm_of =>
      refine' Sw.def_mk KX G ?a ?l ?c ?k
      (case a => k_is)
      (case l => k_is)
      (case c => k_is)
      (case k => k_is)
    case d__law_cell =>
      refine' Sw.def_mk KX G ?a ?l ?c ?k
      (case a => k_is)
      (case l => k_is)
      (case c => k_is)
      (case k => k_is)
    case d__law_box =>
      refine' Sw.def_mk KX G ?a ?l ?c ?k
      (case a => k_is)
      (case l => k_is)
      (case c => k_is)
      (case k => k_is)
    case d__law_take =>
      refine' Sw.def_mk KX G ?a ?l ?c ?k
      (case a => k_is)
      (case l => k_is)
      (case c => k_is)
      (case k => k_is)
    case d__law_free =>
      refine' Sw.def_mk KX G ?a ?l ?c ?k
      (case a => k_is)
      (case l => k_is)
      (case c => k_is)
      (case k => k_is)
    case d__law_plain =>
      refine' Sw.def_mk KX G ?a ?l ?c ?k
      (case a => k_is)
      (case l => k_is)
      (case c => k_is)
      (case k => k_is)
    case d__law_marked =>
      refine' Sw.def_mk KX G ?a ?l ?c ?k
      (case a => k_is)
      (case l => k_is)
      (case c => k_is)
      (case k => k_is)
    case d__law_blocks =>
      refine' Sw.def_mk KX G ?a ?l ?c ?k
      (case a => k_is)
      (case l => k_is)
      (case c => k_is)
      (case k => k_is)
    case d__law_written =>
      refine' Sw.def_mk KX G ?a ?l ?c ?k
      (case a => k_is)
      (case l => k_is)
      (case c => k_is)
      (case k => k_is)
    case d__law_distance =>
      refine' Sw.def_mk KX G ?a ?l ?c ?k
      (case a => k_is)
      (case l => k_is)
      (case c => k_is)
      (case k => k_is)
    case d__law_line =>
      refine' Sw.def_mk KX G ?a ?l ?c ?k
      (case a => k_is)
      (case l => k_is)
      (case c => k_is)
      (case k => k_is)
    case d__law_told =>
      refine' Sw.def_mk KX G ?a ?l ?c ?k
      (case a => k_is)
      (case l => k_is)
      (case c => k_is)
      (case k => k_is)
    case d__law_is =>
      refine' Sw.def_mk KX G ?a ?l ?c ?k
      (case a => k_is)
      (case l => k_is)
      (case c => k_is)
      (case k => k_is)
    case d__law_refused_right =>
      refine' Sw.def_mk KX G ?a ?l ?c ?k
      (case a => k_is)
      (case l => k_is)
      (case c => k_is)
      (case k => k_is)
    case d__law_parts_right =>
      refine' Sw.def_mk KX G ?a ?l ?c ?k
      (case a => k_is)
      (case l => k_is)
      (case c => k_is)
      (case k => k_is)
    case d__law_exchanged_right =>
      refine' Sw.def_mk KX G ?a ?l ?c ?k
      (case a => k_is)
      (case l => k_is)
      (case c => k_is)
      (case k => k_is)
    case d__law_one_right =>
      refine' Sw.def_mk KX G ?a ?l ?c ?k
      (case a => k_is)
      (case l => k_is)
      (case c => k_is)
      (case k => k_is)
    case d_law =>
      refine' Sw.def_mk KX G ?a ?l ?c ?k
      (case a => k_is)
      (case l => k_is)
      (case c => k_is)
      (case k => k_is)
