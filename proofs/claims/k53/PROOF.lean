import PyProof.Rows.All
import Wide.All
import OpenK.AllK
import Wide.FinOn
import HandS.ForMost
import HandS.Wide
import HandS.Style
import HandS.IsInst
import HandS.Conv
import HandS.Walk
import HandS.Codes
import HandS.TupAny
import HandS.RaiseMore
import HandS.Flt
import HandS.Flow
import KE.GoesMore
import HandS.Ends
import HandS.ExcInit
import HandS.ExcField
import HandS.ExcOwn
import HandS.TryMany
import HandS.ExcIs
import KE.KExcIs
import HandS.Deep
import KE.KEqDict
import HandS.ListEq
import PyProof.NeKinds
import HandS.TupMul
import HandS.DictComp
import HandS.Small
import HandS.OwnEq
import HandS.SlotsOwn
import PyProof.InstNe
import HandS.Star
import HandS.TryOnly
import PySem.Challenge.RW_spoiltways_k53_codecs_of_usual_kinds
set_option Elab.async false
set_option linter.all false
set_option maxRecDepth 100000
set_option maxHeartbeats 4000000
namespace Sw
open PySem PySem.Spec PyProof.Rows L2

/-! ### texts as lists of signs -/
def S (l : List Nat) : Str := ⟨l.toArray⟩
theorem S_len (l : List Nat) : (S l).length = l.length := by simp [S, Str.length]
theorem S_size (l : List Nat) : (S l).cps.size = l.length := by simp [S]
theorem S_list (l : List Nat) : (S l).cps.toList = l := by simp [S]
theorem S_app (a b : List Nat) : S a ++ S b = S (a ++ b) := by
  show Str.append _ _ = _
  simp [S, Str.append]
theorem S_get (l : List Nat) (i : Nat) : (S l).cps[i]? = l[i]? := by simp [S]
theorem S_inj {a b : List Nat} : S a = S b ↔ a = b := by
  constructor
  · intro h
    have e : (S a).cps.toList = (S b).cps.toList := by rw [h]
    rwa [S_list, S_list] at e
  · rintro rfl; rfl
theorem S_dec (a b : List Nat) : decide (V.str (S a) = V.str (S b)) = decide (a = b) := by
  by_cases h : a = b
  · subst h; simp
  · rw [decide_eq_false h, decide_eq_false]
    intro e
    exact h (S_inj.mp (V.str.inj e))

/-! ### calls of own defs -/
section
variable (P : Program) (w : World) (K : PySem.W.Frag) (mg : Str → Option Value) (base : Heap)
/-- the def x of the text st stands -/
def Def (x : Str) (st : Stmt) : Prop := ∃ (f : Addr) (fd : FuncData), Fun K x x st f fd ∧ mg x = some (.ref f)
/-- the def x keeps its promise -/
def Cal (x : Str) (ps : List Str) (k : Nat) (sp : Sp) : Prop := ∃ (f : Addr) (fd : FuncData), FnOk P w K mg base CX0 k f fd ps sp ∧ mg x = some (.ref f) ∧ PySem.W.keepIn K (.ref f) = true ∧ Binds K fd ps []
end
section
variable {P : Program} {w : World} {K : PySem.W.Frag} {mg : Str → Option Value} {base : Heap}
theorem Def.cal {x : Str} {st : Stmt} {ps : List Str} {k : Nat} {sp : Sp} (d : Def K mg x st)
    (b : ∀ (kV doc pm : Value) (an : Option Addr) (cdv ct : Value) (us : List Value), us.length = ps.length → bindArgs (PySem.W.fnOf x x (defArgs st) (defBody st) (defScope st) .none kV doc pm an cdv ct) ⟨us, []⟩ = pure (ps.zip us))
    (ok : ∀ (f : Addr) (fd : FuncData), Fun K x x st f fd → FnOk P w K mg base CX0 k f fd ps sp) : Cal P w K mg base x ps k sp := by
  obtain ⟨f, fd, F, m⟩ := d
  exact ⟨f, fd, ok f fd F, m, F.kp, F.binds b⟩
end
section
variable {X : Cx} {x : Str} {ps : List Str} {k n : Nat} {sp : Sp} {e : Expr} {es : List Expr} {t : TA} {p pos : Pos}
theorem pe_cal (c : Cal X.prog X.w X.K X.mg X.base x ps k sp) (hr : Room n X.A) (ha : PA X (e :: es) t) (hg : Gl X x := by rfl) (hk : k ≤ n := by decide)
    (hdb : (x == ("__debug__" : Str)) = false := by decide) (he : starEach (e :: es) X.env = (false, eval e X.env) :: starEach es X.env := by rfl) (hpl : (backTo pos (starEach es X.env)).any (·.1) = false := by rfl) :
    PE X (.Call (.Name x p) (e :: es) [] pos) (tCall sp [] E0 t) := by
  obtain ⟨f, fd, F, m, kp, b⟩ := c
  exact pe_call F (hr.mono hk) hg m kp b .nil pass0 ha hdb he hpl
end

/-! ### answers to readings -/
section
variable {σ : L2.St} {H : Hp} {Q : VK} {D : Ends}
theorem i_seq {t u : TS} (h : t { D with nx := u D } σ H) : tSeq t u D σ H := h
theorem i_asg {te : TE} {g : TG} (h : te σ H fun x H1 => g x σ H1 D.nx) : tAsg te g D σ H := h
theorem i_name {i : Nat} {v : V} {R : L2.St → Hp → Prop} (h : R (σ.set i (some v)) H) : gName i v σ H R := h
theorem i_ret {te : TE} (h : te σ H D.rt) : tRet te D σ H := h
theorem i_var {i : Nat} {v : V} (e : σ[i]? = some (some v)) (h : Q v H) : tVar i σ H Q := ⟨v, e, h⟩
theorem i_c {v : V} (h : Q v H) : tC v σ H Q := h
theorem i_op {r : R2} {ta tb : TE} (h : ta σ H fun x H1 => tb σ H1 fun y H2 => r x y H2 Q) : tOp r ta tb σ H Q := h
theorem i_un {r : V → Hp → VK → Prop} {ta : TE} (h : ta σ H fun x H1 => r x H1 Q) : tUn r ta σ H Q := h
theorem i_rI {C : Int → Int → Prop} {g : Int → Int → V} {a b : Int} (c : C a b) (h : Q (g a b) H) : rI C g (.int a) (.int b) H Q := ⟨a, b, rfl, rfl, c, h⟩
theorem i_rI0 {g : Int → Int → V} {a b : Int} (h : Q (g a b) H) : rI0 g (.int a) (.int b) H Q := ⟨a, b, rfl, rfl, h⟩
theorem i_cb {r : List V → Hp → VK → Prop} {t : TA} (h : t σ H fun vs H1 => r vs H1 Q) : tCB r t σ H Q := h
theorem i_cons {ta : TE} {tr : TA} {R : List V → Hp → Prop} (h : ta σ H fun x H1 => tr σ H1 fun xs H2 => R (x :: xs) H2) : tCons ta tr σ H R := h
theorem i_nil {R : List V → Hp → Prop} (h : R [] H) : tNil σ H R := h
theorem i_call {sp : Sp} {dvs : List V} {E : XK} {t : TA} (h : t σ H fun vs H1 => sp (vs ++ dvs) H1 Q E) : tCall sp dvs E t σ H Q := h
theorem i_if {c : TT} {t u : TS} (h : c σ H fun b H1 => if b = true then t D σ H1 else u D σ H1) : tIfS c t u D σ H := h
theorem i_ifE {c : TT} {t u : TE} (h : c σ H fun b H1 => if b = true then t σ H1 Q else u σ H1 Q) : tIf c t u σ H Q := h
theorem i_test {t : TE} {R : Bool → Hp → Prop} (h : t σ H fun x H1 => ∃ k, x = .bl k ∧ R k H1) : tTest t σ H R := h
theorem i_bl {k : Bool} {R : Bool → Prop} (h : R k) : ∃ k', V.bl k = .bl k' ∧ R k' := ⟨k, rfl, h⟩
theorem i_and {t u : TT} {R : Bool → Hp → Prop} (h : t σ H fun c H1 => if c = true then u σ H1 R else R false H1) : tAnd t u σ H R := h
theorem i_or {t u : TT} {R : Bool → Hp → Prop} (h : t σ H fun c H1 => if c = true then R true H1 else u σ H1 R) : tOr t u σ H R := h
theorem i_not {t : TT} {R : Bool → Hp → Prop} (h : t σ H fun c H1 => R (!c) H1) : tNot t σ H R := h
theorem i_lst {t : TA} (h : t σ H fun xs H1 => xs.length ≤ sizeLine ∧ ∀ p, H1 p = none → Q (.ref p) (upd H1 p (.lst xs))) : tLst t σ H Q := h
theorem i_tup {t : TA} (h : t σ H fun xs H1 => xs.length ≤ sizeLine ∧ ∀ p, H1 p = none → Q (.ref p) (upd H1 p (.tup xs))) : tTup t σ H Q := h
theorem iteB {p : Prop} [Decidable p] {A B : Prop} (h1 : p → A) (h2 : ¬ p → B) : if decide p = true then A else B := by
  by_cases h : p
  · rw [decide_eq_true h]; exact iteT (h1 h)
  · rw [decide_eq_false h]; exact iteF (h2 h)
theorem iteC {c : Bool} {A B : Prop} (h1 : c = true → A) (h2 : c = false → B) : if c = true then A else B := by
  cases c with
  | true => exact iteT (h1 rfl)
  | false => exact iteF (h2 rfl)
/-- xs[i], xs a list of which the item is known -/
theorem i_ixL {K : PySem.W.Frag} {p : Addr} {xs : List V} {i : Int} {v : V} (h1 : SqL K H p xs) (h2 : atI xs i = some v) (h : Q v H) : rIxL K (.ref p) (.int i) H Q := ⟨p, xs, i, v, rfl, rfl, h1, h2, h⟩
theorem i_ixT {K : PySem.W.Frag} {p : Addr} {xs : List V} {i : Int} {v : V} (h1 : SqT K H p xs) (h2 : atI xs i = some v) (h : Q v H) : rIxT K (.ref p) (.int i) H Q := ⟨p, xs, i, v, rfl, rfl, h1, h2, h⟩
end

/-! ### the box of draws -/
/-- the box at b: the rest n of a great cell, whether it is one, the seed c, the draws d so far -/
structure BoxAt (H : Hp) (b : Addr) (d : Int) : Prop where
  ex : ∃ (n : Int) (g : Bool) (c e : Int), H b = some (.lst [.int n, .bl g, .int c, .int e]) ∧ 0 ≤ n ∧ 0 ≤ c ∧ c < 2147483629 ∧ 0 ≤ e ∧ e ≤ d
/-- all but the object at b is as it was -/
def SB (b : Addr) (H H' : Hp) : Prop := ∀ a o, a ≠ b → H a = some o → H' a = some o
theorem SB.refl {b : Addr} (H : Hp) : SB b H H := fun _ _ _ h => h
theorem SB.trans {b : Addr} {H H1 H2 : Hp} (x : SB b H H1) (y : SB b H1 H2) : SB b H H2 := fun a o n h => y a o n (x a o n h)
theorem SB.of {b : Addr} {H H' : Hp} (s : Same H H') : SB b H H' := fun a o _ h => s a o h
theorem SB.upd {b : Addr} {H : Hp} {o : HO} : SB b H (upd H b o) := fun a u n h => by rw [upd_ne n]; exact h
theorem BoxAt.mono {H : Hp} {b : Addr} {d d' : Int} (x : BoxAt H b d) (h : d ≤ d') : BoxAt H b d' := by
  obtain ⟨n, g, c, e, h1, h2, h3, h4, h5, h6⟩ := x.ex
  exact ⟨n, g, c, e, h1, h2, h3, h4, h5, by omega⟩
theorem BoxAt.same {H H' : Hp} {b : Addr} {d : Int} (x : BoxAt H b d) (s : Same H H') : BoxAt H' b d := by
  obtain ⟨n, g, c, e, h1, h⟩ := x.ex
  exact ⟨n, g, c, e, s _ _ h1, h⟩
theorem same_upd {H : Hp} {p : Addr} {o : HO} (h : H p = none) : Same H (upd H p o) := fun b x e => by
  rw [upd_ne (ne_of_none e h)]
  exact e
/-- _law_take(box, many): a number below many; the box is one draw further at most -/
def spTake : Sp := fun vs H Q _ => ∃ (b : Addr) (m d : Int), vs = [.ref b, .int m] ∧ BoxAt H b d ∧ d ≤ 1000000 ∧ 0 < m ∧ m < 2 ^ 64 ∧
  ∀ (r : Int) (H' : Hp), 0 ≤ r → r < m → BoxAt H' b (d + 1) → SB b H H' → Q (.int r) H'
/-- _law_box(great) -/
def spBox : Sp := fun vs H Q _ => ∃ n : Int, vs = [.int n] ∧ ∀ (b : Addr) (H' : Hp), H b = none → Same H H' → BoxAt H' b 0 → Q (.ref b) H'
/-- _law_cell(script, k) -/
def spCell (K : PySem.W.Frag) : Sp := fun vs H Q _ => ∃ (a : Addr) (ns : List Int) (k : Int), vs = [.ref a, .int k] ∧ SqL K H a (ns.map V.int) ∧ 0 ≤ k ∧ k < 1000 ∧
  ∀ (n : Int) (H' : Hp), Same H H' → Q (.int n) H'
/-! ### more answers -/
section
variable {σ : L2.St} {H : Hp} {Q : VK} {D : Ends} {K : PySem.W.Frag}
theorem i_next (h : D.nx σ H) : tNext D σ H := h
theorem i_drop {te : TE} (h : te σ H fun _ H1 => D.nx σ H1) : tDrop te D σ H := h
theorem i_sub {to ti : TE} {t : TSet} {v : V} {R : L2.St → Hp → Prop} (h : to σ H fun o H1 => ti σ H1 fun i H2 => t o i v H2 fun H3 => R σ H3) : gSub to ti t v σ H R := h
theorem i_setL {p : Addr} {xs : List V} {k : Int} {j : Nat} {v : V} {R : Hp → Prop} (h1 : H p = some (.lst xs)) (h2 : ixN xs.length k = some j) (h : R (upd H p (.lst (xs.set j v)))) : rSetL (.ref p) (.int k) v H R := ⟨p, xs, k, j, rfl, rfl, h1, h2, h⟩
theorem i_int {i : Int} (h : Q (.int i) H) : (∃ j, [V.int i] = [.int j] ∧ Q (.int j) H) ∨ ∃ k, [V.int i] = [.bl k] ∧ Q (.int (if k = true then 1 else 0)) H := .inl ⟨i, rfl, h⟩
theorem i_intB {b : Bool} (h : Q (.int (if b = true then 1 else 0)) H) : (∃ j, [V.bl b] = [.int j] ∧ Q (.int j) H) ∨ ∃ k, [V.bl b] = [.bl k] ∧ Q (.int (if k = true then 1 else 0)) H := .inr ⟨b, rfl, h⟩
theorem i_ix1 {α : Type} {P : α → Prop} {x : α} {R : α → Prop} (h : R x) : ∃ y, x = y ∧ R y := ⟨x, rfl, h⟩
theorem i_abs {i : Int} (h : Q (.int (if i < 0 then -i else i)) H) : ∃ j, [V.int i] = [.int j] ∧ Q (.int (if j < 0 then -j else j)) H := ⟨i, rfl, h⟩
theorem i_two {R : Int → Int → Prop} {i j : Int} (h : R i j) : ∃ a b, [V.int i, V.int j] = [.int a, .int b] ∧ R a b := ⟨i, j, rfl, h⟩
theorem i_one {R : Int → Prop} {i : Int} (h : R i) : ∃ a, [V.int i] = [.int a] ∧ R a := ⟨i, rfl, h⟩
theorem i_cmod {i m : Int} (h : 0 < m) : (fun (_ j : Int) => 0 < j) i m := h
theorem i_bm {T : String} {r : V → List V → Hp → VK → Prop} {to : TE} {t : TA} (h : to σ H fun x H1 => tyV K T x H1 ∧ t σ H1 fun xs H2 => r x xs H2 Q) : tBM K T r to t σ H Q := h
theorem i_tyL {p : Addr} {xs : List V} {R : Prop} (h1 : H p = some (.lst xs)) (h : R) : tyV K "list" (.ref p) H ∧ R := ⟨.inl ⟨rfl, xs, .inl (.inl h1)⟩, h⟩
theorem i_tyS {z : Str} {R : Prop} (h : R) : tyV K "str" (.str z) H ∧ R := ⟨rfl, h⟩
theorem i_append {p : Addr} {xs : List V} {y : V} (h1 : H p = some (.lst xs)) (h2 : xs.length < sizeLine) (h : Q .non (upd H p (.lst (xs ++ [y])))) : rAppend (.ref p) [y] H Q := ⟨p, xs, y, rfl, rfl, h1, h2, h⟩
theorem i_sl {r : V → Option Int → Option Int → Hp → VK → Prop} {te : TE} {tl th : TO} (h : te σ H fun x H1 => tl σ H1 fun l H2 => th σ H2 fun u H3 => r x l u H3 Q) : L2.tSl r te tl th σ H Q := h
theorem i_part {t : TE} {R : Option Int → Hp → Prop} (h : t σ H fun x H1 => ∃ i, x = .int i ∧ R (some i) H1) : tPart t σ H R := h
theorem i_nopart {R : Option Int → Hp → Prop} (h : R none H) : tNoPart σ H R := h
theorem i_exI {R : Int → Prop} {i : Int} (h : R i) : ∃ j, V.int i = .int j ∧ R j := ⟨i, rfl, h⟩
theorem i_chain {r r' : R2} {ta tb tc : TE} (h : ta σ H fun x H1 => tb σ H1 fun y H2 => r x y H2 fun z H3 => ∃ k, z = .bl k ∧ (if k = true then tc σ H3 fun w' H4 => r' y w' H4 Q else Q (.bl false) H3)) : tChain r r' ta tb tc σ H Q := h
theorem i_aug {i : Nat} {te : TE} {ti : TIp} {x : V} (e : σ[i]? = some (some x)) (h : te σ H fun y H1 => ti x y H1 fun z H2 => D.nx (σ.set i (some z)) H2) : tAug i te ti D σ H := ⟨x, e, h⟩
theorem i_ip {g : Int → Int → Int} {a b : Int} (h : Q (.int (g a b)) H) : ipI g (.int a) (.int b) H Q := ⟨a, b, rfl, rfl, h⟩
theorem i_par {i j : Nat} {ta : TA} (h : ta σ H fun vs H1 => ∃ v w, vs = [v, w] ∧ D.nx ((σ.set i (some v)).set j (some w)) H1) : tPar i j ta D σ H := h
theorem i_pair {R : V → V → Prop} {a b : V} (h : R a b) : ∃ v w, [a, b] = [v, w] ∧ R v w := ⟨a, b, rfl, h⟩
theorem i_andV {ta tb : TE} (h : ta σ H fun x H1 => ∃ c, x = .bl c ∧ if c = true then tb σ H1 Q else Q (.bl false) H1) : tAndV ta tb σ H Q := h
theorem i_orV {ta tb : TE} (h : ta σ H fun x H1 => ∃ c, x = .bl c ∧ if c = true then Q (.bl true) H1 else tb σ H1 Q) : tOrV ta tb σ H Q := h
theorem i_notV {ta : TE} (h : ta σ H fun x H1 => ∃ c, x = .bl c ∧ Q (.bl (!c)) H1) : tNotV ta σ H Q := h
theorem i_m1 {r : V → List V → Hp → VK → Prop} {to te : TE} (h : to σ H fun x H1 => (∃ a, x = .str a) ∧ te σ H1 fun y H2 => r x [y] H2 Q) : tM1 r to te σ H Q := h
theorem i_str {z : Str} {R : Prop} (h : R) : (∃ a, V.str z = .str a) ∧ R := ⟨⟨z, rfl⟩, h⟩
theorem i_len {p : Addr} {ys : List V} (h1 : SqL K H p ys ∨ SqT K H p ys) (h : Q (.int ys.length) H) : ∃ q zs, [V.ref p] = [.ref q] ∧ (SqL K H q zs ∨ SqT K H q zs) ∧ Q (.int zs.length) H := ⟨p, ys, rfl, h1, h⟩
theorem i_lenS {l : List Nat} (h1 : l.length ≤ sizeLine) (h : Q (.int (l.length : Int)) H) : ∃ z, [V.str (S l)] = [.str z] ∧ z.length ≤ sizeLine ∧ Q (.int z.length) H := ⟨S l, rfl, by rw [S_len]; exact h1, by rw [S_len]; exact h⟩
end
theorem sqL_of {K : PySem.W.Frag} {H : Hp} {a : Addr} {xs : List V} (h : H a = some (.lst xs)) : SqL K H a xs := .inl (.inl h)
theorem sqT_of {K : PySem.W.Frag} {H : Hp} {a : Addr} {xs : List V} (h : H a = some (.tup xs)) : SqT K H a xs := .inl (.inl h)
/-- the part of a text between two places -/
def cut (l : List Nat) (lo hi : Option Int) : List Nat := (l.drop (HT.sIx l.length 0 lo)).take (HT.sIx l.length l.length hi - HT.sIx l.length 0 lo)
theorem cutS_S (l : List Nat) (lo hi : Option Int) : cutS (S l) lo hi = S (cut l lo hi) := by
  unfold cutS cut
  rw [S_list, S_len]; rfl
theorem cut_from (l : List Nat) (k : Nat) : cut l (some (k : Int)) none = l.drop k := by
  unfold cut
  rw [HT.sIx_nat, HT.sIx_none]
  rcases Nat.le_total k l.length with h | h
  · rw [Nat.min_eq_left h, List.take_of_length_le (by rw [List.length_drop]; omega)]
  · rw [Nat.min_eq_right h, List.drop_length, List.drop_of_length_le h, List.take_nil]
theorem cut_to (l : List Nat) (k : Nat) : cut l none (some (k : Int)) = l.take k := by
  unfold cut
  rw [HT.sIx_nat, HT.sIx_none, List.drop_zero, Nat.sub_zero]
  rcases Nat.le_total k l.length with h | h
  · rw [Nat.min_eq_left h]
  · rw [Nat.min_eq_right h, List.take_length, List.take_of_length_le h]
theorem i_slS {l : List Nat} {lo hi : Option Int} {H : Hp} {Q : VK} (h1 : l.length ≤ sizeLine) (h : Q (.str (S (cut l lo hi))) H) : rSlS (.str (S l)) lo hi H Q := ⟨S l, rfl, by rw [S_len]; exact h1, by rw [cutS_S]; exact h⟩
theorem i_tB {t : TE} {R : Bool → Hp → Prop} {σ : L2.St} {H : Hp} (h : t σ H fun x H1 => ∃ c, x = .bl c ∧ R c H1) : tB t σ H R := h
theorem i_retN {σ : L2.St} {H : Hp} {D : Ends} (h : D.rt .non H) : tRetN D σ H := h
theorem i_par3 {i j l : Nat} {ta : TA} {σ : L2.St} {H : Hp} {D : Ends} (h : ta σ H fun vs H1 => ∃ u v w, vs = [u, v, w] ∧ D.nx (((σ.set i (some u)).set j (some v)).set l (some w)) H1) : tPar3 i j l ta D σ H := h
theorem i_trip {R : V → V → V → Prop} {a b c : V} (h : R a b c) : ∃ u v w, [a, b, c] = [u, v, w] ∧ R u v w := ⟨a, b, c, rfl, h⟩
theorem i_gTup {K : PySem.W.Frag} {n : Nat} {t : TGs} {a : Addr} {xs : List V} {σ : L2.St} {H : Hp} {R : L2.St → Hp → Prop} (h1 : SqT K H a xs) (h2 : xs.length = n) (h : t xs σ H R) : gTup K n t (.ref a) σ H R := ⟨a, xs, rfl, h1, h2, h⟩
theorem i_gCons {t : TG} {u : TGs} {v : V} {r : List V} {σ : L2.St} {H : Hp} {R : L2.St → Hp → Prop} (h : t v σ H fun σ' H' => u r σ' H' R) : gCons t u (v :: r) σ H R := ⟨v, r, rfl, h⟩
theorem i_gNil {σ : L2.St} {H : Hp} {R : L2.St → Hp → Prop} (h : R σ H) : gNil [] σ H R := ⟨rfl, h⟩
theorem i_lstRg {te : L2.St → Hp → (Int → Int → Hp → Prop) → Prop} {σ : L2.St} {H : Hp} {Q : VK} (h : te σ H fun a b H1 => RgOk a b ∧ ∀ q, H1 q = none → Q (.ref q) (upd H1 q (.lst (rgV a b)))) : tLstRg te σ H Q := h
theorem i_rg1 {ta : TE} {σ : L2.St} {H : Hp} {R : Int → Int → Hp → Prop} (h : ta σ H fun x H1 => ∃ n, x = .int n ∧ R 0 n H1) : tRg1 ta σ H R := h
theorem i_pow {g : Int → Int → V} {a b : Int} {H : Hp} {Q : VK} (h1 : 0 ≤ b) (h2 : b ≤ 1000000) (h3 : a.natAbs < 2 ^ 64) (h : Q (g a b) H) : rI CPow g (.int a) (.int b) H Q := ⟨a, b, rfl, rfl, ⟨h1, h2, h3⟩, h⟩
theorem S_le {l : List Nat} (h : l.length ≤ 100000) : (S l).length ≤ sizeLine := Nat.le_trans h (by decide)
theorem ints_get {ns : List Int} {j : Nat} {v : V} (h : (ns.map V.int)[j]? = some v) : ∃ i, ns[j]? = some i ∧ v = .int i := by
  rw [List.getElem?_map] at h
  cases e : ns[j]? with
  | none => rw [e] at h; cases h
  | some i => rw [e] at h; exact ⟨i, rfl, (Option.some.inj h).symm⟩
theorem ints_at {ns : List Int} {j : Nat} (h : j < ns.length) : (ns.map V.int)[j]? = some (.int ns[j]) := by
  rw [List.getElem?_map, List.getElem?_eq_getElem h]; rfl
theorem atI_ints {ns : List Int} {i : Int} (h0 : 0 ≤ i) (h1 : i < ns.length) : atI (ns.map V.int) i = some (.int (ns[i.toNat]'(by omega))) := by
  have h := atI_nat (xs := ns.map V.int) (ints_at (ns := ns) (show i.toNat < ns.length by omega))
  rwa [show ((i.toNat : Nat) : Int) = i by omega] at h
end Sw
namespace Sw
open PySem PySem.Spec PyProof.Rows L2
/-! ### x[::-1] of a text -/
def tRevS (te : TE) : TE := fun σ H Q => te σ H fun x H1 => ∃ l, x = .str (S l) ∧ l.length ≤ sizeLine ∧ Q (.str (S l.reverse)) H1
theorem fmap_map {α β : Type} {f : α → Option β} {g : α → β} : ∀ {l : List α}, (∀ a ∈ l, f a = some (g a)) → l.filterMap f = l.map g
  | [], _ => rfl
  | a :: l, h => by
    rw [List.filterMap_cons, h a List.mem_cons_self, List.map_cons, fmap_map fun b hb => h b (List.mem_cons_of_mem _ hb)]
theorem rev_list (l : List Nat) : ((Builtin.Str.strSliceIndices none none (-1) l.length).filterMap (l.toArray[·]?)) = l.reverse := by
  rw [PyProof.Rows.picked_rev, List.filterMap_map]
  apply List.ext_getElem?
  intro k
  have hf : List.filterMap ((fun x => l.toArray[x]?) ∘ fun k => l.length - 1 - k) (List.range l.length) = (List.range l.length).map fun k => l.getD (l.length - 1 - k) 0 := by
    refine fmap_map fun a ha => ?_
    have ha' : a < l.length := List.mem_range.mp ha
    have hb : l.length - 1 - a < l.length := by omega
    show l.toArray[l.length - 1 - a]? = some (l.getD (l.length - 1 - a) 0)
    rw [List.getElem?_toArray, List.getD_eq_getElem?_getD, List.getElem?_eq_getElem hb]
    rfl
  rw [hf, List.getElem?_map]
  by_cases hk : k < l.length
  · have hb : l.length - 1 - k < l.length := by omega
    rw [List.getElem?_range hk, List.getElem?_reverse hk]
    show some (l.getD (l.length - 1 - k) 0) = _
    rw [List.getD_eq_getElem?_getD, List.getElem?_eq_getElem hb]
    rfl
  · rw [List.getElem?_eq_none (by rw [List.length_range]; omega), List.getElem?_eq_none (by rw [List.length_reverse]; omega)]
    rfl
theorem pe_revS {X : Cx} {e : Expr} {te : TE} {k : Nat} {p1 p2 p3 pos : Pos} (he : PE X e te) :
    PE X (.Subscript e (.Slice none none (some (.UnaryOp .USub (.Constant (.int 1) k p1) p2)) p3) pos) (tRevS te) := by
  constructor
  intro pins s σ H Q I h
  refine Subscript_ (thn (he.run pins s σ H _ I h) fun v s1 ⟨x, H1, I1, r1, l, ex, hl, q⟩ => ?_)
  subst ex
  obtain ⟨tk, rfl⟩ := r1
  have st : PO X (some (.UnaryOp .USub (.Constant (.int 1) k p1) p2)) (tPart (tUn (rU fun i => .int (-i)) (tC (.int 1)))) := po_some (pe_un un_neg pe_int)
  refine wpAny_Slice (thn (po_none.run pins s1 σ H1 (fun o G => o = none ∧ G = H1) I1 ⟨rfl, rfl⟩) fun w1 s2 ⟨o1, G1, J1, z1, a1, b1⟩ => ?_)
  subst a1 b1
  refine thn (po_none.run pins s2 σ G1 (fun o G => o = none ∧ G = G1) J1 ⟨rfl, rfl⟩) fun w2 s3 ⟨o2, G2, J2, z2, a2, b2⟩ => ?_
  subst a2 b2
  refine thn (st.run pins s3 σ G2 (fun o G => o = some (-1) ∧ G = G2) J2 ⟨1, rfl, -1, rfl, rfl, rfl⟩) fun w3 s4 ⟨o3, G3, J3, z3, a3, b3⟩ => ?_
  subst a3 b3
  have J4 : Inv X pins σ G3 { s4 with heap := s4.heap.push { cls := .type "slice", data := .fields #[w1, w2, w3] } } := J3.kept (t' := s4.toks) fun b ob q => Heap.get?_push_of_some _ q
  obtain ⟨y1, rfl, f1⟩ := IsPart.raw z1
  obtain ⟨y2, rfl, f2⟩ := IsPart.raw z2
  obtain ⟨y3, rfl, f3⟩ := IsPart.raw z3
  cases y1 with
  | some y => cases f1
  | none =>
  cases y2 with
  | some y => cases f2
  | none =>
  cases y3 with
  | none => cases f3
  | some y =>
  obtain ⟨m, u⟩ := y
  have em : m = -1 := Option.some.inj f3
  subst em
  refine tail_any (T := "str") (id := _) (ops := [.str (S l) tk, .ref s4.heap.objs.size]) (typeIs_str _ _ _) F.slot_str_getitem.lookup ?_ (by with_unfolding_all rfl)
  refine wpAny_getItem_str_slice (l := none) (u := none) (st := some (-1, u)) ⟨_, Heap.get?_push_size _ rfl, rfl, rfl⟩ rfl ?_
  show Made.post (if ((-1 : Int) == 1 && (Builtin.Str.strSliceIndices none none (-1) (S l).length).length == (S l).length) = true then Made.val (.str (S l) tk)
    else Made.str ⟨((Builtin.Str.strSliceIndices none none (-1) (S l).length).filterMap ((S l).cps[·]?)).toArray⟩) (EP X pins σ Q) _
  rw [if_neg (by rw [show ((-1 : Int) == 1) = false from rfl, Bool.false_and]; exact Bool.false_ne_true)]
  have e : ((Builtin.Str.strSliceIndices none none (-1) (S l).length).filterMap ((S l).cps[·]?)) = l.reverse := by
    rw [S_len]
    exact rev_list l
  rw [e]
  refine ⟨by show (S l.reverse).length ≤ sizeLine; rw [S_len, List.length_reverse]; exact hl, .str (S l.reverse), G3, J4.tok _, ⟨_, rfl⟩, q⟩
/-! ### enumerate(text) -/
/-- a text's signs, each in a new pair with its number -/
def ItE (x : Str) : It := ⟨fun i _ => i < x.cps.size, fun i H v H' => ∃ T c, v = .ref T ∧ H T = none ∧ x.cps[i]? = some c ∧ H' = upd H T (.tup [.int (i : Nat), .str ⟨#[c]⟩]), fun i _ => i = x.cps.size⟩
theorem turn_enumS {P : Program} {w : World} {K : PySem.W.Frag} {elts : List Expr} {kk : Nat} {tpos : Pos} (x : Str) (t : Tok) (e it : Addr) (hne : e ≠ it) :
    Turn P w K (.Tuple elts kk tpos) (ItE x) [e, it] e (fun i h => (∃ old, IsEnum h e it ((i : Nat) : Int) old) ∧ h.IsStrIter it (strIterType x) x t i) := by
  refine ⟨by simp, fun i h st b hb => ?_, fun i h h' st k => ?_, ?_, ?_, fun A i s Q E st h => ?_⟩
  · obtain ⟨⟨old, he⟩, o, ho, hc, hd⟩ := st
    have e' : b = e ∨ b = it := by simpa using hb
    rcases e' with rfl | rfl
    · exact ⟨_, he, fun v q => nomatch q⟩
    · exact ⟨o, ho, fun v q => by rw [hd] at q; cases q⟩
  · obtain ⟨⟨old, he⟩, o, ho, z⟩ := st
    exact ⟨⟨old, k e (by simp) _ he⟩, o, k it (by simp) o ho, z⟩
  · rintro X rfl rfl rfl hc i pins s σ H E I hf ⟨⟨old, he⟩, hit⟩ hg
    have hh : X.A.in1.handled = none := I.ok.hd hc
    have DD := Draws.text (prog := X.prog) (w := X.w) (A := X.A.in1) hh it x t
    have l1 : e < s.heap.objs.size := Heap.lt_size he
    have l2 : it < s.heap.objs.size := by obtain ⟨_, q, _⟩ := hit; exact Heap.lt_size q
    refine wpAny_pyNext_enum_itemD DD he hit hg hne (by simpa using hne) fun v h1 tk hv ho hit' hT hsz hk => ?_
    obtain ⟨c, u, hc', rfl⟩ := hv
    refine ⟨_, rfl, wpAny_letOwnedTupleGo_enum (s := { s with heap := h1, toks := tk + 1 }) ho fun h2 he' sb => ?_⟩
    have nT := Nat.ne_of_gt l1
    have gT : h2.get? s.heap.objs.size = some { cls := .type "tuple", data := .seq #[.int i tk, .str ⟨#[c]⟩ u] } := (sb.2 _ nT).trans hT
    have fresh : H s.heap.objs.size = none := I.hok.fresh (Nat.le_refl _)
    have new : ObjOk X.prog X.w (upd H s.heap.objs.size (.tup [.int (i : Nat), .str ⟨#[c]⟩])) h2 s.heap.objs.size (.tup [.int (i : Nat), .str ⟨#[c]⟩]) :=
      ⟨Nat.le_of_ble_eq_true rfl, [.int i tk, .str ⟨#[c]⟩ u], .cons ⟨_, rfl⟩ (.cons ⟨_, rfl⟩ .nil), _, gT, rfl, _, rfl⟩
    have J : Inv X pins σ (upd H s.heap.objs.size (.tup [.int (i : Nat), .str ⟨#[c]⟩])) { s with heap := h2, toks := tk + 1 } := by
      refine I.turnedNew (ch := [e, it]) (fun b ob hb q => ?_) hf (Nat.le_refl _) new
      have n1 : b ≠ e := fun z => hb (by simp [z])
      have n2 : b ≠ it := fun z => hb (by simp [z])
      exact (sb.2 b n1).trans (hk b ob n1 n2 q)
    refine ⟨.ref s.heap.objs.size, _, J, rfl, ⟨_, c, rfl, fresh, hc', rfl⟩, ⟨⟨.str ⟨#[c]⟩ u, ?_⟩, ?_⟩, fun b hb => ?_⟩
    · rw [show ((i + 1 : Nat) : Int) = (i : Int) + 1 by omega]
      exact he'
    · obtain ⟨o, g1, g2⟩ := hit'
      exact ⟨o, (sb.2 it (Ne.symm hne)).trans g1, g2⟩
    · have lb : b < s.heap.objs.size := by
        have e' : b = e ∨ b = it := by simpa using hb
        rcases e' with rfl | rfl <;> assumption
      rw [upd_ne (Nat.ne_of_lt lb)]
      exact (hf b hb).1
  · rintro X rfl rfl rfl hc i pins s σ H E I hf ⟨⟨old, he⟩, hit⟩ hg
    have hh : X.A.in1.handled = none := I.ok.hd hc
    have DD := Draws.text (prog := X.prog) (w := X.w) (A := X.A.in1) hh it x t
    have hi : i = x.cps.size := hg
    subst hi
    obtain ⟨f0, f1, f2, f3, f4, f5⟩ := hf it (by simp)
    exact wpAny_pyNext_enum_endD DD he hit fun h1 eb => ⟨rfl, I.turned (t' := s.toks) (fun b o hb q => eb b o hb q) f0 f1 f3 f4 f5⟩
  · obtain ⟨⟨old, he⟩, _⟩ := st
    exact wpAny_pyIter_enum he h
def iEnS (ta : TA) : TI := fun σ H R => ta σ H fun vs H1 => ∃ x, vs = [.str x] ∧ R (ItE x) H1
theorem pi_enumS {X : Cx} {e : Expr} {ta : TA} {p pos tpos : Pos} {elts : List Expr} {kk : Nat} (hg : Gl X "enumerate") (hm : X.mg "enumerate" = none) (ha : PA X [e] ta) (hs : starEach [e] X.env = [(false, eval e X.env)] := by rfl) :
    PI X (.Tuple elts kk tpos) (.Call (.Name "enumerate" p) [e] [] pos) (iEnS ta) := by
  constructor
  intro pins s σ H R I h
  refine Call_ (ld_blt I hg hm boot_enumerate (PyProof.Rows.callWith_type1 (thn (ha.run pos pins s σ H _ I h) fun us s1 q1 => ?_) hs rfl))
  obtain ⟨vs, H1, I1, r1, x, rfl, q⟩ := q1
  cases r1 with
  | cons r rr =>
    cases rr
    obtain ⟨t, rfl⟩ := r
    refine call_enumerate_str fun h1 he hit hsz hk => wpAny_pyIter_enum he ?_
    have J : Inv X pins σ H1 { s1 with heap := h1 } := I1.kept (t' := s1.toks) hk
    refine ⟨s1.heap.objs.size + 1, [s1.heap.objs.size + 1, s1.heap.objs.size], _, ItE x, H1, rfl, J, turn_enumS x t _ _ (Nat.succ_ne_self _), ⟨⟨.none, he⟩, hit⟩, fun b hb => ?_, q⟩
    have lb : s1.heap.objs.size ≤ b := by
      have e' : b = s1.heap.objs.size + 1 ∨ b = s1.heap.objs.size := by simpa using hb
      rcases e' with rfl | rfl
      · exact Nat.le_succ _
      · exact Nat.le_refl _
    exact I1.fpOk lb (I1.hok.fresh lb)
theorem walk_enumS {x : Str} : Walk (ItE x) x.cps.size (fun _ => True) (fun i H v H' => ∃ T c, v = .ref T ∧ H T = none ∧ x.cps[i]? = some c ∧ H' = upd H T (.tup [.int (i : Nat), .str ⟨#[c]⟩])) :=
  ⟨fun _ _ hi _ => hi, fun _ _ => rfl, fun _ _ _ _ _ _ y => y⟩
end Sw
namespace Sw
open PySem PySem.Spec PyProof.Rows L2
/-! ### comprehensions that leave all as it was -/
theorem lc_map {J : It} {n : Nat} {G : Hp → Prop} {Y : Nat → Hp → V → Hp → Prop} {g : TG} {te : TE} {vs : List Nat} {σ : L2.St} {H1 : Hp} {D : Addr} {Qd : Hp → Prop} (w : Walk J n G Y) (f : Nat → V)
    (hn : n ≤ 1000000) (nD : H1 D = none) (hG : ∀ H, Same H1 H → G H)
    (hs : ∀ i x H H', i < n → Same H1 H → Y i H x H' → ∀ R : V → Hp → Prop, (∀ H4, Same H H4 → R (f i) H4) → g x (wipe σ vs) H' fun σ2 H2 => wipe σ2 vs = wipe σ vs ∧ te σ2 H2 R)
    (hd : ∀ H, Same H1 H → H D = some (.lst ((List.range n).map f)) → Qd H)
    (hmono : ∀ x σ H (R R' : L2.St → Hp → Prop), (∀ σ' H', R σ' H' → R' σ' H') → g x σ H R → g x σ H R') :
    ∃ W : Nat → Nat → Hp → Prop, (∃ m, W 0 m (upd H1 D (.lst []))) ∧ ∀ i m H, W i m H →
      (J.stop i H ∧ Qd H) ∨ (J.go i H ∧ ∃ Nx : Hp → Prop, (∀ H', Nx H' → ∃ m', m' < m ∧ W (i + 1) m' H') ∧ ∀ x H', J.yld i H x H' → g x (wipe σ vs) H' fun σ2 H2 => wipe σ2 vs = wipe σ vs ∧ tYes σ2 H2 fun b H3 =>
        if b = true then te σ2 H3 fun y H4 => ∃ acc, H4 D = some (.lst acc) ∧ acc.length < sizeLine ∧ Nx (upd H4 D (.lst (acc ++ [y]))) else Nx H3) := by
  refine lc_it w (fun i H => Same H1 H ∧ H D = some (.lst ((List.range i).map f))) ⟨same_upd nD, upd_same⟩ (fun i H _ p => hG H p.1) (fun i x H H' hi p y => ?_) (fun H p => hd H p.1 p.2)
  refine hmono _ _ _ _ _ (fun σ2 H2 q => ?_) (hs i x H H' hi p.1 y (fun y H4 => ∃ acc, H4 D = some (.lst acc) ∧ acc.length < sizeLine ∧ (Same H1 (upd H4 D (.lst (acc ++ [y]))) ∧ (upd H4 D (.lst (acc ++ [y]))) D = some (.lst ((List.range (i + 1)).map f)))) (fun H4 s4 => ?_))
  · refine ⟨q.1, ?_⟩
    unfold tYes
    dsimp only
    rw [if_pos rfl]
    exact q.2
  · refine ⟨_, s4 _ _ p.2, ?_, fun b o e => ?_, ?_⟩
    · rw [List.length_map, List.length_range]
      exact Nat.lt_of_lt_of_le hi (Nat.le_trans hn (by decide))
    · rw [upd_ne (ne_of_none e nD)]
      exact s4 _ _ (p.1 _ _ e)
    · rw [upd_same, List.range_succ, List.map_append]
      rfl
theorem mono_name {i : Nat} (x : V) (σ : L2.St) (H : Hp) (R R' : L2.St → Hp → Prop) (h : ∀ σ' H', R σ' H' → R' σ' H') (q : gName i x σ H R) : gName i x σ H R' := h _ _ q
theorem range_map_get {α β : Type} (l : List α) (F : Nat → β) (g : α → β) (h : ∀ i x, l[i]? = some x → F i = g x) : (List.range l.length).map F = l.map g := by
  apply List.ext_getElem?
  intro i
  rw [List.getElem?_map, List.getElem?_map]
  by_cases hi : i < l.length
  · rw [List.getElem?_range hi, List.getElem?_eq_getElem hi]
    show some (F i) = some (g l[i])
    rw [h i _ (List.getElem?_eq_getElem hi)]
  · rw [List.getElem?_eq_none (by rw [List.length_range]; omega), List.getElem?_eq_none (by omega)]; rfl
/-! ### isinstance -/
theorem i_isi {K : PySem.W.Frag} {H : Hp} {Q : VK} {x : V} {t : Value} {n : String} (b : Bool) (h1 : TyX K H x t) (h2 : PySem.W.kitOne K t (.type n) = some b) (h : Q (.bl b) H) : rIsi K [x, .ty n] H Q := ⟨x, .ty n, t, .type n, b, rfl, .ty n, h1, h2, h⟩
/-! ### texts of letters -/
def azB (l : List Nat) : Bool := l.all fun c => decide (97 ≤ c ∧ c ≤ 122)
theorem azB_app (a b : List Nat) : azB (a ++ b) = (azB a && azB b) := by simp [azB, List.all_append]
theorem azB_take {l : List Nat} (h : azB l = true) (n : Nat) : azB (l.take n) = true := by
  unfold azB at *
  rw [List.all_eq_true] at *
  exact fun x hx => h x (List.mem_of_mem_take hx)
theorem azB_drop {l : List Nat} (h : azB l = true) (n : Nat) : azB (l.drop n) = true := by
  unfold azB at *
  rw [List.all_eq_true] at *
  exact fun x hx => h x (List.mem_of_mem_drop hx)
theorem az_letters : (("abcdefghijklmnopqrstuvwxyz" : Str)).cps.toList = List.range' 97 26 := by decide +kernel
theorem az_in (c : Nat) : decide (c ∈ (("abcdefghijklmnopqrstuvwxyz" : Str)).cps.toList) = decide (97 ≤ c ∧ c ≤ 122) := by
  rw [az_letters]
  by_cases h : 97 ≤ c ∧ c ≤ 122
  · rw [decide_eq_true h, decide_eq_true]
    exact List.mem_range'_1.mpr ⟨h.1, by omega⟩
  · rw [decide_eq_false h, decide_eq_false]
    intro q
    have := List.mem_range'_1.mp q
    omega
theorem e_empty : (("" : Str)) = S [] := by decide +kernel
theorem starts_S (a b : List Nat) : Txt.startswith (S a) (S b) = decide (a.take b.length = b) := by
  unfold Txt.startswith Builtin.Str.subAt
  rw [S_len, S_len]
  show (decide (0 + b.length ≤ a.length) && ((a.toArray.extract 0 (0 + b.length)) == b.toArray)) = _
  rw [Nat.zero_add]
  have e : (a.toArray.extract 0 b.length) = (a.take b.length).toArray := by
    rw [List.extract_toArray, List.extract_eq_take_drop]
    simp
  rw [e]
  by_cases h : a.take b.length = b
  · rw [h, decide_eq_true rfl, beq_self_eq_true, Bool.and_true, decide_eq_true]
    have := congrArg List.length h
    rw [List.length_take] at this
    omega
  · rw [decide_eq_false h]
    have : ((a.take b.length).toArray == b.toArray) = false := by
      rw [beq_eq_false_iff_ne]
      intro q
      exact h (by simpa using q)
    rw [this, Bool.and_false]
/-! ### what is known of a heap stays -/
theorem Same.at {H H' : Hp} {a : Addr} {o : HO} (s : Same H H') (h : H a = some o) : H' a = some o := s a o h
theorem Same.sqT {K : PySem.W.Frag} {H H' : Hp} {a : Addr} {xs : List V} (e : Same H H') (h : SqT K H a xs) : SqT K H' a xs := by
  rcases h with (h | ⟨o, h⟩) | h
  · exact .inl (.inl (e _ _ h))
  · exact .inl (.inr ⟨o, e _ _ h⟩)
  · exact .inr h
theorem Same.sqL {K : PySem.W.Frag} {H H' : Hp} {a : Addr} {xs : List V} (e : Same H H') (h : SqL K H a xs) : SqL K H' a xs := e.seq h
theorem Same.upd_new {H H1 : Hp} {p : Addr} {o : HO} (s : Same H H1) (n : H1 p = none) : Same H (upd H1 p o) := s.trans (same_upd n)
/-- an object that is new since H is written: what was tracked at H stays -/
theorem Same.set_new {H H1 : Hp} {p : Addr} {o : HO} (s : Same H H1) (n : H p = none) : Same H (upd H1 p o) := fun b x e => by
  rw [upd_ne (ne_of_none e n)]
  exact s _ _ e
/-! ### loops and comprehensions, their source apart -/
def LcGo (J : It) (g : TG) (tt : TT) (te : TE) (vs : List Nat) (σ : L2.St) (H : Hp) (Q : VK) : Prop := tLc (fun _ H R => R J H) g tt te vs σ H Q
def ForGo (J : It) (g : TG) (tb : TS) (D : Ends) (σ : L2.St) (H : Hp) : Prop := tFor (fun _ H R => R J H) g tb D σ H
theorem i_lc {wi : TI} {g : TG} {tt : TT} {te : TE} {vs : List Nat} {σ : L2.St} {H : Hp} {Q : VK} (h : wi σ H fun J H1 => LcGo J g tt te vs σ H1 Q) : tLc wi g tt te vs σ H Q := h
theorem i_for {wi : TI} {g : TG} {tb : TS} {D : Ends} {σ : L2.St} {H : Hp} (h : wi σ H fun J H1 => ForGo J g tb D σ H1) : tFor wi g tb D σ H := h
theorem i_iList {K : PySem.W.Frag} {tl : TE} {R : It → Hp → Prop} {σ : L2.St} {H : Hp} (h : tl σ H fun x H1 => ∃ a, x = .ref a ∧ (∃ xs, SqL K H1 a xs) ∧ R (Itl K a) H1) : iList K tl σ H R := h
theorem i_iTup {K : PySem.W.Frag} {tl : TE} {R : It → Hp → Prop} {σ : L2.St} {H : Hp} (h : tl σ H fun x H1 => ∃ a, x = .ref a ∧ (∃ xs, SqT K H1 a xs) ∧ R (Itt K a) H1) : iTup K tl σ H R := h
theorem i_iStr {te : TE} {R : It → Hp → Prop} {σ : L2.St} {H : Hp} (h : te σ H fun v H1 => ∃ x, v = .str x ∧ R (Its x) H1) : iStr te σ H R := h
theorem i_iRng1 {ta : TA} {R : It → Hp → Prop} {σ : L2.St} {H : Hp} (h : ta σ H fun vs H1 => ∃ j : Int, vs = [.int j] ∧ -(2 ^ 62) ≤ j ∧ j < 2 ^ 62 ∧ R (Itr 0 j.toNat) H1) : iRng1 ta σ H R := h
theorem i_iEnS {ta : TA} {R : It → Hp → Prop} {σ : L2.St} {H : Hp} (h : ta σ H fun vs H1 => ∃ x, vs = [.str x] ∧ R (ItE x) H1) : iEnS ta σ H R := h
theorem i_rng {j : Int} {A : Prop} (h0 : 0 ≤ j) (h1 : j ≤ 1000000) (h : A) : -(2 ^ 62) ≤ j ∧ j < 2 ^ 62 ∧ A := ⟨by omega, by omega, h⟩
theorem i_sqL {K : PySem.W.Frag} {H : Hp} {a : Addr} {xs : List V} {A : Prop} (h1 : SqL K H a xs) (h : A) : (∃ xs, SqL K H a xs) ∧ A := ⟨⟨xs, h1⟩, h⟩
section
variable {J : It} {n : Nat} {G : Hp → Prop} {Y : Nat → Hp → V → Hp → Prop} {g : TG} {tt : TT} {te : TE} {tb : TS} {vs : List Nat} {σ : L2.St} {H1 : Hp} {D : Ends} {Q : VK}
theorem go_map (w : Walk J n G Y) (f : Nat → V) (hn : n ≤ 1000000) (hG : ∀ H, Same H1 H → G H)
    (hs : ∀ i x H H', i < n → Same H1 H → Y i H x H' → ∀ R : V → Hp → Prop, (∀ H4, Same H H4 → R (f i) H4) → g x (wipe σ vs) H' fun σ2 H2 => wipe σ2 vs = wipe σ vs ∧ te σ2 H2 R)
    (hmono : ∀ x σ H (R R' : L2.St → Hp → Prop), (∀ σ' H', R σ' H' → R' σ' H') → g x σ H R → g x σ H R')
    (hd : ∀ p H, H1 p = none → Same H1 H → H p = some (.lst ((List.range n).map f)) → Q (.ref p) H) : LcGo J g tYes te vs σ H1 Q :=
  fun p np => lc_map w f hn np hG hs (fun H s e => hd p H np s e) hmono
theorem go_lc (w : Walk J n G Y) (Pv : Addr → Nat → Hp → Prop) (h0 : ∀ p, H1 p = none → Pv p 0 (upd H1 p (.lst []))) (hG : ∀ p i H, i ≤ n → Pv p i H → G H)
    (hs : ∀ p, H1 p = none → ∀ i x H H', i < n → Pv p i H → Y i H x H' → g x (wipe σ vs) H' fun σ2 H2 => wipe σ2 vs = wipe σ vs ∧ tt σ2 H2 fun b H3 =>
      if b = true then te σ2 H3 fun y H4 => ∃ acc, H4 p = some (.lst acc) ∧ acc.length < sizeLine ∧ Pv p (i + 1) (upd H4 p (.lst (acc ++ [y]))) else Pv p (i + 1) H3)
    (hd : ∀ p H, H1 p = none → Pv p n H → Q (.ref p) H) : LcGo J g tt te vs σ H1 Q :=
  fun p np => lc_it w (Pv p) (h0 p np) (hG p) (hs p np) fun H q => hd p H np q
theorem go_for (w : Walk J n G Y) (Pv : Nat → L2.St → Hp → Prop) (h0 : Pv 0 σ H1) (hG : ∀ i σ H, i ≤ n → Pv i σ H → G H)
    (hs : ∀ i x σ H H', i < n → Pv i σ H → Y i H x H' → g x σ H' fun σ2 H2 => tb { D with nx := Pv (i + 1), ct := Pv (i + 1), bk := D.nx } σ2 H2) (hd : ∀ σ H, Pv n σ H → D.nx σ H) : ForGo J g tb D σ H1 :=
  for_it w Pv h0 hG hs hd
end
theorem i_all {K : PySem.W.Frag} {p : Addr} {bs : List Bool} {H : Hp} {Q : VK} (h1 : H p = some (.lst (bs.map V.bl))) (h : Q (.bl (bs.all id)) H) : rAll K [.ref p] H Q := ⟨p, bs, rfl, sqL_of h1, h⟩
theorem i_inSeq {K : PySem.W.Frag} {p : Addr} {xs : List V} {x : V} {H : Hp} {Q : VK} (h1 : SqL K H p xs ∨ SqT K H p xs) (h2 : flatV x = true) (h3 : xs.all flatV = true) (h : Q (.bl (inV x xs)) H) : rIn K false x (.ref p) H Q := ⟨p, xs, rfl, h1, h2, h3, h⟩
theorem i_ixLH {K : PySem.W.Frag} {p : Addr} {xs : List V} {i : Int} {v : V} {H : Hp} {Q : VK} (h1 : H p = some (.lst xs)) (h2 : atI xs i = some v) (h : Q v H) : rIxL K (.ref p) (.int i) H Q := i_ixL (sqL_of h1) h2 h
theorem i_ixTH {K : PySem.W.Frag} {p : Addr} {xs : List V} {i : Int} {v : V} {H : Hp} {Q : VK} (h1 : H p = some (.tup xs)) (h2 : atI xs i = some v) (h : Q v H) : rIxT K (.ref p) (.int i) H Q := i_ixT (sqT_of h1) h2 h
theorem upd_old {H : Hp} {p a : Addr} {o u : HO} (n : H p = none) (h : H a = some u) : upd H p o a = some u := by rw [upd_ne (ne_of_none h n)]; exact h
theorem upd_skip {H : Hp} {p a : Addr} {o u : HO} (n : a ≠ p) (h : H a = some u) : upd H p o a = some u := by rw [upd_ne n]; exact h
theorem iteNT {A B : Prop} (h : B) : if (!true) = true then A else B := iteF h
theorem iteNF {A B : Prop} (h : A) : if (!false) = true then A else B := iteT h
theorem iteNB {p : Prop} [Decidable p] {A B : Prop} (h1 : ¬ p → A) (h2 : p → B) : if (!decide p) = true then A else B := by
  by_cases h : p
  · rw [decide_eq_true h]; exact iteF (h2 h)
  · rw [decide_eq_false h]; exact iteT (h1 h)
theorem iteNC {c : Bool} {A B : Prop} (h1 : c = false → A) (h2 : c = true → B) : if (!c) = true then A else B := by
  cases c with
  | true => exact iteF (h2 rfl)
  | false => exact iteT (h1 rfl)
/-! ### rules whose readings have names, over texts S l -/
section
variable {X : Cx} {H : Hp} {Q : VK} {K : PySem.W.Frag}
theorem pe_strS {x : Str} {j pos} {l : List Nat} (e : x = S l) : PE X (.Constant (.str x) j pos) (tC (.str (S l))) := by rw [e]; exact pe_str
def rAddS : R2 := fun x y H Q => ∃ a b, x = .str (S a) ∧ y = .str (S b) ∧ a.length + b.length ≤ 1000000 ∧ Q (.str (S (a ++ b))) H
theorem op_addS : OpR X (binaryOp .Add) rAddS := fun pins s σ H x y v u Q I rx ry h => by
  obtain ⟨a, b, e1, e2, hz, q⟩ := h
  exact op_add_str pins s σ H x y v u Q I rx ry ⟨S a, S b, e1, e2, by rw [S_len, S_len]; exact Nat.le_trans hz (by decide), by rw [S_app]; exact q⟩
theorem i_addS {a b : List Nat} (h1 : a.length + b.length ≤ 1000000) (h : Q (.str (S (a ++ b))) H) : rAddS (.str (S a)) (.str (S b)) H Q := ⟨a, b, rfl, rfl, h1, h⟩
def rIxSS : V → V → Hp → VK → Prop := fun x y H Q => ∃ l i c, x = .str (S l) ∧ y = .int i ∧ l.length ≤ 1000000 ∧ atI l i = some c ∧ Q (.str (S [c])) H
theorem ix_S : IxR X rIxSS := fun pins s σ H x y v u b Q I rx ry hb h => by
  obtain ⟨l, i, c, e1, e2, hz, hc, q⟩ := h
  exact ix_str pins s σ H x y v u b Q I rx ry hb ⟨S l, i, c, e1, e2, by rw [S_len]; exact Nat.le_trans hz (by decide), by rw [S_list]; exact hc, q⟩
theorem i_ixSS {l : List Nat} {i : Int} {c : Nat} (h1 : l.length ≤ 1000000) (h2 : atI l i = some c) (h : Q (.str (S [c])) H) : rIxSS (.str (S l)) (.int i) H Q := ⟨l, i, c, rfl, rfl, h1, h2, h⟩
def rSlSS : V → Option Int → Option Int → Hp → VK → Prop := fun x lo hi H Q => ∃ l, x = .str (S l) ∧ l.length ≤ 1000000 ∧ Q (.str (S (cut l lo hi))) H
theorem sl_S : SlR X rSlSS := fun pins s σ H x v vl vu lo hi sl Q I rx hs pl pu h => by
  obtain ⟨l, e1, hz, q⟩ := h
  exact sl_str pins s σ H x v vl vu lo hi sl Q I rx hs pl pu ⟨S l, e1, by rw [S_len]; exact Nat.le_trans hz (by decide), by rw [cutS_S]; exact q⟩
theorem i_slFrom {l : List Nat} {k : Int} (h0 : 0 ≤ k) (h1 : l.length ≤ 1000000) (h : Q (.str (S (l.drop k.toNat))) H) : rSlSS (.str (S l)) (some k) none H Q :=
  ⟨l, rfl, h1, by rw [show k = ((k.toNat : Nat) : Int) by omega, cut_from]; exact h⟩
theorem i_slTo {l : List Nat} {k : Int} (h0 : 0 ≤ k) (h1 : l.length ≤ 1000000) (h : Q (.str (S (l.take k.toNat))) H) : rSlSS (.str (S l)) none (some k) H Q :=
  ⟨l, rfl, h1, by rw [show k = ((k.toNat : Nat) : Int) by omega, cut_to]; exact h⟩
def rLenSS : List V → Hp → VK → Prop := fun xs H Q => ∃ l, xs = [.str (S l)] ∧ l.length ≤ 1000000 ∧ Q (.int (l.length : Int)) H
theorem call_lenS : CallR X (.builtin "len") rLenSS := fun pins s σ H xs us Q I r h => by
  obtain ⟨l, e1, hz, q⟩ := h
  exact call_len_str pins s σ H xs us Q I r ⟨S l, e1, by rw [S_len]; exact Nat.le_trans hz (by decide), by rw [S_len]; exact q⟩
theorem i_lenSS {l : List Nat} (h1 : l.length ≤ 1000000) (h : Q (.int (l.length : Int)) H) : rLenSS [.str (S l)] H Q := ⟨l, rfl, h1, h⟩
def rStartS : V → List V → Hp → VK → Prop := fun x xs H Q => ∃ a b, x = .str (S a) ∧ xs = [.str (S b)] ∧ Q (.bl (decide (a.take b.length = b))) H
theorem mt_startsS : MtR X "str.startswith" rStartS := fun pins s σ H x xs v us Q I rx rv h => by
  obtain ⟨a, b, e1, e2, q⟩ := h
  exact mt_startswith pins s σ H x xs v us Q I rx rv ⟨S a, S b, e1, e2, by rw [starts_S]; exact q⟩
theorem i_startS {a b : List Nat} (h : Q (.bl (decide (a.take b.length = b))) H) : rStartS (.str (S a)) [.str (S b)] H Q := ⟨a, b, rfl, rfl, h⟩
def rInSg : R2 := fun x y H Q => ∃ (c : Nat) (z : Str), x = .str (S [c]) ∧ y = .str z ∧ Q (.bl (decide (c ∈ z.cps.toList))) H
theorem op_inSg : OpR X (compareOp .In) rInSg := op_in_sign
theorem i_inSg {c : Nat} {z : Str} (h : Q (.bl (decide (c ∈ z.cps.toList))) H) : rInSg (.str (S [c])) (.str z) H Q := ⟨c, z, rfl, rfl, h⟩
def rAbs : List V → Hp → VK → Prop := fun xs H Q => ∃ i, xs = [.int i] ∧ Q (.int (if i < 0 then -i else i)) H
theorem call_absN : CallR X (.builtin "abs") rAbs := call_abs
theorem i_absN {i : Int} (h : Q (.int (if i < 0 then -i else i)) H) : rAbs [.int i] H Q := ⟨i, rfl, h⟩
def rMin2 : List V → Hp → VK → Prop := fun xs H Q => ∃ i j, xs = [.int i, .int j] ∧ Q (.int (if j < i then j else i)) H
theorem call_min2N (hc : X.calm = true) : CallR X (.builtin "min") rMin2 := call_min2 hc
theorem i_min2 {i j : Int} (h : Q (.int (min i j)) H) : rMin2 [.int i, .int j] H Q := ⟨i, j, rfl, by
  by_cases c : j < i
  · rw [if_pos c]; rw [show min i j = j by omega] at h; exact h
  · rw [if_neg c]; rw [show min i j = i by omega] at h; exact h⟩
def rMax2 : List V → Hp → VK → Prop := fun xs H Q => ∃ i j, xs = [.int i, .int j] ∧ Q (.int (if j > i then j else i)) H
theorem call_max2N (hc : X.calm = true) : CallR X (.builtin "max") rMax2 := call_max2 hc
theorem i_max2 {i j : Int} (h : Q (.int (max i j)) H) : rMax2 [.int i, .int j] H Q := ⟨i, j, rfl, by
  by_cases c : j > i
  · rw [if_pos c]; rw [show max i j = j by omega] at h; exact h
  · rw [if_neg c]; rw [show max i j = i by omega] at h; exact h⟩
def rMin3 : List V → Hp → VK → Prop := fun xs H Q => ∃ i j k, xs = [.int i, .int j, .int k] ∧ Q (.int (min (min i j) k)) H
theorem nuMin2_int (i j : Int) : nuMin2 (.int i) (.int j) = some (.int (min i j)) := by
  show some (if decide (j < i) = true then V.int j else V.int i) = some (.int (min i j))
  by_cases c : j < i
  · rw [decide_eq_true c, if_pos rfl, show min i j = j by omega]
  · rw [decide_eq_false c, if_neg Bool.false_ne_true, show min i j = i by omega]
theorem call_min3N (hc : X.calm = true) : CallR X (.builtin "min") rMin3 := fun pins s σ H xs us Q I r h => by
  obtain ⟨i, j, k, e1, q⟩ := h
  exact call_min3Nu hc pins s σ H xs us Q I r ⟨_, _, _, _, e1, by unfold nuMin3; rw [nuMin2_int]; show nuMin2 (.int (min i j)) (.int k) = _; rw [nuMin2_int], q⟩
theorem i_min3 {i j k : Int} (h : Q (.int (min (min i j) k)) H) : rMin3 [.int i, .int j, .int k] H Q := ⟨i, j, k, rfl, h⟩
def rInt : List V → Hp → VK → Prop := fun xs H Q => (∃ i, xs = [.int i] ∧ Q (.int i) H) ∨ ∃ k, xs = [.bl k] ∧ Q (.int (if k then 1 else 0)) H
theorem call_intN : CallR X (.type "int") rInt := call_int1
theorem i_intN {i : Int} (h : Q (.int i) H) : rInt [.int i] H Q := .inl ⟨i, rfl, h⟩
theorem i_intNB {k : Bool} (h : Q (.int (if k then 1 else 0)) H) : rInt [.bl k] H Q := .inr ⟨k, rfl, h⟩
def rLenQ (K : PySem.W.Frag) : List V → Hp → VK → Prop := fun xs H Q => ∃ p ys, xs = [.ref p] ∧ (SqL K H p ys ∨ SqT K H p ys) ∧ Q (.int ys.length) H
theorem call_lenQ : CallR X (.builtin "len") (rLenQ X.K) := call_len_seq
theorem i_lenL {p : Addr} {ys : List V} (h1 : H p = some (.lst ys)) (h : Q (.int ys.length) H) : rLenQ K [.ref p] H Q := ⟨p, ys, rfl, .inl (sqL_of h1), h⟩
theorem i_lenT {p : Addr} {ys : List V} (h1 : H p = some (.tup ys)) (h : Q (.int ys.length) H) : rLenQ K [.ref p] H Q := ⟨p, ys, rfl, .inr (sqT_of h1), h⟩
theorem i_lenK {p : Addr} {ys : List V} (h1 : SqL K H p ys) (h : Q (.int ys.length) H) : rLenQ K [.ref p] H Q := ⟨p, ys, rfl, .inl h1, h⟩
theorem dec_inj {α β : Type} [DecidableEq α] [DecidableEq β] {f : α → β} (hf : ∀ a b, f a = f b → a = b) (a b : α) : decide (f a = f b) = decide (a = b) := by
  by_cases h : a = b
  · subst h; simp
  · rw [decide_eq_false h, decide_eq_false (fun e => h (hf a b e))]
theorem dec_I (a b : Int) : decide (V.int a = V.int b) = decide (a = b) := dec_inj (fun _ _ e => V.int.inj e) a b
theorem i_eqI {a b : Int} (h : Q (.bl (decide (a = b))) H) : rEq (.int a) (.int b) H Q := ⟨rfl, by rw [dec_I]; exact h⟩
theorem i_neI {a b : Int} (h : Q (.bl (!decide (a = b))) H) : rNe (.int a) (.int b) H Q := ⟨rfl, by rw [dec_I]; exact h⟩
theorem i_eqS {a b : List Nat} (h : Q (.bl (decide (a = b))) H) : rEq (.str (S a)) (.str (S b)) H Q := ⟨rfl, by rw [S_dec]; exact h⟩
theorem i_neS {a b : List Nat} (h : Q (.bl (!decide (a = b))) H) : rNe (.str (S a)) (.str (S b)) H Q := ⟨rfl, by rw [S_dec]; exact h⟩
def rIsNo : R2 := fun x y H Q => y = .non ∧ Q (.bl (decide (x = .non))) H
theorem op_isNo : OpR X (compareOp .Is) rIsNo := op_isN
theorem i_isNoI {i : Int} (h : Q (.bl false) H) : rIsNo (.int i) .non H Q := ⟨rfl, h⟩
theorem i_isNoN (h : Q (.bl true) H) : rIsNo .non .non H Q := ⟨rfl, h⟩
theorem i_isNoR {a : Addr} (h : Q (.bl false) H) : rIsNo (.ref a) .non H Q := ⟨rfl, h⟩
def rRepI : List V → Hp → VK → Prop := fun xs H Q => ∃ i, xs = [.int i] ∧ i.natAbs.log2 < 1920 ∧ Q (.str (toString i)) H
theorem call_repI : CallR X (.builtin "repr") rRepI := SkE.call_repr_int
end
theorem walk_S {l : List Nat} : Walk (Its (S l)) l.length (fun _ => True) (fun i H v H' => H' = H ∧ ∃ c, l[i]? = some c ∧ v = .str (S [c])) := by
  have w := walk_str (z := S l)
  rw [S_size] at w
  exact w.mono (fun _ _ => trivial) fun i H x H' _ _ y => by
    obtain ⟨e, c, hc, ev⟩ := y
    rw [S_get] at hc
    exact ⟨e, c, hc, ev⟩
theorem walk_eS {l : List Nat} : Walk (ItE (S l)) l.length (fun _ => True) (fun i H v H' => ∃ T c, v = .ref T ∧ H T = none ∧ l[i]? = some c ∧ H' = upd H T (.tup [.int (i : Nat), .str (S [c])])) := by
  have w := walk_enumS (x := S l)
  rw [S_size] at w
  exact w.mono (fun _ _ => trivial) fun i H x H' _ _ y => by
    obtain ⟨T, c, e, n, hc, eh⟩ := y
    rw [S_get] at hc
    exact ⟨T, c, e, n, hc, eh⟩
theorem go_while {c : TT} {tb : TS} {D : Ends} {σ : L2.St} {H : Hp} (Pv : Nat → L2.St → Hp → Prop) (m0 : Nat) (h0 : Pv m0 σ H)
    (hs : ∀ m σ H, Pv m σ H → c σ H fun b H1 => if b = true then ∃ N : L2.St → Hp → Prop, (∀ σ' H', N σ' H' → ∃ m', m' < m ∧ Pv m' σ' H') ∧ tb { D with nx := N, ct := N, bk := D.nx } σ H1 else D.nx σ H1) : tWhile c tb D σ H :=
  ⟨Pv, ⟨m0, h0⟩, hs⟩
theorem next_turn {m : Nat} {Pv : Nat → L2.St → Hp → Prop} {A : (L2.St → Hp → Prop) → Prop} (h : A fun σ' H' => ∃ m', m' < m ∧ Pv m' σ' H') : ∃ N : L2.St → Hp → Prop, (∀ σ' H', N σ' H' → ∃ m', m' < m ∧ Pv m' σ' H') ∧ A N := ⟨_, fun _ _ q => q, h⟩
def rRevS : V → Hp → VK → Prop := fun x H Q => ∃ l, x = .str (S l) ∧ l.length ≤ sizeLine ∧ Q (.str (S l.reverse)) H
theorem i_revS {te : TE} {σ : L2.St} {H : Hp} {Q : VK} (h : te σ H fun x H1 => rRevS x H1 Q) : tRevS te σ H Q := h
theorem i_revSS {l : List Nat} {H : Hp} {Q : VK} (h1 : l.length ≤ 1000000) (h : Q (.str (S l.reverse)) H) : rRevS (.str (S l)) H Q := ⟨l, rfl, Nat.le_trans h1 (by decide), h⟩
theorem i_cut {t u : TS} {D : Ends} {σ : L2.St} {H : Hp} (Mid : L2.St → Hp → Prop) (h1 : t { D with nx := Mid } σ H) (h2 : ∀ σ' H', Mid σ' H' → u D σ' H') : C8.tCut t u D σ H := ⟨Mid, h1, h2⟩
theorem i_minL {K : PySem.W.Frag} {p : Addr} {ns : List Int} {H : Hp} {Q : VK} (h1 : H p = some (.lst (ns.map V.int))) (h2 : 0 < ns.length) (h : ∀ m, m ∈ ns → (∀ y, y ∈ ns → m ≤ y) → Q (.int m) H) : rMin K [.ref p] H Q := ⟨p, ns, rfl, sqL_of h1, h2, h⟩
/-- one half of an if: what is appended, or nothing -/
theorem i_chainLL {g : Int → Int → Bool} {g' : Int → Int → Bool} {σ : L2.St} {H : Hp} {R : Bool → Hp → Prop} {i j k : Int}
    (h : R (g i j && g' j k) H) : rI0 (fun a b => .bl (g a b)) (.int i) (.int j) H fun z H3 => ∃ c, z = .bl c ∧ (if c = true then rI0 (fun a b => .bl (g' a b)) (.int j) (.int k) H3 fun x H4 => ∃ d, x = .bl d ∧ R d H4 else ∃ d, V.bl false = .bl d ∧ R d H3) := by
  refine ⟨i, j, rfl, rfl, g i j, rfl, ?_⟩
  cases e : g i j with
  | true => rw [e] at h; exact iteT ⟨j, k, rfl, rfl, g' j k, rfl, h⟩
  | false => rw [e] at h; exact iteF ⟨false, rfl, h⟩
theorem walk_rangeZ {n : Nat} : Walk (Itr 0 n) n (fun _ => True) (YFn fun i => .int (i : Int)) :=
  (walk_range (lo := 0) (n := n)).mono (fun _ h => h) fun i H x H' _ _ y => ⟨y.1, by rw [y.2]; show V.int (0 + (i : Int)) = V.int (i : Int); rw [Int.zero_add]⟩
theorem i_ixLI {K : PySem.W.Frag} {p : Addr} {ns : List Int} {i v : Int} {H : Hp} {Q : VK} (h1 : H p = some (.lst (ns.map V.int))) (h0 : 0 ≤ i) (h2 : ns[i.toNat]? = some v) (h : Q (.int v) H) : rIxL K (.ref p) (.int i) H Q := by
  refine i_ixLH h1 ?_ h
  have e := atI_nat (xs := ns.map V.int) (j := i.toNat) (v := .int v) (by rw [List.getElem?_map, h2]; rfl)
  rwa [show ((i.toNat : Nat) : Int) = i by omega] at e
theorem i_ixSI {l : List Nat} {i : Int} {c : Nat} {H : Hp} {Q : VK} (h0 : 0 ≤ i) (h2 : l[i.toNat]? = some c) (h1 : l.length ≤ 1000000) (h : Q (.str (S [c])) H) : rIxSS (.str (S l)) (.int i) H Q := by
  refine i_ixSS h1 ?_ h
  have e := atI_nat (xs := l) (j := i.toNat) (v := c) h2
  rwa [show ((i.toNat : Nat) : Int) = i by omega] at e
theorem i_appI {p : Addr} {ns : List Int} {v : Int} {H : Hp} {Q : VK} (h1 : H p = some (.lst (ns.map V.int))) (h2 : ns.length ≤ 1000000) (h : Q .non (upd H p (.lst ((ns ++ [v]).map V.int)))) : rAppend (.ref p) [.int v] H Q := by
  refine i_append h1 (by rw [List.length_map]; exact Nat.lt_of_le_of_lt h2 (by decide)) ?_
  rw [List.map_append] at h
  exact h
theorem i_gTupH {K : PySem.W.Frag} {n : Nat} {t : TGs} {a : Addr} {xs : List V} {σ : L2.St} {H : Hp} {R : L2.St → Hp → Prop} (h1 : H a = some (.tup xs)) (h2 : xs.length = n) (h : t xs σ H R) : gTup K n t (.ref a) σ H R := ⟨a, xs, rfl, sqT_of h1, h2, h⟩
theorem join_S (ws : List (List Nat)) : Txt.join (S []) (ws.map S) = S ws.flatten := by
  unfold Txt.join
  rw [StrLaws.glued_eq_join]
  induction ws with
  | nil => rfl
  | cons w ws ih =>
    cases ws with
    | nil => simp [Str.join]
    | cons v ws =>
      show S w ++ S [] ++ Str.join (S []) ((v :: ws).map S) = _
      rw [ih, S_app, S_app, List.append_nil]
      rfl
theorem sum_lens (ws : List (List Nat)) : ((ws.map S).map (·.length)).sum = ws.flatten.length := by
  induction ws with
  | nil => rfl
  | cons w ws ih =>
    rw [List.map_cons, List.map_cons, List.sum_cons, ih, List.flatten_cons, List.length_append, S_len]
def rJoinS (K : PySem.W.Frag) : V → List V → Hp → VK → Prop := fun x xs H Q => ∃ p, ∃ ws : List (List Nat), x = .str (S []) ∧ xs = [.ref p] ∧ (SqL K H p (ws.map fun l => .str (S l)) ∨ SqT K H p (ws.map fun l => .str (S l))) ∧ ws.flatten.length ≤ 1000000 ∧ Q (.str (S ws.flatten)) H
theorem mt_joinS {X : Cx} : MtR X "str.join" (rJoinS X.K) := fun pins s σ H x xs v us Q I rx rv h => by
  obtain ⟨p, ws, e1, e2, hp, hl, q⟩ := h
  have e3 : (ws.map fun l => V.str (S l)) = (ws.map S).map V.str := by rw [List.map_map]; rfl
  rw [e3] at hp
  refine mt_join pins s σ H x xs v us Q I rx rv ⟨S [], p, ws.map S, e1, e2, hp, ?_, by rw [join_S]; exact q⟩
  rw [sum_lens, show (S []).length = 0 from rfl, Nat.mul_zero, Nat.add_zero]
  omega
theorem i_joinS {K : PySem.W.Frag} {p : Addr} {ws : List (List Nat)} {H : Hp} {Q : VK} (h1 : H p = some (.lst (ws.map fun l => .str (S l)))) (h2 : ws.flatten.length ≤ 1000000) (h : Q (.str (S ws.flatten)) H) : rJoinS K (.str (S [])) [.ref p] H Q :=
  ⟨p, ws, rfl, rfl, .inl (sqL_of h1), h2, h⟩
theorem atI_neg1 {α : Type} {xs : List α} {v : α} {n : Nat} (h : xs.length = n + 1) (h2 : xs[n]? = some v) : atI xs (-1) = some v := by
  have e : xs = xs.dropLast ++ [v] := by
    have hne : xs ≠ [] := by intro z; rw [z] at h; cases h
    have := List.dropLast_concat_getLast hne
    have e2 : xs.getLast hne = v := by
      rw [List.getLast_eq_getElem]
      have := List.getElem?_eq_some_iff.mp h2
      obtain ⟨_, q⟩ := this
      simpa [h] using q
    rw [e2] at this
    exact this.symm
  rw [e]
  exact atI_last _ _
theorem i_ixLv {K : PySem.W.Frag} {p : Addr} {xs : List V} {i : Int} {v : V} {H : Hp} {Q : VK} (h1 : H p = some (.lst xs)) (h0 : 0 ≤ i) (h2 : xs[i.toNat]? = some v) (h : Q v H) : rIxL K (.ref p) (.int i) H Q := by
  refine i_ixLH h1 ?_ h
  have e := atI_nat (xs := xs) (j := i.toNat) (v := v) h2
  rwa [show ((i.toNat : Nat) : Int) = i by omega] at e
theorem i_rU {g : Int → V} {i : Int} {H : Hp} {Q : VK} (h : Q (g i) H) : rU g (.int i) H Q := ⟨i, rfl, h⟩
end Sw
namespace Sw
open PySem PySem.Spec PyProof.Rows L2
/-! ### t[::-1] of a tuple -/
theorem back_adjust (n : Nat) : Builtin.Slice.sliceAdjust none none (-1) (n : Int) = ((n : Int) - 1, -1) := by
  unfold Builtin.Slice.sliceAdjust
  simp
theorem back_places (n : Nat) : Builtin.Slice.slicePlaces ((n : Int) - 1) (-1) (-1) = n := by
  unfold Builtin.Slice.slicePlaces
  simp only [show ¬ ((-1 : Int) > 0) by decide, if_false]
  split <;> simp <;> omega
theorem fm_congr {α β : Type} {f g : α → Option β} : ∀ {l : List α}, (∀ a ∈ l, f a = g a) → l.filterMap f = l.filterMap g
  | [], _ => rfl
  | a :: l, h => by
    rw [List.filterMap_cons, List.filterMap_cons, h a List.mem_cons_self, fm_congr fun b hb => h b (List.mem_cons_of_mem _ hb)]
theorem back_pick {α : Type} (l : List α) : ((List.range l.length).filterMap fun (k : Nat) => l.toArray[(((l.length : Int) - 1) + (k : Int) * (-1)).toNat]?) = l.reverse := by
  have e : ∀ k ∈ List.range l.length, l.toArray[(((l.length : Int) - 1) + (k : Int) * (-1)).toNat]? = l.reverse[k]? := by
    intro k hk
    have hk := List.mem_range.mp hk
    rw [List.getElem?_reverse hk, List.getElem?_toArray]
    congr 1
    omega
  rw [fm_congr e]
  have h2 : ∀ m : List α, (List.range m.length).filterMap (fun k => m[k]?) = m := by
    intro m
    induction m with
    | nil => rfl
    | cons a m ih =>
      rw [List.length_cons, List.range_succ_eq_map, List.filterMap_cons, List.filterMap_map]
      show a :: List.filterMap ((fun k => (a :: m)[k]?) ∘ Nat.succ) (List.range m.length) = a :: m
      congr 1
  have := h2 l.reverse
  rwa [List.length_reverse] at this
theorem getItem_tuple_back {prog : Program} {w : World} {A : Around} {E : Value → Shared → Prop} {s : Shared} {t sl : Addr} {ys : List Value} {u : Tok} {Q : Value → Shared → Prop} (ht : IsTup s.heap t ys.toArray)
    (hs : ∃ os, s.heap.get? sl = some os ∧ os.cls = .type "slice" ∧ os.data = .fields #[.none, .none, .int (-1) u])
    (h : Q (.ref s.heap.objs.size) { s with heap := s.heap.push { cls := .type "tuple", data := .seq ys.reverse.toArray } }) (hz : ys.length ≤ sizeLine) : wpAny (model prog w) A (getItem (.ref t) (.ref sl)) Q E s := by
  have hno' : sizeOk (.seq ys.reverse.toArray) := by
    show ys.reverse.toArray.size ≤ sizeLine
    rw [List.size_toArray, List.length_reverse]
    exact hz
  obtain ⟨os, hos, hcs, hds⟩ := hs
  have hTs : s.TypeIs (.ref sl) "slice" := ⟨os, hos, hcs⟩
  unfold getItem
  try with_reducible refine wpAny_holding ?_
  first | refine wpAny_bind (wpAny_pure ?_) | skip
  refine wpAny_bind (wpAny_sequenceKey ht.typeIs (by decide) ?_)
  refine wpAny_bind (wpAny_callSpecial?_slot (name := Str.ofString "__getitem__") ht.typeIs PyProof.Rows.slot_tuple_getitem (wpAny_call_entry PyProof.Rows.slot_tuple_getitem ht.typeIs entry_tuple_getitem ?_ (args_tuple_getitem _ _)))
  show wpAny _ _ (Builtin.Tuple.tupleItemsOf (.ref t) >>= _) _ _ s
  refine wpAny_bind (tupleItemsOf_ ht ?_)
  refine wpAny_bind (wpAny_typeOf hTs ?_)
  rw [if_pos (by decide)]
  have ap : ∀ {R : Int × Int × Nat → Shared → Prop}, R (((ys.toArray.size : Nat) : Int) - 1, -1, ys.toArray.size) s → wpAny (model prog w) A.in1 (Builtin.Slice.sliceApplied (.ref sl) (pure ((ys.toArray.size : Nat) : Int))) R E s := by
    intro R hR
    unfold Builtin.Slice.sliceApplied Builtin.Slice.sliceFields
    refine wpAny_bind (wpAny_bind (wpAny_field hos hds (x := .none) rfl (wpAny_bind (wpAny_field hos hds (x := .none) rfl (wpAny_bind (wpAny_field hos hds (x := .int (-1) u) rfl (wpAny_pure ?_)))))))
    refine wpAny_bind (slicePart_int ?_)
    show wpAny _ _ (if ((-1 : Int) == 0) = true then _ else _) _ _ s
    rw [if_neg (by decide)]
    refine wpAny_bind (slicePart_none (wpAny_bind (slicePart_none (wpAny_bind (wpAny_pure ?_)))))
    show wpAny _ _ (match Builtin.Slice.sliceAdjust none none (-1) ((ys.toArray.size : Nat) : Int) with | (lo, hi) => pure (lo, (-1 : Int), Builtin.Slice.slicePlaces lo hi (-1))) _ _ s
    rw [back_adjust]
    show wpAny _ _ (pure (((ys.toArray.size : Nat) : Int) - 1, (-1 : Int), Builtin.Slice.slicePlaces (((ys.toArray.size : Nat) : Int) - 1) (-1) (-1))) _ _ s
    rw [back_places]
    exact wpAny_pure hR
  refine wpAny_bind (ap ?_)
  show wpAny _ _ (if (((ys.toArray.size : Nat) : Int) - 1 == 0 && (-1 : Int) == 1 && ys.toArray.size == ys.toArray.size) = true then _ else _) _ _ s
  rw [if_neg (by simp)]
  have e := back_pick ys
  rw [show ys.length = ys.toArray.size from List.size_toArray.symm] at e
  rw [e]
  first
    | exact wpAny_bind (m := Builtin.Tuple.tupleExact _) (wpAny_newObj_type (wpAny_pure ⟨_, rfl, wpAny_pure h⟩) hno')
    | exact wpAny_bind (m := Builtin.Tuple.tupleExact _) (wpAny_newObj_type (wpAny_bind (wpAny_pure (wpAny_pure ⟨_, rfl, wpAny_pure h⟩))) hno')
    | exact wpAny_bind (wpAny_bind (m := Builtin.Tuple.tupleExact _) (wpAny_newObj_type (wpAny_pure (wpAny_pure ⟨_, rfl, wpAny_pure h⟩)) hno'))
def tRevT (K : PySem.W.Frag) (te : TE) : TE := fun σ H Q => te σ H fun x H1 => ∃ a xs, x = .ref a ∧ SqT K H1 a xs ∧ ∀ p, H1 p = none → Q (.ref p) (upd H1 p (.tup xs.reverse))
theorem Vals.back {xs : List V} {us : List Value} (r : Vals xs us) : Vals xs.reverse us.reverse := by
  induction r with
  | nil => exact .nil
  | cons r1 _ ih =>
    rw [List.reverse_cons, List.reverse_cons]
    exact ih.append (.cons r1 .nil)
theorem pe_revT {X : Cx} {e : Expr} {te : TE} {k : Nat} {p1 p2 p3 pos : Pos} (he : PE X e te) :
    PE X (.Subscript e (.Slice none none (some (.UnaryOp .USub (.Constant (.int 1) k p1) p2)) p3) pos) (tRevT X.K te) := by
  constructor
  intro pins s σ H Q I h
  refine Subscript_ (thn (he.run pins s σ H _ I h) fun v s1 ⟨x, H1, I1, r1, a, xs, ex, hx, q⟩ => ?_)
  subst ex
  cases r1
  have st : PO X (some (.UnaryOp .USub (.Constant (.int 1) k p1) p2)) (tPart (tUn (rU fun i => .int (-i)) (tC (.int 1)))) := po_some (pe_un un_neg pe_int)
  refine wpAny_Slice (thn (po_none.run pins s1 σ H1 (fun o G => o = none ∧ G = H1) I1 ⟨rfl, rfl⟩) fun w1 s2 ⟨o1, G1, J1, z1, a1, b1⟩ => ?_)
  subst a1 b1
  refine thn (po_none.run pins s2 σ G1 (fun o G => o = none ∧ G = G1) J1 ⟨rfl, rfl⟩) fun w2 s3 ⟨o2, G2, J2, z2, a2, b2⟩ => ?_
  subst a2 b2
  refine thn (st.run pins s3 σ G2 (fun o G => o = some (-1) ∧ G = G2) J2 ⟨1, rfl, -1, rfl, rfl, rfl⟩) fun w3 s4 ⟨o3, G3, J3, z3, a3, b3⟩ => ?_
  subst a3 b3
  have J4 : Inv X pins σ G3 { s4 with heap := s4.heap.push { cls := .type "slice", data := .fields #[w1, w2, w3] } } := J3.kept (t' := s4.toks) fun b ob q => Heap.get?_push_of_some _ q
  obtain ⟨y1, rfl, f1⟩ := IsPart.raw z1
  obtain ⟨y2, rfl, f2⟩ := IsPart.raw z2
  obtain ⟨y3, rfl, f3⟩ := IsPart.raw z3
  cases y1 with
  | some y => cases f1
  | none =>
  cases y2 with
  | some y => cases f2
  | none =>
  cases y3 with
  | none => cases f3
  | some y =>
  obtain ⟨m, u⟩ := y
  have em : m = -1 := Option.some.inj f3
  subst em
  obtain ⟨its, r, ht, hz⟩ := J4.tuple hx
  refine tail_any (T := "tuple") (id := _) (ops := [.ref a, .ref s4.heap.objs.size]) ht.typeIs PyProof.Rows.slot_tuple_getitem.lookup ?_ (by with_unfolding_all rfl)
  have hz' : its.length ≤ sizeLine := by rw [← r.length]; exact hz
  refine getItem_tuple_back (u := u) ht ⟨_, Heap.get?_push_size _ rfl, rfl, rfl⟩ ?_ hz'
  refine ⟨.ref _, _, J4.laid (t' := s4.toks) (o := .tup xs.reverse) (fun b ob q => Heap.get?_push_of_some _ q) (Nat.le_refl _) ?_, rfl, q _ (J4.hok.fresh (Nat.le_refl _))⟩
  exact ⟨by rw [List.length_reverse]; exact hz, _, Vals.back r, IsTup.new _ _⟩
theorem i_revT {K : PySem.W.Frag} {te : TE} {σ : L2.St} {H : Hp} {Q : VK} (h : te σ H fun x H1 => ∃ a xs, x = .ref a ∧ SqT K H1 a xs ∧ ∀ p, H1 p = none → Q (.ref p) (upd H1 p (.tup xs.reverse))) : tRevT K te σ H Q := h
/-! ### text * int -/
def rMulS : R2 := fun x y H Q => ∃ (l : List Nat) (n : Nat), x = .str (S l) ∧ y = .int (n : Int) ∧ l.length ≤ 1000 ∧ n ≤ 1000 ∧ Q (.str (S (List.replicate n l).flatten)) H
theorem mul_S (l : List Nat) (n : Nat) : Txt.mul (S l) (n : Int) = S (List.replicate n l).flatten := by
  unfold Txt.mul
  by_cases h0 : n = 0
  · subst h0; simp [S, Str.empty]
  · rw [if_neg (by omega)]
    by_cases h1 : (((n : Int) == 1 || (S l).length == 0) = true)
    · rw [if_pos h1]
      rcases Bool.or_eq_true_iff.mp h1 with h1 | h1
      · have : n = 1 := by have := eq_of_beq h1; omega
        subst this; simp
      · have e : l = [] := by have := eq_of_beq h1; rw [S_len] at this; exact List.length_eq_zero_iff.mp this
        subst e
        simp
    · rw [if_neg h1]
      show (⟨(List.replicate n l.toArray).foldl (· ++ ·) #[]⟩ : Str) = ⟨(List.replicate n l).flatten.toArray⟩
      congr 1
      have : ∀ (m : Nat) (b : Array Nat), (List.replicate m l.toArray).foldl (· ++ ·) b = b ++ (List.replicate m l).flatten.toArray := by
        intro m
        induction m with
        | zero => intro b; simp
        | succ m ih =>
          intro b
          rw [List.replicate_succ, List.foldl_cons, ih, List.replicate_succ, List.flatten_cons]
          simp
      rw [this]
      simp
theorem op_mulS {X : Cx} : OpR X (binaryOp .Mult) rMulS := fun pins s σ H x y v u Q I rx ry h => by
  obtain ⟨l, n, rfl, rfl, h1, h2, q⟩ := h
  obtain ⟨t, rfl⟩ := rx
  obtain ⟨t', rfl⟩ := ry
  refine SB.mul ⟨?_, ?_, ?_⟩ fun t' tk => ⟨.str (S (List.replicate n l).flatten), H, I.tok _, ⟨_, by rw [mul_S]⟩, q⟩
  · rw [Bool.or_eq_false_iff]; exact ⟨decide_eq_false (by omega), decide_eq_false (by omega)⟩
  · intro hn _
    rw [S_len]
    have : (n : Int) * (l.length : Int) ≤ 2 ^ 63 - 1 := by
      have := Nat.mul_le_mul h2 h1
      have e : (n : Int) * (l.length : Int) = ((n * l.length : Nat) : Int) := by simp
      rw [e]; omega
    have := (Int.le_ediv_iff_mul_le (a := (l.length : Int)) (b := 2 ^ 63 - 1) (c := (n : Int)) (by omega)).mpr (by rw [Int.mul_comm]; exact this)
    omega
  · intro _ _
    rw [S_len, Int.toNat_natCast]
    have := Nat.mul_le_mul h1 h2
    unfold Builtin.Str.tooLong
    exact decide_eq_false (by rw [show sizeLine = 16777216 from rfl]; omega)
theorem i_mulS {l : List Nat} {n : Nat} {H : Hp} {Q : VK} (h1 : l.length ≤ 1000) (h2 : n ≤ 1000) (h : Q (.str (S (List.replicate n l).flatten)) H) : rMulS (.str (S l)) (.int (n : Int)) H Q := ⟨l, n, rfl, rfl, h1, h2, h⟩
/-! ### a def called by names alone -/
def tKw (sp : Sp) (gV : List V → List V → List V) (tk : TA) : TE := fun σ H Q => tk σ H fun zs H1 => sp (gV [] zs) H1 Q E0
section
variable (P : Program) (w : World) (K : PySem.W.Frag) (mg : Str → Option Value) (base : Heap)
def CalK (x : Str) (ps : List Str) (k : Nat) (sp : Sp) (ks : List Str) (g : List Value → List Value → List Value) (gV : List V → List V → List V) : Prop := ∃ (f : Addr) (fd : FuncData), FnOk P w K mg base CX0 k f fd ps sp ∧ mg x = some (.ref f) ∧ PySem.W.keepIn K (.ref f) = true ∧ KBinds K fd ps ks g gV
end
theorem Def.calK {P : Program} {w : World} {K : PySem.W.Frag} {mg : Str → Option Value} {base : Heap} {x : Str} {st : Stmt} {ps ks : List Str} {k : Nat} {sp : Sp} {g : List Value → List Value → List Value} {gV : List V → List V → List V} (d : Def K mg x st)
    (b : ∀ (kV doc pm : Value) (an : Option Addr) (cdv ct : Value) (us ws : List Value), (g us ws).length = ps.length → bindArgs (PySem.W.fnOf x x (defArgs st) (defBody st) (defScope st) .none kV doc pm an cdv ct) ⟨us, ks.zip ws⟩ = pure (ps.zip (g us ws)))
    (rel : ∀ {vs : List V} {us : List Value} {zs : List V} {ws : List Value}, Vals vs us → Vals zs ws → Vals (gV vs zs) (g us ws))
    (ok : ∀ (f : Addr) (fd : FuncData), Fun K x x st f fd → FnOk P w K mg base CX0 k f fd ps sp) : CalK P w K mg base x ps k sp ks g gV := by
  obtain ⟨f, fd, F, m⟩ := d
  have O := ok f fd F
  have kp := F.kp
  obtain ⟨oc, od, kV, doc, pm, an, cdv, ct, osl, rfl, lk, hcd⟩ := F.ex
  exact ⟨f, _, O, m, kp, fun s us ws _ hl => .of_eq (b kV doc pm an cdv ct us ws hl), rel⟩
section
variable {X : Cx} {x : Str} {ps ks : List Str} {k n : Nat} {sp : Sp} {g : List Value → List Value → List Value} {gV : List V → List V → List V} {kws : List Keyword} {tk : TA} {p pos : Pos}
theorem pe_calK (c : CalK X.prog X.w X.K X.mg X.base x ps k sp ks g gV) (hr : Room n X.A) (hkw : PK X kws tk) (hg : Gl X x := by rfl) (hk : k ≤ n := by decide)
    (hall : (backToKw pos (keywordEach kws X.env)).all (·.1.isSome) = true := by rfl) (hks : (backToKw pos (keywordEach kws X.env)).filterMap (·.1) = ks := by rfl) (hdb : (x == ("__debug__" : Str)) = false := by decide)
    (hpl : ((backTo pos (starEach [] X.env)).any (·.1) || (backToKw pos (keywordEach kws X.env)).any (·.1.isNone)) = false := by rfl) :
    PE X (.Call (.Name x p) [] kws pos) (tKw sp gV tk) := by
  obtain ⟨f, fd, F, m, kp, b⟩ := c
  refine ⟨fun pins s σ H Q I h => ?_⟩
  refine wpAny_Call_Name_kw (ld_glob I hg m ?_ hdb)
  refine PySem.W.callWith_KW0 (h₀ := X.base) I.ok.mod.kin kp hall (thn (hkw.run pos pins s σ H _ I h) fun ws s2 ⟨zs, H2, I2, rz, q2⟩ => ⟨I2.kIn, ?_⟩) hpl
  rw [hks]
  exact run_fnk F (hr.mono hk) b pass0 I2 .nil rz q2
theorem i_kw {σ : L2.St} {H : Hp} {Q : VK} (h : tk σ H fun zs H1 => sp (gV [] zs) H1 Q E0) : tKw sp gV tk σ H Q := h
end
end Sw
namespace Sw
open PySem PySem.Spec PyProof.Rows L2
/-! ### promises of defs that are called where nothing is being shown (repr) -/
structure FnG (P : Program) (w : World) (K : PySem.W.Frag) (mg : Str → Option Value) (base : Heap) (CX : CXT) (k : Nat) (f : Addr) (fd : FuncData) (ps : List Str) (sp : Sp) : Prop where
  len : ∀ xs M R X, sp xs M R X → xs.length = ps.length
  go : ∀ (A : Around) (out : List Env) (t : Shared) (M : Hp) (args : Args) (us : List Value) (xs : List V) (R : VK) (X : XK), Room k A → A.guards = some [] → Env0 P w K mg base A out t M → BindsTo t fd args (ps.zip us) → Vals xs us → sp xs M R X →
    codeAny (model P w) A (.call (.ref f) args) (CR CX out P w M t R X) t
section
variable {P : Program} {w : World} {K : PySem.W.Frag} {mg : Str → Option Value} {base : Heap} {CX : CXT} {k : Nat} {f : Addr} {fd : FuncData} {ps : List Str} {sp : Sp}
theorem FnG.of (F : FnOk P w K mg base CX k f fd ps sp) : FnG P w K mg base CX k f fd ps sp := ⟨F.len, fun A out t M args us xs R X room _ => F.run A out t M args us xs R X room⟩
theorem FnG.low {j : Nat} (F : FnG P w K mg base CX j f fd ps sp) (h : j ≤ k) : FnG P w K mg base CX k f fd ps sp := ⟨F.len, fun A out t M args us xs R X room => F.go A out t M args us xs R X (room.mono h)⟩
theorem Fun.okG {x qual : Str} {st : Stmt} {N : List Str} (F : Fun K x qual st f fd) (S : FnScope N ps (defScope st)) (len : ∀ xs M R X, sp xs M R X → xs.length = ps.length)
    (body : ∀ (cdv : Value) (A : Around) (out : List Env) (t : Shared) (M : Hp) (xs : List V) (R : VK) (X : XK), Room k (A.deeper (envOfC qual (defScope st) t.heap.objs.size f cdv)) → A.guards = some [] → sp xs M R X →
      ∃ r, PSs (cxOf CX P w K mg base N qual (defScope st) f cdv A out t M X) (defBody st) r ∧ r { nx := fun _ M' => R .non M', rt := R } (start N xs) M) : FnG P w K mg base CX (k + 1) f fd ps sp := by
  obtain ⟨oc, od, kV, doc, pm, an, cdv, ct, osl, rfl, found, coded⟩ := F.ex
  constructor
  · exact len
  intro A out t M args us xs R X room quiet env bind rel prom
  have count := len xs M R X prom
  have inHeap := env.mod.kin.keeps fun b o e => (env.bs b o e).1
  have quota := env.mod.nolimit.keeps fun b o e => (env.bs b o e).1
  have kinds : ∀ z ∈ ps.zip us, (defScope st).names.lookup z.1 = some .local ∨ ((defScope st).names.lookup z.1 = some .cell ∧ ((cellsFrom (t.heap.objs.size + 1) (defScope st).names []).lookup z.1).isSome = true) := by
    rintro ⟨n, v⟩ hz
    have hn := (List.of_mem_zip hz).1
    rcases S.par n hn with l | c
    · left; exact l
    · right; exact ⟨c, PySem.W.cellsFrom_some _ _ _ (.inl c)⟩
  apply codeAny_call_function room.depth (inHeap _ _ found) rfl S.co S.gen rfl (PySem.W.codeRec_of inHeap coded) (bind _ _ _ _ ?_)
  apply wpAny_newFunctionEnv_cells S.kind kinds
  intro env2 e2 t1 entry
  subst e2
  refine ⟨quota.keeps entry.toInCall.keep, codeAny_func ?_⟩
  obtain ⟨r, hr, runs⟩ := body cdv A out t M xs R X (room.deeper _) quiet prom
  have I := inv_start (CX := CX) (E := X) S room.hd env count rel entry
  apply wpAny_mono (hr.run [] t1 (start N xs) M _ I runs)
  · intro fl t' leaves
    cases fl with
    | ret u =>
      obtain ⟨v, σ', M', J, rv, q⟩ := leaves
      exact ⟨v, M', J.os, J.bare, J.base, J.hok, rv, q⟩
    | next =>
      obtain ⟨σ', M', J, q⟩ := leaves
      exact ⟨V.non, M', J.os, J.bare, J.base, J.hok, rfl, q⟩
    | brk => obtain ⟨_, _, _, q⟩ := leaves; exact q.elim
    | cont => obtain ⟨_, _, _, q⟩ := leaves; exact q.elim
  · exact fun _ _ z => z
end
section
variable {X : Cx} {ps : List Str} {k : Nat} {f : Addr} {fd : FuncData} {sp : Sp} {ds : List Value} {dvs : List V} {CX : CXT} {E : XK}
theorem run_G {pins : List (Addr × Obj)} {σ : L2.St} {M : Hp} {t : Shared} {R : VK} {us : List Value} {xs : List V} (F : FnG X.prog X.w X.K X.mg X.base CX k f fd ps sp) (room : Room k X.A) (quiet : X.A.guards = some []) (b : Binds X.K fd ps ds) (hd : Vals dvs ds) (px : Passes CX X E)
    (I : Inv X pins σ M t) (r : Vals xs us) (h : sp (xs ++ dvs) M R E) : wpAny (model X.prog X.w) X.A (call (.ref f) us) (EP X pins σ R) X.xe t := by
  have both := r.append hd
  have count : (us ++ ds).length = ps.length := both.length.symm.trans (F.len _ _ _ _ h)
  apply wpAny_call
  apply codeAny_mono (F.go X.A X.stack t M ⟨us, []⟩ (us ++ ds) (xs ++ dvs) R E room quiet I.env0 (b t us I.kIn count) both h)
  intro o t' q
  rcases o with e | fl
  · exact px pins σ M t e t' I q
  · cases fl with
    | ret u => exact I.after q
    | next => exact q.elim
    | brk => exact q.elim
    | cont => exact q.elim
end
section
variable (P : Program) (w : World) (K : PySem.W.Frag) (mg : Str → Option Value) (base : Heap)
def CalG (x : Str) (ps : List Str) (k : Nat) (sp : Sp) : Prop := ∃ (f : Addr) (fd : FuncData), FnG P w K mg base CX0 k f fd ps sp ∧ mg x = some (.ref f) ∧ PySem.W.keepIn K (.ref f) = true ∧ Binds K fd ps []
end
theorem Def.calG {P : Program} {w : World} {K : PySem.W.Frag} {mg : Str → Option Value} {base : Heap} {x : Str} {st : Stmt} {ps : List Str} {k : Nat} {sp : Sp} (d : Def K mg x st)
    (b : ∀ (kV doc pm : Value) (an : Option Addr) (cdv ct : Value) (us : List Value), us.length = ps.length → bindArgs (PySem.W.fnOf x x (defArgs st) (defBody st) (defScope st) .none kV doc pm an cdv ct) ⟨us, []⟩ = pure (ps.zip us))
    (ok : ∀ (f : Addr) (fd : FuncData), Fun K x x st f fd → FnG P w K mg base CX0 k f fd ps sp) : CalG P w K mg base x ps k sp := by
  obtain ⟨f, fd, F, m⟩ := d
  exact ⟨f, fd, ok f fd F, m, F.kp, F.binds b⟩
theorem pe_calG {X : Cx} {x : Str} {ps : List Str} {k n : Nat} {sp : Sp} {e : Expr} {es : List Expr} {t : TA} {p pos : Pos} (c : CalG X.prog X.w X.K X.mg X.base x ps k sp) (hr : Room n X.A) (quiet : X.A.guards = some []) (ha : PA X (e :: es) t) (hg : Gl X x := by rfl) (hk : k ≤ n := by decide)
    (hdb : (x == ("__debug__" : Str)) = false := by decide) (he : starEach (e :: es) X.env = (false, eval e X.env) :: starEach es X.env := by rfl) (hpl : (backTo pos (starEach es X.env)).any (·.1) = false := by rfl) :
    PE X (.Call (.Name x p) (e :: es) [] pos) (tCall sp [] E0 t) := by
  obtain ⟨f, fd, F, m, kp, b⟩ := c
  constructor
  intro pins s σ M R I h
  apply wpAny_Call_Name_kw (ld_glob I hg m ?_ hdb)
  exact PySem.W.callWith_K (h₀ := X.base) I.ok.mod.kin kp (thn (ha.run pos pins s σ M _ I h) fun us s1 ⟨xs, M1, I1, r, q⟩ => ⟨I1.kIn, run_G F (hr.mono hk) quiet b .nil pass0 I1 r q⟩) he hpl
/-! ### repr of data -/
def rRepD (K : PySem.W.Frag) : List V → Hp → VK → Prop := fun xs M R => ∃ x d, xs = [x] ∧ Dp K M x d ∧ d.showable = true ∧ d.hasDict = false ∧ d.depth ≤ 60 ∧ d.shown.length ≤ sizeLine ∧ R (.str d.shown) M
theorem call_repD {X : Cx} (quiet : X.A.guards = some []) (hu : X.A.units + 64 < cLine) : CallR X (.builtin "repr") (rRepD X.K) := by
  intro pins s σ M xs us R I r h
  obtain ⟨x, d, rfl, hd, sh, nd, dp, sz, q⟩ := h
  obtain ⟨u, rfl, ru⟩ := vals1 r
  obtain ⟨as, rd⟩ := Dp.reads I d x u hd ru
  cases hd with
  | non =>
    cases ru
    exact PySem.P.repr_of_none ⟨.str (PyData.shown .none), M, I.tok _, ⟨_, by simp only [PyData.shown]; rfl⟩, q⟩
  | bl b =>
    cases ru
    exact PySem.P.repr_of_bool ⟨.str (PyData.shown (.bool b)), M, I.tok _, ⟨_, by simp only [PyData.shown]; rfl⟩, q⟩
  | int i =>
    obtain ⟨t, rfl⟩ := ru
    exact PySem.P.repr_of_int (of_decide_eq_true (by simpa only [PyData.showable] using sh)) ⟨.str (PyData.shown (.int i)), M, I.tok _, ⟨_, by simp only [PyData.shown]; rfl⟩, q⟩
  | str z =>
    obtain ⟨t, rfl⟩ := ru
    exact PySem.P.repr_of_str ⟨.str (PyData.shown (.str z)), M, I.tok _, ⟨_, by simp only [PyData.shown]; rfl⟩, q⟩ (by simpa only [PyData.shown] using sz)
  | lst h1 h2 =>
    cases ru
    exact repr_of_reads' rd sh (PyData.noDict_hsm nd) quiet (by omega) (fun _ _ e => e) (fun h' t tk keep => ⟨.str _, M, I.kept (t' := tk) keep, ⟨t, rfl⟩, q⟩) sz
  | tup h1 h2 =>
    cases ru
    exact repr_of_reads' rd sh (PyData.noDict_hsm nd) quiet (by omega) (fun _ _ e => e) (fun h' t tk keep => ⟨.str _, M, I.kept (t' := tk) keep, ⟨t, rfl⟩, q⟩) sz
end Sw
namespace Sw
open PySem PySem.Spec PyProof.Rows L2
/-! ### the end of a law whose def is called where nothing is being shown -/
theorem law_G {P : Program} {w : World} {K : PySem.W.Frag} {mg mb : Str → Option Value} {k : Nat} {fa a : Addr} {fd : FuncData} {x : Str} {sp : Sp} {t : Shared} {vs : List Value} {ns : List Int}
    (inK : K.In t.heap) (gl : t.heap.Ns mainGlobals mg) (bl : t.heap.Ns builtinsNs mb) (bb : ∀ y : Str, y ≠ "__name__" → mb y = bootBuiltins y) (lim : t.heap.NoLimit) (quietGens : t.gens = #[])
    (script : t.heap.get? a = some { cls := .type "list", data := .seq vs.toArray }) (nums : IntsAre vs ns) (short : ns.length ≤ sizeLine) (room : Room k callerA)
    (F : ∀ base : Heap, K.In base → base.Ns mainGlobals mg → FnG P w K mg base CX0 k fa fd [x] sp) (bind : ∀ (s : Shared) (u : Value), BindsTo s fd ⟨[u], []⟩ [(x, u)])
    (prom : ∀ M : Hp, Only M → SqL K M a (ns.map V.int) → sp [.ref a] M (fun v _ => v = .bl true) E0) :
    codeAny (model P w) callerA (.call (.ref fa) ⟨[.ref a], []⟩) (fun r s' => r = .ok (.ret (.bool true)) ∧ OldK t.heap s'.heap ∧ s'.os = t.os ∧ AllBare s'.gens) t := by
  have vals := vals_ints nums
  have sameLen := nums.length
  -- tracked: the script alone, and only if the module does not hold it already
  let M : Hp := fun b => if b = a ∧ K.lookup a = none then some (.frz { cls := .type "list", data := .seq vs.toArray } (.lst (ns.map V.int))) else none
  have at_a : ∀ {b : Addr} {o : HO}, M b = some o → b = a ∧ K.lookup a = none ∧ o = .frz { cls := .type "list", data := .seq vs.toArray } (.lst (ns.map V.int)) := by
    intro b o q
    by_cases c : b = a ∧ K.lookup a = none
    · have q' := (if_pos c).symm.trans q
      exact ⟨c.1, c.2, (Option.some.inj q').symm⟩
    · have q' := (if_neg c).symm.trans q
      cases q'
  have only : Only M := by
    intro b
    by_cases c : b = a ∧ K.lookup a = none
    · right; exact ⟨_, _, if_pos c⟩
    · left; exact if_neg c
  have ok : HOk P w M t.heap := by
    intro b o q
    obtain ⟨rfl, _, rfl⟩ := at_a q
    exact ⟨script, by rw [List.length_map]; exact short, vs, _, vals, script⟩
  have known : SqL K M a (ns.map V.int) := by
    cases hk : K.lookup a with
    | none => exact .inl (.inr ⟨_, if_pos ⟨rfl, hk⟩⟩)
    | some o =>
      have e := inK a o hk
      rw [script] at e
      cases e
      exact .inr ⟨_, vs.toArray, _, hk, rfl, rfl, rfl, by rw [List.size_toArray, sameLen]; exact short, by simpa using vals⟩
  have under : ∀ {b : Addr} {o : Obj}, t.heap.get? b = some o → M b = none → (hidT t.heap M).get? b = some o := fun e n => hidT_get e n
  have dictFree : ∀ {b : Addr} {o : Obj} {es : Array DictEntry} {n : Nat}, t.heap.get? b = some o → o.data = .dict es n → M b = none := by
    intro b o es n e hd
    rcases q : M b with _ | u
    · rfl
    · obtain ⟨rfl, _, _⟩ := at_a q
      rw [script] at e
      cases e
      cases hd
  have names : ∀ {b : Addr} {m : Str → Option Value}, t.heap.Ns b m → (hidT t.heap M).Ns b m := by
    rintro b m ⟨o, es, n, e, hd, r⟩
    exact ⟨o, es, n, under e (dictFree e hd), hd, r⟩
  have baseIn : K.In (hidT t.heap M) := by
    intro b o e
    apply under (inK b o e)
    rcases q : M b with _ | u
    · rfl
    · obtain ⟨rfl, no, _⟩ := at_a q
      rw [no] at e
      cases e
  obtain ⟨mc, lim1, lim2⟩ := lim
  have env : Env0 P w K mg (hidT t.heap M) callerA [] t M :=
    ⟨rfl, ⟨baseIn, names gl, ⟨mb, names bl, bb⟩, ⟨mc, names lim1, lim2⟩⟩, fun b o e => of_hidT e, Nat.le_of_eq (hidT_size _ _), trivial, (fun b z => by have y : b ∈ ([] : List Addr) := z; simp at y), ok, .of_eq quietGens⟩
  apply codeAny_mono ((F _ baseIn (names gl)).go callerA [] t M ⟨[.ref a], []⟩ [.ref a] [.ref a] _ _ room rfl env (bind t (.ref a)) (.cons rfl .nil) (prom M only known))
  intro r s' q
  rcases r with e | fl
  · exact q.elim
  · cases fl with
    | next => exact q.elim
    | brk => exact q.elim
    | cont => exact q.elim
    | ret u =>
      obtain ⟨v, M', os, bare, un, ok', rel, said⟩ := q
      have said' : v = .bl true := said
      subst said'
      have isTrue : u = Value.bool true := rel
      subst isTrue
      refine ⟨rfl, OldK.of_keep ?_, os, bare⟩
      intro b o e
      rcases q : M b with _ | u
      · exact un.keep b o e q (fun z => by have y : b ∈ ([] : List Addr) := z; simp at y) (by simp)
      · obtain ⟨rfl, _, rfl⟩ := at_a q
        obtain ⟨e1, _⟩ := ok _ _ q
        obtain ⟨e2, _⟩ := ok' _ _ (un.frzs _ _ _ q)
        rw [e] at e1
        cases e1
        exact e2
theorem walk_G {l : PySem.W.OpenLaw} {n k : Nat} {q : Program} {loose : List Str} {XP : (Str → Option Value) → Heap → Prop} {YP : World → Heap → Prop} {d : DefRec} {K : Params → PySem.W.Frag} {sp : PySem.W.Frag → Sp} {x : Str}
    (many : l.most = some n) (few : n ≤ sizeLine) (plain : d.params.defaults = []) (room : Room k callerA) (inK : ∀ (w : World) (h : Heap), YP w h → (K w.params).In h)
    (F : ∀ (w : World) (mg : Str → Option Value) (fa : Addr) (h : Heap), (K w.params).In h → h.Ns mainGlobals mg → mg d.name = some (.ref fa) →
      ∃ fd : FuncData, (∀ (s : Shared) (u : Value), BindsTo s fd ⟨[u], []⟩ [(x, u)]) ∧ ∀ base : Heap, (K w.params).In base → base.Ns mainGlobals mg → FnG l.prog w (K w.params) mg base CX0 k fa fd [x] (sp (K w.params)))
    (prom : ∀ (K : PySem.W.Frag) (M : Hp) (a : Addr) (ns : List Int), ns.length ≤ n → Only M → SqL K M a (ns.map V.int) → sp K [.ref a] M (fun v _ => v = .bl true) E0) :
    PySem.W.WalkO q loose XP YP l.row.toRowW d [] (fun f vs => PySem.call f vs) := by
  apply Att.attach_call many plain
  intro w s₀ t mg mb fa o pm cd doc a vs ns G Y _ _ _ named script nums short gens
  have kin := inK w _ Y
  obtain ⟨fd, bind, hF⟩ := F w mg fa _ kin G.T.g named
  exact law_G kin G.T.g G.T.b G.T.builtins G.T.nolimit gens script nums (Nat.le_trans short few) room hF bind fun M o s => prom _ M a ns short o s
end Sw
/-! own exceptions over Exception, by own classes between, with own fields -/
namespace PySem
namespace SwE
open PySem.W PySem.Calls PyProof.Rows PySem.HandSPX
abbrev exT : List Value := [.type "Exception", .type "BaseException", .type "object"]
def over (rs : List Addr) : List Value := rs.map Value.ref ++ exT
theorem over_pass (self : Value) : ∀ rs : List Addr, refuseLoop self "__setattr__" (over rs) = pure ()
  | [] => F.store_Exception.passes self
  | r :: rs => by
    show refuseLoop self "__setattr__" (.ref r :: over rs) = pure ()
    rw [refuseLoop_ref]
    exact over_pass self rs
theorem over_has (T : String) : ∀ rs : List Addr, (over rs).contains (.type T) = exT.contains (.type T)
  | [] => rfl
  | r :: rs => by
    show (Value.ref r :: over rs).contains (.type T) = exT.contains (.type T)
    rw [List.contains_cons, over_has T rs]
    rfl
theorem over_cons (r : Addr) (rs : List Addr) : Value.ref r :: over rs = over (r :: rs) := rfl
section
open Builtin Builtin.ObjectAttr
variable {prog : Program} {w : World} {A : Around} {E : Value → Shared → Prop} {R : Result → Shared → Prop} {hp : Heap} {g : Array GenState} {d : Drawn} {t : Nat} {os : OsState}
/-- the first field of such an exception -/
theorem first_field {K : W.Frag} {name : Str} {tk : Tok} {v : Value} {x C : Addr} {fv : Array Value} {cd : ClassData} {rs : List Addr}
    (inK : K.In hp) (here : hp.get? x = some { cls := .ref C, data := .fields fv }) (cls : W.clsIn K C = some cd) (mro : cd.mro = over rs) (dict : cd.hasDict = true) (none' : W.findIn K (.ref C) name = some none)
    (hq : ∀ h' tk' dx, (∀ b o, b ≠ x → hp.get? b = some o → h'.get? b = some o) → hp.objs.size ≤ dx → dx ≠ x → h'.get? x = some { cls := .ref C, dict := some dx, data := .fields fv } →
      h'.Ns1 dx (fun y => if y = name then some v else none) → R (.ok (.ret .none)) ⟨h', g, d, tk', os⟩) :
    codeAny (model prog w) A (.call (.builtin "object.__setattr__") ⟨[.ref x, .str name tk, v], []⟩) R ⟨hp, g, d, t, os⟩ := by
  have inst : W.InstAt hp x { cls := .ref C, data := .fields fv } C none := ⟨here, rfl, rfl, trivial⟩
  have facts := F.store_object
  have isObj : cd.mro.contains (.type "object") = true := by rw [mro, over_has]; decide +kernel
  have notEmpty : cd.mro.isEmpty = false := by rw [mro]; cases rs <;> rfl
  have apart : x ≠ hp.objs.size := Nat.ne_of_lt (Heap.lt_size here)
  have sub : W.Looks (model prog w) hp (isInstance (.ref x) (.type "object")) true := inst.type.andThen (W.looks_mroIn inK (by unfold W.mroIn; rw [cls, Option.bind_some, if_neg (by rw [notEmpty]; decide), isObj]))
  apply codeAny_call_builtin facts.slot.plain facts.entry (@W.check_slot (model prog w) _ _ ⟨hp, g, d, t, os⟩ "object.__setattr__" "object" "__setattr__" (.ref x) [.str name tk, v] [] _ facts.kind facts.split sub (facts.args (.ref x) (.str name tk) v) ?_)
  have looksMro : W.Looks (model prog w) hp (mroOf (.ref C)) cd.mro := (W.looks_clsIn inK cls).andThen .now
  have noTaker : W.Looks (model prog w) hp (storeTaker? none) none := .now
  have looksCls : W.Looks (model prog w) hp (classData C) cd := W.looks_clsIn inK cls
  rw [W.osa_eq, refuse_eq]
  refine wpAny_bind (wpAny_bind (inst.type.at (wpAny_bind (looksMro.at ?_))))
  rw [mro, over_pass]
  refine wpAny_pure (wpAny_bind (inst.type.at (wpAny_bind ((W.looks_findIn inK none').at (wpAny_bind (noTaker.at ?_))))))
  show wpAny _ _ (storeInOwnDict (.ref x) (.ref C) (.str name tk) name v false) _ _ _
  obtain ⟨nm, bs, mr, ns, qn, hd, sn, sb, ab, col, del⟩ := cd
  dsimp only at dict
  subst dict
  unfold storeInOwnDict ownDictForStores
  repeat (first | with_reducible refine store_in_new ?_ ?_ | with_reducible refine wpAny_loadPart_at here ?_ | with_reducible refine looksCls.at ?_ | wp_step)
  · exact ⟨_, #[], _, (Heap.get?_update_ne _ _ _ _ apart.symm).trans (Heap.get?_push_at rfl rfl), rfl, fun e he => absurd he (by simp), fun _ => rfl⟩
  · intro h' tk' named same
    have still : (hp.push { cls := .type "dict", data := .dict #[] }).get? x = some { cls := .ref C, data := .fields fv } := Heap.get?_push_of_some _ here
    apply hq h' tk' hp.objs.size ?_ (Nat.le_refl _) apart.symm ?_ named
    · intro b o hb ho
      exact (same.2 b (Nat.ne_of_lt (Heap.lt_size ho))).trans ((Heap.get?_update_ne _ _ _ _ hb).trans (Heap.get?_push_of_some _ ho))
    · exact (same.2 x apart).trans (Heap.get?_update_self _ still rfl)
end
end SwE
end PySem
namespace Sw
open PySem PySem.Spec PyProof.Rows L2 PySem.SwE
/-- what the written part says of an own exception class over Exception -/
structure OexE (K : PySem.W.Frag) (C : Addr) : Prop where
  cls : ∃ nm q N bs rs sn sub ab col dd k0 k1 k2 k3 k5, K.lookup C = some (excClassObj nm q C N bs (over rs) true sn sub ab col dd k0 k1 k2 k3 k5 "Exception.__new__")
  sa : PySem.W.findIn K (.ref C) "__setattr__" = some (some (.builtin "object.__setattr__"))
  exC : PySem.W.subIn K (.ref C) (.type "BaseException") = some true
  tyC : PySem.W.typeIn K (.ref C) = some (.type "type")
  kC : PySem.W.keepIn K (.ref C) = true
section
variable {X : Cx} {pins : List (Addr × Obj)} {σ : L2.St} {H : Hp} {s : Shared} {a C dx : Addr} {f : Str} {y : V} {u : Value} {fs : List (Str × V)} {Q : Unit → Shared → Prop} {E : Value → Shared → Prop} {A : Around}
theorem field_new (T : OexE X.K C) (I : Inv X pins σ H s) (e : H a = some (exo a C none)) (no : PySem.W.findIn X.K (.ref C) f = some none) (ry : RelV y u)
    (h : ∀ dx s', H dx = none → dx ≠ a → Inv X pins σ (upd (upd H dx (exd dx [(f, y)])) a (exo a C (some dx))) s' → Q () s') : wpAny (model X.prog X.w) A (setAttr (.ref a) f u) Q E s := by
  obtain ⟨nm, q, N, bs, rs, sn, sub, ab, col, dd, k0, k1, k2, k3, k5, hC⟩ := T.cls
  have data : PySem.W.clsIn X.K C = some { name := nm, bases := bs, mro := .ref C :: over rs, ns := N, qualname := q, hasDict := true, slotNames := sn, subclasses := sub, abstract := ab, collection := col, hasDel := false } := by
    unfold PySem.W.clsIn
    rw [hC] <;> rfl
  obtain ⟨t1, there⟩ := exo_at I.hok e
  obtain ⟨hp, g, d, t, os⟩ := s
  apply PySem.W.set_plain I.kIn (ox := { cls := .ref C, dict := none, data := .fields #[.ref t1, .none, .none, .none, .bool false, .none] }) (od := none) ⟨there, rfl, rfl, trivial⟩ T.sa
  apply first_field I.kIn there data (over_cons C rs) rfl no
  intro h' tk' dx keep new apart now named
  have free : H dx = none := I.hok.fresh new
  have notNew : ∀ {b : Addr} {o : Obj}, hp.get? b = some o → b ≠ dx := fun z => Nat.ne_of_lt (Nat.lt_of_lt_of_le (Heap.lt_size z) new)
  have notIt : ∀ {b : Addr}, H b = none → b ≠ a := by
    rintro b n rfl
    rw [e] at n
    cases n
  have un : Un X.fs [] H (upd (upd H dx (exd dx [(f, y)])) a (exo a C (some dx))) hp h' := by
    constructor
    · exact fun b o z n _ _ => keep b o (notIt n) z
    · exact fun b o z n _ _ => ⟨o.slots, keep b o (notIt n) z⟩
    · intro b o z n _
      rw [upd_ne (notIt n), upd_ne (notNew z)]
      exact n
    · intro b o z _
      by_cases c : b = a
      · exact ⟨_, by rw [c]; exact now⟩
      · exact ⟨o, keep b o c z⟩
    · intro b xs z
      rw [upd_ne (at_ne e z exo_tup), upd_ne (ne_of_none z free)]
      exact z
    · intro b o v z
      rw [upd_ne (at_ne e z exo_frz), upd_ne (ne_of_none z free)]
      exact z
    · exact fun b ps z => ⟨#[], by rw [upd_ne (at_ne e z exo_tbl), upd_ne (ne_of_none z free), z]; simp⟩
  apply h dx _ free apart
  apply I.un (t' := tk') un
  intro b o z
  by_cases c : b = a
  · subst c
    rw [upd_same] at z
    cases z
    exact exo_ok now
  · rw [upd_ne c] at z
    by_cases c2 : b = dx
    · subst c2
      rw [upd_same] at z
      cases z
      exact exd_ok named (relO_put (fs := []) ry fun g => True.intro)
    · rw [upd_ne c2] at z
      apply (I.hok b o z).stay
      · intro cc v hc zz
        apply keep cc v _ zz
        rcases hc with hc | hc
        · rw [hc]; exact c
        · exact at_ne e hc exo_own
      · intro cc hc
        rw [upd_ne (at_ne e hc exo_own), upd_ne (ne_of_none hc free)]
        exact hc
      · intro cc xs hc
        rw [upd_ne (at_ne e hc exo_tup), upd_ne (ne_of_none hc free)]
        exact hc
/-- Exception.__init__(self, ..): nothing of it is told -/
theorem init_plain {us : List Value} {R : Value → Shared → Prop} (T : OexE X.K C) (I : Inv X pins σ H s) (e : H a = some (exo a C none)) (few : us.length ≤ sizeLine) (h : ∀ s', Inv X pins σ H s' → R .none s') :
    wpAny (model X.prog X.w) A (call (.builtin "Exception.__init__") (.ref a :: us)) R E s := by
  obtain ⟨nm, q, N, bs, rs, sn, sub, ab, col, dd, k0, k1, k2, k3, k5, hC⟩ := T.cls
  obtain ⟨t1, there⟩ := exo_at I.hok e
  obtain ⟨hp, g, d, t, os⟩ := s
  apply wpAny_call (PySem.HandSPX.init_base F.excBase_Exception (fun Y => over_has Y rs) (I.kIn _ _ hC) there few ?_)
  intro h' t2 keep now
  have J := I.write (t' := t) (x := a) (e := a) (o := exo a C none) (by rw [e]; exact True.intro) (.inl rfl) keep ⟨_, now⟩ (exo_ok now)
  have same : upd H a (exo a C none) = H := by
    funext b
    by_cases c : b = a
    · rw [c, upd_same, e]
    · rw [upd_ne c]
  rw [same] at J
  exact h _ J
end
/-- B.__init__(self, ..), B's own one being Exception's -/
def tInit (K : PySem.W.Frag) (ta : TA) : TE := fun σ H Q => ta σ H fun vs H1 => ∃ (a C : Addr) (ws : List V), vs = .ref a :: ws ∧ ws.length ≤ 1000 ∧ OexE K C ∧ H1 a = some (exo a C none) ∧ Q .non H1
/-- self.f = e, the first field -/
def tFst (K : PySem.W.Frag) (f : Str) (to te : TE) : TS := fun D σ H => te σ H fun y H1 => to σ H1 fun x H2 => ∃ a C : Addr, x = .ref a ∧ OexE K C ∧ PySem.W.findIn K (.ref C) f = some none ∧
  H2 a = some (exo a C none) ∧ ∀ dx, H2 dx = none → dx ≠ a → D.nx σ (upd (upd H2 dx (exd dx [(f, y)])) a (exo a C (some dx)))
section
variable {X : Cx} {o e : Expr} {es : List Expr} {to te : TE} {ta : TA} {f : Str} {p p' p1 p2 pos : Pos}
theorem ps_fst (ho : PE X o to) (he : PE X e te) (hs : swapsWith e (some (.Attribute o f p')) pos.line X.env = pure false := by rfl) : PS X (.Assign [.Attribute o f p'] e pos) (tFst X.K f to te) := by
  constructor
  intro pins s σ H D I h
  apply plainObj_wpAny_Assign_Attribute (thn (he.run pins s σ H _ I h) fun v s1 ⟨y, H1, I1, r1, q1⟩ => thn (ho.run pins s1 σ H1 _ I1 q1) fun u s2 ⟨x, H2, I2, r2, a, C, ex, T, no, ea, q⟩ => ?_) hs
  subst ex
  obtain rfl : u = Value.ref a := r2
  exact field_new T I2 ea no r1 fun dx s' n ne J => ⟨σ, _, J, q dx n ne⟩
theorem ps_init {x : Str} {B : Addr} {pl : Sem Bool} (hg : Gl X x) (hm : X.mg x = some (.ref B)) (ga : PySem.W.specialIn X.K (.ref B) "__getattribute__" = some (some (.builtin "type.__getattribute__"))) (tyB : PySem.W.typeIn X.K (.ref B) = some (.type "type"))
    (rd : PySem.W.readsIn X.K B (.type "type") = true) (fi : PySem.W.findCls X.K (.ref B) (.type "type") "__init__" = some (.val (.builtin "Exception.__init__"))) (ha : PA X (e :: es) ta)
    (hc : eval (.Call (.Attribute (.Name x p1) "__init__" p2) (e :: es) [] pos) X.env = (do
      let ov ← eval (.Name x p1) X.env
      standAt p2.atName
      let (f, first) ← holding [ov] (getMethod ov "__init__" pl)
      callWith pos f first (backTo pos (starEach (e :: es) X.env)) (backToKw pos (keywordEach [] X.env))) := by rfl)
    (hdb : (x == ("__debug__" : Str)) = false := by decide)
    (he : starEach (e :: es) X.env = (false, eval e X.env) :: starEach es X.env := by rfl) (hpl : (backTo pos (starEach es X.env)).any (·.1) = false := by rfl) :
    PE X (.Call (.Attribute (.Name x p1) "__init__" p2) (e :: es) [] pos) (tInit X.K ta) := by
  constructor
  intro pins s σ H Q I h
  apply PySem.W.methodCall_KW (ld_glob I hg hm ?_ hdb) hc
  apply PySem.W.method_cls I.kIn ga
  apply PySem.W.cls_value I.kIn rd fi (by decide +kernel)
  show wpAny _ _ (callWith pos (Value.builtin "Exception.__init__") [] (backTo pos (starEach (e :: es) X.env)) []) _ _ _
  apply PyProof.Rows.callWith_method1 (thn (ha.run pos pins _ σ H _ (I.tok _) h) fun us s1 ⟨vs, H1, I1, r1, a, C, ws, ev, hl, T, ea, q⟩ => ?_) he hpl
  subst ev
  cases r1 with
  | @cons _ u0 _ ur ra rest =>
    obtain rfl : u0 = Value.ref a := ra
    have few : ur.length ≤ sizeLine := by
      rw [← Paired.length rest, sizeLine_eq]
      omega
    exact init_plain T I1 ea few fun s' J => ⟨.non, H1, J, rfl, q⟩
end
end Sw
namespace Sw
open PySem PySem.Spec PyProof.Rows L2 PySem.SwE
section
variable {X : Cx} {e : Expr} {es : List Expr} {ta : TA} {p pos : Pos} {CX : CXT} {x : Str} {C fI : Addr} {k : Nat} {fd : FuncData} {ps : List Str} {sp : Sp}
/-- C(e, ..), C an own exception class over Exception whose __init__ keeps sp -/
theorem pmk_E (T : OexE X.K C) (iC : PySem.W.findIn X.K (.ref C) "__init__" = some (some (.ref fI))) (tI : PySem.W.typeIn X.K (.ref fI) = some (.type "function")) (F1 : FnOk X.prog X.w X.K X.mg X.base CX k fI fd ps sp) (room : Room (k + 1) X.A) (bd : Binds X.K fd ps [])
    (px : Passes CX X E0) (hm : X.mg x = some (.ref C)) (ha : PA X (e :: es) ta) (hg : Gl X x := by rfl)
    (hdb : (x == ("__debug__" : Str)) = false := by decide) (he : starEach (e :: es) X.env = (false, eval e X.env) :: starEach es X.env := by rfl) (hpl : (backTo pos (starEach es X.env)).any (·.1) = false := by rfl) :
    PMk X (.Call (.Name x p) (e :: es) [] pos) (tMkO C sp [] ta) := by
  intro pins s σ H Q I h
  obtain ⟨nm, q, N, bs, rs, sn, sub, ab, col, dd, k0, k1, k2, k3, k5, hC⟩ := T.cls
  refine wpAny_Call_Name_kw (ld_glob I hg hm ?_ hdb)
  refine PySem.W.callWith_K (h₀ := X.base) I.ok.mod.kin T.kC (thn (ha.run pos pins s σ H _ I h) fun us s1 ⟨vs, H1, I1, r1, few, q1⟩ => ⟨I1.kIn, ?_⟩) he hpl
  show wpAny _ _ (call (.ref C) us) _ _ _
  obtain ⟨hp, g, dr, tk, os⟩ := s1
  have le : hp.objs.size ≤ hp.objs.size + 1 := Nat.le_succ _
  have free : H1 (hp.objs.size + 1) = none := I1.hok.fresh le
  have said := q1 (hp.objs.size + 1) free
  have keep : ∀ b o, hp.get? b = some o → ((hp.push (PySem.W.kdv_tup us)).push (PySem.HandSPX.excO C hp.objs.size)).get? b = some o := fun b o z => Heap.get?_push_of_some _ (Heap.get?_push_of_some _ z)
  have made : ((hp.push (PySem.W.kdv_tup us)).push (PySem.HandSPX.excO C hp.objs.size)).get? (hp.objs.size + 1) = some (PySem.HandSPX.excO C hp.objs.size) := by heap_get
  have I2 : Inv X pins σ (upd H1 (hp.objs.size + 1) (exo (hp.objs.size + 1) C none)) ⟨(hp.push (PySem.W.kdv_tup us)).push (PySem.HandSPX.excO C hp.objs.size), g, dr, tk, os⟩ :=
    I1.laid (t' := tk) (a := hp.objs.size + 1) (o := exo (hp.objs.size + 1) C none) (h' := (hp.push (PySem.W.kdv_tup us)).push (PySem.HandSPX.excO C hp.objs.size)) keep le (exo_ok made)
  have both : Vals (V.ref (hp.objs.size + 1) :: (vs ++ [])) (Value.ref (hp.objs.size + 1) :: (us ++ [])) := .cons rfl (r1.append .nil)
  have count : (Value.ref (hp.objs.size + 1) :: us ++ []).length = ps.length := by
    have z := both.length
    rw [F1.len _ _ _ _ said] at z
    exact z.symm
  have bound := bd _ (Value.ref (hp.objs.size + 1) :: us) I2.kIn count
  rw [List.cons_append] at bound
  have few' : us.length ≤ sizeLine := by
    rw [← Paired.length r1, sizeLine_eq]
    omega
  refine wpAny_call (PySem.HandSPX.call_own F.excBase_Exception (fun Y => over_has Y rs) (I1.kIn _ _ hC) (PySem.W.looks_findIn I1.kIn iC) (fun self => PySem.W.bind_fn I1.kIn self tI) few' (codeAny_mono (F1.run _ X.stack _ _ ⟨Value.ref (hp.objs.size + 1) :: us, []⟩ (Value.ref (hp.objs.size + 1) :: (us ++ [])) _ _ E0
    (room.make C us []) (I2.env0.make C us []) bound both said) fun r s' z => ?_))
  rcases r with er | fl
  · exact px pins σ _ _ er s' I2 z
  · cases fl with
    | next => exact z.elim
    | brk => exact z.elim
    | cont => exact z.elim
    | ret u =>
      obtain ⟨v, H2, os2, bare, un, ok, rv, ev, d, fs, ea, ed, hd1, q2⟩ := z
      subst ev
      obtain ⟨h2, g2, d2, t2, os'⟩ := s'
      exact ⟨rv, mk_end (raises_own T.exC T.tyC) I1 le keep un ok os2 bare ea ed hd1 q2⟩
end
end Sw
namespace Sw
open PySem PySem.Spec PyProof.Rows L2 PySem.SwE
/-! ### defs that may let out an exception -/
theorem Fun.okX {P : Program} {w : World} {K : PySem.W.Frag} {mg : Str → Option Value} {base : Heap} {k : Nat} {f : Addr} {fd : FuncData} {ps : List Str} {sp : Sp} {x qual : Str} {st : Stmt} {N : List Str} (F : Fun K x qual st f fd) (S : FnScope N ps (defScope st)) (len : ∀ xs M R X, sp xs M R X → xs.length = ps.length)
    (body : ∀ (cdv : Value) (A : Around) (out : List Env) (t : Shared) (M : Hp) (xs : List V) (R : VK) (E : XK), Room k (A.deeper (envOfC qual (defScope st) t.heap.objs.size f cdv)) → sp xs M R E →
      Takes (cxOf (L2.CX P w) P w K mg base N qual (defScope st) f cdv A out t M E) (fun cls d _ M' => E cls d M') →
      ∃ r, PSs (cxOf (L2.CX P w) P w K mg base N qual (defScope st) f cdv A out t M E) (defBody st) r ∧ r { nx := fun _ M' => R .non M', rt := R } (start N xs) M) : FnOk P w K mg base (L2.CX P w) (k + 1) f fd ps sp := by
  obtain ⟨oc, od, kV, doc, pm, an, cdv, ct, osl, rfl, found, coded⟩ := F.ex
  exact fn_of found coded S len fun A out t M xs R E room prom => body cdv A out t M xs R E room prom (takes_of rfl rfl rfl rfl)
section
variable (P : Program) (w : World) (K : PySem.W.Frag) (mg : Str → Option Value) (base : Heap)
def CalX (x : Str) (ps : List Str) (k : Nat) (sp : Sp) : Prop := ∃ (f : Addr) (fd : FuncData), FnOk P w K mg base (L2.CX P w) k f fd ps sp ∧ mg x = some (.ref f) ∧ PySem.W.keepIn K (.ref f) = true ∧ Binds K fd ps []
def CalKX (x : Str) (ps : List Str) (k : Nat) (sp : Sp) (ks : List Str) (g : List Value → List Value → List Value) (gV : List V → List V → List V) : Prop := ∃ (f : Addr) (fd : FuncData), FnOk P w K mg base (L2.CX P w) k f fd ps sp ∧ mg x = some (.ref f) ∧ PySem.W.keepIn K (.ref f) = true ∧ KBinds K fd ps ks g gV
end
section
variable {P : Program} {w : World} {K : PySem.W.Frag} {mg : Str → Option Value} {base : Heap} {x : Str} {st : Stmt} {ps ks : List Str} {k : Nat} {sp : Sp}
theorem Def.calX (d : Def K mg x st)
    (b : ∀ (kV doc pm : Value) (an : Option Addr) (cdv ct : Value) (us : List Value), us.length = ps.length → bindArgs (PySem.W.fnOf x x (defArgs st) (defBody st) (defScope st) .none kV doc pm an cdv ct) ⟨us, []⟩ = pure (ps.zip us))
    (ok : ∀ (f : Addr) (fd : FuncData), Fun K x x st f fd → FnOk P w K mg base (L2.CX P w) k f fd ps sp) : CalX P w K mg base x ps k sp := by
  obtain ⟨f, fd, F, m⟩ := d
  exact ⟨f, fd, ok f fd F, m, F.kp, F.binds b⟩
theorem Def.calKX {g : List Value → List Value → List Value} {gV : List V → List V → List V} (d : Def K mg x st)
    (b : ∀ (kV doc pm : Value) (an : Option Addr) (cdv ct : Value) (us ws : List Value), (g us ws).length = ps.length → bindArgs (PySem.W.fnOf x x (defArgs st) (defBody st) (defScope st) .none kV doc pm an cdv ct) ⟨us, ks.zip ws⟩ = pure (ps.zip (g us ws)))
    (rel : ∀ {vs : List V} {us : List Value} {zs : List V} {ws : List Value}, Vals vs us → Vals zs ws → Vals (gV vs zs) (g us ws))
    (ok : ∀ (f : Addr) (fd : FuncData), Fun K x x st f fd → FnOk P w K mg base (L2.CX P w) k f fd ps sp) : CalKX P w K mg base x ps k sp ks g gV := by
  obtain ⟨f, fd, F, m⟩ := d
  have O := ok f fd F
  have kp := F.kp
  obtain ⟨oc, od, kV, doc, pm, an, cdv, ct, osl, rfl, lk, hcd⟩ := F.ex
  exact ⟨f, _, O, m, kp, fun s us ws _ hl => .of_eq (b kV doc pm an cdv ct us ws hl), rel⟩
end
def tKwS (sp : Sp) (gV : List V → List V → List V) (E : L2.St → XK) (tk : TA) : TE := fun σ H Q => tk σ H fun zs H1 => sp (gV [] zs) H1 Q (E σ)
section
variable {X : Cx} {x : Str} {ps ks : List Str} {k n : Nat} {sp : Sp} {e : Expr} {es : List Expr} {t : TA} {p pos : Pos} {W : WX} {g : List Value → List Value → List Value} {gV : List V → List V → List V} {kws : List Keyword}
theorem pe_calX (c : CalX X.prog X.w X.K X.mg X.base x ps k sp) (hr : Room n X.A) (tk : Takes X W) (ha : PA X (e :: es) t) (hg : Gl X x := by rfl) (hk : k ≤ n := by decide)
    (hdb : (x == ("__debug__" : Str)) = false := by decide) (he : starEach (e :: es) X.env = (false, eval e X.env) :: starEach es X.env := by rfl) (hpl : (backTo pos (starEach es X.env)).any (·.1) = false := by rfl) :
    PE X (.Call (.Name x p) (e :: es) [] pos) (tCallS sp (WE W) t) := by
  obtain ⟨f, fd, F, m, kp, b⟩ := c
  exact pe_callS F (hr.mono hk) hg m kp b (passAt tk) ha hdb he hpl
theorem i_callS {σ : L2.St} {H : Hp} {Q : VK} {E : L2.St → XK} (h : t σ H fun vs H1 => sp vs H1 Q (E σ)) : tCallS sp E t σ H Q := h
theorem pe_calKX (c : CalKX X.prog X.w X.K X.mg X.base x ps k sp ks g gV) (hr : Room n X.A) (tk : Takes X W) (hkw : PK X kws t) (hg : Gl X x := by rfl) (hk : k ≤ n := by decide)
    (hall : (backToKw pos (keywordEach kws X.env)).all (·.1.isSome) = true := by rfl) (hks : (backToKw pos (keywordEach kws X.env)).filterMap (·.1) = ks := by rfl) (hdb : (x == ("__debug__" : Str)) = false := by decide)
    (hpl : ((backTo pos (starEach [] X.env)).any (·.1) || (backToKw pos (keywordEach kws X.env)).any (·.1.isNone)) = false := by rfl) :
    PE X (.Call (.Name x p) [] kws pos) (tKwS sp gV (WE W) t) := by
  obtain ⟨f, fd, F, m, kp, b⟩ := c
  constructor
  intro pins s σ H Q I h
  apply wpAny_Call_Name_kw (ld_glob I hg m ?_ hdb)
  refine PySem.W.callWith_KW0 (h₀ := X.base) I.ok.mod.kin kp hall (thn (hkw.run pos pins s σ H _ I h) fun ws s2 ⟨zs, H2, I2, rz, q⟩ => ⟨I2.kIn, ?_⟩) hpl
  rw [hks]
  have rel := b.rel (vs := []) (us := []) .nil rz
  have count : (g [] ws).length = ps.length := by rw [← rel.length]; exact F.len _ _ _ _ q
  apply wpAny_call
  apply codeAny_mono (F.run X.A X.stack s2 H2 ⟨[], ks.zip ws⟩ (g [] ws) (gV [] zs) Q (WE W σ) (hr.mono hk) I2.env0 (b.to s2 [] ws I2.kIn count) rel q)
  intro o s' z
  rcases o with er | fl
  · exact passAt tk σ pins H2 s2 er s' I2 z
  · cases fl with
    | ret u => exact I2.after z
    | next => exact z.elim
    | brk => exact z.elim
    | cont => exact z.elim
theorem i_kwS {σ : L2.St} {H : Hp} {Q : VK} {E : L2.St → XK} (h : t σ H fun zs H1 => sp (gV [] zs) H1 Q (E σ)) : tKwS sp gV E t σ H Q := h
end
theorem takes_none {X : Cx} : Takes X (fun _ _ _ _ => False) := fun u s' z => by
  obtain ⟨a, B, sI, pins, σ, H, cls, d, e, I, nb, up, sky, na, os, ag, w⟩ := z
  exact w.elim
end Sw
namespace Sw
open PySem PySem.Spec PyProof.Rows L2 PySem.SwE
/-- InvalidText.__init__(self, given) -/
def spInit (K : PySem.W.Frag) : Sp := fun vs H Q _ => ∃ (a C : Addr) (v : V), vs = [.ref a, v] ∧ H a = some (exo a C none) ∧ OexE K C ∧ PySem.W.findIn K (.ref C) "given" = some none ∧
  ∀ dx, H dx = none → dx ≠ a → Q .non (upd (upd H dx (exd dx [("given", v)])) a (exo a C (some dx)))
/-- what the written part says of the class that is called over -/
structure Over (K : PySem.W.Frag) (mg : Str → Option Value) (B : Addr) : Prop where
  hm : mg "CodecError" = some (.ref B)
  ga : PySem.W.specialIn K (.ref B) "__getattribute__" = some (some (.builtin "type.__getattribute__"))
  ty : PySem.W.typeIn K (.ref B) = some (.type "type")
  rd : PySem.W.readsIn K B (.type "type") = true
  fi : PySem.W.findCls K (.ref B) (.type "type") "__init__" = some (.val (.builtin "Exception.__init__"))
theorem i_init {K : PySem.W.Frag} {ta : TA} {σ : L2.St} {H : Hp} {Q : VK} (h : ta σ H fun vs H1 => ∃ (a C : Addr) (ws : List V), vs = .ref a :: ws ∧ ws.length ≤ 1000 ∧ OexE K C ∧ H1 a = some (exo a C none) ∧ Q .non H1) : tInit K ta σ H Q := h
theorem i_fst {K : PySem.W.Frag} {f : Str} {to te : TE} {D : Ends} {σ : L2.St} {H : Hp} (h : te σ H fun y H1 => to σ H1 fun x H2 => ∃ a C : Addr, x = .ref a ∧ OexE K C ∧ PySem.W.findIn K (.ref C) f = some none ∧
  H2 a = some (exo a C none) ∧ ∀ dx, H2 dx = none → dx ≠ a → D.nx σ (upd (upd H2 dx (exd dx [(f, y)])) a (exo a C (some dx)))) : tFst K f to te D σ H := h
/-- the class InvalidText, as it stands behind the top -/
structure XT (P : Program) (w : World) (K : PySem.W.Frag) (mg : Str → Option Value) (base : Heap) (C : Addr) : Prop where
  T : OexE K C
  xf : XfC K C
  no : PySem.W.findIn K (.ref C) "given" = some none
  hm : mg "InvalidText" = some (.ref C)
  me : PySem.W.exmOne K (.ref C) (.ref C) = some true
  ini : ∃ (fI : Addr) (fd : FuncData), PySem.W.findIn K (.ref C) "__init__" = some (some (.ref fI)) ∧ PySem.W.typeIn K (.ref fI) = some (.type "function") ∧ FnOk P w K mg base CX0 1 fI fd ["self", "given"] (spInit K) ∧ Binds K fd ["self", "given"] []
theorem pmk_T {X : Cx} {C : Addr} {n : Nat} {e : Expr} {te : TE} {p pos : Pos} (xt : XT X.prog X.w X.K X.mg X.base C) (hr : Room n X.A) (he : PE X e te) (hn : 2 ≤ n := by decide) (hg : Gl X "InvalidText" := by rfl)
    (he2 : starEach [e] X.env = (false, eval e X.env) :: starEach [] X.env := by rfl) : PMk X (.Call (.Name "InvalidText" p) [e] [] pos) (tMkO C (spInit X.K) [] (tCons te tNil)) := by
  obtain ⟨fI, fd, h1, h2, h3, h4⟩ := xt.ini
  exact pmk_E xt.T h1 h2 h3 (hr.mono hn) h4 pass0 xt.hm (pa_cons he pa_nil he2) hg (by decide) he2 (by rfl)
def Thrown (K : PySem.W.Frag) (C : Addr) (vs : List V) (H1 : Hp) (Q : XK) : Prop := vs.length ≤ 1000 ∧ ∀ a, H1 a = none → spInit K (.ref a :: (vs ++ [])) (upd H1 a (exo a C none))
  (fun v H2 => v = .non ∧ ∃ (d : Addr) (fs : List (Str × V)), H2 a = some (exo a C (some d)) ∧ H2 d = some (exd d fs) ∧ H1 d = none ∧ Q (.ref C) (some d) (upd (del H2 a) d (.xd fs))) (fun _ _ _ => False)
theorem i_mk {K : PySem.W.Frag} {C : Addr} {ta : TA} {σ : L2.St} {H : Hp} {Q : XK} (h : ta σ H fun vs H1 => Thrown K C vs H1 Q) : tMkO C (spInit K) [] ta σ H Q := h
def tRs (t : L2.St → Hp → XK → Prop) (W : WX) : TS := fun _ σ H => t σ H fun cls d H' => W cls d σ H'
theorem ps_rs {X : Cx} {W : WX} {e : Expr} {t : L2.St → Hp → XK → Prop} {pos : Pos} (hc : X.calm = true) (tk : Takes X W) (he : PMk X e t) : PS X (.Raise (some e) none pos) (tRs t W) := L2.ps_raise hc tk he
theorem i_raise {t : L2.St → Hp → XK → Prop} {W : WX} {D : Ends} {σ : L2.St} {H : Hp} (h : t σ H fun cls d H' => W cls d σ H') : tRs t W D σ H := h
theorem i_thrown {K : PySem.W.Frag} {C : Addr} {v : V} {H1 : Hp} {Q : XK} (T : OexE K C) (no : PySem.W.findIn K (.ref C) "given" = some none) (h : ∀ dx, H1 dx = none → Q (.ref C) (some dx) (upd H1 dx (.xd [("given", v)]))) : Thrown K C [v] H1 Q := by
  refine ⟨by simp, fun a na => ⟨a, C, v, rfl, upd_same, T, no, fun dx nx ne => ⟨rfl, dx, [("given", v)], upd_same, ?_, ?_, ?_⟩⟩⟩
  · rw [upd_ne ne, upd_same]
  · rw [upd_ne ne] at nx; exact nx
  · rw [upd_ne ne] at nx
    have e : upd (del (upd (upd (upd H1 a (exo a C none)) dx (exd dx [("given", v)])) a (exo a C (some dx))) a) dx (.xd [("given", v)]) = upd H1 dx (.xd [("given", v)]) := by
      funext b
      by_cases c : b = dx
      · rw [c, upd_same, upd_same]
      · rw [upd_ne c, upd_ne c]
        by_cases c2 : b = a
        · rw [c2, del_same, na]
        · rw [del_ne c2, upd_ne c2, upd_ne c, upd_ne c2]
    rw [e]
    exact h dx nx
theorem i_dnew {σ : L2.St} {H : Hp} {Q : VK} (h : ∀ p, H p = none → Q (.ref p) (upd H p (.dK []))) : tDNewK σ H Q := h
end Sw
namespace Sw
open PySem PySem.Spec PyProof.Rows L2
/-! ### try with several clauses that name the error -/
inductive AsOk (X : Cx) (Wo : WX) : List ExceptHandler → (Ends → WX) → Prop
  | nil : AsOk X Wo [] fun _ => Wo
  | cons {x n : Str} {c : Value} {i : Nat} {ts : Addr → Value → Option Addr → TS} {st : Stmt} {more : List Stmt} {p1 p2 : Pos} {hds : List ExceptHandler} {W : Ends → WX}
      (hi : X.N[i]? = some n) (hl : X.env.kindOf n = some .local) (hc : Names X x c)
      (su : ∀ (a : Addr) (o : Obj) (cls : Value) (d : Option Addr) (pn : List (Addr × Obj)), Zc cls d o → (∃ vs, o.data = .fields vs) → PSs (X.suite a ((a, o) :: pn)) (st :: more) (ts a cls d))
      (rest : AsOk X Wo hds W) : AsOk X Wo (.ExceptHandler (some (.Name x p1)) (some n) (st :: more) p2 :: hds) fun D => wAs X.K c i ts (W D) D
theorem ps_tries {X : Cx} {Wo : WX} {W : Ends → WX} {body : List Stmt} {h₀ : ExceptHandler} {hds : List ExceptHandler} {pos : Pos} {tb : WX → TS} (hs : X.stack = X.env :: X.outer) (hf : X.env.frame = some X.env.locals) (nd : X.N.Nodup) (tk : Takes X Wo)
    (hb : ∀ (V : WX) (pn : List (Addr × Obj)) (xe : Value → Shared → Prop), Takes (X.tr pn xe) V → PassesOwn (model X.prog X.w) X.A X.env xe → PSs (X.tr pn xe) body (tb V))
    (hh : AsOk X Wo (h₀ :: hds) W) : PS X (.Try body (h₀ :: hds) [] [] pos) fun D σ H => tb (W D) D σ H := by
  constructor
  intro pins s σ H D I h
  have ok := I.ok
  have fr : X.A.frames = some (X.env :: X.outer) := by rw [← hs]; exact ok.frames
  let after : Value → Shared → Prop := fun e s₁ => wpAny (model X.prog X.w) X.A (noteFrame e X.env) (fun _ s₂ => wpAny (model X.prog X.w) X.A (setFlight e none) (fun _ s₃ => wpAny (model X.prog X.w) X.A (handleBy e X.env (h₀ :: hds)) (SP X pins D) X.xe s₃) X.xe s₂) X.xe s₁
  have run := (hb (W D) (X.pn ++ pins) after (fun u s' air => ?_) PassesOwn.looking).run [] s σ H D (I.toTry _) h
  · refine wpAny_Try_except (wpAny_mono run (fun f s1 z => ?_) fun _ _ z => z)
    cases f <;> obtain ⟨_, _, z⟩ := z
    · exact wpAny_execs_nil ⟨_, _, z.1.ofTry ok, z.2⟩
    · exact ⟨_, _, z.1.ofTry ok, z.2⟩
    · exact ⟨_, _, z.1.ofTry ok, z.2⟩
    · obtain ⟨H', J, r, q⟩ := z
      exact ⟨_, _, _, J.ofTry ok, r, q⟩
  · obtain ⟨a, B, sI, pins', σ', H', cls, d, rfl, J0, nb, up, sky, na, os, ag, w⟩ := air
    have J := J0.ofTry ok
    show wpAny (model X.prog X.w) X.A (noteFrame (.ref a) X.env) _ _ _
    refine Sky.land Zc.steady fr hf (by rw [← hs]; exact sky) fun h3 fl3 up3 => ?_
    have J3 : Inv X pins σ' H' { s' with heap := h3 } := J.landed nb fl3.1 (up.trans up3) os ag
    obtain ⟨o3, vs3, ho3, z3, d3⟩ := fl3.there
    have out : a ∉ frs (X.env :: X.outer) := fun hm => by
      obtain ⟨_, o', e', hn⟩ := fl3.2.2.1.mem hm
      cases ho3.symm.trans e'
      exact hn _ d3
    have nL : a ≠ X.env.locals := fun z => out (List.mem_filterMap.mpr ⟨_, List.mem_cons_self, by rw [hf, z]⟩)
    have nF : a ∉ X.fs := fun hm => by
      obtain ⟨e, he, q⟩ := List.mem_filterMap.mp hm
      exact out (List.mem_filterMap.mpr ⟨e, List.mem_cons_of_mem _ he, q⟩)
    have S3 := J3.suite ho3 d3 na nL nF
    clear h
    revert w
    generalize h₀ :: hds = all at hh
    intro w
    induction hh with
    | nil =>
      refine wpAny_handleBy_nil ?_
      obtain ⟨_, _, _, o, vs, T, _, _, g1, _, g2, g3, _⟩ := id fl3
      unfold PySem.passOn
      refine wpAny_bind (wpAny_field g1 g2 g3 ?_)
      rw [if_neg (by simp : ¬ (Value.ref T == Value.none) = true)]
      have away : wpAny (model X.prog X.w) X.A (setFlight (.ref a) X.env.frame) (fun _ s4 => wpAny (model X.prog X.w) X.A (throw (.ref a) : Sem Flow) (SP X pins D) X.xe s4) X.xe { s' with heap := h3 } := by
        rw [hf]
        exact HandSPX.setFlight_upZ fl3 fun h4 hh4 up4 => wpAny_throw (tk _ _ ⟨a, B, sI, pins, σ', H', cls, d, rfl, J, nb, (up.trans up3).trans up4, .inr (.inr (by rw [hs]; exact hh4)), na, os, ag, w⟩)
      first | exact wpAny_bind (wpAny_pure (wpAny_bind away)) | exact wpAny_bind away
    | @cons x n c i ts st more p1 p2 hds W hi hl hc su rest ih =>
      obtain ⟨b, hb1, yes, no⟩ := w
      refine wpAny_handleBy_cons (codeAny_handlers_test ?_) (by intro q; cases q)
      have ty : PySem.W.Looks (model X.prog X.w) h3 (typeOf (.ref a)) cls := fun _ _ _ s k q => wpAny_typeOf_ref (k _ _ ho3) (by rw [z3.1]; exact q)
      have hit := PySem.W.exm_one (M := model X.prog X.w) J3.kIn ty hb1
      have name : ∀ {Q E : Value → Shared → Prop}, Q c { s' with heap := h3 } → wpAny (model X.prog X.w) (X.A.mark (some (.ref a))) (eval (.Name x p1) X.env) Q E { s' with heap := h3 } := fun q => by
        obtain ⟨hg, hd, ⟨hm⟩ | ⟨hm, hv, hn⟩⟩ := hc
        · exact ld_glob (X := X.suite a ((a, o3) :: (X.pn ++ pins))) S3 hg (by assumption) q hd
        · exact ld_blt (X := X.suite a ((a, o3) :: (X.pn ++ pins))) S3 hg hm hv q hn hd
      refine name (hit.here ?_)
      cases b with
      | false => exact ih (no rfl)
      | true =>
        refine codeAny_handlers_suite_as (HandSPX.lands_againZ fl3 fun h4 fl4 up4 => ?_)
        obtain ⟨o4, vs4, ho4, z4, d4⟩ := fl4.there
        have J4 : Inv X pins σ' H' { s' with heap := h4 } := J.landed nb fl4.1 ((up.trans up3).trans up4) os ag
        refine store_ok (X := X.suite a ((a, o4) :: (X.pn ++ pins))) (v := .ref a) (J4.suite ho4 d4 na nL nF) nd hi (.inl hl) rfl (fun s5 S5 => ?_) (.inr hl)
        refine wpAny_mono ((su a o4 cls d (X.pn ++ pins) z4 ⟨_, d4⟩).run [] s5 _ H' _ S5 (yes rfl a na)) (fun f s6 z => ?_) fun _ _ z => z.elim
        have bye : ∀ {σ6 : L2.St} {H6 : Hp} {Q : Shared → Prop}, Inv (X.suite a ((a, o4) :: (X.pn ++ pins))) [] σ6 H6 s6 → (∀ s7, Inv X pins (σ6.set i none) H6 s7 → Q s7) →
            wpAny (model X.prog X.w) X.A (do bindName X.env n .none; unbindBehindTheSuite X.env n p2) (fun _ s7 => Q s7) X.xe s6 := fun S6 hq => gone_ok (S6.unsuite ok) nd hi hl hq
        cases f <;> obtain ⟨_, _, z⟩ := z
        · exact bye z.1 fun s7 J7 => ⟨_, _, J7, z.2⟩
        · exact bye z.1 fun s7 J7 => ⟨_, _, J7, z.2⟩
        · exact bye z.1 fun s7 J7 => ⟨_, _, J7, z.2⟩
        · obtain ⟨H6, S6, r6, q6⟩ := z
          exact bye S6 fun s7 J7 => ⟨_, _, _, J7, r6, q6⟩
end Sw
namespace Sw
open PySem PySem.Spec PyProof.Rows L2
/-- isinstance(e, c), e the caught error, its fields at d -/
def rIsEd (K : PySem.W.Frag) (a : Addr) (cls : Value) (d : Option Addr) : List V → Hp → VK → Prop := fun xs H Q => ∃ (D c dd : Addr) (fs : List (Str × V)) (b : Bool), xs = [.ref a, .ref c] ∧ cls = .ref D ∧ ExcC K D ∧ d = some dd ∧ H dd = some (.xd fs) ∧ PySem.W.kitOne K (.ref D) (.ref c) = some b ∧ Q (.bl b) H
theorem call_isEd {X : Cx} {a : Addr} {oe : Obj} {cls : Value} {d : Option Addr} {pn : List (Addr × Obj)} (hz : Zc cls d oe) (hf : ∃ vs, oe.data = .fields vs) : CallR (X.suite a ((a, oe) :: pn)) (.builtin "isinstance") (rIsEd X.K a cls d) := by
  intro pins s σ H xs us Q I r h
  obtain ⟨D, c, dd, fs, b, rfl, rfl, C, rfl, ea, e, q⟩ := h
  cases r with
  | cons rx rr =>
    cases rr with
    | cons rt rr =>
      cases rr
      cases rx
      cases rt
      obtain ⟨hget, _⟩ := I.pin (a, oe) (List.mem_append.mpr (.inl List.mem_cons_self))
      obtain ⟨vs, hv⟩ := hf
      have hx : ObjOk X.prog X.w H s.heap dd (.xd fs) := I.hok dd _ ea
      obtain ⟨mA, hns, hr⟩ := hx
      obtain ⟨od, ho, hl⟩ := lookIn_ns hns
      have J : PySem.W.InstAt s.heap a oe D (some od) := ⟨hget, hz.1, by unfold PySem.W.notCls; rw [hv] <;> rfl, by rw [hz.2]; exact ho⟩
      exact PySem.W.kia_one (PySem.W.kitx_exc (by obtain ⟨cd, hc, _⟩ := PySem.W.any_some C.hd; rw [hc]; rfl) C.hg C.hk C.hs C.ha C.hn C.ht C.hm) I.kIn J e (fun z => nomatch z) fun tk => ⟨.bl b, H, I.kept (t' := tk) fun _ _ z => z, rfl, q⟩
end Sw
namespace Sw
open PySem PySem.Spec PyProof.Rows L2
/-! ### data with dicts in it -/
def keyD : Key → PyData
  | .inl i => .int i
  | .inr x => .str x
mutual
inductive De (K : PySem.W.Frag) (H : Hp) : V → PyData → Prop
  | non : De K H .non .none
  | bl (b : Bool) : De K H (.bl b) (.bool b)
  | int (i : Int) : De K H (.int i) (.int i)
  | str (x : Str) : De K H (.str x) (.str x)
  | lst {a : Addr} {xs : List V} {ds : List PyData} : H a = some (.lst xs) → sysModules < a → DeAll K H xs ds → De K H (.ref a) (.list ds)
  | tup {a : Addr} {xs : List V} {ds : List PyData} : SqT K H a xs → DeAll K H xs ds → De K H (.ref a) (.tuple ds)
  | dict {a : Addr} {kvs : List (Key × V)} {ds : List (PyData × PyData)} : H a = some (.dK kvs) → DeKv K H kvs ds → De K H (.ref a) (.dict ds)
inductive DeAll (K : PySem.W.Frag) (H : Hp) : List V → List PyData → Prop
  | nil : DeAll K H [] []
  | cons {v : V} {vs : List V} {d : PyData} {ds : List PyData} : De K H v d → DeAll K H vs ds → DeAll K H (v :: vs) (d :: ds)
inductive DeKv (K : PySem.W.Frag) (H : Hp) : List (Key × V) → List (PyData × PyData) → Prop
  | nil : DeKv K H [] []
  | cons {k : Key} {v : V} {vs : List (Key × V)} {d : PyData} {ds : List (PyData × PyData)} : De K H v d → DeKv K H vs ds → DeKv K H ((k, v) :: vs) ((keyD k, d) :: ds)
end
theorem key_reads {h : Heap} {k : Key} {u : Value} (e : keyIs k u = true) : Reads h u (keyD k) [] := by
  rcases keyIs_shape e with ⟨i, t, rfl, rfl⟩ | ⟨x, t, rfl, rfl⟩
  · exact .int i t
  · exact .str x t
section
variable {X : Cx} {pins : List (Addr × Obj)} {σ : L2.St} {H : Hp} {s : Shared}
mutual
theorem De.reads (I : Inv X pins σ H s) : ∀ (d : PyData) (v : V) (u : Value), De X.K H v d → RelV v u → ∃ as, Reads s.heap u d as ∧ sysModules ∉ as
  | .none, _, _, h, r => by
    cases h
    cases r
    exact ⟨_, Reads.none, by simp⟩
  | .bool b, _, _, h, r => by
    cases h
    cases r
    exact ⟨_, Reads.bool b, by simp⟩
  | .int i, _, _, h, r => by
    cases h
    obtain ⟨t, rfl⟩ := r
    exact ⟨_, Reads.int i t, by simp⟩
  | .str x, _, _, h, r => by
    cases h
    obtain ⟨t, rfl⟩ := r
    exact ⟨_, Reads.str x t, by simp⟩
  | .list ds, _, _, h, r => by
    cases h with
    | lst hs hlt ha =>
      cases r
      obtain ⟨its, rv, ⟨o, n, ho, hc, _, hd⟩, _⟩ := I.list (.inl (.inl hs))
      obtain ⟨as, hr, hn⟩ := De.readsAll I ds _ its ha rv
      exact ⟨_, Reads.list ho hc hd hr, by
        intro z
        rcases List.mem_cons.mp z with z | z
        · exact Nat.lt_irrefl _ (z ▸ hlt)
        · exact hn z⟩
  | .tuple ds, _, _, h, r => by
    cases h with
    | tup hs ha =>
      cases r
      obtain ⟨its, rv, ⟨o, ho, hc, n, hd⟩, _⟩ := I.tuple hs
      obtain ⟨as, hr, hn⟩ := De.readsAll I ds _ its ha rv
      exact ⟨_, Reads.tuple ho hc hd hr, hn⟩
  | .dict ds, _, _, h, r => by
    cases h with
    | dict hs ha =>
      cases r
      obtain ⟨_, notSys, vs, kv, o, es, ep, ho, ex, hd, _, pr, _⟩ : ObjOk X.prog X.w H s.heap _ (.dK _) := I.hok _ _ hs
      obtain ⟨as, bs, hr1, hr2, hn1, hn2⟩ := De.readsKv I ds _ vs es.toList ha kv pr
      exact ⟨_, Reads.dict ho ex.1 hd hr1 hr2, by
        intro z
        rcases List.mem_append.mp z with z | z
        · rcases List.mem_cons.mp z with z | z
          · rw [← z] at notSys
            exact absurd notSys (by decide)
          · exact hn1 z
        · exact hn2 z⟩
theorem De.readsAll (I : Inv X pins σ H s) : ∀ (ds : List PyData) (vs : List V) (us : List Value), DeAll X.K H vs ds → Vals vs us → ∃ as, ReadsAll s.heap us ds as ∧ sysModules ∉ as
  | [], _, _, h, r => by
    cases h
    cases r
    exact ⟨_, ReadsAll.nil, by simp⟩
  | d :: ds, _, _, h, r => by
    cases h with
    | cons h1 h2 =>
      cases r with
      | cons r1 r2 =>
        obtain ⟨as, q1, n1⟩ := De.reads I d _ _ h1 r1
        obtain ⟨bs, q2, n2⟩ := De.readsAll I ds _ _ h2 r2
        exact ⟨_, ReadsAll.cons q1 q2, fun z => (List.mem_append.mp z).elim n1 n2⟩
theorem De.readsKv (I : Inv X pins σ H s) : ∀ (ds : List (PyData × PyData)) (kvs : List (Key × V)) (vs : List (Key × Value)) (es : List DictEntry), DeKv X.K H kvs ds → KV kvs vs → Pairs (mixKind X.prog X.w) es vs →
    ∃ as bs, ReadsAll s.heap (es.map (·.key)) (ds.map (·.1)) as ∧ ReadsAll s.heap (es.map (·.val)) (ds.map (·.2)) bs ∧ sysModules ∉ as ∧ sysModules ∉ bs
  | [], _, _, _, h, r, p => by
    cases h
    cases r
    cases p
    exact ⟨_, _, ReadsAll.nil, ReadsAll.nil, by simp, by simp⟩
  | d :: ds, _, _, _, h, r, p => by
    cases h with
    | cons h1 h2 =>
      cases r with
      | cons r1 r2 =>
        cases p with
        | cons p1 p2 p3 =>
          obtain ⟨as, q1, n1⟩ := De.reads I _ _ _ h1 r1.2
          obtain ⟨bs, cs, q2, q3, n2, n3⟩ := De.readsKv I _ _ _ _ h2 r2 p3
          refine ⟨[] ++ bs, as ++ cs, ?_, ?_, by simpa using n2, fun z => (List.mem_append.mp z).elim n1 n3⟩
          · rw [List.map_cons, List.map_cons]
            refine .cons (key_reads ?_) q2
            have e := r1.1
            dsimp only at e
            rw [e]
            exact p1
          · rw [List.map_cons, List.map_cons]
            refine .cons ?_ q3
            rw [p2]
            exact q1
end
/-! ### small data -/
mutual
def sok : PyData → Bool
  | .str z => PyData.strOk z
  | .list xs => sokAll xs
  | .tuple xs => sokAll xs
  | _ => true
def sokAll : List PyData → Bool
  | [] => true
  | x :: xs => sok x && sokAll xs
end
mutual
theorem sok_lay : ∀ {d : PyData}, sok d = true → d.hasDict = false → d.canLay0 = true
  | .none, _, _ => by simp only [PyData.canLay0]
  | .bool _, _, _ => by simp only [PyData.canLay0]
  | .int _, _, _ => by simp only [PyData.canLay0]
  | .str z, h, _ => by simp only [PyData.canLay0]; simpa only [sok] using h
  | .list xs, h, z => by
    simp only [PyData.canLay0]
    exact sokAll_lay (by simpa only [sok] using h) (by simpa only [PyData.hasDict] using z)
  | .tuple xs, h, z => by
    simp only [PyData.canLay0]
    exact sokAll_lay (by simpa only [sok] using h) (by simpa only [PyData.hasDict] using z)
  | .dict _, _, z => by simp only [PyData.hasDict] at z; cases z
theorem sokAll_lay : ∀ {ds : List PyData}, sokAll ds = true → PyData.hasDictAll ds = false → PyData.canLayAll0 ds = true
  | [], _, _ => by simp only [PyData.canLayAll0]
  | d :: ds, h, z => by
    simp only [sokAll, Bool.and_eq_true] at h
    simp only [PyData.hasDictAll, Bool.or_eq_false_iff] at z
    simp only [PyData.canLayAll0, sok_lay h.1 z.1, sokAll_lay h.2 z.2, Bool.and_self]
end
structure Sd (n w : Nat) (d : PyData) : Prop where
  dep : d.depth ≤ n
  wei : d.weight ≤ w
  sh : d.showable = true
  ls : d.leavesShort 60 = true
  ok : sok d = true
structure SdAll (n w : Nat) (ds : List PyData) : Prop where
  dep : PyData.depthAll ds ≤ n
  wei : PyData.weightAll ds ≤ w
  sh : PyData.showableAll ds = true
  ls : PyData.leavesShortAll 60 ds = true
  ok : sokAll ds = true
theorem Sd.mono {n w n' w' : Nat} {d : PyData} (s : Sd n w d) (h1 : n ≤ n') (h2 : w ≤ w') : Sd n' w' d := ⟨Nat.le_trans s.dep h1, Nat.le_trans s.wei h2, s.sh, s.ls, s.ok⟩
theorem SdAll.mono {n w n' w' : Nat} {d : List PyData} (s : SdAll n w d) (h1 : n ≤ n') (h2 : w ≤ w') : SdAll n' w' d := ⟨Nat.le_trans s.dep h1, Nat.le_trans s.wei h2, s.sh, s.ls, s.ok⟩
theorem SdAll.nil {n : Nat} : SdAll n 0 [] := ⟨by simp only [PyData.depthAll]; omega, by simp only [PyData.weightAll]; omega, by simp only [PyData.showableAll], by simp only [PyData.leavesShortAll], by simp only [sokAll]⟩
theorem SdAll.cons {n w v : Nat} {d : PyData} {ds : List PyData} (h : Sd n w d) (k : SdAll n v ds) : SdAll n (w + 1 + v) (d :: ds) := by
  obtain ⟨a1, a2, a3, a4, a5⟩ := h
  obtain ⟨b1, b2, b3, b4, b5⟩ := k
  exact ⟨by simp only [PyData.depthAll]; omega, by simp only [PyData.weightAll]; omega, by simp only [PyData.showableAll, a3, b3, Bool.and_self], by simp only [PyData.leavesShortAll, a4, b4, Bool.and_self], by simp only [sokAll, a5, b5, Bool.and_self]⟩
theorem SdAll.inv {n w : Nat} {d : PyData} {ds : List PyData} (h : SdAll n w (d :: ds)) : ∃ u v, u + 1 + v ≤ w ∧ Sd n u d ∧ SdAll n v ds := by
  obtain ⟨a1, a2, a3, a4, a5⟩ := h
  simp only [PyData.depthAll] at a1
  simp only [PyData.weightAll] at a2
  simp only [PyData.showableAll, Bool.and_eq_true] at a3
  simp only [PyData.leavesShortAll, Bool.and_eq_true] at a4
  simp only [sokAll, Bool.and_eq_true] at a5
  exact ⟨d.weight, PyData.weightAll ds, by omega, ⟨by omega, Nat.le_refl _, a3.1, a4.1, a5.1⟩, ⟨by omega, Nat.le_refl _, a3.2, a4.2, a5.2⟩⟩
theorem SdAll.app {n : Nat} : ∀ {w v : Nat} {ds es : List PyData}, SdAll n w ds → SdAll n v es → SdAll n (w + v) (ds ++ es)
  | _, _, [], _, _, k => k.mono (Nat.le_refl _) (by omega)
  | _, _, d :: ds, es, h, k => by
    obtain ⟨a, b, hab, h1, h2⟩ := h.inv
    exact (SdAll.cons h1 (h2.app k)).mono (Nat.le_refl _) (by omega)
theorem SdAll.take {n : Nat} : ∀ {w : Nat} {ds : List PyData} (k : Nat), SdAll n w ds → SdAll n w (ds.take k)
  | _, ds, 0, _ => by rw [List.take_zero]; exact SdAll.nil.mono (Nat.le_refl _) (by omega)
  | _, [], k + 1, h => by rw [List.take_nil]; exact h
  | _, d :: ds, k + 1, h => by
    obtain ⟨a, b, hab, h1, h2⟩ := h.inv
    rw [List.take_succ_cons]
    exact (SdAll.cons h1 (h2.take k)).mono (Nat.le_refl _) (by omega)
theorem SdAll.drop {n : Nat} : ∀ {w : Nat} {ds : List PyData} (k : Nat), SdAll n w ds → SdAll n w (ds.drop k)
  | _, ds, 0, h => h
  | _, [], k + 1, h => by rw [List.drop_nil]; exact h
  | _, d :: ds, k + 1, h => by
    obtain ⟨a, b, hab, h1, h2⟩ := h.inv
    rw [List.drop_succ_cons]
    exact (h2.drop k).mono (Nat.le_refl _) (by omega)
theorem SdAll.get {n : Nat} : ∀ {w : Nat} {ds : List PyData} {d : PyData}, SdAll n w ds → d ∈ ds → Sd n w d
  | _, d :: ds, e, h, hm => by
    obtain ⟨a, b, hab, h1, h2⟩ := h.inv
    rcases List.mem_cons.mp hm with rfl | hm
    · exact h1.mono (Nat.le_refl _) (by omega)
    · exact (h2.get hm).mono (Nat.le_refl _) (by omega)
theorem sd_all {n w : Nat} : ∀ {ds : List PyData}, (∀ d ∈ ds, Sd n w d) → SdAll n (ds.length * (w + 1)) ds
  | [], _ => SdAll.nil.mono (Nat.le_refl _) (by omega)
  | d :: ds, h => (SdAll.cons (h d List.mem_cons_self) (sd_all (ds := ds) fun x hx => h x (List.mem_cons_of_mem _ hx))).mono (Nat.le_refl _) (by rw [List.length_cons, Nat.succ_mul]; omega)
theorem sd_lst' {n w : Nat} {ds : List PyData} (h : SdAll n w ds) : Sd (n + 1) w (.list ds) := by
  obtain ⟨b1, b2, b3, b4, b5⟩ := h
  exact ⟨by simp only [PyData.depth]; omega, by simp only [PyData.weight]; exact b2, by simp only [PyData.showable, b3], by simp only [PyData.leavesShort, b4], by simp only [sok, b5]⟩
theorem sd_tup' {n w : Nat} {ds : List PyData} (h : SdAll n w ds) : Sd (n + 1) w (.tuple ds) := by
  obtain ⟨b1, b2, b3, b4, b5⟩ := h
  exact ⟨by simp only [PyData.depth]; omega, by simp only [PyData.weight]; exact b2, by simp only [PyData.showable, b3], by simp only [PyData.leavesShort, b4], by simp only [sok, b5]⟩
theorem sd_lst {n w : Nat} {ds : List PyData} (h : ∀ d ∈ ds, Sd n w d) : Sd (n + 1) (ds.length * (w + 1)) (.list ds) := sd_lst' (sd_all h)
theorem sd_tup {n w : Nat} {ds : List PyData} (h : ∀ d ∈ ds, Sd n w d) : Sd (n + 1) (ds.length * (w + 1)) (.tuple ds) := sd_tup' (sd_all h)
theorem Sd.tupI {n w : Nat} {ds : List PyData} (s : Sd (n + 1) w (.tuple ds)) : SdAll n w ds := by
  obtain ⟨b1, b2, b3, b4, b5⟩ := s
  simp only [PyData.depth] at b1
  exact ⟨by omega, by simpa only [PyData.weight] using b2, by simpa only [PyData.showable] using b3, by simpa only [PyData.leavesShort] using b4, by simpa only [sok] using b5⟩
theorem Sd.lstI {n w : Nat} {ds : List PyData} (s : Sd (n + 1) w (.list ds)) : SdAll n w ds := by
  obtain ⟨b1, b2, b3, b4, b5⟩ := s
  simp only [PyData.depth] at b1
  exact ⟨by omega, by simpa only [PyData.weight] using b2, by simpa only [PyData.showable] using b3, by simpa only [PyData.leavesShort] using b4, by simpa only [sok] using b5⟩
theorem sd_non : Sd 0 0 .none := ⟨by simp only [PyData.depth]; omega, by simp only [PyData.weight]; omega, by simp only [PyData.showable], by simp only [PyData.leavesShort], by simp only [sok]⟩
theorem sd_bl (b : Bool) : Sd 0 0 (.bool b) := ⟨by simp only [PyData.depth]; omega, by simp only [PyData.weight]; omega, by simp only [PyData.showable], by simp only [PyData.leavesShort], by simp only [sok]⟩
theorem sd_emp : Sd 1 0 (.dict []) := ⟨by simp only [PyData.depth, PyData.depthKv]; omega, by simp only [PyData.weight, PyData.weightKv]; omega, by simp only [PyData.showable, PyData.showableKv], by simp only [PyData.leavesShort, PyData.leavesShortKv], by simp only [sok]⟩
theorem strOk_lt' {l : List Nat} (h : ∀ c ∈ l, c ≤ 1000) : PyData.strOk (S l) = true := by
  unfold PyData.strOk
  rw [Array.all_eq_true]
  intro i hi
  have q := h (l[i]'(by simpa [S] using hi)) (List.getElem_mem _)
  have e : (S l).cps[i] = l[i]'(by simpa [S] using hi) := by simp [S]
  rw [e]
  exact decide_eq_true (by omega)
theorem sd_str {l : List Nat} (h : ∀ c ∈ l, c ≤ 1000) : Sd 0 l.length (.str (S l)) := by
  refine ⟨by simp only [PyData.depth]; omega, by simp only [PyData.weight, S_size]; omega, by simp only [PyData.showable], ?_, by simp only [sok]; exact strOk_lt' h⟩
  simp only [PyData.leavesShort]
  rw [List.all_eq_true]
  intro c hc
  have : c ∈ l := by simpa [S] using hc
  exact decide_eq_true (by have := h c this; omega)
theorem sd_intW {i : Int} {n k : Nat} (h : i.natAbs < 10 ^ 40) (h2 : i.natAbs < 2 ^ k) : Sd 0 k (.int i) := by
  refine ⟨by simp only [PyData.depth]; omega, ?_, ?_, ?_, by simp only [sok]⟩
  · simp only [PyData.weight]
    split
    · omega
    · rename_i z
      have z' : i.natAbs ≠ 0 := by
        intro e
        have : i = 0 := by omega
        rw [this] at z
        exact z rfl
      have := (Nat.log2_lt z' (k := k)).mpr h2
      omega
  · simp only [PyData.showable]
    refine decide_eq_true ?_
    by_cases z : i.natAbs = 0
    · rw [z]; decide
    · have := (Nat.log2_lt z (k := 139)).mpr (Nat.lt_of_lt_of_le h (by decide))
      omega
  · simp only [PyData.leavesShort]
    have e := int_text_length_le10 (k := 40) (by decide) h
    refine decide_eq_true ?_
    show (Str.ofString (toString i)).length ≤ 60
    rw [PySem.ofString_length]
    omega
theorem sd_int {i : Int} (h : i.natAbs < 10 ^ 40) : Sd 0 140 (.int i) := sd_intW (n := 0) h (Nat.lt_of_lt_of_le h (by decide))
/-- an int of a few digits -/
theorem sd_int9 {i : Int} (h : i.natAbs < 512) : Sd 0 9 (.int i) := sd_intW (n := 0) (Nat.lt_of_lt_of_le h (by decide)) (by omega)
theorem Sd.len {n w : Nat} {d : PyData} (s : Sd n w d) (hw : w ≤ 270000) : d.shown.length ≤ sizeLine := by
  have := PyData.shown_le 60 (by omega) d s.ls
  have h2 := s.wei
  have : d.shown.length ≤ 62 * 270000 + 60 := Nat.le_trans this (by omega)
  exact Nat.le_trans this (by decide)
end
def rRepE (K : PySem.W.Frag) : List V → Hp → VK → Prop := fun xs M R => ∃ x d n w, xs = [x] ∧ (De K M x d ∨ (Dp K M x d ∧ d.hasDict = false)) ∧ Sd n w d ∧ n ≤ 60 ∧ w ≤ 270000 ∧ R (.str d.shown) M
theorem call_repE {X : Cx} (quiet : X.A.guards = some []) (hu : X.A.units + 64 < cLine) : CallR X (.builtin "repr") (rRepE X.K) := by
  intro pins s σ M xs us R I r h
  obtain ⟨x, d, n, w, rfl, hd, sd, hn, hw, q⟩ := h
  obtain ⟨u, rfl, ru⟩ := vals1 r
  have sz := sd.len hw
  have dp := sd.dep
  rcases hd with hd | ⟨hd, nd⟩
  rotate_left
  · obtain ⟨as, rd⟩ := Dp.reads I d x u hd ru
    cases hd with
    | non =>
      cases ru
      exact PySem.P.repr_of_none ⟨.str (PyData.shown .none), M, I.tok _, ⟨_, by simp only [PyData.shown]; rfl⟩, q⟩
    | bl b =>
      cases ru
      exact PySem.P.repr_of_bool ⟨.str (PyData.shown (.bool b)), M, I.tok _, ⟨_, by simp only [PyData.shown]; rfl⟩, q⟩
    | int i =>
      obtain ⟨t, rfl⟩ := ru
      exact PySem.P.repr_of_int (of_decide_eq_true (by simpa only [PyData.showable] using sd.sh)) ⟨.str (PyData.shown (.int i)), M, I.tok _, ⟨_, by simp only [PyData.shown]; rfl⟩, q⟩
    | str z =>
      obtain ⟨t, rfl⟩ := ru
      exact PySem.P.repr_of_str ⟨.str (PyData.shown (.str z)), M, I.tok _, ⟨_, by simp only [PyData.shown]; rfl⟩, q⟩ (by simpa only [PyData.shown] using sz)
    | lst h1 h2 =>
      cases ru
      exact repr_of_reads' rd sd.sh (PyData.noDict_hsm nd) quiet (by omega) (fun _ _ e => e) (fun h' t tk keep => ⟨.str _, M, I.kept (t' := tk) keep, ⟨t, rfl⟩, q⟩) sz
    | tup h1 h2 =>
      cases ru
      exact repr_of_reads' rd sd.sh (PyData.noDict_hsm nd) quiet (by omega) (fun _ _ e => e) (fun h' t tk keep => ⟨.str _, M, I.kept (t' := tk) keep, ⟨t, rfl⟩, q⟩) sz
  obtain ⟨as, rd, nn⟩ := De.reads I d x u hd ru
  cases hd with
  | non =>
    cases ru
    exact PySem.P.repr_of_none ⟨.str (PyData.shown .none), M, I.tok _, ⟨_, by simp only [PyData.shown]; rfl⟩, q⟩
  | bl b =>
    cases ru
    exact PySem.P.repr_of_bool ⟨.str (PyData.shown (.bool b)), M, I.tok _, ⟨_, by simp only [PyData.shown]; rfl⟩, q⟩
  | int i =>
    obtain ⟨t, rfl⟩ := ru
    exact PySem.P.repr_of_int (of_decide_eq_true (by simpa only [PyData.showable] using sd.sh)) ⟨.str (PyData.shown (.int i)), M, I.tok _, ⟨_, by simp only [PyData.shown]; rfl⟩, q⟩
  | str z =>
    obtain ⟨t, rfl⟩ := ru
    exact PySem.P.repr_of_str ⟨.str (PyData.shown (.str z)), M, I.tok _, ⟨_, by simp only [PyData.shown]; rfl⟩, q⟩ (by simpa only [PyData.shown] using sz)
  | lst h1 h0 h2 =>
    cases ru
    exact repr_of_reads' rd sd.sh (fun _ => nn) quiet (by omega) (fun _ _ e => e) (fun h' t tk keep => ⟨.str _, M, I.kept (t' := tk) keep, ⟨t, rfl⟩, q⟩) sz
  | tup h1 h2 =>
    cases ru
    exact repr_of_reads' rd sd.sh (fun _ => nn) quiet (by omega) (fun _ _ e => e) (fun h' t tk keep => ⟨.str _, M, I.kept (t' := tk) keep, ⟨t, rfl⟩, q⟩) sz
  | dict h1 h2 =>
    cases ru
    exact repr_of_reads' rd sd.sh (fun _ => nn) quiet (by omega) (fun _ _ e => e) (fun h' t tk keep => ⟨.str _, M, I.kept (t' := tk) keep, ⟨t, rfl⟩, q⟩) sz
theorem i_repE {K : PySem.W.Frag} {M : Hp} {x : V} {d : PyData} {n w : Nat} {R : VK} (h : De K M x d) (s : Sd n w d) (hn : n ≤ 60 := by omega) (hw : w ≤ 270000 := by omega) (k : R (.str d.shown) M) : rRepE K [x] M R := ⟨x, d, n, w, rfl, .inl h, s, hn, hw, k⟩
theorem i_repP {K : PySem.W.Frag} {M : Hp} {x : V} {d : PyData} {n w : Nat} {R : VK} (h : Dp K M x d) (z : d.hasDict = false) (s : Sd n w d) (hn : n ≤ 60 := by omega) (hw : w ≤ 270000 := by omega) (k : R (.str d.shown) M) : rRepE K [x] M R := ⟨x, d, n, w, rfl, .inr ⟨h, z⟩, s, hn, hw, k⟩
/-! ### what is kept -/
mutual
theorem De.same {K : PySem.W.Frag} {H H' : Hp} (s : Same H H') : ∀ {v : V} {d : PyData}, De K H v d → De K H' v d
  | _, _, .non => .non
  | _, _, .bl b => .bl b
  | _, _, .int i => .int i
  | _, _, .str x => .str x
  | _, _, .lst h1 h0 h2 => .lst (s _ _ h1) h0 (DeAll.same s h2)
  | _, _, .tup h1 h2 => .tup (Same.sqT s h1) (DeAll.same s h2)
  | _, _, .dict h1 h2 => .dict (s _ _ h1) (DeKv.same s h2)
theorem DeAll.same {K : PySem.W.Frag} {H H' : Hp} (s : Same H H') : ∀ {vs : List V} {ds : List PyData}, DeAll K H vs ds → DeAll K H' vs ds
  | _, _, .nil => .nil
  | _, _, .cons h1 h2 => .cons (De.same s h1) (DeAll.same s h2)
theorem DeKv.same {K : PySem.W.Frag} {H H' : Hp} (s : Same H H') : ∀ {vs : List (Key × V)} {ds : List (PyData × PyData)}, DeKv K H vs ds → DeKv K H' vs ds
  | _, _, .nil => .nil
  | _, _, .cons h1 h2 => .cons (De.same s h1) (DeKv.same s h2)
end
theorem DeAll.len {K : PySem.W.Frag} {H : Hp} : ∀ {vs : List V} {ds : List PyData}, DeAll K H vs ds → vs.length = ds.length
  | _, _, .nil => rfl
  | _, _, .cons _ h2 => by rw [List.length_cons, List.length_cons, h2.len]
theorem DeAll.get {K : PySem.W.Frag} {H : Hp} : ∀ {vs : List V} {ds : List PyData} {i : Nat} {v : V}, DeAll K H vs ds → vs[i]? = some v → ∃ d, ds[i]? = some d ∧ De K H v d
  | _, _, _, _, .nil, e => by simp at e
  | _, _, 0, _, .cons h1 _, e => by simp at e; subst e; exact ⟨_, rfl, h1⟩
  | _, _, i + 1, v, .cons _ h2, e => by
    obtain ⟨d, h1, h3⟩ := h2.get (i := i) (v := v) (by simpa using e)
    exact ⟨d, by simpa using h1, h3⟩
theorem DeAll.app {K : PySem.W.Frag} {H : Hp} : ∀ {vs ws : List V} {ds es : List PyData}, DeAll K H vs ds → DeAll K H ws es → DeAll K H (vs ++ ws) (ds ++ es)
  | _, _, _, _, .nil, h => h
  | _, _, _, _, .cons h1 h2, h => .cons h1 (h2.app h)
theorem DeAll.take {K : PySem.W.Frag} {H : Hp} : ∀ {vs : List V} {ds : List PyData} (n : Nat), DeAll K H vs ds → DeAll K H (vs.take n) (ds.take n)
  | _, _, 0, _ => by rw [List.take_zero, List.take_zero]; exact .nil
  | _, _, n + 1, .nil => by rw [List.take_nil, List.take_nil]; exact .nil
  | _, _, n + 1, .cons h1 h2 => .cons h1 (h2.take n)
theorem DeAll.drop {K : PySem.W.Frag} {H : Hp} : ∀ {vs : List V} {ds : List PyData} (n : Nat), DeAll K H vs ds → DeAll K H (vs.drop n) (ds.drop n)
  | _, _, 0, h => h
  | _, _, n + 1, .nil => by rw [List.drop_nil, List.drop_nil]; exact .nil
  | _, _, n + 1, .cons _ h2 => h2.drop n
mutual
theorem De.dp {K : PySem.W.Frag} {H : Hp} : ∀ {v : V} {d : PyData}, De K H v d → d.hasDict = false → Dp K H v d
  | _, _, .non, _ => .non
  | _, _, .bl b, _ => .bl b
  | _, _, .int i, _ => .int i
  | _, _, .str x, _ => .str x
  | _, _, .lst h1 _ h2, z => .lst (.inl (.inl h1)) (h2.dp (by simpa only [PyData.hasDict] using z))
  | _, _, .tup h1 h2, z => .tup h1 (h2.dp (by simpa only [PyData.hasDict] using z))
  | _, _, .dict _ _, z => by simp only [PyData.hasDict] at z; cases z
theorem DeAll.dp {K : PySem.W.Frag} {H : Hp} : ∀ {vs : List V} {ds : List PyData}, DeAll K H vs ds → PyData.hasDictAll ds = false → DpAll K H vs ds
  | _, _, .nil, _ => .nil
  | _, _, .cons h1 h2, z => by
    simp only [PyData.hasDictAll, Bool.or_eq_false_iff] at z
    exact .cons (h1.dp z.1) (h2.dp z.2)
end
theorem Sd.shaped {n w : Nat} {d : PyData} (s : Sd n w d) (h : n ≤ 60) (z : d.hasDict = false) : SeqAt.shaped d = true := by
  show (PyData.canLay0 d && decide (PyData.depth d ≤ 64)) = true
  rw [sok_lay s.ok z, Bool.true_and]
  exact decide_eq_true (Nat.le_trans s.dep (by omega))
theorem i_eqE {K : PySem.W.Frag} {H : Hp} {x y : V} {d e : PyData} {Q : VK} {n w m u : Nat} (h1 : De K H x d) (h2 : De K H y e) (s1 : Sd n w d) (s2 : Sd m u e) (z1 : d.hasDict = false) (z2 : e.hasDict = false) (k : Q (.bl (PyData.eqv d e)) H) (hn : n ≤ 60 := by omega) (hm : m ≤ 60 := by omega) : rEqD K x y H Q :=
  ⟨d, e, h1.dp z1, h2.dp z2, s1.shaped hn z1, s2.shaped hm z2, k⟩
theorem i_neE {K : PySem.W.Frag} {H : Hp} {x y : V} {d e : PyData} {Q : VK} {n w m u : Nat} (h1 : De K H x d) (h2 : De K H y e) (s1 : Sd n w d) (s2 : Sd m u e) (z1 : d.hasDict = false) (z2 : e.hasDict = false) (k : Q (.bl (!PyData.eqv d e)) H) (hn : n ≤ 60 := by omega) (hm : m ≤ 60 := by omega) : rNeD K x y H Q :=
  ⟨d, e, h1.dp z1, h2.dp z2, s1.shaped hn z1, s2.shaped hm z2, k⟩
/-! ### isinstance of data -/
def tyB : String → PyData → Bool
  | "int", .int _ => true
  | "int", .bool _ => true
  | "bool", .bool _ => true
  | "str", .str _ => true
  | "list", .list _ => true
  | "tuple", .tuple _ => true
  | _, _ => false
theorem tyx_tup {K : PySem.W.Frag} {H : Hp} {a : Addr} {xs : List V} (h : SqT K H a xs) : TyX K H (.ref a) (.type "tuple") := by
  rcases h with (h | ⟨o, h⟩) | ⟨o, its, n, h, c, _⟩
  · exact .base (.tup h)
  · exact .fTuple h
  · exact .kTuple h c
theorem De.isi {K : PySem.W.Frag} {H : Hp} {v : V} {d : PyData} {Q : VK} {n : String} (h : De K H v d) (hn : n = "int" ∨ n = "bool" ∨ n = "str" ∨ n = "list" ∨ n = "tuple") (k : Q (.bl (tyB n d)) H) : rIsi K [v, .ty n] H Q := by
  cases h with
  | non => rcases hn with rfl | rfl | rfl | rfl | rfl <;> exact i_isi _ (.base .non) (kit_ty (by first | (show _ = some true; decide +kernel) | (show _ = some false; decide +kernel))) k
  | bl b => rcases hn with rfl | rfl | rfl | rfl | rfl <;> exact i_isi _ (.base (.bl _)) (kit_ty (by first | (show _ = some true; decide +kernel) | (show _ = some false; decide +kernel))) k
  | int i => rcases hn with rfl | rfl | rfl | rfl | rfl <;> exact i_isi _ (.base (.int _)) (kit_ty (by first | (show _ = some true; decide +kernel) | (show _ = some false; decide +kernel))) k
  | str x => rcases hn with rfl | rfl | rfl | rfl | rfl <;> exact i_isi _ (.base (.str _)) (kit_ty (by first | (show _ = some true; decide +kernel) | (show _ = some false; decide +kernel))) k
  | lst h1 _ h2 => rcases hn with rfl | rfl | rfl | rfl | rfl <;> exact i_isi _ (.base (.lst h1)) (kit_ty (by first | (show _ = some true; decide +kernel) | (show _ = some false; decide +kernel))) k
  | tup h1 h2 => rcases hn with rfl | rfl | rfl | rfl | rfl <;> exact i_isi _ (tyx_tup h1) (kit_ty (by first | (show _ = some true; decide +kernel) | (show _ = some false; decide +kernel))) k
  | dict h1 h2 => rcases hn with rfl | rfl | rfl | rfl | rfl <;> exact i_isi _ (.base (.dK h1)) (kit_ty (by first | (show _ = some true; decide +kernel) | (show _ = some false; decide +kernel))) k
theorem De.tupI {K : PySem.W.Frag} {H : Hp} {v : V} {ds : List PyData} (h : De K H v (.tuple ds)) : ∃ a xs, v = .ref a ∧ SqT K H a xs ∧ DeAll K H xs ds := by
  cases h with | tup h1 h2 => exact ⟨_, _, rfl, h1, h2⟩
theorem De.lstI {K : PySem.W.Frag} {H : Hp} {v : V} {ds : List PyData} (h : De K H v (.list ds)) : ∃ a xs, v = .ref a ∧ H a = some (.lst xs) ∧ sysModules < a ∧ DeAll K H xs ds := by
  cases h with | lst h1 h0 h2 => exact ⟨_, _, rfl, h1, h0, h2⟩
theorem De.intI {K : PySem.W.Frag} {H : Hp} {v : V} {i : Int} (h : De K H v (.int i)) : v = .int i := by cases h; rfl
section
variable {X : Cx} {es : List Expr} {t : TA} {pos : Pos}
def tLstL (t : TA) : TE := fun σ H Q => t σ H fun xs H1 => xs.length ≤ sizeLine ∧ ∀ p, H1 p = none → sysModules < p → Q (.ref p) (upd H1 p (.lst xs))
theorem pe_lstL (h : PA X es t) : PE X (.List es pos) (tLstL t) := by
  refine ⟨fun pins s σ H Q I hq => ?_⟩
  refine wpAny_List_spliced (thn (h.run pos pins s σ H _ I hq) fun us s1 ⟨xs, H1, I1, r, z, q⟩ => ⟨by rw [← r.length]; exact z, ?_⟩)
  have hf : H1 s1.heap.objs.size = none := I1.hok.fresh (Nat.le_refl _)
  refine ⟨.ref s1.heap.objs.size, upd H1 s1.heap.objs.size (.lst xs), I1.laid (t' := s1.toks) (fun b u e => Heap.get?_push_of_some _ e) (Nat.le_refl _) ?_, rfl, q _ hf I1.big⟩
  exact ⟨z, us, 0, r, Heap.get?_push_size _ rfl⟩
theorem i_lstL {σ : L2.St} {H : Hp} {Q : VK} (h : t σ H fun xs H1 => xs.length ≤ sizeLine ∧ ∀ p, H1 p = none → sysModules < p → Q (.ref p) (upd H1 p (.lst xs))) : tLstL t σ H Q := h
def rListL (K : PySem.W.Frag) : List V → Hp → VK → Prop := fun xs H Q => ∃ p ys, xs = [.ref p] ∧ (SqL K H p ys ∨ SqT K H p ys) ∧ ∀ l, H l = none → sysModules < l → Q (.ref l) (upd H l (.lst ys))
theorem call_listL : CallR X (.type "list") (rListL X.K) := by
  intro pins s σ H xs us Q I r h
  obtain ⟨p, ys, rfl, hq, q⟩ := h
  obtain ⟨u, rfl, rx⟩ := vals1 r
  cases rx
  have fin : ∀ (its : List Value), Vals ys its → ys.length ≤ sizeLine → ∀ (h' : Heap) (c' : Nat), (∀ b o', s.heap.get? b = some o' → h'.get? b = some o') →
      h'.get? s.heap.objs.size = some { cls := .type "list", dict := none, data := .seq its.toArray c', slots := #[] } → EP X pins σ Q (.ref s.heap.objs.size) { s with heap := h' } := fun its r' hz h' c' kp e =>
    ⟨.ref s.heap.objs.size, _, I.laid (t' := s.toks) kp (Nat.le_refl _) (show ObjOk X.prog X.w _ h' _ (.lst ys) from ⟨hz, its, c', r', e⟩), rfl, q _ (I.hok.fresh (Nat.le_refl _)) I.big⟩
  rcases hq with hq | hq
  · obtain ⟨its, r', pl, hz⟩ := I.list hq
    have hlen := r'.length
    obtain ⟨o, ho, hc, n, hd⟩ := pl.isList
    exact call_list_seq p (.inl rfl) ho hc hd (fun h' c' kp e => fin its r' hz h' c' kp e) (by simp only [List.size_toArray] <;> omega)
  · obtain ⟨its, r', pl, hz⟩ := I.tuple hq
    have hlen := r'.length
    obtain ⟨o, ho, hc, n, hd⟩ := pl
    exact call_list_seq p (.inr rfl) ho hc hd (fun h' c' kp e => fin its r' hz h' c' kp e) (by simp only [List.size_toArray] <;> omega)
theorem i_listL {K : PySem.W.Frag} {p : Addr} {ys : List V} {H : Hp} {Q : VK} (h : SqL K H p ys ∨ SqT K H p ys) (k : ∀ l, H l = none → sysModules < l → Q (.ref l) (upd H l (.lst ys))) : rListL K [.ref p] H Q := ⟨p, ys, rfl, h, k⟩
end
end Sw
namespace PySem.SeqAt
open MeetsSeq PySem
theorem dict_eq_declines_str (l : Addr) (es : Array DictEntry) (n : Nat) (dd : Option Addr) (sl : Array (Option Value)) (b : Str) (u : Tok) :
    Meets (Builtin.«dict.__eq__» ⟨[.ref l, .str b u], []⟩) (fun _ R s => s.heap.get? l = some { cls := .type "dict", dict := dd, data := .dict es n, slots := sl } ∧ R (.ok (.ret .notImplemented)) s) :=
  .of_wp fun prog w A R s h => by obtain ⟨hp, g, d, tk, os⟩ := s; obtain ⟨hl, h⟩ := h; have f1 := F.sub_str_dict; wp_walk using wpAny_loadPart' hl, wpAny_load hl; exact ⟨_, rfl, h⟩
theorem str_eq_declines_dict (b : Str) (u : Tok) (l : Addr) (c : Value) (es : Array DictEntry) (n : Nat) (dd : Option Addr) (sl : Array (Option Value)) :
    Meets (Builtin.«str.__eq__» ⟨[.str b u, .ref l], []⟩) (fun _ R s => s.heap.get? l = some { cls := c, dict := dd, data := .dict es n, slots := sl } ∧ R (.ok (.ret .notImplemented)) s) :=
  .of_wp fun prog w A R s h => by obtain ⟨hp, g, d, tk, os⟩ := s; obtain ⟨hl, h⟩ := h; wp_walk using wpAny_loadPart' hl, wpAny_load hl; exact ⟨_, rfl, h⟩
theorem dict_ne_declines_str (l : Addr) (es : Array DictEntry) (n : Nat) (dd : Option Addr) (sl : Array (Option Value)) (b : Str) (u : Tok) :
    Meets (Builtin.«dict.__ne__» ⟨[.ref l, .str b u], []⟩) (fun _ R s => s.heap.get? l = some { cls := .type "dict", dict := dd, data := .dict es n, slots := sl } ∧ R (.ok (.ret .notImplemented)) s) :=
  .of_wp fun prog w A R s h => by obtain ⟨hp, g, d, tk, os⟩ := s; obtain ⟨hl, h⟩ := h; have f1 := F.sub_str_dict; wp_walk using wpAny_loadPart' hl, wpAny_load hl; exact ⟨_, rfl, h⟩
theorem str_ne_declines_dict (b : Str) (u : Tok) (l : Addr) (c : Value) (es : Array DictEntry) (n : Nat) (dd : Option Addr) (sl : Array (Option Value)) :
    Meets (Builtin.«str.__ne__» ⟨[.str b u, .ref l], []⟩) (fun _ R s => s.heap.get? l = some { cls := c, dict := dd, data := .dict es n, slots := sl } ∧ R (.ok (.ret .notImplemented)) s) :=
  .of_wp fun prog w A R s h => by obtain ⟨hp, g, d, tk, os⟩ := s; obtain ⟨hl, h⟩ := h; wp_walk using wpAny_loadPart' hl, wpAny_load hl; exact ⟨_, rfl, h⟩
section
variable {A : Around} {s : Shared}
theorem RcAt.dict_str {l : Addr} {es : Array DictEntry} {n : Nat} {o : Obj} (b : Str) (u : Tok) (ho : s.heap.get? l = some o) (hc : o.cls = .type "dict") (hd : o.data = .dict es n) (hu : A.units < cLine) : RcAt A s (.ref l) (.str b u) false := fun prog w E Q h => by
  obtain ⟨cls, dd, data, sl⟩ := o
  simp only at hc hd
  subst hc hd
  exact rc_eq_decline_or (k := false) ⟨_, ho, rfl⟩ (typeIs_str s b u) (by decide) F.sub_str_dict F.slot_dict_eq F.slot_str_eq_refl
    (fun _ hq => call_meets F.slot_dict_eq ⟨_, ho, rfl⟩ F.entry_dict_eq (F.args_dict_eq_2 _ _) (dict_eq_declines_str l es n dd sl b u) ⟨ho, hq⟩)
    (fun _ hq => call_meets F.slot_str_eq_refl (typeIs_str s b u) F.entry_str_eq (F.args_str_eq_2 _ _) (str_eq_declines_dict b u l (.type "dict") es n dd sl) ⟨ho, hq⟩)
    (fun _ hq => wpAny_of_eq (rfl : isSame (.ref l) (.str b u) = pure false) hq) (.inr hu) h
theorem RcNeAt.dict_str {l : Addr} {es : Array DictEntry} {n : Nat} {o : Obj} (b : Str) (u : Tok) (ho : s.heap.get? l = some o) (hc : o.cls = .type "dict") (hd : o.data = .dict es n) (hu : A.units < cLine) : RcNeAt A s (.ref l) (.str b u) true := fun prog w E Q h => by
  obtain ⟨cls, dd, data, sl⟩ := o
  simp only at hc hd
  subst hc hd
  exact rc_ne_decline_or (k := false) ⟨_, ho, rfl⟩ (typeIs_str s b u) (by decide) F.sub_str_dict F.slot_dict_ne F.slot_str_ne_refl
    (fun _ hq => call_meets F.slot_dict_ne ⟨_, ho, rfl⟩ F.entry_dict_ne (F.args_dict_ne_2 _ _) (dict_ne_declines_str l es n dd sl b u) ⟨ho, hq⟩)
    (fun _ hq => call_meets F.slot_str_ne_refl (typeIs_str s b u) F.entry_str_ne (F.args_str_ne_2 _ _) (str_ne_declines_dict b u l (.type "dict") es n dd sl) ⟨ho, hq⟩)
    (fun _ hq => wpAny_of_eq (rfl : isSame (.ref l) (.str b u) = pure false) hq) (.inr hu) h
end
end PySem.SeqAt
namespace Sw
open PySem PySem.Spec PyProof.Rows L2
section
variable {X : Cx}
/-- x == y, x data, y data; a dict and a text are unlike -/
def rEqX (K : PySem.W.Frag) : R2 := fun x y H Q => rEqD K x y H Q ∨ ∃ a kvs z, x = .ref a ∧ H a = some (.dK kvs) ∧ y = .str z ∧ Q (.bl false) H
def rNeX (K : PySem.W.Frag) : R2 := fun x y H Q => rNeD K x y H Q ∨ ∃ a kvs z, x = .ref a ∧ H a = some (.dK kvs) ∧ y = .str z ∧ Q (.bl true) H
theorem op_eqX (hu : X.A.units + 64 < cLine) : OpR X (compareOp .Eq) (rEqX X.K) := by
  intro pins s σ H x y v u Q I rx ry h
  rcases h with h | ⟨a, kvs, z, rfl, ha, rfl, q⟩
  · exact op_eqD hu pins s σ H x y v u Q I rx ry h
  · cases rx
    obtain ⟨t, rfl⟩ := ry
    obtain ⟨_, notSys, vs, kv, o, es, ep, ho, ex, hd, _, pr, _⟩ : ObjOk X.prog X.w H s.heap _ (.dK _) := I.hok _ _ ha
    exact SeqAt.RcAt.dict_str z t ho ex.1 hd (by omega) _ _ _ _ ⟨.bl _, H, I, rfl, q⟩
theorem op_neX (hu : X.A.units + 64 < cLine) : OpR X (compareOp .NotEq) (rNeX X.K) := by
  intro pins s σ H x y v u Q I rx ry h
  rcases h with h | ⟨a, kvs, z, rfl, ha, rfl, q⟩
  · exact op_neD hu pins s σ H x y v u Q I rx ry h
  · cases rx
    obtain ⟨t, rfl⟩ := ry
    obtain ⟨_, notSys, vs, kv, o, es, ep, ho, ex, hd, _, pr, _⟩ : ObjOk X.prog X.w H s.heap _ (.dK _) := I.hok _ _ ha
    exact SeqAt.RcNeAt.dict_str z t ho ex.1 hd (by omega) _ _ _ _ ⟨.bl _, H, I, rfl, q⟩
/-- x in y, y a tuple of data -/
def rInT (K : PySem.W.Frag) : R2 := fun x y H Q => ∃ d ds, Dp K H x d ∧ Dp K H y (.tuple ds) ∧ SeqAt.shaped d = true ∧ SeqAt.shaped (.tuple ds) = true ∧ PyData.depthAll ds ≤ 10 ∧ Q (.bl (ds.any fun z => PyData.eqv z d)) H
theorem op_inT (hu : X.A.units + 64 < cLine) : OpR X (compareOp .In) (rInT X.K) := by
  intro pins s σ H x y v u Q I rx ry h
  obtain ⟨d, ds, hd, he, sd, se, dp, q⟩ := h
  obtain ⟨as, r1⟩ := Dp.reads I d x v hd rx
  obtain ⟨bs, r2⟩ := Dp.reads I (.tuple ds) y u he ry
  exact SeqAt.in_tuple_reads r2 r1 (SeqAt.canLay_of_shaped se) (SeqAt.canLay_of_shaped sd) (by have := Nat.min_le_left (PyData.depthAll ds) d.depth; omega) ⟨.bl _, H, I, rfl, q⟩
end
/-- whether data is the text l -/
def isS (l : List Nat) : PyData → Bool
  | .str z => decide (z = S l)
  | _ => false
theorem eqv_str_r (d : PyData) (l : List Nat) : PyData.eqv d (.str (S l)) = isS l d := by
  cases d <;> simp [PyData.eqv, isS] <;> rfl
theorem eqv_str_l (d : PyData) (l : List Nat) : PyData.eqv (.str (S l)) d = isS l d := by
  cases d with
  | str z =>
    simp only [PyData.eqv, isS]
    by_cases h : z = S l
    · rw [h, decide_eq_true rfl]; exact beq_self_eq_true _
    · rw [decide_eq_false h]; exact beq_eq_false_iff_ne.mpr (Ne.symm h)
  | _ => simp [PyData.eqv, isS]
theorem dp_strs' {K : PySem.W.Frag} {H : Hp} : ∀ ws : List (List Nat), DpAll K H (ws.map fun l => V.str (S l)) (ws.map fun l => PyData.str (S l))
  | [] => .nil
  | l :: ws => .cons (.str _) (dp_strs' ws)
/-- data without a dict inside, or an empty dict -/
def Ok1 (d : PyData) : Prop := d = .dict [] ∨ d.hasDict = false
theorem i_eqS1 {K : PySem.W.Frag} {H : Hp} {x : V} {d : PyData} {l : List Nat} {Q : VK} {n w : Nat} (h : De K H x d) (s : Sd n w d) (o : Ok1 d) (hl : ∀ c ∈ l, c ≤ 1000) (k : Q (.bl (isS l d)) H) (hn : n ≤ 60 := by omega) : rEqX K x (.str (S l)) H Q := by
  rcases o with rfl | z
  · cases h with | dict h1 h2 => exact .inr ⟨_, _, _, rfl, h1, rfl, k⟩
  · refine .inl (i_eqE h (.str _) s (sd_str hl) z (by simp only [PyData.hasDict]) ?_ hn)
    rw [eqv_str_r]
    exact k
theorem i_neS1 {K : PySem.W.Frag} {H : Hp} {x : V} {d : PyData} {l : List Nat} {Q : VK} {n w : Nat} (h : De K H x d) (s : Sd n w d) (o : Ok1 d) (hl : ∀ c ∈ l, c ≤ 1000) (k : Q (.bl (!isS l d)) H) (hn : n ≤ 60 := by omega) : rNeX K x (.str (S l)) H Q := by
  rcases o with rfl | z
  · cases h with | dict h1 h2 => exact .inr ⟨_, _, _, rfl, h1, rfl, k⟩
  · refine .inl (i_neE h (.str _) s (sd_str hl) z (by simp only [PyData.hasDict]) ?_ hn)
    rw [eqv_str_r]
    exact k
theorem i_inT {K : PySem.W.Frag} {H : Hp} {x : V} {d : PyData} {Q : VK} {n w : Nat} {a : Addr} (ls : List (List Nat)) (h : De K H x d) (s : Sd n w d) (z : d.hasDict = false) (hl : ∀ l ∈ ls, ∀ c ∈ l, c ≤ 1000) (ha : H a = some (.tup (ls.map fun l => .str (S l)))) (k : Q (.bl (ls.any fun l => isS l d)) H) (hn : n ≤ 60 := by omega) : rInT K x (.ref a) H Q := by
  refine ⟨d, ls.map fun l => .str (S l), h.dp z, .tup (sqT_of ha) (dp_strs' ls), s.shaped hn z, ?_, ?_, ?_⟩
  · have s2 : Sd 1 _ (.tuple (ls.map fun l => .str (S l))) := sd_tup (n := 0) (w := (ls.map List.length).foldr max 0) fun d hd => by
      obtain ⟨l, hl2, rfl⟩ := List.mem_map.mp hd
      refine (sd_str (hl l hl2)).mono (by omega) ?_
      clear hd hl k ha
      induction ls with
      | nil => cases hl2
      | cons y ys ih =>
        rw [List.map_cons, List.foldr_cons]
        rcases List.mem_cons.mp hl2 with rfl | hl2
        · exact Nat.le_max_left _ _
        · exact Nat.le_trans (ih hl2) (Nat.le_max_right _ _)
    refine s2.shaped (by omega) ?_
    simp only [PyData.hasDict]
    clear s2 hl k ha
    induction ls with
    | nil => rfl
    | cons y ys ih => simp only [List.map_cons, PyData.hasDictAll, PyData.hasDict, ih, Bool.or_self]
  · have : ∀ ks : List (List Nat), PyData.depthAll (ks.map fun l => PyData.str (S l)) = 0 := by
      intro ks
      induction ks with
      | nil => simp only [List.map_nil, PyData.depthAll]
      | cons y ys ih => simp only [List.map_cons, PyData.depthAll, PyData.depth, ih]; omega
    rw [this]; omega
  · rw [List.any_map]
    simp only [Function.comp_def, eqv_str_l]
    exact k
end Sw
namespace Sw
open PySem PySem.Spec PyProof.Rows L2
/-! ### kinds and passings as data -/
abbrev tLost : List Nat := [108, 111, 115, 116]
abbrev tPut : List Nat := [112, 117, 116]
abbrev tTurned : List Nat := [116, 117, 114, 110, 101, 100]
abbrev tSame : List Nat := [115, 97, 109, 101]
def isI : PyData → Bool
  | .int _ => true
  | _ => false
def isX (m : Int) : PyData → Bool
  | .int i => decide (0 ≤ i) && decide (i < m)
  | _ => false
def isG : PyData → Bool
  | .int i => decide (1 ≤ i) && decide (i ≤ 5)
  | _ => false
def kindB (m : Int) : PyData → Bool
  | .tuple [a, b] => isX m b && (isS tLost a || isS tPut a)
  | .tuple [a, b, c] => isX m b && isX m c && (isS tTurned a && !PyData.eqv b c)
  | _ => false
def sameB (m : Int) : PyData → Bool
  | .tuple [a, b] => isS tSame a && isX m b
  | _ => false
def passB (m : Int) : PyData → Bool
  | .tuple ds => ds.all fun s => sameB m s || kindB m s
  | _ => false
/-- the number of signs, if the data is one -/
def sgn (e : PyData) : Option Int := match e with
  | .int m => if 1 ≤ m ∧ m ≤ 5 then some m else none
  | _ => none
def onG (e : PyData) (b : Int → Bool) : Bool := match sgn e with
  | some m => b m
  | none => false
theorem sgn_some {e : PyData} {m : Int} (h : sgn e = some m) : e = .int m ∧ 1 ≤ m ∧ m ≤ 5 := by
  unfold sgn at h
  split at h
  · split at h
    · cases h; exact ⟨rfl, by assumption⟩
    · cases h
  · cases h
theorem isG_sgn (e : PyData) : isG e = (sgn e).isSome := by
  cases e <;> simp only [isG, sgn, Option.isSome]
  rename_i i
  by_cases h : 1 ≤ i ∧ i ≤ 5
  · rw [if_pos h, decide_eq_true h.1, decide_eq_true h.2]; rfl
  · rw [if_neg h, Bool.and_eq_false_iff]
    by_cases h1 : 1 ≤ i
    · exact .inr (decide_eq_false fun q => h ⟨h1, q⟩)
    · exact .inl (decide_eq_false h1)
/-- a step or what is told in its place: each part is without a dict, or is an empty one; a word ahead of one number has no dict -/
structure StOk (d : PyData) : Prop where
  parts : ∀ ds, d = .tuple ds → ∀ y ∈ ds, Ok1 y
  two : ∀ a b, d = .tuple [a, b] → isI b = true → a.hasDict = false
structure PsOk (d : PyData) : Prop where
  st : StOk d
  all : ∀ ds, d = .tuple ds → ∀ y ∈ ds, StOk y
theorem StOk.flat {d : PyData} (h : d.hasDict = false) : StOk d := by
  have p : ∀ ds, d = .tuple ds → ∀ y ∈ ds, y.hasDict = false := by
    rintro ds rfl y hy
    simp only [PyData.hasDict] at h
    induction ds with
    | nil => cases hy
    | cons z zs ih =>
      simp only [PyData.hasDictAll, Bool.or_eq_false_iff] at h
      rcases List.mem_cons.mp hy with rfl | hy
      · exact h.1
      · exact ih h.2 hy
  exact ⟨fun ds e y hy => .inr (p ds e y hy), fun a b e _ => p _ e _ List.mem_cons_self⟩
theorem hasDict_tup {ds : List PyData} : (PyData.tuple ds).hasDict = false ↔ ∀ y ∈ ds, y.hasDict = false := by
  simp only [PyData.hasDict]
  induction ds with
  | nil => simp [PyData.hasDictAll]
  | cons z zs ih => simp only [PyData.hasDictAll, Bool.or_eq_false_iff, ih, List.mem_cons, forall_eq_or_imp]
theorem PsOk.flat {d : PyData} (h : d.hasDict = false) : PsOk d := by
  refine ⟨.flat h, ?_⟩
  rintro ds rfl y hy
  exact .flat (hasDict_tup.mp h y hy)
theorem StOk.emp : StOk (.dict []) := ⟨fun ds e => by (cases e), fun a b e => by (cases e)⟩
theorem PsOk.emp : PsOk (.dict []) := ⟨.emp, fun ds e => by (cases e)⟩
end Sw
namespace Sw
open PySem PySem.Spec PyProof.Rows L2
theorem Sd.tupI' {n w : Nat} {ds : List PyData} (s : Sd n w (.tuple ds)) : SdAll n w ds := (Sd.tupI (n := n) (s.mono (by omega) (Nat.le_refl _)))
theorem Sd.lstI' {n w : Nat} {ds : List PyData} (s : Sd n w (.list ds)) : SdAll n w ds := (Sd.lstI (n := n) (s.mono (by omega) (Nat.le_refl _)))
theorem i_yes {σ : L2.St} {H : Hp} {R : Bool → Hp → Prop} (h : R true H) : tYes σ H R := h
/-! ### parts of tuples -/
theorem i_slTF {K : PySem.W.Frag} {a : Addr} {xs : List V} {k : Nat} {H : Hp} {Q : VK} (h : SqT K H a xs) (q : ∀ b H', Same H H' → SqT K H' b (xs.drop k) → Q (.ref b) H') : rSlA K (.ref a) (some (k : Int)) none H Q := by
  refine ⟨a, xs, rfl, h, fun e => ?_, fun e p np => ?_⟩
  · rw [HT.sIx_nat] at e
    refine q _ _ (Same.refl _) ?_
    by_cases hk : k = 0
    · rw [hk, List.drop_zero]; exact h
    · have : xs = [] := List.eq_nil_of_length_eq_zero (by omega)
      rw [this, List.drop_nil]; rw [this] at h; exact h
  · have : cutV xs (some (k : Int)) none = xs.drop k := by
      unfold cutV
      rw [HT.sIx_nat, HT.sIx_none]
      by_cases hk : k ≤ xs.length
      · rw [Nat.min_eq_left hk, List.take_of_length_le (by rw [List.length_drop]; omega)]
      · rw [Nat.min_eq_right (by omega), List.drop_of_length_le (by omega), List.drop_of_length_le (by omega), List.take_nil]
    rw [this]
    exact q _ _ (same_upd np) (sqT_of upd_same)
theorem i_slTT {K : PySem.W.Frag} {a : Addr} {xs : List V} {k : Nat} {H : Hp} {Q : VK} (h : SqT K H a xs) (q : ∀ b H', Same H H' → SqT K H' b (xs.take k) → Q (.ref b) H') : rSlA K (.ref a) none (some (k : Int)) H Q := by
  refine ⟨a, xs, rfl, h, fun e => ?_, fun e p np => ?_⟩
  · rw [HT.sIx_nat, HT.sIx_none] at e
    refine q _ _ (Same.refl _) ?_
    rw [List.take_of_length_le (by omega)]; exact h
  · have : cutV xs none (some (k : Int)) = xs.take k := by
      unfold cutV
      rw [HT.sIx_nat, HT.sIx_none, List.drop_zero, Nat.sub_zero]
      by_cases hk : k ≤ xs.length
      · rw [Nat.min_eq_left hk]
      · rw [Nat.min_eq_right (by omega), List.take_length, List.take_of_length_le (by omega)]
    rw [this]
    exact q _ _ (same_upd np) (sqT_of upd_same)
theorem i_catT {K : PySem.W.Frag} {a b : Addr} {xs ys : List V} {H : Hp} {Q : VK} (h : SqT K H a xs) (h2 : SqT K H b ys) (l : xs.length + ys.length ≤ sizeLine) (q : ∀ c H', Same H H' → SqT K H' c (xs ++ ys) → Q (.ref c) H') : rCatA K (.ref a) (.ref b) H Q := by
  refine ⟨a, b, xs, ys, rfl, rfl, h, h2, l, fun e => ?_, fun e1 e2 => ?_, fun e1 e2 p np => ?_⟩
  · rw [e] at q; exact q _ _ (Same.refl _) h2
  · rw [e2, List.append_nil] at q; exact q _ _ (Same.refl _) h
  · exact q _ _ (same_upd np) (sqT_of upd_same)
theorem inV_two (n i j : Int) : inV (.int n) [.int i, .int j] = (decide (n = i) || decide (n = j)) := by
  show (i == n || (j == n || false)) = _
  rw [Bool.or_false]
  congr 1
  · by_cases h : n = i
    · rw [h, decide_eq_true rfl]; exact beq_self_eq_true _
    · rw [decide_eq_false h]; exact beq_eq_false_iff_ne.mpr (Ne.symm h)
  · by_cases h : n = j
    · rw [h, decide_eq_true rfl]; exact beq_self_eq_true _
    · rw [decide_eq_false h]; exact beq_eq_false_iff_ne.mpr (Ne.symm h)
theorem i_ixTn {K : PySem.W.Frag} {p : Addr} {xs : List V} {k : Nat} {v : V} {H : Hp} {Q : VK} (h1 : SqT K H p xs) (h2 : xs[k]? = some v) (h : Q v H) : rIxT K (.ref p) (.int (k : Int)) H Q := by
  refine i_ixT h1 ?_ h
  have : k < xs.length := by
    rcases Nat.lt_or_ge k xs.length with q | q
    · exact q
    · rw [List.getElem?_eq_none q] at h2; cases h2
  unfold atI ixN
  rw [if_pos (by omega), if_pos (by omega), Int.toNat_natCast]
  exact h2
theorem i_lenSqT {K : PySem.W.Frag} {p : Addr} {xs : List V} {H : Hp} {Q : VK} (h1 : SqT K H p xs) (h : Q (.int xs.length) H) : rLenQ K [.ref p] H Q := ⟨p, xs, rfl, .inr h1, h⟩
theorem DeAll.getD {K : PySem.W.Frag} {H : Hp} {vs : List V} {ds : List PyData} {i : Nat} {v : V} (h : DeAll K H vs ds) (e : vs[i]? = some v) : De K H v (ds.getD i .none) := by
  obtain ⟨d, h1, h2⟩ := h.get e
  rw [List.getD_eq_getElem?_getD, h1]; exact h2
theorem map_getD {α : Type} (ds : List PyData) (g : PyData → α) : (List.range ds.length).map (fun i => g (ds.getD i .none)) = ds.map g := range_map_get ds _ g fun i x hx => by rw [List.getD_eq_getElem?_getD, hx]; rfl
end Sw
namespace Sw
open PySem PySem.Spec PyProof.Rows L2
/-! ### data without lists stays while a list changes -/
mutual
def noL : PyData → Bool
  | .list _ => false
  | .tuple xs => noLAll xs
  | .dict [] => true
  | .dict _ => false
  | _ => true
def noLAll : List PyData → Bool
  | [] => true
  | x :: xs => noL x && noLAll xs
end
/-- all is kept but the list at p -/
def KeepP (p : Addr) (H H' : Hp) : Prop := ∀ a o, (a ≠ p ∨ ∀ xs, o ≠ .lst xs) → H a = some o → H' a = some o
theorem keepP_upd {H : Hp} {p : Addr} {xs ys : List V} (h : H p = some (.lst xs)) : KeepP p H (upd H p (.lst ys)) := fun a o q e => by
  by_cases c : a = p
  · subst c
    rw [h] at e
    cases e
    exact (q.elim (fun q => q rfl) fun q => q _ rfl).elim
  · rw [L2.upd_ne c]; exact e
theorem Same.keepP {H H' : Hp} {p : Addr} (s : Same H H') : KeepP p H H' := fun a o _ e => s a o e
theorem KeepP.trans {H1 H2 H3 : Hp} {p : Addr} (s : KeepP p H1 H2) (t : KeepP p H2 H3) : KeepP p H1 H3 := fun a o q e => t a o q (s a o q e)
theorem KeepP.sqT {K : PySem.W.Frag} {H H' : Hp} {p a : Addr} {xs : List V} (k : KeepP p H H') (h : SqT K H a xs) : SqT K H' a xs := by
  rcases h with (h | ⟨o, h⟩) | h
  · exact .inl (.inl (k _ _ (.inr fun _ => HO.noConfusion) h))
  · exact .inl (.inr ⟨o, k _ _ (.inr fun _ => HO.noConfusion) h⟩)
  · exact .inr h
mutual
theorem De.keep {K : PySem.W.Frag} {H H' : Hp} {p : Addr} (s : KeepP p H H') : ∀ {v : V} {d : PyData}, De K H v d → noL d = true → De K H' v d
  | _, _, .non, _ => .non
  | _, _, .bl b, _ => .bl b
  | _, _, .int i, _ => .int i
  | _, _, .str x, _ => .str x
  | _, _, .lst h1 h0 h2, n => by simp [noL] at n
  | _, _, .tup h1 h2, n => .tup (s.sqT h1) (DeAll.keep s h2 (by simpa only [noL] using n))
  | _, _, .dict h1 (.nil), n => .dict (s _ _ (.inr fun _ => HO.noConfusion) h1) .nil
  | _, _, .dict h1 (.cons _ _), n => by simp [noL] at n
theorem DeAll.keep {K : PySem.W.Frag} {H H' : Hp} {p : Addr} (s : KeepP p H H') : ∀ {vs : List V} {ds : List PyData}, DeAll K H vs ds → noLAll ds = true → DeAll K H' vs ds
  | _, _, .nil, _ => .nil
  | _, _, .cons h1 h2, n => by
    simp only [noLAll, Bool.and_eq_true] at n
    exact .cons (De.keep s h1 n.1) (DeAll.keep s h2 n.2)
end
theorem noLAll_iff {ds : List PyData} : noLAll ds = true ↔ ∀ d ∈ ds, noL d = true := by
  induction ds with
  | nil => simp [noLAll]
  | cons d ds ih => simp only [noLAll, Bool.and_eq_true, ih, List.mem_cons, forall_eq_or_imp]
theorem push_de {K : PySem.W.Frag} {H : Hp} {t p : Addr} {vs : List V} {ds : List PyData} {o : HO} {d : PyData} (hp : H p = some (.lst vs)) (hd : DeAll K H vs ds) (nl : noLAll ds = true) (nt : H t = none) (new : De K (upd H t o) (.ref t) d) (nd : noL d = true) :
    DeAll K (upd (upd H t o) p (.lst (vs ++ [.ref t]))) (vs ++ [.ref t]) (ds ++ [d]) := by
  have hp2 := upd_old (o := o) nt hp
  have k := keepP_upd (ys := vs ++ [.ref t]) hp2
  exact ((hd.same (same_upd nt)).keep k nl).app (.cons (new.keep k nd) .nil)
theorem push_val {K : PySem.W.Frag} {H : Hp} {p : Addr} {vs : List V} {ds : List PyData} {v : V} {d : PyData} (hp : H p = some (.lst vs)) (hd : DeAll K H vs ds) (nl : noLAll ds = true) (new : De K H v d) (nd : noL d = true) :
    DeAll K (upd H p (.lst (vs ++ [v]))) (vs ++ [v]) (ds ++ [d]) := by
  have k := keepP_upd (ys := vs ++ [v]) hp
  exact (hd.keep k nl).app (.cons (new.keep k nd) .nil)
end Sw
namespace Sw
open PySem PySem.Spec PyProof.Rows L2
/-! ### heaps beside the box of draws -/
theorem del_sb {b : Addr} {H H' : Hp} (s : SB b H H') : Same (L2.del H b) (L2.del H' b) := fun a o e => by
  by_cases c : a = b
  · subst c; rw [L2.del_same] at e; cases e
  · rw [L2.del_ne c] at e ⊢; exact s a o c e
theorem del_sub {b : Addr} {H : Hp} : Same (L2.del H b) H := fun a o e => by
  by_cases c : a = b
  · subst c; rw [L2.del_same] at e; cases e
  · rw [L2.del_ne c] at e; exact e
theorem box_some {H : Hp} {b : Addr} {d : Int} (B : BoxAt H b d) : ∃ o, H b = some o := by obtain ⟨_, _, _, _, e, _⟩ := B.ex; exact ⟨_, e⟩
theorem box_ne {H : Hp} {b p : Addr} {d : Int} (B : BoxAt H b d) (n : H p = none) : p ≠ b := by
  rintro rfl
  obtain ⟨o, e⟩ := box_some B
  rw [n] at e; cases e
theorem del_new {H : Hp} {b p : Addr} {d : Int} {o : HO} (B : BoxAt H b d) (n : H p = none) : L2.del (upd H p o) b p = some o := by rw [L2.del_ne (box_ne B n)]; exact upd_same
theorem BoxAt.upd_ne' {H : Hp} {b p : Addr} {d : Int} {o : HO} (B : BoxAt H b d) (h : p ≠ b) : BoxAt (upd H p o) b d := by
  obtain ⟨n, g, c, e, hb, hr⟩ := B.ex
  exact ⟨n, g, c, e, by rw [L2.upd_ne (Ne.symm h)]; exact hb, hr⟩
/-- a new thing is made and told -/
def NewT (xs : List V) (H : Hp) (Q : VK) : Prop := xs.length ≤ sizeLine ∧ ∀ p, H p = none → Q (.ref p) (upd H p (.tup xs))
def NewL (xs : List V) (H : Hp) (Q : VK) : Prop := xs.length ≤ sizeLine ∧ ∀ p, H p = none → Q (.ref p) (upd H p (.lst xs))
def NewLL (xs : List V) (H : Hp) (Q : VK) : Prop := xs.length ≤ sizeLine ∧ ∀ p, H p = none → sysModules < p → Q (.ref p) (upd H p (.lst xs))
def NewD (H : Hp) (Q : VK) : Prop := ∀ p, H p = none → Q (.ref p) (upd H p (.dK []))
section
variable {σ : L2.St} {H : Hp} {Q : VK} {b : Addr} {d : Int} {t : TA} {xs : List V}
theorem i_tupM (h : t σ H fun xs H1 => NewT xs H1 Q) : tTup t σ H Q := h
theorem i_lstM (h : t σ H fun xs H1 => NewL xs H1 Q) : tLst t σ H Q := h
theorem i_lstLM (h : t σ H fun xs H1 => NewLL xs H1 Q) : tLstL t σ H Q := h
theorem i_dnewM (h : NewD H Q) : tDNewK σ H Q := h
theorem newT (B : BoxAt H b d) (l : xs.length ≤ sizeLine) (k : ∀ p H', BoxAt H' b d → Same (L2.del H b) (L2.del H' b) → L2.del H' b p = some (.tup xs) → Same H H' → Q (.ref p) H') : NewT xs H Q :=
  ⟨l, fun p n => k p _ (B.same (same_upd n)) (del_sb (SB.of (same_upd n))) (del_new B n) (same_upd n)⟩
theorem newL (B : BoxAt H b d) (l : xs.length ≤ sizeLine) (k : ∀ p H', BoxAt H' b d → Same (L2.del H b) (L2.del H' b) → L2.del H' b p = some (.lst xs) → Same H H' → Q (.ref p) H') : NewL xs H Q :=
  ⟨l, fun p n => k p _ (B.same (same_upd n)) (del_sb (SB.of (same_upd n))) (del_new B n) (same_upd n)⟩
theorem newLL (B : BoxAt H b d) (l : xs.length ≤ sizeLine) (k : ∀ p H', sysModules < p → H p = none → BoxAt H' b d → Same (L2.del H b) (L2.del H' b) → L2.del H' b p = some (.lst xs) → Same H H' → Q (.ref p) H') : NewLL xs H Q :=
  ⟨l, fun p n lt => k p _ lt n (B.same (same_upd n)) (del_sb (SB.of (same_upd n))) (del_new B n) (same_upd n)⟩
theorem newD (B : BoxAt H b d) (k : ∀ p H', BoxAt H' b d → Same (L2.del H b) (L2.del H' b) → L2.del H' b p = some (.dK []) → Same H H' → Q (.ref p) H') : NewD H Q :=
  fun p n => k p _ (B.same (same_upd n)) (del_sb (SB.of (same_upd n))) (del_new B n) (same_upd n)
/-- without a box -/
theorem newT0 (l : xs.length ≤ sizeLine) (k : ∀ p H', H p = none → Same H H' → H' p = some (.tup xs) → Q (.ref p) H') : NewT xs H Q := ⟨l, fun p n => k p _ n (same_upd n) upd_same⟩
theorem newL0 (l : xs.length ≤ sizeLine) (k : ∀ p H', H p = none → Same H H' → H' p = some (.lst xs) → Q (.ref p) H') : NewL xs H Q := ⟨l, fun p n => k p _ n (same_upd n) upd_same⟩
theorem newLL0 (l : xs.length ≤ sizeLine) (k : ∀ p H', H p = none → sysModules < p → Same H H' → H' p = some (.lst xs) → Q (.ref p) H') : NewLL xs H Q := ⟨l, fun p n lt => k p _ n lt (same_upd n) upd_same⟩
theorem newD0 (k : ∀ p H', H p = none → Same H H' → H' p = some (.dK []) → Q (.ref p) H') : NewD H Q := fun p n => k p _ n (same_upd n) upd_same
end
/-! ### odd values -/
/-- H' has all of G but the lists that lie in H0 -/
def Kept (H0 G H' : Hp) : Prop := ∀ a o, G a = some o → ((∀ xs, o ≠ .lst xs) ∨ H0 a = none) → H' a = some o
theorem Kept.refl (H0 G : Hp) : Kept H0 G G := fun _ _ e _ => e
theorem Kept.same {H0 G G' H' : Hp} (k : Kept H0 G' H') (s : Same G G') : Kept H0 G H' := fun a o e q => k a o (s a o e) q
theorem Kept.sqT {K : PySem.W.Frag} {H0 H H' : Hp} {a : Addr} {xs : List V} (k : Kept H0 H H') (h : SqT K H a xs) : SqT K H' a xs := by
  rcases h with (h | ⟨o, h⟩) | h
  · exact .inl (.inl (k _ _ h (.inl fun _ => HO.noConfusion)))
  · exact .inl (.inr ⟨o, k _ _ h (.inl fun _ => HO.noConfusion)⟩)
  · exact .inr h
mutual
theorem De.kept {K : PySem.W.Frag} {H0 H H' : Hp} (s : Kept H0 H H') : ∀ {v : V} {d : PyData}, De K H v d → noL d = true → De K H' v d
  | _, _, .non, _ => .non
  | _, _, .bl b, _ => .bl b
  | _, _, .int i, _ => .int i
  | _, _, .str x, _ => .str x
  | _, _, .lst h1 h0 h2, n => by simp [noL] at n
  | _, _, .tup h1 h2, n => .tup (s.sqT h1) (DeAll.kept s h2 (by simpa only [noL] using n))
  | _, _, .dict h1 (.nil), n => .dict (s _ _ h1 (.inl fun _ => HO.noConfusion)) .nil
  | _, _, .dict h1 (.cons _ _), n => by simp [noL] at n
theorem DeAll.kept {K : PySem.W.Frag} {H0 H H' : Hp} (s : Kept H0 H H') : ∀ {vs : List V} {ds : List PyData}, DeAll K H vs ds → noLAll ds = true → DeAll K H' vs ds
  | _, _, .nil, _ => .nil
  | _, _, .cons h1 h2, n => by
    simp only [noLAll, Bool.and_eq_true] at n
    exact .cons (De.kept s h1 n.1) (DeAll.kept s h2 n.2)
end
section
variable {K : PySem.W.Frag} {H0 G G' : Hp} {v x : V} {p : Addr} {xs : List V}
/-- what may lie in a told tuple: data of little size without a dict, its lists not in H0 -/
def AtomV (K : PySem.W.Frag) (H0 G : Hp) (v : V) : Prop := ∃ d, (∀ H', Kept H0 G H' → De K H' v d) ∧ d.hasDict = false ∧ Sd 3 170 d
/-- the same without lists -/
def AtomN (K : PySem.W.Frag) (H0 G : Hp) (v : V) : Prop := ∃ d, (∀ H', Kept H0 G H' → De K H' v d) ∧ d.hasDict = false ∧ Sd 3 170 d ∧ noL d = true
def AllA (K : PySem.W.Frag) (H0 G : Hp) : List V → Prop
  | [] => True
  | x :: xs => AtomV K H0 G x ∧ AllA K H0 G xs
def AllN (K : PySem.W.Frag) (H0 G : Hp) : List V → Prop
  | [] => True
  | x :: xs => AtomN K H0 G x ∧ AllN K H0 G xs
theorem AtomV.same (h : AtomV K H0 G v) (s : Same G G') : AtomV K H0 G' v := by
  obtain ⟨d, h1, h2, h3⟩ := h
  exact ⟨d, fun H' k => h1 H' (k.same s), h2, h3⟩
theorem AtomN.same (h : AtomN K H0 G v) (s : Same G G') : AtomN K H0 G' v := by
  obtain ⟨d, h1, h2, h3, h4⟩ := h
  exact ⟨d, fun H' k => h1 H' (k.same s), h2, h3, h4⟩
theorem AtomN.va (h : AtomN K H0 G v) : AtomV K H0 G v := by
  obtain ⟨d, h1, h2, h3, _⟩ := h
  exact ⟨d, h1, h2, h3⟩
theorem AllN.va : ∀ {vs : List V}, AllN K H0 G vs → AllA K H0 G vs
  | [], _ => trivial
  | _ :: _, h => ⟨h.1.va, AllN.va h.2⟩
theorem AllN.same (s : Same G G') : ∀ {vs : List V}, AllN K H0 G vs → AllN K H0 G' vs
  | [], _ => trivial
  | _ :: _, h => ⟨h.1.same s, AllN.same s h.2⟩
theorem AtomV.str {l : List Nat} (h : ∀ c ∈ l, c ≤ 1000) (n : l.length ≤ 20) : AtomV K H0 G (.str (S l)) := ⟨_, fun _ _ => .str _, by simp only [PyData.hasDict], (sd_str h).mono (by omega) (by omega)⟩
theorem AtomV.int {i : Int} (h : i.natAbs < 10 ^ 40) : AtomV K H0 G (.int i) := ⟨_, fun _ _ => .int _, by simp only [PyData.hasDict], (sd_int h).mono (by omega) (by omega)⟩
theorem AtomV.bl (c : Bool) : AtomV K H0 G (.bl c) := ⟨_, fun _ _ => .bl _, by simp only [PyData.hasDict], (sd_bl c).mono (by omega) (by omega)⟩
theorem AtomV.non : AtomV K H0 G .non := ⟨_, fun _ _ => .non, by simp only [PyData.hasDict], sd_non.mono (by omega) (by omega)⟩
theorem AtomN.str {l : List Nat} (h : ∀ c ∈ l, c ≤ 1000) (n : l.length ≤ 20) : AtomN K H0 G (.str (S l)) := ⟨_, fun _ _ => .str _, by simp only [PyData.hasDict], (sd_str h).mono (by omega) (by omega), rfl⟩
theorem AtomN.int {i : Int} (h : i.natAbs < 10 ^ 40) : AtomN K H0 G (.int i) := ⟨_, fun _ _ => .int _, by simp only [PyData.hasDict], (sd_int h).mono (by omega) (by omega), rfl⟩
theorem AtomN.deD {d : PyData} (h : De K G v d) (z : d.hasDict = false) (s : Sd 3 170 d) (n : noL d = true) : AtomN K H0 G v := ⟨d, fun _ k => h.kept k n, z, s, n⟩
theorem AtomN.tupD {ds : List PyData} (h : G p = some (.tup xs)) (a : DeAll K G xs ds) (z : (PyData.tuple ds).hasDict = false) (s : Sd 3 170 (.tuple ds)) (n : noLAll ds = true) : AtomN K H0 G (.ref p) := .deD (.tup (sqT_of h) a) z s (by simpa only [noL] using n)
theorem AtomV.lst {i : Int} (h : G p = some (.lst [.int i])) (lt : sysModules < p) (n : H0 p = none) (hi : i.natAbs < 10 ^ 20) : AtomV K H0 G (.ref p) := by
  have si : Sd 2 140 (.int i) := (sd_int (Nat.lt_of_lt_of_le hi (by decide))).mono (by omega) (by omega)
  exact ⟨.list [.int i], fun H' k => .lst (k _ _ h (.inr n)) lt (.cons (.int _) .nil), by simp only [PyData.hasDict, PyData.hasDictAll, Bool.or_self], (sd_lst' (.cons si .nil)).mono (by omega) (by omega)⟩
theorem AtomV.tup {i : Int} (h : G p = some (.tup [.int i])) (hi : i.natAbs < 10 ^ 20) : AtomV K H0 G (.ref p) := by
  have si : Sd 2 140 (.int i) := (sd_int (Nat.lt_of_lt_of_le hi (by decide))).mono (by omega) (by omega)
  exact (AtomN.tupD h (.cons (.int _) .nil) (by simp only [PyData.hasDict, PyData.hasDictAll, Bool.or_self]) ((sd_tup' (.cons si .nil)).mono (by omega) (by omega)) rfl).va
theorem AtomV.tupS {l : List Nat} (h : G p = some (.tup [.str (S l)])) (h1 : ∀ c ∈ l, c ≤ 1000) (h2 : l.length ≤ 20) : AtomV K H0 G (.ref p) :=
  (AtomN.tupD h (.cons (.str _) .nil) (by simp only [PyData.hasDict, PyData.hasDictAll, Bool.or_self]) ((sd_tup' (n := 2) (.cons ((sd_str h1).mono (by omega) (Nat.le_refl _)) .nil)).mono (by omega) (by omega)) rfl).va
theorem AllA.data : ∀ {vs : List V}, AllA K H0 G vs → ∃ ds, (∀ H', Kept H0 G H' → DeAll K H' vs ds) ∧ ds.length = vs.length ∧ (∀ d ∈ ds, d.hasDict = false ∧ Sd 3 170 d)
  | [], _ => ⟨[], fun _ _ => .nil, rfl, fun d h => by cases h⟩
  | v :: vs, h => by
    obtain ⟨d, h1, h2, h3⟩ := h.1
    obtain ⟨ds, k1, kl, k2⟩ := AllA.data h.2
    exact ⟨d :: ds, fun H' k => .cons (h1 H' k) (k1 H' k), by rw [List.length_cons, List.length_cons, kl], fun x hx => (List.mem_cons.mp hx).elim (fun e => e ▸ ⟨h2, h3⟩) (k2 x)⟩
theorem AllN.data : ∀ {vs : List V}, AllN K H0 G vs → ∃ ds, (∀ H', Kept H0 G H' → DeAll K H' vs ds) ∧ ds.length = vs.length ∧ (∀ d ∈ ds, d.hasDict = false ∧ Sd 3 170 d ∧ noL d = true)
  | [], _ => ⟨[], fun _ _ => .nil, rfl, fun d h => by cases h⟩
  | v :: vs, h => by
    obtain ⟨d, h1, h2, h3, h4⟩ := h.1
    obtain ⟨ds, k1, kl, k2⟩ := AllN.data h.2
    exact ⟨d :: ds, fun H' k => .cons (h1 H' k) (k1 H' k), by rw [List.length_cons, List.length_cons, kl], fun x hx => (List.mem_cons.mp hx).elim (fun e => e ▸ ⟨h2, h3, h4⟩) (k2 x)⟩
/-- what may lie in a told list -/
def LsOk (d : PyData) : Prop := ∀ ds, d = .list ds → noLAll ds = true
/-- a value that may be told for a step -/
def OddV (K : PySem.W.Frag) (H0 G : Hp) (v : V) : Prop := ∃ d, (∀ H', Kept H0 G H' → De K H' v d) ∧ Ok1 d ∧ Sd 4 1000 d ∧ LsOk d
theorem OddV.same (h : OddV K H0 G v) (s : Same G G') : OddV K H0 G' v := by
  obtain ⟨d, h1, h2, h3, h4⟩ := h
  exact ⟨d, fun H' k => h1 H' (k.same s), h2, h3, h4⟩
theorem OddV.atom (h : AtomN K H0 G v) : OddV K H0 G v := by
  obtain ⟨d, h1, h2, h3, h4⟩ := h
  exact ⟨d, h1, .inr h2, h3.mono (by omega) (by omega), fun ds e => by rw [e] at h4; simp [noL] at h4⟩
theorem OddV.non : OddV K H0 G .non := ⟨_, fun _ _ => .non, .inr (by simp only [PyData.hasDict]), sd_non.mono (by omega) (by omega), fun ds e => by cases e⟩
theorem OddV.bl (c : Bool) : OddV K H0 G (.bl c) := ⟨_, fun _ _ => .bl c, .inr (by simp only [PyData.hasDict]), (sd_bl c).mono (by omega) (by omega), fun ds e => by cases e⟩
theorem OddV.emp (h : G p = some (.dK [])) : OddV K H0 G (.ref p) := ⟨_, fun _ k => .dict (k _ _ h (.inl fun _ => HO.noConfusion)) .nil, .inl rfl, sd_emp.mono (by omega) (by omega), fun ds e => by cases e⟩
theorem OddV.tupS (h : SqT K G p xs) (l : xs.length ≤ 5) (a : AllA K H0 G xs) : OddV K H0 G (.ref p) := by
  obtain ⟨ds, h1, hl, h2⟩ := a.data
  refine ⟨_, fun H' k => .tup (k.sqT h) (h1 H' k), .inr (hasDict_tup.mpr fun y hy => (h2 y hy).1), (sd_tup fun d hd => (h2 d hd).2).mono (by omega) ?_, fun ds e => by cases e⟩
  rw [hl]
  exact Nat.le_trans (Nat.mul_le_mul_right _ l) (by decide)
theorem OddV.tup (h : G p = some (.tup xs)) (l : xs.length ≤ 5) (a : AllA K H0 G xs) : OddV K H0 G (.ref p) := .tupS (sqT_of h) l a
theorem OddV.lst (h : G p = some (.lst xs)) (lt : sysModules < p) (n : H0 p = none) (l : xs.length ≤ 5) (a : AllN K H0 G xs) : OddV K H0 G (.ref p) := by
  obtain ⟨ds, h1, hl, h2⟩ := a.data
  have z : ∀ y ∈ ds, y.hasDict = false := fun y hy => (h2 y hy).1
  refine ⟨_, fun H' k => .lst (k _ _ h (.inr n)) lt (h1 H' k), .inr ?_, (sd_lst fun d hd => (h2 d hd).2.1).mono (by omega) ?_, fun es e => ?_⟩
  · have := hasDict_tup.mpr z
    simpa only [PyData.hasDict] using this
  · rw [hl]
    exact Nat.le_trans (Nat.mul_le_mul_right _ l) (by decide)
  · cases e; exact noLAll_iff.mpr fun y hy => (h2 y hy).2.2
def Odds (K : PySem.W.Frag) (H0 G : Hp) (vs : List V) : Prop := ∀ v ∈ vs, OddV K H0 G v
theorem Odds.nil : Odds K H0 G [] := fun v h => by cases h
theorem Odds.same {vs : List V} (h : Odds K H0 G vs) (s : Same G G') : Odds K H0 G' vs := fun v hv => (h v hv).same s
theorem Odds.snoc {vs : List V} (h : Odds K H0 G vs) (o : OddV K H0 G v) : Odds K H0 G (vs ++ [v]) := fun x hx => (List.mem_append.mp hx).elim (h x) fun q => by rw [List.mem_singleton.mp q]; exact o
theorem Odds.app {vs ws : List V} (h : Odds K H0 G vs) (o : Odds K H0 G ws) : Odds K H0 G (vs ++ ws) := fun x hx => (List.mem_append.mp hx).elim (h x) (o x)
end
theorem fresh0 {b p : Addr} {d : Int} {H0 H : Hp} (s : SB b H0 H) (B : BoxAt H b d) (n : H p = none) : H0 p = none := by
  have npb := box_ne B n
  rcases e : H0 p with _ | o
  · rfl
  · rw [s _ _ npb e] at n; cases n
section
variable {K : PySem.W.Frag} {H : Hp} {Q : VK} {b : Addr} {d : Int}
theorem i_listB {p : Addr} {ys : List V} (B : BoxAt H b d) (h : SqL K H p ys ∨ SqT K H p ys) (k : ∀ l H', sysModules < l → H l = none → BoxAt H' b d → Same (L2.del H b) (L2.del H' b) → L2.del H' b l = some (.lst ys) → Same H H' → Q (.ref l) H') : rListL K [.ref p] H Q :=
  i_listL h fun l n lt => k l _ lt n (B.same (same_upd n)) (del_sb (SB.of (same_upd n))) (del_new B n) (same_upd n)
theorem i_catB {a c : Addr} {xs ys : List V} (B : BoxAt H b d) (h : SqT K (L2.del H b) a xs) (h2 : SqT K (L2.del H b) c ys) (l : xs.length + ys.length ≤ sizeLine) (k : ∀ t H', BoxAt H' b d → Same (L2.del H b) (L2.del H' b) → SqT K (L2.del H' b) t (xs ++ ys) → Same H H' → Q (.ref t) H') : rCatA K (.ref a) (.ref c) H Q := by
  refine ⟨a, c, xs, ys, rfl, rfl, Same.sqT del_sub h, Same.sqT del_sub h2, l, fun e => ?_, fun e1 e2 => ?_, fun e1 e2 p np => ?_⟩
  · rw [e] at k; exact k _ _ B (Same.refl _) h2 (Same.refl _)
  · rw [e2, List.append_nil] at k; exact k _ _ B (Same.refl _) h (Same.refl _)
  · exact k _ _ (B.same (same_upd np)) (del_sb (SB.of (same_upd np))) (sqT_of (del_new B np)) (same_upd np)
theorem i_sl1B {a : Addr} {xs : List V} (B : BoxAt H b d) (h : SqT K H a xs) (l : 2 ≤ xs.length) (k : ∀ t H', BoxAt H' b d → Same (L2.del H b) (L2.del H' b) → L2.del H' b t = some (.tup (xs.take 1)) → Same H H' → Q (.ref t) H') : rSlA K (.ref a) none (some 1) H Q := by
  refine ⟨a, xs, rfl, h, fun e => ?_, fun e p np => ?_⟩
  · rw [show (some (1 : Int)) = some ((1 : Nat) : Int) from rfl, HT.sIx_nat] at e
    omega
  · have : cutV xs none (some 1) = xs.take 1 := by
      unfold cutV
      rw [show (some (1 : Int)) = some ((1 : Nat) : Int) from rfl, HT.sIx_nat, HT.sIx_none, List.drop_zero, Nat.sub_zero, Nat.min_eq_left (by omega)]
    rw [this]
    exact k _ _ (B.same (same_upd np)) (del_sb (SB.of (same_upd np))) (del_new B np) (same_upd np)
theorem i_slTB {a : Addr} {xs : List V} {n : Nat} (B : BoxAt H b d) (h : SqT K (L2.del H b) a xs) (k : ∀ t H', BoxAt H' b d → Same (L2.del H b) (L2.del H' b) → SqT K (L2.del H' b) t (xs.take n) → Same H H' → Q (.ref t) H') : rSlA K (.ref a) none (some (n : Int)) H Q := by
  refine ⟨a, xs, rfl, Same.sqT del_sub h, fun e => ?_, fun e p np => ?_⟩
  · rw [HT.sIx_nat, HT.sIx_none] at e
    refine k _ _ B (Same.refl _) ?_ (Same.refl _)
    rw [List.take_of_length_le (by omega)]; exact h
  · have : cutV xs none (some (n : Int)) = xs.take n := by
      unfold cutV
      rw [HT.sIx_nat, HT.sIx_none, List.drop_zero, Nat.sub_zero]
      by_cases hk : n ≤ xs.length
      · rw [Nat.min_eq_left hk]
      · rw [Nat.min_eq_right (by omega), List.take_length, List.take_of_length_le (by omega)]
    rw [this]
    exact k _ _ (B.same (same_upd np)) (del_sb (SB.of (same_upd np))) (sqT_of (del_new B np)) (same_upd np)
theorem i_slFB {a : Addr} {xs : List V} {n : Nat} (B : BoxAt H b d) (h : SqT K (L2.del H b) a xs) (k : ∀ t H', BoxAt H' b d → Same (L2.del H b) (L2.del H' b) → SqT K (L2.del H' b) t (xs.drop n) → Same H H' → Q (.ref t) H') : rSlA K (.ref a) (some (n : Int)) none H Q := by
  refine ⟨a, xs, rfl, Same.sqT del_sub h, fun e => ?_, fun e p np => ?_⟩
  · rw [HT.sIx_nat] at e
    refine k _ _ B (Same.refl _) ?_ (Same.refl _)
    by_cases hk : n = 0
    · rw [hk, List.drop_zero]; exact h
    · have : xs = [] := List.eq_nil_of_length_eq_zero (by omega)
      rw [this, List.drop_nil]; rw [this] at h; exact h
  · have : cutV xs (some (n : Int)) none = xs.drop n := by
      unfold cutV
      rw [HT.sIx_nat, HT.sIx_none]
      by_cases hk : n ≤ xs.length
      · rw [Nat.min_eq_left hk, List.take_of_length_le (by rw [List.length_drop]; omega)]
      · rw [Nat.min_eq_right (by omega), List.drop_of_length_le (by omega), List.drop_of_length_le (by omega), List.take_nil]
    rw [this]
    exact k _ _ (B.same (same_upd np)) (del_sb (SB.of (same_upd np))) (sqT_of (del_new B np)) (same_upd np)
theorem i_catLB {a c : Addr} {xs ys : List V} (B : BoxAt H b d) (h : L2.del H b a = some (.lst xs)) (h2 : L2.del H b c = some (.lst ys)) (l : xs.length + ys.length ≤ sizeLine) (k : ∀ t H', BoxAt H' b d → Same (L2.del H b) (L2.del H' b) → L2.del H' b t = some (.lst (xs ++ ys)) → Same H H' → Q (.ref t) H') : rCat (.ref a) (.ref c) H Q :=
  ⟨a, c, xs, ys, rfl, rfl, del_sub _ _ h, del_sub _ _ h2, l, fun p np => k _ _ (B.same (same_upd np)) (del_sb (SB.of (same_upd np))) (del_new B np) (same_upd np)⟩
end
end Sw
namespace Sw
open PySem PySem.Spec PyProof.Rows L2
/-! ### calls by names -/
def rev2 {α : Type} : List α → List α → List α
  | [], [b, a] => [a, b]
  | _, _ => []
theorem rev2_inv {α : Type} {us ws : List α} (h : (rev2 us ws).length = 2) : us = [] ∧ ∃ b a, ws = [b, a] := by
  unfold rev2 at h
  split at h
  · exact ⟨rfl, _, _, rfl⟩
  · cases h
theorem rev2_rel {vs : List V} {us : List Value} {zs : List V} {ws : List Value} (r : Vals vs us) (r2 : Vals zs ws) : Vals (rev2 vs zs) (rev2 us ws) := by
  unfold rev2
  cases r with
  | cons _ _ => exact .nil
  | nil =>
    cases r2 with
    | nil => exact .nil
    | cons a r2 =>
      cases r2 with
      | nil => exact .nil
      | cons b r2 =>
        cases r2 with
        | nil => exact .cons b (.cons a .nil)
        | cons _ _ => exact .nil
def one1 {α : Type} : List α → List α → List α
  | [], [a] => [a]
  | _, _ => []
theorem one1_inv {α : Type} {us ws : List α} (h : (one1 us ws).length = 1) : us = [] ∧ ∃ a, ws = [a] := by
  unfold one1 at h
  split at h
  · exact ⟨rfl, _, rfl⟩
  · cases h
theorem one1_rel {vs : List V} {us : List Value} {zs : List V} {ws : List Value} (r : Vals vs us) (r2 : Vals zs ws) : Vals (one1 vs zs) (one1 us ws) := by
  unfold one1
  cases r with
  | cons _ _ => exact .nil
  | nil =>
    cases r2 with
    | nil => exact .nil
    | cons a r2 =>
      cases r2 with
      | nil => exact .cons a .nil
      | cons _ _ => exact .nil
end Sw
namespace Sw
open PySem PySem.Spec PyProof.Rows L2
theorem Fun.okG0 {P : Program} {w : World} {K : PySem.W.Frag} {mg : Str → Option Value} {base : Heap} {k : Nat} {f : Addr} {fd : FuncData} {ps : List Str} {sp : Sp} {x qual : Str} {st : Stmt} {N : List Str} (F : Fun K x qual st f fd) (S : FnScope N ps (defScope st)) (len : ∀ xs M R X, sp xs M R X → xs.length = ps.length)
    (body : ∀ (cdv : Value) (A : Around) (out : List Env) (t : Shared) (M : Hp) (xs : List V) (R : VK) (X : XK), Room k (A.deeper (envOfC qual (defScope st) t.heap.objs.size f cdv)) → A.guards = some [] → sp xs M R X →
      ∃ r, PSs (cxOf CX0 P w K mg base N qual (defScope st) f cdv A out t M X).nox (defBody st) r ∧ r { nx := fun _ M' => R .non M', rt := R } (start N xs) M) : FnG P w K mg base CX0 (k + 1) f fd ps sp :=
  Sw.Fun.okG F S len fun cdv A out t M xs R X room quiet prom => by
    obtain ⟨r, h, q⟩ := body cdv A out t M xs R X room quiet prom
    exact ⟨r, h.nox, q⟩
end Sw
namespace Sw
open PySem PySem.Spec PyProof.Rows L2 PySem.SwE
/-- an own exception class with the one attribute given, named x, as it stands behind the top -/
structure XQ (x : Str) (P : Program) (w : World) (K : PySem.W.Frag) (mg : Str → Option Value) (base : Heap) (C : Addr) : Prop where
  T : OexE K C
  xf : XfC K C
  no : PySem.W.findIn K (.ref C) "given" = some none
  hm : mg x = some (.ref C)
  me : PySem.W.exmOne K (.ref C) (.ref C) = some true
  ini : ∃ (fI : Addr) (fd : FuncData), PySem.W.findIn K (.ref C) "__init__" = some (some (.ref fI)) ∧ PySem.W.typeIn K (.ref fI) = some (.type "function") ∧ FnOk P w K mg base CX0 1 fI fd ["self", "given"] (spInit K) ∧ Binds K fd ["self", "given"] []
theorem pmk_Q {X : Cx} {x : Str} {C : Addr} {n : Nat} {e : Expr} {te : TE} {p pos : Pos} (xt : XQ x X.prog X.w X.K X.mg X.base C) (hr : Room n X.A) (he : PE X e te) (hn : 2 ≤ n := by decide) (hg : Gl X x := by rfl)
    (hdb : (x == ("__debug__" : Str)) = false := by decide) (he2 : starEach [e] X.env = (false, eval e X.env) :: starEach [] X.env := by rfl) : PMk X (.Call (.Name x p) [e] [] pos) (tMkO C (spInit X.K) [] (tCons te tNil)) := by
  obtain ⟨fI, fd, h1, h2, h3, h4⟩ := xt.ini
  exact pmk_E xt.T h1 h2 h3 (hr.mono hn) h4 pass0 xt.hm (pa_cons he pa_nil he2) hg hdb he2 (by rfl)
theorem names_Q {x : Str} {P : Program} {w : World} {K : PySem.W.Frag} {mg : Str → Option Value} {base : Heap} {X : Cx} {C : Addr} (xt : XQ x P w K mg base C) (hm : X.mg = mg := by rfl) (hg : Gl X x := by rfl) (hd : (x == ("__debug__" : Str)) = false := by decide) : Names X x (.ref C) := ⟨hg, hd, .inl (by rw [hm]; exact xt.hm)⟩
end Sw
namespace Sw
open PySem PySem.Spec PyProof.Rows L2
/-! ### [e for a in xs for b in ys if c] -/
def Lc2Go (J : It) (g : TG) (tt : TT) (wi1 : TI) (g1 : TG) (tt1 : TT) (te : TE) (vs vs1 : List Nat) (σ : L2.St) (H1 : Hp) (Q : VK) : Prop := ∀ D, H1 D = none → ∃ W : Nat → Nat → Hp → Prop, (∃ m, W 0 m (upd H1 D (.lst []))) ∧ ∀ i m H, W i m H →
  (J.stop i H ∧ Q (.ref D) H) ∨ (J.go i H ∧ ∃ Nx : Hp → Prop, (∀ H', Nx H' → ∃ m', m' < m ∧ W (i + 1) m' H') ∧ ∀ x H', J.yld i H x H' → g x (wipe σ vs) H' fun σ2 H2 => wipe σ2 vs = wipe σ vs ∧ tt σ2 H2 fun b H3 =>
    if b = true then wi1 σ2 H3 fun J1 H4 => ∃ W1 : Nat → Nat → Hp → Prop, (∃ m, W1 0 m H4) ∧ ∀ j k H, W1 j k H →
      (J1.stop j H ∧ Nx H) ∨ (J1.go j H ∧ ∃ Nx1 : Hp → Prop, (∀ H', Nx1 H' → ∃ k', k' < k ∧ W1 (j + 1) k' H') ∧ ∀ x H', J1.yld j H x H' → g1 x (wipe σ2 vs1) H' fun σ3 H5 => wipe σ3 vs1 = wipe σ2 vs1 ∧ tt1 σ3 H5 fun b H6 =>
        if b = true then te σ3 H6 fun y H7 => ∃ acc, H7 D = some (.lst acc) ∧ acc.length < sizeLine ∧ Nx1 (upd H7 D (.lst (acc ++ [y]))) else Nx1 H6)
    else Nx H3)
theorem i_lc2 {wi wi1 : TI} {g g1 : TG} {tt tt1 : TT} {te : TE} {vs vs1 : List Nat} {σ : L2.St} {H : Hp} {Q : VK} (h : wi σ H fun J H1 => Lc2Go J g tt wi1 g1 tt1 te vs vs1 σ H1 Q) : tLc2 wi g tt wi1 g1 tt1 te vs vs1 σ H Q := h
/-- the inner walk -/
structure In2Go (J1 : It) (n1 : Nat) (G1 : Hp → Prop) (Y1 : Nat → Hp → V → Hp → Prop) (g1 : TG) (tt1 : TT) (te : TE) (vs1 : List Nat) (σ2 : L2.St) (p : Addr) (H4 : Hp) (Pw : Nat → Hp → Prop) (Nx : Hp → Prop) : Prop where
  w : Walk J1 n1 G1 Y1
  h0 : Pw 0 H4
  hG : ∀ j H, j ≤ n1 → Pw j H → G1 H
  hs : ∀ j x H H', j < n1 → Pw j H → Y1 j H x H' → g1 x (wipe σ2 vs1) H' fun σ3 H5 => wipe σ3 vs1 = wipe σ2 vs1 ∧ tt1 σ3 H5 fun b H6 =>
    if b = true then te σ3 H6 fun y H7 => ∃ acc, H7 p = some (.lst acc) ∧ acc.length < sizeLine ∧ Pw (j + 1) (upd H7 p (.lst (acc ++ [y]))) else Pw (j + 1) H6
  hd : ∀ H, Pw n1 H → Nx H
theorem go_lc2 {J : It} {n : Nat} {G : Hp → Prop} {Y : Nat → Hp → V → Hp → Prop} {g : TG} {tt : TT} {wi1 : TI} {g1 : TG} {tt1 : TT} {te : TE} {vs vs1 : List Nat} {σ : L2.St} {H1 : Hp} {Q : VK} (w : Walk J n G Y) (Pv : Addr → Nat → Hp → Prop) (h0 : ∀ p, H1 p = none → Pv p 0 (upd H1 p (.lst []))) (hG : ∀ p i H, i ≤ n → Pv p i H → G H)
    (hs : ∀ p, H1 p = none → ∀ i x H H', i < n → Pv p i H → Y i H x H' → g x (wipe σ vs) H' fun σ2 H2 => wipe σ2 vs = wipe σ vs ∧ tt σ2 H2 fun b H3 =>
      if b = true then wi1 σ2 H3 fun J1 H4 => ∃ n1 G1 Y1 Pw, In2Go J1 n1 G1 Y1 g1 tt1 te vs1 σ2 p H4 Pw (Pv p (i + 1)) else Pv p (i + 1) H3)
    (hd : ∀ p H, H1 p = none → Pv p n H → Q (.ref p) H) (monoI : ∀ σ2 H3 (R R' : It → Hp → Prop), (∀ J1 H4, R J1 H4 → R' J1 H4) → wi1 σ2 H3 R → wi1 σ2 H3 R')
    (mono1 : ∀ x σ H (R R' : L2.St → Hp → Prop), (∀ σ' H', R σ' H' → R' σ' H') → g x σ H R → g x σ H R') (mono2 : ∀ σ H (R R' : Bool → Hp → Prop), (∀ b H', R b H' → R' b H') → tt σ H R → tt σ H R') : Lc2Go J g tt wi1 g1 tt1 te vs vs1 σ H1 Q := by
  intro p np
  refine ⟨fun i m H => m = n - i ∧ i ≤ n ∧ Pv p i H, ⟨n, by simp, Nat.zero_le _, h0 p np⟩, ?_⟩
  rintro i m H ⟨rfl, hi, pv⟩
  have q := hG p i H hi pv
  by_cases hlt : i < n
  · refine .inr ⟨w.goes i H hlt q, Pv p (i + 1), fun H' p' => ⟨n - (i + 1), by omega, rfl, hlt, p'⟩, fun x H' y => ?_⟩
    refine mono1 _ _ _ _ _ (fun σ2 H2 h => ⟨h.1, mono2 _ _ _ _ (fun b H3 h => ?_) h.2⟩) (hs p np i x H H' hlt pv (w.yields i H x H' hlt q y))
    by_cases hb : b = true
    · rw [if_pos hb] at h ⊢
      refine monoI _ _ _ _ (fun J1 H4 h => ?_) h
      obtain ⟨n1, G1, Y1, Pw, I⟩ := h
      refine ⟨fun j m H => m = n1 - j ∧ j ≤ n1 ∧ Pw j H, ⟨n1, by simp, Nat.zero_le _, I.h0⟩, ?_⟩
      rintro j m H ⟨rfl, hj, pw⟩
      have q := I.hG j H hj pw
      by_cases hlt : j < n1
      · exact .inr ⟨I.w.goes j H hlt q, Pw (j + 1), fun H' p' => ⟨n1 - (j + 1), by omega, rfl, hlt, p'⟩, fun x H' y => I.hs j x H H' hlt pw (I.w.yields j H x H' hlt q y)⟩
      · have e : j = n1 := by omega
        subst e
        exact .inl ⟨I.w.stops H q, I.hd H pw⟩
    · rw [if_neg hb] at h ⊢
      exact h
  · have e : i = n := by omega
    subst e
    exact .inl ⟨w.stops H q, hd p H np pv⟩
theorem mono_yes (σ : L2.St) (H : Hp) (R R' : Bool → Hp → Prop) (h : ∀ b H', R b H' → R' b H') (q : tYes σ H R) : tYes σ H R' := h _ _ q
end Sw
namespace Sw
open PySem PySem.Spec PyProof.Rows L2
/-! ### a tuple once, or more often -/
theorem tuple_mul1 (l : Addr) (items : Array Value) (n : Nat) (dd : Option Addr) (sl : Array (Option Value)) (u : Tok) :
    Meets (Builtin.«tuple.__mul__» ⟨[.ref l, .int 1 u], []⟩) (fun _ R s => s.heap.get? l = some { cls := .type "tuple", dict := dd, data := .seq items n, slots := sl } ∧
      R (.ok (.ret (Value.ref l))) s) :=
  .of_wp fun prog w A R s h => by
    obtain ⟨hp, g, d, tk, os⟩ := s
    obtain ⟨hl, h⟩ := h
    have f1 := AutoSeq1.idx_int
    have c1 : (items.isEmpty || ((1 : Int) == 1)) = true := by rw [show ((1 : Int) == 1) = true from rfl, Bool.or_true]
    wp_walk using wpAny_loadPart' hl, wpAny_load hl
    repeat (first
      | (refine wpAny_ite_true c1 ?_; wp_walk using wpAny_loadPart' hl, wpAny_load hl)
      | (refine wpAny_ite_true (decide_eq_true c1) ?_; wp_walk using wpAny_loadPart' hl, wpAny_load hl))
    exact ⟨_, rfl, h⟩
/-- a tuple once is itself -/
def rRepU (K : PySem.W.Frag) : R2 := fun x y H Q => (∃ l xs, x = .ref l ∧ y = .int 1 ∧ SqT K H l xs ∧ Q (.ref l) H) ∨ rRepT K x y H Q
theorem op_repU {X : Cx} : OpR X (binaryOp .Mult) (rRepU X.K) := by
  intro pins s σ H x y v u Q I rx ry h
  rcases h with ⟨l, xs, rfl, rfl, hT, q⟩ | h
  · cases rx
    obtain ⟨t, rfl⟩ := ry
    obtain ⟨its, r, ⟨⟨cls, dd, data, sl⟩, ho, hc, n, hd⟩, hs⟩ := I.tuple hT
    simp only at hc hd
    subst hc hd
    refine wpAny_binaryOp_repeat_ref (T := "tuple") (U := "int") (by decide) ⟨_, ho, rfl⟩ (fun s' => typeIs_int s' 1 t) noFill_tuple_mul F.fills_int_mul F.slot_int_rmul repeat_tuple F.slot_int_index.lookup
      (call_meets F.slot_int_rmul (typeIs_int s 1 t) F.entry_int_rmul (F.args_int_rmul_2 _ _) (int_rmul_tuple 1 t l its.toArray n dd sl)
        ⟨ho, rfl, ⟨_, ho, rfl⟩, call_meets F.slot_tuple_mul ⟨_, ho, rfl⟩ F.entry_tuple_mul (F.args_tuple_mul_2 _ _) (tuple_mul1 l its.toArray n dd sl t) ⟨ho, ?_⟩⟩)
    exact ⟨.ref l, H, I, rfl, q⟩
  · exact op_repT pins s σ H x y v u Q I rx ry h
theorem i_rep1 {K : PySem.W.Frag} {l : Addr} {xs : List V} {H : Hp} {Q : VK} (h : SqT K H l xs) (q : Q (.ref l) H) : rRepU K (.ref l) (.int 1) H Q := .inl ⟨l, xs, rfl, rfl, h, q⟩
theorem i_repN {K : PySem.W.Frag} {l : Addr} {xs : List V} {k : Nat} {H : Hp} {Q : VK} (h : SqT K H l xs) (ne : xs ≠ []) (h2 : 2 ≤ k) (h3 : k ≤ 1000) (h4 : xs.length ≤ 1000) (q : ∀ p H', H p = none → Same H H' → H' p = some (.tup (List.replicate k xs).flatten) → Q (.ref p) H') : rRepU K (.ref l) (.int (k : Int)) H Q :=
  .inr ⟨l, k, xs, rfl, rfl, h, ne, by omega, by omega, h4, fun p n => by
    rw [Int.toNat_natCast]; exact q p _ n (same_upd n) upd_same⟩
end Sw
namespace Sw
open PySem PySem.Spec PyProof.Rows L2
/-! ### dicts whose keys are tuples: a store, a display of one pair, a comprehension -/
section
variable {X : Cx}
/-- the store of a display and of a comprehension -/
theorem put_tup {pins : List (Addr × Obj)} {σ : L2.St} {H : Hp} {s : Shared} {E : Value → Shared → Prop} {d b : Addr} {kvs : List (List Key × V)} {ks : List Key} {z : V} {r : Value} {Q : Unit → Shared → Prop}
    (room : X.A.units + 1 < cLine) (I : Inv X pins σ H s) (ed : H d = some (.dT kvs)) (eb : H b = some (.tup (ks.map kV))) (few : kvs.length < sizeLine) (rz : RelV z r)
    (go : ∀ s', Inv X pins σ (upd H d (.dT (putK kvs ks z))) s' → Q () s') : wpAny (model X.prog X.w) X.A (dictSet d (.ref b) r) Q E s := by
  have facts := dt_of I.hok ed
  obtain ⟨small, plain, xs, paired, laid⟩ := facts
  have lx : xs.length ≤ sizeLine := Nat.le_trans (Nat.le_of_eq (Paired.length paired).symm) small
  have lp : (putK kvs ks z).length ≤ sizeLine := Nat.le_trans (length_putK kvs ks z) few
  apply wpAny_dictSet_heap (knd := tupleKind (mixKind X.prog X.w)) (hsz := lx) (show X.A.units < cLine from Nat.lt_of_succ_lt room) (key_of I.hok eb) laid
  rintro h2 ⟨o, es, ep, ho, g1, g2, g3, _, g4⟩ only
  have stays : ∀ c ys, H c = some (.tup ys) → upd H d (.dT (putK kvs ks z)) c = some (.tup ys) := by
    intro c ys ec
    have : c ≠ d := fun q => by rw [q, ed] at ec; cases ec
    rw [upd_ne this]; exact ec
  apply go
  exact d_write I (by rw [ed]; trivial) only ⟨o, ho⟩ ⟨lp, plain, _, (paired.put ks eb rz).keeps stays, o, es, ep, ho, g1, g2, g3, g4⟩
/-- {k: v}, k a tuple of ints and texts -/
def tDisp1T (tk tv : TE) : TE := fun σ H Q => ∀ p, H p = none → tk σ (upd H p (.dT [])) fun x H1 => tv σ H1 fun y H2 => ∃ b ks, x = .ref b ∧ H2 p = some (.dT []) ∧ H2 b = some (.tup (ks.map kV)) ∧ Q (.ref p) (upd H2 p (.dT [(ks, y)]))
theorem pe_disp1T {k v : Expr} {pos : Pos} {tk tv : TE} (room : X.A.units + 1 < cLine) (hk : PE X k tk) (hv : PE X v tv) : PE X (.Dict [some k] [v] pos) (tDisp1T tk tv) := by
  constructor
  intro pins s σ H Q I h
  have new := I.hok.fresh (Nat.le_refl s.heap.objs.size)
  have I1 := I.laid (a := s.heap.objs.size) (o := .dT []) (t' := s.toks) (h' := s.heap.push { cls := .type "dict", data := .dict #[] }) (fun _ _ q => Heap.get?_push_of_some _ q) (Nat.le_refl _) (dt_empty s.heap I.big)
  apply wpAny_Dict_any rfl rfl (by simp) (by simp)
  let R : List (V × V) → Hp → Prop := fun ps H2 => match ps with
    | [(x, y)] => ∃ b ks, x = .ref b ∧ H2 s.heap.objs.size = some (.dT []) ∧ H2 b = some (.tup (ks.map kV)) ∧ Q (.ref s.heap.objs.size) (upd H2 s.heap.objs.size (.dT [(ks, y)]))
    | _ => False
  apply thn ((pps_cons (pos := pos) hk hv pps_nil).run pins _ σ _ R I1 (h _ new))
  rintro vs s1 ⟨ps, H2, I2, rel, q⟩
  obtain ⟨x, y, rfl⟩ : ∃ x y, ps = [(x, y)] := by
    rcases ps with _ | ⟨⟨x, y⟩, _ | ⟨_, _⟩⟩
    · exact q.elim
    · exact ⟨x, y, rfl⟩
    · exact q.elim
  obtain ⟨b, ks, rfl, ed, eb, q⟩ : ∃ b ks, x = .ref b ∧ H2 s.heap.objs.size = some (.dT []) ∧ H2 b = some (.tup (ks.map kV)) ∧ Q (.ref s.heap.objs.size) (upd H2 s.heap.objs.size (.dT [(ks, y)])) := q
  obtain ⟨u, r, rfl, ru, rr⟩ : ∃ u r, vs = [(u, r)] ∧ RelV (.ref b) u ∧ RelV y r := by
    cases rel with
    | cons h t =>
      cases t
      exact ⟨_, _, rfl, h.1, h.2⟩
  cases (show u = Value.ref b from ru)
  show wpAny _ _ (forIn [(Value.ref b, r)] PUnit.unit _) _ _ _
  rw [List.forIn_cons]
  refine wpAny_bind (wpAny_bind (put_tup room I2 ed eb (Nat.lt_of_lt_of_le (by decide : 0 < 100000) (Nat.le_of_ble_eq_true rfl)) rr fun s2 I3 => wpAny_pure ?_))
  show wpAny _ _ (forIn [] PUnit.unit _) _ _ _
  rw [List.forIn_nil]
  exact wpAny_pure ⟨.ref s.heap.objs.size, _, I3, rfl, q⟩
/-- {k: v for target in iter}, the keys tuples; D the new dict -/
def tDcT (wi : TI) (g : TG) (tk tv : TE) (vs : List Nat) : TE := fun σ H Q => wi σ H fun J H1 => ∀ D, H1 D = none → ∃ W : Nat → Nat → Hp → Prop, (∃ m, W 0 m (upd H1 D (.dT []))) ∧ ∀ i m H, W i m H →
  (J.stop i H ∧ Q (.ref D) H) ∨ (J.go i H ∧ ∃ Nx : Hp → Prop, (∀ H', Nx H' → ∃ m', m' < m ∧ W (i + 1) m' H') ∧ ∀ x H', J.yld i H x H' → g x (wipe σ vs) H' fun σ2 H2 => wipe σ2 vs = wipe σ vs ∧
    tk σ2 H2 fun y H4 => tv σ2 H4 fun z H5 => ∃ kvs ks b, y = .ref b ∧ H5 b = some (.tup (ks.map kV)) ∧ H5 D = some (.dT kvs) ∧ kvs.length < sizeLine ∧ Nx (upd H5 D (.dT (putK kvs ks z))))
theorem pe_dcT {kx vx tg iter : Expr} {scope : Scope} {own : List (Str × Nat)} {pos : Pos} {wi : TI} {g : TG} {tk tv : TE} (room : X.A.units + 1 < cLine) (calm : X.calm = true) (nd : X.N.Nodup) (src : PI X tg iter wi) (ok : BlkOk X.N X.env.scope scope own)
    (pg : ∀ (s : Shared) (H : Hp) (C : Addr) (cl : List (Str × Addr)) (fp : List Addr), PG (X.blk s H scope (compEnvC scope cl C X.env) fp) tg g)
    (pk : ∀ (s : Shared) (H : Hp) (C : Addr) (cl : List (Str × Addr)) (fp : List Addr), PE (X.blk s H scope (compEnvC scope cl C X.env) fp) kx tk)
    (pv : ∀ (s : Shared) (H : Hp) (C : Addr) (cl : List (Str × Addr)) (fp : List Addr), PE (X.blk s H scope (compEnvC scope cl C X.env) fp) vx tv) (plain : ∀ x, foldedSetIterable iter X.env x = pure x := by intro _; rfl) :
    PE X (.DictComp kx vx [⟨tg, iter, [], 0⟩] scope pos) (tDcT wi g tk tv (own.map (·.2))) := by
  constructor
  intro pins s σ H Q I h
  rw [arm_eval_DictComp]
  have cells : ∀ y ∈ scope.names, y.2 = .free → ∃ c, X.env.cells.lookup y.1 = some c := by
    intro y hy e
    apply I.ok.has
    rcases ok.free y hy e with q | q
    · exact .inl q
    · exact .inr q
  apply wpAny_comprehension_free rfl plain (closure_ok cells) ok.kind (fun y hy e => by rw [ok.uniq y hy, e])
  apply thn (src.run pins s σ H _ I h)
  intro xv s1 hx
  apply thn hx
  rintro itv s2 ⟨it, fp, tn, J, H2, rfl, I2, T, st2, f2, q⟩
  refine wpAny_newObj_type (newEnv_comp ?_)
  obtain ⟨D, eD⟩ : ∃ D, D = s2.heap.objs.size := ⟨_, rfl⟩
  rw [← eD]
  have noD : H2 D = none := I2.hok.fresh (Nat.le_of_eq eD.symm)
  obtain ⟨W, ⟨m0, w0⟩, turn⟩ := q D noD
  obtain ⟨H3, eH3⟩ : ∃ H3, H3 = upd H2 D (.dT []) := ⟨_, rfl⟩
  obtain ⟨s3, e3⟩ : ∃ s3 : Shared, s3 = { s2 with heap := s2.heap.push { cls := .type "dict", data := .dict #[] } } := ⟨_, rfl⟩
  rw [← eH3] at w0
  have heap3 : s3.heap = s2.heap.push { cls := .type "dict", data := .dict #[] } := by rw [e3]
  have I3 : Inv X pins σ H3 s3 := by
    rw [e3, eH3, eD]
    exact I2.laid (t' := s2.toks) (fun b o e => Heap.get?_push_of_some _ e) (Nat.le_refl _) (dt_empty s2.heap I2.big)
  have fp3 : ∀ b ∈ fp, FpOk X pins H3 b ∧ b < s3.heap.objs.size := by
    intro b hb
    obtain ⟨o, e, _⟩ := T.obj _ _ st2 b hb
    have lt := Heap.lt_size e
    constructor
    · refine ⟨?_, (f2 b hb).2⟩
      rw [eH3, upd_ne (by rw [eD]; exact Nat.ne_of_lt lt)]
      exact (f2 b hb).1
    · rw [heap3, Heap.size_push]; exact Nat.lt_succ_of_lt lt
  have out3 : ∀ b ∈ fp, H3 b = none := fun b hb => (fp3 b hb).1.1
  have I4 := block_start I3 ok nd fp3
  have pg := pg s3 H3 s3.heap.objs.size (cellsFrom (s3.heap.objs.size + 1) scope.names (cloFrom X.env.cells scope.names [])) fp
  have pk := pk s3 H3 s3.heap.objs.size (cellsFrom (s3.heap.objs.size + 1) scope.names (cloFrom X.env.cells scope.names [])) fp
  have pv := pv s3 H3 s3.heap.objs.size (cellsFrom (s3.heap.objs.size + 1) scope.names (cloFrom X.env.cells scope.names [])) fp
  obtain ⟨ce, ece⟩ : ∃ ce, ce = compEnvC scope (cellsFrom (s3.heap.objs.size + 1) scope.names (cloFrom X.env.cells scope.names [])) s3.heap.objs.size X.env := ⟨_, rfl⟩
  obtain ⟨s4, e4⟩ : ∃ s4 : Shared, s4 = { s3 with heap := pushCells (s3.heap.push { cls := .type "dict", data := .dict #[] }) scope.names } := ⟨_, rfl⟩
  rw [← ece] at I4 pg pk pv
  rw [← e4] at I4
  have ceL : ce.locals = s3.heap.objs.size := by rw [ece]; rfl
  have st4 : tn 0 s4.heap := by
    apply T.keep _ _ _ st2
    intro b _ o e
    rw [e4]
    refine pushCells_keeps _ _ _ _ (Heap.get?_push_of_some _ ?_)
    rw [heap3]
    exact Heap.get?_push_of_some _ e
  have gate : ∀ {σ' : L2.St} {H' : Hp} {s' : Shared}, Inv (X.blk s3 H3 scope ce fp) [] σ' H' s' → (∀ b ∈ fp, H' b = none) → ∀ b ∈ fp, FpOk (X.blk s3 H3 scope ce fp) [] H' b := by
    intro σ' H' s' I' out b hb
    have z := I'.ok.exf b hb
    exact ⟨out b hb, z.1, I'.ok.exfs b hb, .inl hb, fun x c e => z.2 x c e, fun p hp => absurd (show p ∈ ([] : List (Addr × Obj)) ++ [] from hp) (by simp)⟩
  have key : codeAny (model X.prog X.w) X.A (.compLoop (.DictComp kx vx [⟨tg, iter, [], 0⟩] scope pos) 0 (.ref it) (.ref D) ce) (compPost (model X.prog X.w) X.A X.xe none (EP X pins σ Q) (.ref D) s3.heap.objs.size) s4 := by
    apply compLoop_anyD (fun n s' => ∃ i H', Inv (X.blk s3 H3 scope ce fp) [] (wipe σ (own.map (·.2))) H' s' ∧ tn i s'.heap ∧ (∀ b ∈ fp, H' b = none) ∧ W i n H') ?_ m0 ⟨0, H3, I4, st4, out3, w0⟩
    rintro n s5 ⟨i, H5, I5, st5, out5, w5⟩
    rcases turn i n H5 w5 with ⟨stop, done⟩ | ⟨go, Nx, nxt, step⟩
    · apply thnF (T.done (X.blk s3 H3 scope ce fp) rfl rfl rfl calm i [] s5 _ H5 (fun _ _ => False) I5 (gate I5 out5) st5 stop)
      rintro r s6 ⟨rfl, I6⟩
      have I7 : Inv X pins σ H5 s6 := by
        apply I3.call' (ch := fp) I6.os I6.base I6.hok I6.bare
        intro b hb
        have z := (fp3 b hb).1.2
        exact ⟨z.2.2.1, z.1, z.2.2.2.1, z.2.2.2.2⟩
      have noC : H5 s3.heap.objs.size = none := by
        have z : H5 ce.locals = none := I6.free
        rwa [ceL] at z
      obtain ⟨m, ns, _⟩ := I6.loc
      have ns : s6.heap.Ns ce.locals m := ns
      rw [ceL] at ns
      refine ⟨m, ns, fun h'' sb => ?_⟩
      obtain ⟨f0, f1, _, f3, f4, f5⟩ := I3.fpOk (Nat.le_refl _) noC
      exact ⟨.ref D, H5, I7.turned (t' := s6.toks) (fun b o hb e => (sb.2 b hb).trans e) f0 f1 f3 f4 f5, rfl, done⟩
    · apply thnF (T.item (X.blk s3 H3 scope ce fp) rfl rfl rfl calm i [] s5 _ H5 (fun _ _ => False) I5 (gate I5 out5) st5 go)
      rintro r s6 ⟨u, rfl, h6⟩
      apply thnF h6
      rintro _ s7 ⟨x, H7, I7, r7, y7, st7, out7⟩
      have I7p := I7.pinned (gate I7 out7) (T.obj _ _ st7)
      apply thnF (pg.run _ s7 _ H7 x u _ I7p r7 (step x H7 y7))
      rintro _ s8 ⟨σ8, H8, I8, same8, q8⟩
      refine wpAny_pure ?_
      rw [if_pos rfl]
      apply thnF (pk.run _ s8 σ8 H8 _ I8 q8)
      rintro z s10 ⟨yk, H10, I10, r10, q10⟩
      apply thnF (pv.run _ s10 σ8 H10 _ I10 q10)
      rintro z2 s11 ⟨yv, H11, I11, r11, kvs, ks, b, rfl, eb, eD11, few, nx⟩
      cases (show z = Value.ref b from r10)
      apply put_tup (X := X.blk s3 H3 scope ce fp) room I11 eD11 eb few r11
      intro s12 I12
      obtain ⟨m', lt, w'⟩ := nxt _ nx
      have pin : ∀ c ∈ fp, ∀ o, s7.heap.get? c = some o → s12.heap.get? c = some o ∧ upd H11 D (.dT (putK kvs ks yv)) c = none := by
        intro c hc o e
        have z := I12.pin (c, o) (List.mem_append_right _ (List.mem_append_right _ (mem_pinsAt hc e)))
        exact ⟨z.1, z.2.1⟩
      have len8 : (wipe σ (own.map (·.2))).length = σ8.length := by rw [← same8, wipe_length]
      refine ⟨m', lt, i + 1, _, (I12.unpinned (pins := [])).weak len8 ?_, T.keep _ _ _ st7 fun c hc o e => (pin c hc o e).1, ?_, w'⟩
      · intro j v e
        rw [← same8] at e
        exact (wipe_some e).1
      · intro c hc
        obtain ⟨o, e, _⟩ := T.obj _ _ st7 c hc
        exact (pin c hc o e).2
  have all := codeAny_compStart_dict key (T.self X.A 0 _ _ _ st4 key)
  rw [e4, ece, e3, eD] at all
  rw [eD]
  exact all
end
end Sw
namespace Sw
open PySem PySem.Spec PyProof.Rows L2
/-! ### answers for dicts keyed by tuples, for a list or a tuple walked by its name -/
theorem room1 {u c : Nat} (h : u + 64 < c) : u + 1 < c := by omega
def rDGet : V → V → Hp → VK → Prop := fun x y H Q => ∃ a v, x = .ref a ∧ DGet H a y (some v) ∧ Q v H
theorem i_dget {td ty : TE} {σ : L2.St} {H : Hp} {Q : VK} (h : td σ H fun x H1 => ty σ H1 fun y H2 => rDGet x y H2 Q) : tDGet td ty σ H Q := h
theorem i_dgetT {a b : Addr} {kvs : List (List Key × V)} {ks : List Key} {v : V} {H : Hp} {Q : VK} (e : H a = some (.dT kvs)) (eb : H b = some (.tup (ks.map kV))) (ev : valV kvs ks = some v) (q : Q v H) : rDGet (.ref a) (.ref b) H Q :=
  ⟨a, v, rfl, by rw [← ev]; exact DGet.t e eb, q⟩
def rInDt : R2 := fun x y H Q => ∃ a o, y = .ref a ∧ DGet H a x o ∧ Q (.bl o.isSome) H
theorem op_inDt {X : Cx} (hu : X.A.units + 64 < cLine) : OpR X (compareOp .In) rInDt := by
  intro pins s σ H x y v u Q I rx ry h
  obtain ⟨a, o, rfl, g, q⟩ := h
  cases (show u = Value.ref a from ry)
  exact d_in (room1 hu) I g rx fun s' I' => ⟨.bl o.isSome, H, I', rfl, q⟩
theorem i_inDt {a b : Addr} {kvs : List (List Key × V)} {ks : List Key} {H : Hp} {Q : VK} (e : H a = some (.dT kvs)) (eb : H b = some (.tup (ks.map kV))) (q : Q (.bl (valV kvs ks).isSome) H) : rInDt (.ref b) (.ref a) H Q := ⟨a, _, rfl, DGet.t e eb, q⟩
theorem i_setD {a b : Addr} {kvs : List (List Key × V)} {ks : List Key} {v : V} {H : Hp} {Q : Hp → Prop} (e : H a = some (.dT kvs)) (eb : H b = some (.tup (ks.map kV))) (l : kvs.length < sizeLine) (q : Q (upd H a (.dT (putK kvs ks v)))) : rSetD (.ref a) (.ref b) v H Q :=
  ⟨a, _, rfl, DPut.t e eb l, q⟩
def NewE (H : Hp) (R : Addr → Hp → Prop) : Prop := ∀ p, H p = none → R p (upd H p (.dT []))
theorem i_dnewT {σ : L2.St} {H : Hp} {Q : VK} (h : NewE H fun p H1 => Q (.ref p) H1) : tDNewT σ H Q := h
theorem i_disp1T {tk tv : TE} {σ : L2.St} {H : Hp} {Q : VK} (h : NewE H fun p H0 => tk σ H0 fun x H1 => tv σ H1 fun y H2 => ∃ b ks, x = .ref b ∧ H2 p = some (.dT []) ∧ H2 b = some (.tup (ks.map kV)) ∧ Q (.ref p) (upd H2 p (.dT [(ks, y)]))) : tDisp1T tk tv σ H Q := h
/-! a list or a tuple, by its name -/
def iSeqV (K : PySem.W.Frag) (i : Nat) : TI := fun σ H R => ∃ a xs J, σ[i]? = some (some (.ref a)) ∧ ((SqL K H a xs ∧ J = Itl K a) ∨ (SqT K H a xs ∧ J = Itt K a)) ∧ R J H
theorem pi_seqV {X : Cx} {tg l : Expr} {i : Nat} (h : PE X l (tVar i)) : PI X tg l (iSeqV X.K i) := by
  refine ⟨fun pins s σ H R I q => ?_⟩
  obtain ⟨a, xs, J, e, ⟨hs, rfl⟩ | ⟨hs, rfl⟩, r⟩ := q
  · exact (pi_list (tg := tg) h).run pins s σ H R I ⟨_, e, a, rfl, ⟨xs, hs⟩, r⟩
  · exact (pi_tup (tg := tg) h).run pins s σ H R I ⟨_, e, a, rfl, ⟨xs, hs⟩, r⟩
theorem walk_seqV {K : PySem.W.Frag} {a : Addr} {xs : List V} {J : It} {H : Hp} (h : (SqL K H a xs ∧ J = Itl K a) ∨ (SqT K H a xs ∧ J = Itt K a)) : Walk J xs.length (fun H' => Same H H') (YAt xs) := by
  rcases h with ⟨h, rfl⟩ | ⟨h, rfl⟩
  · exact walk_list.mono (fun H' s => Same.sqL s h) fun _ _ _ _ _ _ y => y
  · exact walk_tup.mono (fun H' s => Same.sqT s h) fun _ _ _ _ _ _ y => y
theorem i_seqV {K : PySem.W.Frag} {a : Addr} {xs : List V} {i : Nat} {σ : L2.St} {H : Hp} {R : It → Hp → Prop} (e : σ[i]? = some (some (.ref a))) (h : SqL K H a xs ∨ SqT K H a xs) (r : ∀ J, Walk J xs.length (fun H' => Same H H') (YAt xs) → R J H) : iSeqV K i σ H R := by
  rcases h with h | h
  · exact ⟨a, xs, _, e, .inl ⟨h, rfl⟩, r _ (walk_seqV (.inl ⟨h, rfl⟩))⟩
  · exact ⟨a, xs, _, e, .inr ⟨h, rfl⟩, r _ (walk_seqV (.inr ⟨h, rfl⟩))⟩
def DcGo (J : It) (g : TG) (tk tv : TE) (vs : List Nat) (σ : L2.St) (H1 : Hp) (Q : VK) : Prop := ∀ D, H1 D = none → ∃ W : Nat → Nat → Hp → Prop, (∃ m, W 0 m (upd H1 D (.dT []))) ∧ ∀ i m H, W i m H →
  (J.stop i H ∧ Q (.ref D) H) ∨ (J.go i H ∧ ∃ Nx : Hp → Prop, (∀ H', Nx H' → ∃ m', m' < m ∧ W (i + 1) m' H') ∧ ∀ x H', J.yld i H x H' → g x (wipe σ vs) H' fun σ2 H2 => wipe σ2 vs = wipe σ vs ∧
    tk σ2 H2 fun y H4 => tv σ2 H4 fun z H5 => ∃ kvs ks b, y = .ref b ∧ H5 b = some (.tup (ks.map kV)) ∧ H5 D = some (.dT kvs) ∧ kvs.length < sizeLine ∧ Nx (upd H5 D (.dT (putK kvs ks z))))
theorem i_dcT {wi : TI} {g : TG} {tk tv : TE} {vs : List Nat} {σ : L2.St} {H : Hp} {Q : VK} (h : wi σ H fun J H1 => DcGo J g tk tv vs σ H1 Q) : tDcT wi g tk tv vs σ H Q := h
theorem go_dcT {J : It} {n : Nat} {G : Hp → Prop} {Y : Nat → Hp → V → Hp → Prop} {g : TG} {tk tv : TE} {vs : List Nat} {σ : L2.St} {H1 : Hp} {Q : VK} (w : Walk J n G Y) (Pv : Addr → Nat → Hp → Prop) (h0 : ∀ p, H1 p = none → Pv p 0 (upd H1 p (.dT []))) (hG : ∀ p i H, H1 p = none → i ≤ n → Pv p i H → G H)
    (hs : ∀ p, H1 p = none → ∀ i x H H', i < n → Pv p i H → Y i H x H' → g x (wipe σ vs) H' fun σ2 H2 => wipe σ2 vs = wipe σ vs ∧
      tk σ2 H2 fun y H4 => tv σ2 H4 fun z H5 => ∃ kvs ks b, y = .ref b ∧ H5 b = some (.tup (ks.map kV)) ∧ H5 p = some (.dT kvs) ∧ kvs.length < sizeLine ∧ Pv p (i + 1) (upd H5 p (.dT (putK kvs ks z))))
    (hd : ∀ p H, H1 p = none → Pv p n H → Q (.ref p) H) : DcGo J g tk tv vs σ H1 Q := by
  intro p np
  refine ⟨fun i m H => i + m = n ∧ Pv p i H, ⟨n, by omega, h0 p np⟩, ?_⟩
  rintro i m H ⟨le, pv⟩
  have ok := hG p i H np (by omega) pv
  rcases m with _ | m
  · obtain rfl : i = n := by omega
    exact .inl ⟨w.stops H ok, hd p H np pv⟩
  · exact .inr ⟨w.goes i H (by omega) ok, Pv p (i + 1), fun H' q => ⟨m, Nat.lt_succ_self m, by omega, q⟩, fun x H' y => hs p np i x H H' (by omega) pv (w.yields i H x H' (by omega) ok y)⟩
/-- isinstance(x, (list, tuple)) -/
theorem kit_two {K : PySem.W.Frag} {t u1 u2 : Value} {b1 b2 : Bool} (h1 : PySem.W.kitOne K t u1 = some b1) (h2 : PySem.W.kitOne K t u2 = some b2) : PySem.W.kitAny K t [u1, u2] = some (b1 || b2) := by
  cases b1 <;> cases b2 <;> simp [PySem.W.kitAny, h1, h2]
theorem isiLT {K : PySem.W.Frag} {H : Hp} {v : V} {t : Value} {b1 b2 : Bool} {Q : VK} {p : Addr} (ty : TyX K H v t) (e : H p = some (.tup [.ty "list", .ty "tuple"])) (h1 : PySem.W.kitOne K t (.type "list") = some b1) (h2 : PySem.W.kitOne K t (.type "tuple") = some b2) (k : Q (.bl (b1 || b2)) H) : rIsiT K [v, .ref p] H Q :=
  ⟨v, p, _, t, _, _, rfl, e, .cons (.ty _) (.cons (.ty _) .nil), ty, kit_two h1 h2, k⟩
theorem De.isiLT {K : PySem.W.Frag} {H : Hp} {v : V} {d : PyData} {Q : VK} {p : Addr} (h : De K H v d) (e : H p = some (.tup [.ty "list", .ty "tuple"])) (k : Q (.bl (tyB "list" d || tyB "tuple" d)) H) : rIsiT K [v, .ref p] H Q := by
  have a : ∀ {n m : String} {b : Bool}, PySem.W.kitOne K (.type n) (.type m) = some b → PySem.W.kitOne K (.type n) (.type m) = some b := fun q => q
  cases h with
  | non => exact Sw.isiLT (.base .non) e (kit_ty (show _ = some false by decide +kernel)) (kit_ty (show _ = some false by decide +kernel)) k
  | bl b => exact Sw.isiLT (.base (.bl _)) e (kit_ty (show _ = some false by decide +kernel)) (kit_ty (show _ = some false by decide +kernel)) k
  | int i => exact Sw.isiLT (.base (.int _)) e (kit_ty (show _ = some false by decide +kernel)) (kit_ty (show _ = some false by decide +kernel)) k
  | str x => exact Sw.isiLT (.base (.str _)) e (kit_ty (show _ = some false by decide +kernel)) (kit_ty (show _ = some false by decide +kernel)) k
  | lst h1 _ h2 => exact Sw.isiLT (.base (.lst h1)) e (kit_ty (show _ = some true by decide +kernel)) (kit_ty (show _ = some false by decide +kernel)) k
  | tup h1 h2 => exact Sw.isiLT (tyx_tup h1) e (kit_ty (show _ = some false by decide +kernel)) (kit_ty (show _ = some true by decide +kernel)) k
  | dict h1 h2 => exact Sw.isiLT (.base (.dK h1)) e (kit_ty (show _ = some false by decide +kernel)) (kit_ty (show _ = some false by decide +kernel)) k
end Sw
namespace Sw
open PySem PySem.Spec PyProof.Rows L2
/-! ### a call by three names, turned -/
def rev3 {α : Type} : List α → List α → List α
  | [], [c, b, a] => [a, b, c]
  | _, _ => []
theorem rev3_inv {α : Type} {us ws : List α} (h : (rev3 us ws).length = 3) : us = [] ∧ ∃ c b a, ws = [c, b, a] := by
  unfold rev3 at h
  split at h
  · exact ⟨rfl, _, _, _, rfl⟩
  · cases h
theorem rev3_rel {vs : List V} {us : List Value} {zs : List V} {ws : List Value} (r : Vals vs us) (r2 : Vals zs ws) : Vals (rev3 vs zs) (rev3 us ws) := by
  unfold rev3
  cases r with
  | cons _ _ => exact .nil
  | nil =>
    cases r2 with
    | nil => exact .nil
    | cons a r2 =>
      cases r2 with
      | nil => exact .nil
      | cons b r2 =>
        cases r2 with
        | nil => exact .nil
        | cons c r2 =>
          cases r2 with
          | nil => exact .cons c (.cons b (.cons a .nil))
          | cons _ _ => exact .nil
end Sw
namespace Sw.Oi
open PySem PySem.Calls PySem.W
open Sem (wp)
/-! ### != of two instances whose class tells == alone -/
section
variable {prog : Program} {w : World} {A : Around} {E : Value → Shared → Prop} {s : Shared} {h₀ : Heap} {L : Addr} {m : Str → Option Value} {K : Frag} {x C f : Addr} {ox : Obj} {od : Option Obj} {b tb : Value}
theorem slot_found {M : Model} {name : Str} {id B : String} {args : List Value} {Q : Option Value → Shared → Prop} (kin : K.In s.heap) (inst : InstAt s.heap x ox C od) (found : findIn K (.ref C) name = some (some (.builtin id))) (S : Slot B name id)
    (go : wpAny M A (call (.builtin id) (.ref x :: args)) (fun v => Q (some v)) E s) : wpAny M A (callSpecialIfBound? (.ref x) name args) Q E s := by
  simp only [callSpecialIfBound?, bindSpecialIfBound?]
  refine wpAny_holding (wpAny_bind (wpAny_bind (wpAny_bind (inst.type.here ((looks_findIn kin found).here ?_)))))
  simp only [S.bind]
  refine wpAny_bind (wpAny_askSetting (wpAny_ite ?_))
  have last : wpAny M A (call (.builtin id) ([.ref x] ++ args) >>= fun v => pure (some v)) Q E s := wpAny_bind (wpAny_mono go (fun v s' q => wpAny_pure q) fun _ _ q => q)
  split
  · exact wpAny_bind (wpAny_pure (wpAny_pure last))
  · exact wpAny_tryCatch (wpAny_bind (wpAny_pure (wpAny_pure last)))
theorem ne_body {Q : Fin → Shared → Prop} (room : A.units < cLine) (kin : K.In s.heap) (inst : InstAt s.heap x ox C od) (hs : findIn K (.ref C) "__eq__" = some (some (.ref f))) (hf : isFn K (.ref f) = true)
    (go : wpAny (model prog w) A (call (.ref f) [.ref x, b]) (fun v s' => ∃ c, v = .bool c ∧ Q (.done (.ret (.bool (!c)))) s') E s) : wpAny (model prog w) A (Builtin.«object.__ne__» ⟨[.ref x, b], []⟩) Q E s := by
  unfold Builtin.«object.__ne__»
  repeat (first
    | with_reducible refine wpAny_cRoomFor room ?_
    | (refine wpAny_bind (m := callSpecialIfBound? (.ref x) (Str.ofString "__eq__") [b])
        (ifBound_K kin inst hs hf (wpAny_mono go (fun r s' hr => by
          obtain ⟨c, rfl, hq⟩ := hr
          repeat (first | exact hq | exact wpAny_pure hq | exact wpAny_truthy_bool hq | (refine wpAny_bind (m := truthy (.bool _)) (wpAny_truthy_bool ?_)) | wp_step)) fun _ _ e => e)))
    | wp_step)
theorem ne_K {Q : Value → Shared → Prop} (room : A.units + 1 < cLine) (F : PyProof.Rows.Fr h₀ L s.heap m) (kin₀ : K.In h₀) (inst : InstAt s.heap x ox C od) (hb : Looks (model prog w) s.heap (typeOf b) tb) (nf : notFirst K C tb = true)
    (hne : findIn K (.ref C) "__ne__" = some (some (.builtin "object.__ne__"))) (sub : subIn K (.ref C) (.type "object") = some true) (hs : findIn K (.ref C) "__eq__" = some (some (.ref f))) (hf : isFn K (.ref f) = true)
    (go : wpAny (model prog w) A.in1 (call (.ref f) [.ref x, b]) (fun v s' => ∃ c, v = .bool c ∧ Q (.bool (!c)) s') E s) : wpAny (model prog w) A (richCompare .NotEq (.ref x) b) Q E s := by
  have kin := kin₀.keeps F.keep
  have obj : Looks (model prog w) s.heap (isInstance (.ref x) (.type "object")) true := inst.type.andThen (looks_subIn kin sub)
  have one : wpAny (model prog w) A (tryCompare (.ref x) "__ne__" b) (fun r s' => ∃ v, r = some v ∧ Q v s') E s := by
    simp only [tryCompare]
    refine wpAny_bind (slot_found kin inst hne PySem.F.cmp_object.ne (wpAny_call (codeAny_call_builtin PySem.F.cmp_object.ne.plain PySem.F.cmpEntry_ne
      (check_slot PySem.F.cmpKind_ne PySem.F.cmpSplit_ne obj (PySem.F.cmpArgs_ne _ _) (ne_body (A := A.in1) room kin inst hs hf (wpAny_mono go (fun v s' hv => ?_) fun _ _ e => e))))))
    obtain ⟨c, rfl, hq⟩ := hv
    first | exact ⟨c, rfl, wpAny_pure ⟨_, rfl, hq⟩⟩ | exact ⟨c, rfl, wpAny_pure (wpAny_pure ⟨_, rfl, hq⟩)⟩ | exact ⟨c, rfl, ⟨_, rfl, hq⟩⟩
  unfold richCompare
  simp only [oneThing_ref]
  refine wpAny_holding (wpAny_bind (wpAny_cRoomFor (Nat.lt_of_succ_lt room) ?_))
  refine wpAny_bind (inst.type.here (wpAny_bind (hb.here ?_)))
  rw [cmpInfo_NotEq]
  dsimp only
  split
  · rename_i q
    have no : subIn K tb (.ref C) = some false := by
      rcases Bool.or_eq_true_iff.mp nf with e | e
      · rw [beq_iff_eq.mp e] at q; simp at q
      · exact beq_iff_eq.mp e
    refine wpAny_bind ((looks_subIn kin no).here ?_)
    simp only [Bool.false_eq_true, if_false]
    refine wpAny_bind (wpAny_mono one (fun r s' z => ?_) fun _ _ e => e)
    obtain ⟨v, rfl, hq⟩ := z
    exact wpAny_pure hq
  · refine wpAny_bind (wpAny_pure ?_)
    simp only [Bool.false_eq_true, if_false]
    refine wpAny_bind (wpAny_mono one (fun r s' z => ?_) fun _ _ e => e)
    obtain ⟨v, rfl, hq⟩ := z
    exact wpAny_pure hq
end
end Sw.Oi
namespace Sw
open PySem PySem.Spec PyProof.Rows L2
/-- the class at C tells == by a def of the program, != not -/
structure EqI (P : Program) (w : World) (K : PySem.W.Frag) (mg : Str → Option Value) (base : Heap) (k : Nat) (C : Addr) (sp : Sp) : Prop where
  ex : ∃ (f : Addr) (fd : FuncData) (ps : List Str), PySem.W.findIn K (.ref C) "__eq__" = some (some (.ref f)) ∧ PySem.W.isFn K (.ref f) = true ∧ FnOk P w K mg base CX0 k f fd ps sp ∧ Binds K fd ps []
  ne : PySem.W.findIn K (.ref C) "__ne__" = some (some (.builtin "object.__ne__"))
  sub : PySem.W.subIn K (.ref C) (.type "object") = some true
def rOwnR (C : Addr) (sp : Sp) (neg : Bool) : R2 := fun x y H Q => ∃ a b dx dy fs gs, x = .ref a ∧ y = .ref b ∧ H a = some (.ins C dx fs) ∧ H b = some (.ins C dy gs) ∧ sp [.ref a, .ref b] H (fun v H' => ∃ r, v = .bl r ∧ Q (.bl (neg ^^ r)) H') L2.E0
section
variable {X : Cx} {k n : Nat} {C : Addr} {sp : Sp}
theorem op_eqO (e : EqI X.prog X.w X.K X.mg X.base k C sp) (hr : Room n X.A) (hk : k + 1 ≤ n := by decide) : OpR X (compareOp .Eq) (rOwnR C sp false) := by
  intro pins s σ H x y v u Q I rx ry h
  obtain ⟨a, b, dx, dy, fs, gs, rfl, rfl, ha, hb, q⟩ := h
  cases (show v = Value.ref a from rx)
  cases (show u = Value.ref b from ry)
  obtain ⟨f, fd, ps, hs, hf, F, bi⟩ := e.ex
  obtain ⟨mA, J, _⟩ := ins_get I.hok ha
  obtain ⟨mB, J', _⟩ := ins_get I.hok hb
  obtain ⟨od, J, _⟩ := J.look
  obtain ⟨od', J', _⟩ := J'.look
  obtain ⟨m, hF⟩ := I.fr
  show wpAny _ _ (richCompare .Eq (.ref a) (.ref b)) _ _ _
  have R := F.raw bi (dvs := []) .nil
  refine PySem.W.cmp_K (op := .Eq) (tb := .ref C) hr.units0 hF I.ok.mod.kin J J'.type (by simp [PySem.W.notFirst]) hs hf ?_
  refine wpAny_mono (wpAny_call (run_fnR (us := [.ref a, .ref b]) (vs := [.ref a, .ref b]) R (hr.mono (by omega)) pass0 I (.cons rfl (.cons rfl .nil)) q)) (fun w' s' z => ?_) fun _ _ x => x
  obtain ⟨z', H', I', rz, r, rfl, qz⟩ := z
  cases rz
  exact ⟨.bl r, H', I', rfl, by simpa using qz⟩
theorem op_neO (e : EqI X.prog X.w X.K X.mg X.base k C sp) (hr : Room n X.A) (hk : k + 1 ≤ n := by decide) : OpR X (compareOp .NotEq) (rOwnR C sp true) := by
  intro pins s σ H x y v u Q I rx ry h
  obtain ⟨a, b, dx, dy, fs, gs, rfl, rfl, ha, hb, q⟩ := h
  cases (show v = Value.ref a from rx)
  cases (show u = Value.ref b from ry)
  obtain ⟨f, fd, ps, hs, hf, F, bi⟩ := e.ex
  obtain ⟨mA, J, _⟩ := ins_get I.hok ha
  obtain ⟨mB, J', _⟩ := ins_get I.hok hb
  obtain ⟨od, J, _⟩ := J.look
  obtain ⟨od', J', _⟩ := J'.look
  obtain ⟨m, hF⟩ := I.fr
  show wpAny _ _ (richCompare .NotEq (.ref a) (.ref b)) _ _ _
  have R := F.raw bi (dvs := []) .nil
  refine Oi.ne_K (tb := .ref C) (Nat.lt_of_le_of_lt (by omega) hr.units) hF I.ok.mod.kin J J'.type (by simp [PySem.W.notFirst]) e.ne e.sub hs hf ?_
  have hr1 : Room k X.A.in1 := (hr.mono hk).in1
  refine wpAny_mono (wpAny_call (SlX.run_at (us := [.ref a, .ref b]) (ws := [.ref a, .ref b]) R hr1 I.env0.in1 pass0 I (.cons rfl (.cons rfl .nil)) q)) (fun w' s' z => ?_) fun _ _ x => x
  obtain ⟨z', H', I', rz, r, rfl, qz⟩ := z
  cases rz
  exact ⟨r, rfl, .bl (!r), H', I', rfl, by simpa using qz⟩
end
end Sw
namespace Sw
open PySem PySem.Spec PyProof.Rows L2
/-! ### fields, making, methods: what is asked -/
def rFldR (K : PySem.W.Frag) (f : Str) : V → Hp → VK → Prop := fun x H Q => ∃ a C dx fs v, x = .ref a ∧ H a = some (.ins C dx fs) ∧ Cls K C ∧ NoAttr K C f ∧ fs.lookup f = some v ∧ Q v H
theorem i_fld {K : PySem.W.Frag} {ta : TE} {f : Str} {σ : L2.St} {H : Hp} {Q : VK} (h : ta σ H fun x H1 => rFldR K f x H1 Q) : tFld K ta f σ H Q := h
def rSFld (K : PySem.W.Frag) (f : Str) (y x : V) (H : Hp) (R : Hp → Prop) : Prop := ∃ a C dx fs, x = .ref a ∧ H a = some (.ins C dx fs) ∧ Cls K C ∧ NoAttr K C f ∧ fs.length < 1000 ∧ R (upd H a (.ins C dx (putF f y fs)))
theorem i_sFld {K : PySem.W.Frag} {ta tv : TE} {f : Str} {D : Ends} {σ : L2.St} {H : Hp} (h : tv σ H fun y H1 => ta σ H1 fun x H2 => rSFld K f y x H2 (D.nx σ)) : sFld K ta tv f D σ H := h
def rMake (C : Addr) (sp : Sp) (E : XK) (vs : List V) (H : Hp) (Q : VK) : Prop := ∀ x dx, H x = none → H dx = none → dx ≠ x → sp (.ref x :: vs) (upd (upd H dx (.own x)) x (.ins C dx [])) (fun v H2 => v = .non ∧ Q (.ref x) H2) E
theorem i_make {C : Addr} {sp : Sp} {E : XK} {t : TA} {σ : L2.St} {H : Hp} {Q : VK} (h : t σ H fun vs H1 => rMake C sp E vs H1 Q) : tMake C sp [] E t σ H Q := by
  unfold tMake
  simp only [List.append_nil]
  exact h
def rMeth (C : Addr) (m : Str) (t : TA) (sp : Sp) (E : XK) (σ : L2.St) (x : V) (H : Hp) (Q : VK) : Prop := ∃ a dx fs, x = .ref a ∧ H a = some (.ins C dx fs) ∧ fs.lookup m = none ∧ t σ H fun vs H2 => sp (x :: (vs ++ [])) H2 Q E
theorem i_meth {C : Addr} {m : Str} {sp : Sp} {E : XK} {ta : TE} {t : TA} {σ : L2.St} {H : Hp} {Q : VK} (h : ta σ H fun x H1 => rMeth C m t sp E σ x H1 Q) : tMeth C m sp [] E ta t σ H Q := h
def rStar (K : PySem.W.Frag) (t : TA) (σ : L2.St) (x : V) (H : Hp) (Q : List V → Hp → Prop) : Prop := ∃ p xs, x = V.ref p ∧ (SqT K H p xs ∨ SqL K H p xs) ∧ t σ H fun ys H2 => Q (xs ++ ys) H2
theorem i_star {K : PySem.W.Frag} {te : TE} {t : TA} {σ : L2.St} {H : Hp} {Q : List V → Hp → Prop} (h : te σ H fun x H1 => rStar K t σ x H1 Q) : StX.tStar K te t σ H Q := h
theorem call_tuple_ofB {X : Cx} {K : PySem.W.Frag} (e : X.K = K) : CallR X (.type "tuple") (fun xs H Q => ∃ p ys, xs = [V.ref p] ∧ (SqL K H p ys ∧ (∀ l, H l = none → Q (.ref l) (upd H l (.tup ys))) ∨ SqT K H p ys ∧ Q (.ref p) H)) := by
  subst e
  exact call_tuple_of
theorem i_isNoS {x : Str} {H : Hp} {Q : VK} (h : Q (.bl false) H) : rIsNo (.str x) .non H Q := ⟨rfl, h⟩
theorem pi_listK {X : Cx} {K : PySem.W.Frag} {l tg : Expr} {tl : TE} (e : X.K = K) (hl : PE X l tl) : PI X tg l (iList K tl) := by
  subst e
  exact pi_list hl
theorem call_lenQB {X : Cx} {K : PySem.W.Frag} (e : X.K = K) : CallR X (.builtin "len") (rLenQ K) := by
  subst e
  exact call_lenQ
end Sw
namespace Sw
open PySem PySem.Spec PyProof.Rows L2
local macro_rules | `(tactic| walk_at "hp") => `(tactic| first
  | (with_reducible assumption) | (with_reducible exact upd_same)
  | ((with_reducible refine' upd_old ?q1 ?q2); (case q1 => (with_reducible assumption)); (case q2 => walk_at "hp"))
  | ((with_reducible refine' Same.at ?q1 ?q2); (case q1 => (with_reducible assumption)); (case q2 => walk_at "hp"))
  | ((with_reducible refine' upd_skip ?q1 ?q2); (case q1 => walk_at "ne"); (case q2 => walk_at "hp"))
  | fail)
local macro_rules | `(tactic| walk_at "ne") => `(tactic| first
  | (with_reducible assumption) | (with_reducible exact Ne.symm (by assumption))
  | ((with_reducible refine' ne_of_none ?q1 ?q2); (case q2 => (with_reducible assumption)); (case q1 => walk_at "hp"))
  | fail)
local macro_rules | `(tactic| walk_at "ci") => `(tactic| first | assumption | (show (0 : Int) < _; first | decide | (with_reducible omega)) | exact ⟨by decide, by decide⟩ | exact .inl ⟨by decide, by decide⟩ | exact .inr ⟨by decide, by decide⟩)
local macro_rules | `(tactic| walk_at "ln") => `(tactic| first | (with_reducible assumption) | (with_reducible omega) | (simp only [List.length_append, List.length_take, List.length_drop, List.length_reverse, List.length_cons, List.length_nil]; with_reducible omega))
local macro_rules | `(tactic| walk_at "rd1") => `(tactic| first
  | (with_reducible refine i_seq ?_) | (with_reducible refine i_asg ?_) | (with_reducible refine i_ret ?_) | (with_reducible refine i_name ?_) | ((with_reducible refine' i_var ?q1 ?_); (case q1 => exact rfl)) | (with_reducible refine i_c ?_) | (with_reducible refine i_op ?_) | (with_reducible refine i_un ?_)
  | (with_reducible refine i_rI0 ?_) | (with_reducible refine i_cb ?_) | (with_reducible refine i_cons ?_) | (with_reducible refine i_nil ?_) | (with_reducible refine i_call ?_) | (with_reducible refine i_if ?_) | (with_reducible refine i_ifE ?_) | (with_reducible refine i_test ?_) | (with_reducible refine i_bl ?_)
  | (with_reducible refine i_and ?_) | (with_reducible refine i_or ?_) | (with_reducible refine i_not ?_) | (with_reducible refine i_lst ?_) | (with_reducible refine i_tup ?_) | (with_reducible refine i_next ?_) | (with_reducible refine i_drop ?_) | (with_reducible refine i_sub ?_)
  | (with_reducible refine i_bm ?_) | (with_reducible refine i_sl ?_) | (with_reducible refine i_part ?_) | (with_reducible refine i_nopart ?_) | (with_reducible refine i_exI ?_) | (with_reducible refine i_chain ?_) | ((with_reducible refine' i_aug ?q1 ?_); (case q1 => exact rfl)) | (with_reducible refine i_ip ?_)
  | (with_reducible refine i_par ?_) | (with_reducible refine i_pair ?_) | (with_reducible refine i_andV ?_) | (with_reducible refine i_orV ?_) | (with_reducible refine i_notV ?_) | (with_reducible refine i_m1 ?_) | (with_reducible refine i_str ?_)
  | (with_reducible refine iteF ?_) | (with_reducible refine iteT ?_) | (with_reducible refine iteNT ?_) | (with_reducible refine iteNF ?_) | (with_reducible refine i_tyS ?_) | (with_reducible refine i_tB ?_) | (with_reducible refine i_retN ?_) | (with_reducible refine i_par3 ?_) | (with_reducible refine i_trip ?_) | (with_reducible refine i_gCons ?_) | (with_reducible refine i_gNil ?_) | (with_reducible refine i_lstRg ?_) | (with_reducible refine i_rg1 ?_)
  | (with_reducible refine i_lc ?_) | (with_reducible refine i_for ?_) | (with_reducible refine i_iList ?_) | (with_reducible refine i_iTup ?_) | (with_reducible refine i_iStr ?_) | (with_reducible refine i_iRng1 ?_) | (with_reducible refine i_iEnS ?_)
  | ((with_reducible refine' i_ixTH ?q1 ?q2 ?_); (case q1 => walk_at "hp"); (case q2 => exact rfl))
  | ((with_reducible refine' i_ixLH ?q1 ?q2 ?_); (case q1 => walk_at "hp"); (case q2 => exact rfl))
  | ((with_reducible refine i_addS ?q1 ?_); (case q1 => walk_at "ln")) | ((with_reducible refine i_lenSS ?q1 ?_); (case q1 => walk_at "ln")) | ((with_reducible refine i_slFrom ?q1 ?q2 ?_); (case q1 => walk_at "ln"); (case q2 => walk_at "ln")) | ((with_reducible refine i_slTo ?q1 ?q2 ?_); (case q1 => walk_at "ln"); (case q2 => walk_at "ln"))
  | ((with_reducible refine' i_tyL ?q1 ?_); (case q1 => walk_at "hp"))
  | ((with_reducible refine' i_gTupH ?q1 ?q2 ?_); (case q1 => walk_at "hp"); (case q2 => exact rfl))
  | (with_reducible refine i_dnew ?_) | (with_reducible refine i_init ?_) | (with_reducible refine i_fst ?_) | (with_reducible refine i_mk ?_) | (with_reducible refine i_raise ?_) | (with_reducible refine i_callS ?_) | (with_reducible refine i_kwS ?_)
  | (with_reducible refine i_revT ?_) | (with_reducible refine i_kw ?_) | ((with_reducible refine' ⟨_, _, rfl, sqT_of ?q1, ?_⟩); (case q1 => walk_at "hp"))
  | (with_reducible refine i_revS ?_) | ((with_reducible refine i_revSS ?q1 ?_); (case q1 => walk_at "ln"))
  | (with_reducible refine i_startS ?_) | (with_reducible refine i_inSg ?_) | (with_reducible refine i_absN ?_) | (with_reducible refine i_min2 ?_) | (with_reducible refine i_max2 ?_) | (with_reducible refine i_min3 ?_) | (with_reducible refine i_intN ?_) | (with_reducible refine i_intNB ?_)
  | ((with_reducible refine' i_lenL ?q1 ?_); (case q1 => walk_at "hp")) | ((with_reducible refine' i_lenT ?q1 ?_); (case q1 => walk_at "hp"))
  | (with_reducible refine i_eqI ?_) | (with_reducible refine i_neI ?_) | (with_reducible refine i_eqS ?_) | (with_reducible refine i_neS ?_) | (with_reducible refine i_isNoI ?_) | (with_reducible refine i_isNoN ?_) | (with_reducible refine i_isNoR ?_)
  | ((with_reducible refine i_pow ?q1 ?q2 ?q3 ?_); (case q1 => decide); (case q2 => decide); (case q3 => (with_reducible omega)))
  | ((with_reducible refine i_rI ?q1 ?_); (case q1 => walk_at "ci"))
  | (with_reducible refine Or.inl ⟨_, rfl, ?_⟩) | (with_reducible refine Or.inr ⟨_, rfl, ?_⟩) | (with_reducible refine ⟨_, rfl, ?_⟩) | (with_reducible refine ⟨_, _, rfl, ?_⟩) | (with_reducible refine ⟨_, _, rfl, rfl, ?_⟩)
  | ((with_reducible refine' ⟨_, _, rfl, Or.inl (sqL_of ?q1), ?_⟩); (case q1 => walk_at "hp")) | ((with_reducible refine' ⟨_, _, rfl, Or.inr (sqT_of ?q1), ?_⟩); (case q1 => walk_at "hp")) | (with_reducible refine i_dget ?_) | (with_reducible refine i_disp1T ?_) | (with_reducible refine i_dcT ?_) | (with_reducible refine i_dnewT ?_) | (with_reducible refine i_fld ?_) | (with_reducible refine i_sFld ?_) | (with_reducible refine i_make ?_) | (with_reducible refine i_meth ?_) | (with_reducible refine i_star ?_) | (with_reducible refine i_isNoS ?_) | (with_reducible refine i_lc2 ?_) | fail)
local macro_rules | `(tactic| walk_at "rd") => `(tactic| repeat' walk_at "rd1")

def topS (i : Nat) : Stmt := PySem.Challenge.pw_spoiltways_k53_codecs_of_usual_kinds.main.body.getD i (.Pass ⟨0, 0, 0, 0⟩)
abbrev s__wall : Stmt := topS 0
abbrev n__wall : List Str := ["k"]
theorem sc__wall : FnScope n__wall ["k"] (defScope s__wall) := ⟨rfl, rfl, rfl, by decide +kernel, rfl, by decide +kernel, by decide +kernel⟩
abbrev s_is_list : Stmt := topS 12
abbrev n_is_list : List Str := ["value"]
theorem sc_is_list : FnScope n_is_list ["value"] (defScope s_is_list) := ⟨rfl, rfl, rfl, by decide +kernel, rfl, by decide +kernel, by decide +kernel⟩
abbrev s_is_integer : Stmt := topS 13
abbrev n_is_integer : List Str := ["value"]
theorem sc_is_integer : FnScope n_is_integer ["value"] (defScope s_is_integer) := ⟨rfl, rfl, rfl, by decide +kernel, rfl, by decide +kernel, by decide +kernel⟩
abbrev s_is_index : Stmt := topS 14
abbrev n_is_index : List Str := ["value", "many"]
theorem sc_is_index : FnScope n_is_index ["value", "many"] (defScope s_is_index) := ⟨rfl, rfl, rfl, by decide +kernel, rfl, by decide +kernel, by decide +kernel⟩
abbrev s_is_signs : Stmt := topS 15
abbrev n_is_signs : List Str := ["value"]
theorem sc_is_signs : FnScope n_is_signs ["value"] (defScope s_is_signs) := ⟨rfl, rfl, rfl, by decide +kernel, rfl, by decide +kernel, by decide +kernel⟩
abbrev s_is_sign : Stmt := topS 16
abbrev n_is_sign : List Str := ["value", "signs"]
theorem sc_is_sign : FnScope n_is_sign ["value", "signs"] (defScope s_is_sign) := ⟨rfl, rfl, rfl, by decide +kernel, rfl, by decide +kernel, by decide +kernel⟩
abbrev s_is_line : Stmt := topS 17
abbrev n_is_line : List Str := ["value", "signs", "sign"]
theorem sc_is_line : FnScope n_is_line ["value", "signs"] (defScope s_is_line) := ⟨rfl, rfl, rfl, by decide +kernel, rfl, by decide +kernel, by decide +kernel⟩
abbrev s_is_text : Stmt := topS 18
abbrev n_is_text : List Str := ["value", "letter"]
theorem sc_is_text : FnScope n_is_text ["value"] (defScope s_is_text) := ⟨rfl, rfl, rfl, by decide +kernel, rfl, by decide +kernel, by decide +kernel⟩
abbrev s_is_word : Stmt := topS 19
abbrev n_is_word : List Str := ["value"]
theorem sc_is_word : FnScope n_is_word ["value"] (defScope s_is_word) := ⟨rfl, rfl, rfl, by decide +kernel, rfl, by decide +kernel, by decide +kernel⟩
abbrev s_letter_of : Stmt := topS 20
abbrev n_letter_of : List Str := ["place"]
theorem sc_letter_of : FnScope n_letter_of ["place"] (defScope s_letter_of) := ⟨rfl, rfl, rfl, by decide +kernel, rfl, by decide +kernel, by decide +kernel⟩
abbrev s_check_signs : Stmt := topS 21
abbrev n_check_signs : List Str := ["signs"]
theorem sc_check_signs : FnScope n_check_signs ["signs"] (defScope s_check_signs) := ⟨rfl, rfl, rfl, by decide +kernel, rfl, by decide +kernel, by decide +kernel⟩
abbrev s_check_line : Stmt := topS 22
abbrev n_check_line : List Str := ["line", "signs"]
theorem sc_check_line : FnScope n_check_line ["line", "signs"] (defScope s_check_line) := ⟨rfl, rfl, rfl, by decide +kernel, rfl, by decide +kernel, by decide +kernel⟩
abbrev s_is_entry : Stmt := topS 25
abbrev n_is_entry : List Str := ["value", "states"]
theorem sc_is_entry : FnScope n_is_entry ["value", "states"] (defScope s_is_entry) := ⟨rfl, rfl, rfl, by decide +kernel, rfl, by decide +kernel, by decide +kernel⟩
abbrev s_are_steps : Stmt := topS 26
abbrev n_are_steps : List Str := ["value", "signs", "row", "entry"]
theorem sc_are_steps : FnScope n_are_steps ["value", "signs"] (defScope s_are_steps) := ⟨rfl, rfl, rfl, by decide +kernel, rfl, by decide +kernel, by decide +kernel⟩
abbrev s_are_ends : Stmt := topS 27
abbrev n_are_ends : List Str := ["value", "states", "end"]
theorem sc_are_ends : FnScope n_are_ends ["value", "states"] (defScope s_are_ends) := ⟨rfl, rfl, rfl, by decide +kernel, rfl, by decide +kernel, by decide +kernel⟩
abbrev s_copier : Stmt := topS 31
abbrev n_copier : List Str := ["signs", "sign"]
theorem sc_copier : FnScope n_copier ["signs"] (defScope s_copier) := ⟨rfl, rfl, rfl, by decide +kernel, rfl, by decide +kernel, by decide +kernel⟩
abbrev s_escaped : Stmt := topS 32
abbrev n_escaped : List Str := ["signs", "mark", "plain", "sign", "marked"]
theorem sc_escaped : FnScope n_escaped ["signs", "mark"] (defScope s_escaped) := ⟨rfl, rfl, rfl, by decide +kernel, rfl, by decide +kernel, by decide +kernel⟩
abbrev s_shifted : Stmt := topS 33
abbrev n_shifted : List Str := ["signs", "last", "small", "sign", "great"]
theorem sc_shifted : FnScope n_shifted ["signs"] (defScope s_shifted) := ⟨rfl, rfl, rfl, by decide +kernel, rfl, by decide +kernel, by decide +kernel⟩
abbrev s_run_lengths : Stmt := topS 34
abbrev n_run_lengths : List Str := ["signs", "steps", "sign", "read"]
theorem sc_run_lengths : FnScope n_run_lengths ["signs"] (defScope s_run_lengths) := ⟨rfl, rfl, rfl, by decide +kernel, rfl, by decide +kernel, by decide +kernel⟩
abbrev s__law_cell : Stmt := topS 36
abbrev n__law_cell : List Str := ["script", "k"]
theorem sc__law_cell : FnScope n__law_cell ["script", "k"] (defScope s__law_cell) := ⟨rfl, rfl, rfl, by decide +kernel, rfl, by decide +kernel, by decide +kernel⟩
abbrev s__law_box : Stmt := topS 37
abbrev n__law_box : List Str := ["great"]
theorem sc__law_box : FnScope n__law_box ["great"] (defScope s__law_box) := ⟨rfl, rfl, rfl, by decide +kernel, rfl, by decide +kernel, by decide +kernel⟩
abbrev s__law_take : Stmt := topS 38
abbrev n__law_take : List Str := ["box", "many", "digit", "mixed"]
theorem sc__law_take : FnScope n__law_take ["box", "many"] (defScope s__law_take) := ⟨rfl, rfl, rfl, by decide +kernel, rfl, by decide +kernel, by decide +kernel⟩
abbrev s__law_whole : Stmt := topS 39
abbrev n__law_whole : List Str := ["thing", "least", "most"]
theorem sc__law_whole : FnScope n__law_whole ["thing", "least", "most"] (defScope s__law_whole) := ⟨rfl, rfl, rfl, by decide +kernel, rfl, by decide +kernel, by decide +kernel⟩
abbrev s__law_odd : Stmt := topS 40
abbrev n__law_odd : List Str := ["box", "most", "menu"]
theorem sc__law_odd : FnScope n__law_odd ["box", "most"] (defScope s__law_odd) := ⟨rfl, rfl, rfl, by decide +kernel, rfl, by decide +kernel, by decide +kernel⟩
abbrev s__law_copy : Stmt := topS 41
abbrev n__law_copy : List Str := ["thing"]
theorem sc__law_copy : FnScope n__law_copy ["thing"] (defScope s__law_copy) := ⟨rfl, rfl, rfl, by decide +kernel, rfl, by decide +kernel, by decide +kernel⟩
abbrev s__law_made : Stmt := topS 42
abbrev n__law_made : List Str := ["way", "named", "many", "special"]
theorem sc__law_made : FnScope n__law_made ["way", "named", "many", "special"] (defScope s__law_made) := ⟨rfl, rfl, rfl, by decide +kernel, rfl, by decide +kernel, by decide +kernel⟩
abbrev s__law_told : Stmt := topS 43
abbrev n__law_told : List Str := ["way", "named", "many", "special", "e"]
theorem sc__law_told : FnScope n__law_told ["way", "named", "many", "special"] (defScope s__law_told) := ⟨rfl, rfl, rfl, by decide +kernel, rfl, by decide +kernel, by decide +kernel⟩
abbrev s__law_parts : Stmt := topS 44
abbrev n__law_parts : List Str := ["way", "many", "special", "names", "name", "plain", "small", "steps", "k"]
theorem sc__law_parts : FnScope n__law_parts ["way", "many", "special"] (defScope s__law_parts) := ⟨rfl, rfl, rfl, by decide +kernel, rfl, by decide +kernel, by decide +kernel⟩
abbrev s__law_read : Stmt := topS 45
abbrev n__law_read : List Str := ["way", "many", "special", "line", "found", "held", "mode", "sign", "name"]
theorem sc__law_read : FnScope n__law_read ["way", "many", "special", "line"] (defScope s__law_read) := ⟨rfl, rfl, rfl, by decide +kernel, rfl, by decide +kernel, by decide +kernel⟩
abbrev s__law_made_right : Stmt := topS 46
abbrev n__law_made_right : List Str := ["box", "way", "many", "special", "made", "steps", "ends", "due", "row", "turn", "line", "k"]
theorem sc__law_made_right : FnScope n__law_made_right ["box", "way", "many", "special", "made"] (defScope s__law_made_right) := ⟨rfl, rfl, rfl, by decide +kernel, rfl, by decide +kernel, by decide +kernel⟩
abbrev s__law_one_right : Stmt := topS 47
abbrev n__law_one_right : List Str := ["box", "way", "named", "slip", "many", "good", "special", "right", "told", "again", "due"]
theorem sc__law_one_right : FnScope n__law_one_right ["box"] (defScope s__law_one_right) := ⟨rfl, rfl, rfl, by decide +kernel, rfl, by decide +kernel, by decide +kernel⟩
abbrev s_law : Stmt := topS 48
abbrev n_law : List Str := ["script", "k"]
theorem sc_law : FnScope n_law ["script"] (defScope s_law) := ⟨rfl, rfl, rfl, by decide +kernel, rfl, by decide +kernel, by decide +kernel⟩
abbrev s_Decoder___init__ : Stmt := inClass (topS 28) 0
abbrev n_Decoder___init__ : List Str := ["self", "signs", "steps", "ends", "row"]
theorem sc_Decoder___init__ : FnScope n_Decoder___init__ ["self", "signs", "steps", "ends"] (defScope s_Decoder___init__) := ⟨rfl, rfl, rfl, by decide +kernel, rfl, by decide +kernel, by decide +kernel⟩
abbrev s_Decoder___eq__ : Stmt := inClass (topS 28) 1
abbrev n_Decoder___eq__ : List Str := ["self", "other"]
theorem sc_Decoder___eq__ : FnScope n_Decoder___eq__ ["self", "other"] (defScope s_Decoder___eq__) := ⟨rfl, rfl, rfl, by decide +kernel, rfl, by decide +kernel, by decide +kernel⟩
abbrev s_Decoder_written : Stmt := inClass (topS 28) 2
abbrev n_Decoder_written : List Str := ["self", "line", "state", "text", "sign", "entry", "end"]
theorem sc_Decoder_written : FnScope n_Decoder_written ["self", "line"] (defScope s_Decoder_written) := ⟨rfl, rfl, rfl, by decide +kernel, rfl, by decide +kernel, by decide +kernel⟩
abbrev s_Decoder_state_after : Stmt := inClass (topS 28) 3
abbrev n_Decoder_state_after : List Str := ["self", "line"]
theorem sc_Decoder_state_after : FnScope n_Decoder_state_after ["self", "line"] (defScope s_Decoder_state_after) := ⟨rfl, rfl, rfl, by decide +kernel, rfl, by decide +kernel, by decide +kernel⟩
abbrev s_Decoder_trimmed : Stmt := inClass (topS 28) 4
abbrev n_Decoder_trimmed : List Str := ["self"]
theorem sc_Decoder_trimmed : FnScope n_Decoder_trimmed ["self"] (defScope s_Decoder_trimmed) := ⟨rfl, rfl, rfl, by decide +kernel, rfl, by decide +kernel, by decide +kernel⟩
/-- names that stay the built-in ones -/
structure Z (mg : Str → Option Value) : Prop where
  abs : mg "abs" = none
  all : mg "all" = none
  bool : mg "bool" = none
  dict : mg "dict" = none
  enumerate : mg "enumerate" = none
  int : mg "int" = none
  isinstance : mg "isinstance" = none
  len : mg "len" = none
  list : mg "list" = none
  max_ : mg "max" = none
  min_ : mg "min" = none
  range : mg "range" = none
  repr : mg "repr" = none
  str : mg "str" = none
  sum : mg "sum" = none
  tuple : mg "tuple" = none
end Sw
namespace Sw
open PySem PySem.Spec PyProof.Rows L2
local macro_rules | `(tactic| walk_at "hp") => `(tactic| first
  | (with_reducible assumption) | (with_reducible exact upd_same)
  | ((with_reducible refine' upd_old ?q1 ?q2); (case q1 => (with_reducible assumption)); (case q2 => walk_at "hp"))
  | ((with_reducible refine' Same.at ?q1 ?q2); (case q1 => (with_reducible assumption)); (case q2 => walk_at "hp"))
  | ((with_reducible refine' upd_skip ?q1 ?q2); (case q1 => walk_at "ne"); (case q2 => walk_at "hp"))
  | fail)
local macro_rules | `(tactic| walk_at "ne") => `(tactic| first
  | (with_reducible assumption) | (with_reducible exact Ne.symm (by assumption))
  | ((with_reducible refine' ne_of_none ?q1 ?q2); (case q2 => (with_reducible assumption)); (case q1 => walk_at "hp"))
  | fail)
local macro_rules | `(tactic| walk_at "ci") => `(tactic| first | assumption | (show (0 : Int) < _; first | decide | (with_reducible omega)) | exact ⟨by decide, by decide⟩ | exact .inl ⟨by decide, by decide⟩ | exact .inr ⟨by decide, by decide⟩)
local macro_rules | `(tactic| walk_at "ln") => `(tactic| first | (with_reducible assumption) | (with_reducible omega) | (simp only [List.length_append, List.length_take, List.length_drop, List.length_reverse, List.length_cons, List.length_nil]; with_reducible omega))
local macro_rules | `(tactic| walk_at "rd1") => `(tactic| first
  | (with_reducible refine i_seq ?_) | (with_reducible refine i_asg ?_) | (with_reducible refine i_ret ?_) | (with_reducible refine i_name ?_) | ((with_reducible refine' i_var ?q1 ?_); (case q1 => exact rfl)) | (with_reducible refine i_c ?_) | (with_reducible refine i_op ?_) | (with_reducible refine i_un ?_)
  | (with_reducible refine i_rI0 ?_) | (with_reducible refine i_cb ?_) | (with_reducible refine i_cons ?_) | (with_reducible refine i_nil ?_) | (with_reducible refine i_call ?_) | (with_reducible refine i_if ?_) | (with_reducible refine i_ifE ?_) | (with_reducible refine i_test ?_) | (with_reducible refine i_bl ?_)
  | (with_reducible refine i_and ?_) | (with_reducible refine i_or ?_) | (with_reducible refine i_not ?_) | (with_reducible refine i_lst ?_) | (with_reducible refine i_tup ?_) | (with_reducible refine i_next ?_) | (with_reducible refine i_drop ?_) | (with_reducible refine i_sub ?_)
  | (with_reducible refine i_bm ?_) | (with_reducible refine i_sl ?_) | (with_reducible refine i_part ?_) | (with_reducible refine i_nopart ?_) | (with_reducible refine i_exI ?_) | (with_reducible refine i_chain ?_) | ((with_reducible refine' i_aug ?q1 ?_); (case q1 => exact rfl)) | (with_reducible refine i_ip ?_)
  | (with_reducible refine i_par ?_) | (with_reducible refine i_pair ?_) | (with_reducible refine i_andV ?_) | (with_reducible refine i_orV ?_) | (with_reducible refine i_notV ?_) | (with_reducible refine i_m1 ?_) | (with_reducible refine i_str ?_)
  | (with_reducible refine iteF ?_) | (with_reducible refine iteT ?_) | (with_reducible refine iteNT ?_) | (with_reducible refine iteNF ?_) | (with_reducible refine i_tyS ?_) | (with_reducible refine i_tB ?_) | (with_reducible refine i_retN ?_) | (with_reducible refine i_par3 ?_) | (with_reducible refine i_trip ?_) | (with_reducible refine i_gCons ?_) | (with_reducible refine i_gNil ?_) | (with_reducible refine i_lstRg ?_) | (with_reducible refine i_rg1 ?_)
  | (with_reducible refine i_lc ?_) | (with_reducible refine i_for ?_) | (with_reducible refine i_iList ?_) | (with_reducible refine i_iTup ?_) | (with_reducible refine i_iStr ?_) | (with_reducible refine i_iRng1 ?_) | (with_reducible refine i_iEnS ?_)
  | ((with_reducible refine' i_ixTH ?q1 ?q2 ?_); (case q1 => walk_at "hp"); (case q2 => exact rfl))
  | ((with_reducible refine' i_ixLH ?q1 ?q2 ?_); (case q1 => walk_at "hp"); (case q2 => exact rfl))
  | ((with_reducible refine i_addS ?q1 ?_); (case q1 => walk_at "ln")) | ((with_reducible refine i_lenSS ?q1 ?_); (case q1 => walk_at "ln")) | ((with_reducible refine i_slFrom ?q1 ?q2 ?_); (case q1 => walk_at "ln"); (case q2 => walk_at "ln")) | ((with_reducible refine i_slTo ?q1 ?q2 ?_); (case q1 => walk_at "ln"); (case q2 => walk_at "ln"))
  | ((with_reducible refine' i_tyL ?q1 ?_); (case q1 => walk_at "hp"))
  | ((with_reducible refine' i_gTupH ?q1 ?q2 ?_); (case q1 => walk_at "hp"); (case q2 => exact rfl))
  | (with_reducible refine i_dnew ?_) | (with_reducible refine i_init ?_) | (with_reducible refine i_fst ?_) | (with_reducible refine i_mk ?_) | (with_reducible refine i_raise ?_) | (with_reducible refine i_callS ?_) | (with_reducible refine i_kwS ?_)
  | (with_reducible refine i_revT ?_) | (with_reducible refine i_kw ?_) | ((with_reducible refine' ⟨_, _, rfl, sqT_of ?q1, ?_⟩); (case q1 => walk_at "hp"))
  | (with_reducible refine i_revS ?_) | ((with_reducible refine i_revSS ?q1 ?_); (case q1 => walk_at "ln"))
  | (with_reducible refine i_startS ?_) | (with_reducible refine i_inSg ?_) | (with_reducible refine i_absN ?_) | (with_reducible refine i_min2 ?_) | (with_reducible refine i_max2 ?_) | (with_reducible refine i_min3 ?_) | (with_reducible refine i_intN ?_) | (with_reducible refine i_intNB ?_)
  | ((with_reducible refine' i_lenL ?q1 ?_); (case q1 => walk_at "hp")) | ((with_reducible refine' i_lenT ?q1 ?_); (case q1 => walk_at "hp"))
  | (with_reducible refine i_eqI ?_) | (with_reducible refine i_neI ?_) | (with_reducible refine i_eqS ?_) | (with_reducible refine i_neS ?_) | (with_reducible refine i_isNoI ?_) | (with_reducible refine i_isNoN ?_) | (with_reducible refine i_isNoR ?_)
  | ((with_reducible refine i_pow ?q1 ?q2 ?q3 ?_); (case q1 => decide); (case q2 => decide); (case q3 => (with_reducible omega)))
  | ((with_reducible refine i_rI ?q1 ?_); (case q1 => walk_at "ci"))
  | (with_reducible refine Or.inl ⟨_, rfl, ?_⟩) | (with_reducible refine Or.inr ⟨_, rfl, ?_⟩) | (with_reducible refine ⟨_, rfl, ?_⟩) | (with_reducible refine ⟨_, _, rfl, ?_⟩) | (with_reducible refine ⟨_, _, rfl, rfl, ?_⟩)
  | ((with_reducible refine' ⟨_, _, rfl, Or.inl (sqL_of ?q1), ?_⟩); (case q1 => walk_at "hp")) | ((with_reducible refine' ⟨_, _, rfl, Or.inr (sqT_of ?q1), ?_⟩); (case q1 => walk_at "hp")) | (with_reducible refine i_dget ?_) | (with_reducible refine i_disp1T ?_) | (with_reducible refine i_dcT ?_) | (with_reducible refine i_dnewT ?_) | (with_reducible refine i_fld ?_) | (with_reducible refine i_sFld ?_) | (with_reducible refine i_make ?_) | (with_reducible refine i_meth ?_) | (with_reducible refine i_star ?_) | (with_reducible refine i_isNoS ?_) | (with_reducible refine i_lc2 ?_) | fail)
local macro_rules | `(tactic| walk_at "rd") => `(tactic| repeat' walk_at "rd1")

/-! ### the exceptions that tell a bad value -/
abbrev s_initS : Stmt := inClass (topS 6) 0
abbrev s_initG : Stmt := inClass (topS 5) 0
abbrev n_init : List Str := ["self", "given"]
theorem sc_initS : FnScope n_init ["self", "given"] (defScope s_initS) := ⟨rfl, rfl, rfl, by decide +kernel, rfl, by decide +kernel, by decide +kernel⟩
theorem sc_initG : FnScope n_init ["self", "given"] (defScope s_initG) := ⟨rfl, rfl, rfl, by decide +kernel, rfl, by decide +kernel, by decide +kernel⟩
section
variable {P : Program} {w : World} {K : PySem.W.Frag} {mg : Str → Option Value} {base : Heap} {f : Addr} {fd : FuncData}
theorem ok_initS {B : Addr} (F : Fun K "__init__" "InvalidSigns.__init__" s_initS f fd) (o : Over K mg B) : FnOk P w K mg base CX0 1 f fd ["self", "given"] (spInit K) := by
  refine F.ok sc_initS (fun vs H Q E h => ?_) (fun cdv A outer s H vs Q E hr h => ?_)
  · obtain ⟨a, C, v, rfl, _⟩ := h; rfl
  · obtain ⟨a, C, v, rfl, ha, T, no, k⟩ := h
    refine ⟨_, (pss_cons (ps_expr (ps_init (by rfl) o.hm o.ga o.ty o.rd o.fi (pa_cons (pv 0) (pa_cons pe_str pa_nil))))
      (pss_one (ps_fst (pv 0) (pv 1)))), ?_⟩
    walk_at "rd"
    refine ⟨a, C, _, rfl, by simp, T, ha, ?_⟩
    walk_at "rd"
    exact ⟨a, C, rfl, T, no, ha, fun dx n ne => k dx n ne⟩
theorem ok_initG {B : Addr} (F : Fun K "__init__" "InvalidSign.__init__" s_initG f fd) (o : Over K mg B) : FnOk P w K mg base CX0 1 f fd ["self", "given"] (spInit K) := by
  refine F.ok sc_initG (fun vs H Q E h => ?_) (fun cdv A outer s H vs Q E hr h => ?_)
  · obtain ⟨a, C, v, rfl, _⟩ := h; rfl
  · obtain ⟨a, C, v, rfl, ha, T, no, k⟩ := h
    refine ⟨_, (pss_cons (ps_expr (ps_init (by rfl) o.hm o.ga o.ty o.rd o.fi (pa_cons (pv 0) (pa_cons pe_str pa_nil))))
      (pss_one (ps_fst (pv 0) (pv 1)))), ?_⟩
    walk_at "rd"
    refine ⟨a, C, _, rfl, by simp, T, ha, ?_⟩
    walk_at "rd"
    exact ⟨a, C, rfl, T, no, ha, fun dx n ne => k dx n ne⟩
end
end Sw
namespace Sw
open PySem PySem.Spec PyProof.Rows L2
local macro_rules | `(tactic| walk_at "hp") => `(tactic| first
  | (with_reducible assumption) | (with_reducible exact upd_same)
  | ((with_reducible refine' upd_old ?q1 ?q2); (case q1 => (with_reducible assumption)); (case q2 => walk_at "hp"))
  | ((with_reducible refine' Same.at ?q1 ?q2); (case q1 => (with_reducible assumption)); (case q2 => walk_at "hp"))
  | ((with_reducible refine' upd_skip ?q1 ?q2); (case q1 => walk_at "ne"); (case q2 => walk_at "hp"))
  | fail)
local macro_rules | `(tactic| walk_at "ne") => `(tactic| first
  | (with_reducible assumption) | (with_reducible exact Ne.symm (by assumption))
  | ((with_reducible refine' ne_of_none ?q1 ?q2); (case q2 => (with_reducible assumption)); (case q1 => walk_at "hp"))
  | fail)
local macro_rules | `(tactic| walk_at "ci") => `(tactic| first | assumption | (show (0 : Int) < _; first | decide | (with_reducible omega)) | exact ⟨by decide, by decide⟩ | exact .inl ⟨by decide, by decide⟩ | exact .inr ⟨by decide, by decide⟩)
local macro_rules | `(tactic| walk_at "ln") => `(tactic| first | (with_reducible assumption) | (with_reducible omega) | (simp only [List.length_append, List.length_take, List.length_drop, List.length_reverse, List.length_cons, List.length_nil]; with_reducible omega))
local macro_rules | `(tactic| walk_at "rd1") => `(tactic| first
  | (with_reducible refine i_seq ?_) | (with_reducible refine i_asg ?_) | (with_reducible refine i_ret ?_) | (with_reducible refine i_name ?_) | ((with_reducible refine' i_var ?q1 ?_); (case q1 => exact rfl)) | (with_reducible refine i_c ?_) | (with_reducible refine i_op ?_) | (with_reducible refine i_un ?_)
  | (with_reducible refine i_rI0 ?_) | (with_reducible refine i_cb ?_) | (with_reducible refine i_cons ?_) | (with_reducible refine i_nil ?_) | (with_reducible refine i_call ?_) | (with_reducible refine i_if ?_) | (with_reducible refine i_ifE ?_) | (with_reducible refine i_test ?_) | (with_reducible refine i_bl ?_)
  | (with_reducible refine i_and ?_) | (with_reducible refine i_or ?_) | (with_reducible refine i_not ?_) | (with_reducible refine i_lst ?_) | (with_reducible refine i_tup ?_) | (with_reducible refine i_next ?_) | (with_reducible refine i_drop ?_) | (with_reducible refine i_sub ?_)
  | (with_reducible refine i_bm ?_) | (with_reducible refine i_sl ?_) | (with_reducible refine i_part ?_) | (with_reducible refine i_nopart ?_) | (with_reducible refine i_exI ?_) | (with_reducible refine i_chain ?_) | ((with_reducible refine' i_aug ?q1 ?_); (case q1 => exact rfl)) | (with_reducible refine i_ip ?_)
  | (with_reducible refine i_par ?_) | (with_reducible refine i_pair ?_) | (with_reducible refine i_andV ?_) | (with_reducible refine i_orV ?_) | (with_reducible refine i_notV ?_) | (with_reducible refine i_m1 ?_) | (with_reducible refine i_str ?_)
  | (with_reducible refine iteF ?_) | (with_reducible refine iteT ?_) | (with_reducible refine iteNT ?_) | (with_reducible refine iteNF ?_) | (with_reducible refine i_tyS ?_) | (with_reducible refine i_tB ?_) | (with_reducible refine i_retN ?_) | (with_reducible refine i_par3 ?_) | (with_reducible refine i_trip ?_) | (with_reducible refine i_gCons ?_) | (with_reducible refine i_gNil ?_) | (with_reducible refine i_lstRg ?_) | (with_reducible refine i_rg1 ?_)
  | (with_reducible refine i_lc ?_) | (with_reducible refine i_for ?_) | (with_reducible refine i_iList ?_) | (with_reducible refine i_iTup ?_) | (with_reducible refine i_iStr ?_) | (with_reducible refine i_iRng1 ?_) | (with_reducible refine i_iEnS ?_)
  | ((with_reducible refine' i_ixTH ?q1 ?q2 ?_); (case q1 => walk_at "hp"); (case q2 => exact rfl))
  | ((with_reducible refine' i_ixLH ?q1 ?q2 ?_); (case q1 => walk_at "hp"); (case q2 => exact rfl))
  | ((with_reducible refine i_addS ?q1 ?_); (case q1 => walk_at "ln")) | ((with_reducible refine i_lenSS ?q1 ?_); (case q1 => walk_at "ln")) | ((with_reducible refine i_slFrom ?q1 ?q2 ?_); (case q1 => walk_at "ln"); (case q2 => walk_at "ln")) | ((with_reducible refine i_slTo ?q1 ?q2 ?_); (case q1 => walk_at "ln"); (case q2 => walk_at "ln"))
  | ((with_reducible refine' i_tyL ?q1 ?_); (case q1 => walk_at "hp"))
  | ((with_reducible refine' i_gTupH ?q1 ?q2 ?_); (case q1 => walk_at "hp"); (case q2 => exact rfl))
  | (with_reducible refine i_dnew ?_) | (with_reducible refine i_init ?_) | (with_reducible refine i_fst ?_) | (with_reducible refine i_mk ?_) | (with_reducible refine i_raise ?_) | (with_reducible refine i_callS ?_) | (with_reducible refine i_kwS ?_)
  | (with_reducible refine i_revT ?_) | (with_reducible refine i_kw ?_) | ((with_reducible refine' ⟨_, _, rfl, sqT_of ?q1, ?_⟩); (case q1 => walk_at "hp"))
  | (with_reducible refine i_revS ?_) | ((with_reducible refine i_revSS ?q1 ?_); (case q1 => walk_at "ln"))
  | (with_reducible refine i_startS ?_) | (with_reducible refine i_inSg ?_) | (with_reducible refine i_absN ?_) | (with_reducible refine i_min2 ?_) | (with_reducible refine i_max2 ?_) | (with_reducible refine i_min3 ?_) | (with_reducible refine i_intN ?_) | (with_reducible refine i_intNB ?_)
  | ((with_reducible refine' i_lenL ?q1 ?_); (case q1 => walk_at "hp")) | ((with_reducible refine' i_lenT ?q1 ?_); (case q1 => walk_at "hp"))
  | (with_reducible refine i_eqI ?_) | (with_reducible refine i_neI ?_) | (with_reducible refine i_eqS ?_) | (with_reducible refine i_neS ?_) | (with_reducible refine i_isNoI ?_) | (with_reducible refine i_isNoN ?_) | (with_reducible refine i_isNoR ?_)
  | ((with_reducible refine i_pow ?q1 ?q2 ?q3 ?_); (case q1 => decide); (case q2 => decide); (case q3 => (with_reducible omega)))
  | ((with_reducible refine i_rI ?q1 ?_); (case q1 => walk_at "ci"))
  | (with_reducible refine Or.inl ⟨_, rfl, ?_⟩) | (with_reducible refine Or.inr ⟨_, rfl, ?_⟩) | (with_reducible refine ⟨_, rfl, ?_⟩) | (with_reducible refine ⟨_, _, rfl, ?_⟩) | (with_reducible refine ⟨_, _, rfl, rfl, ?_⟩)
  | ((with_reducible refine' ⟨_, _, rfl, Or.inl (sqL_of ?q1), ?_⟩); (case q1 => walk_at "hp")) | ((with_reducible refine' ⟨_, _, rfl, Or.inr (sqT_of ?q1), ?_⟩); (case q1 => walk_at "hp")) | (with_reducible refine i_dget ?_) | (with_reducible refine i_disp1T ?_) | (with_reducible refine i_dcT ?_) | (with_reducible refine i_dnewT ?_) | (with_reducible refine i_fld ?_) | (with_reducible refine i_sFld ?_) | (with_reducible refine i_make ?_) | (with_reducible refine i_meth ?_) | (with_reducible refine i_star ?_) | (with_reducible refine i_isNoS ?_) | (with_reducible refine i_lc2 ?_) | fail)
local macro_rules | `(tactic| walk_at "rd") => `(tactic| repeat' walk_at "rd1")

section
variable {P : Program} {w : World} {K : PySem.W.Frag} {mg : Str → Option Value} {base : Heap} {f : Addr} {fd : FuncData}
theorem ok__law_take (F : Fun K "_law_take" "_law_take" s__law_take f fd) (z : Z mg) : FnOk P w K mg base CX0 1 f fd ["box", "many"] spTake := by
  refine F.ok sc__law_take (fun vs H Q E h => ?_) (fun cdv A outer s H vs Q E hr h => ?_)
  · obtain ⟨b, m, d, rfl, _⟩ := h; rfl
  · obtain ⟨b, m, d, rfl, B, hd, hm, hm2, k⟩ := h
    obtain ⟨n, g, c, e, hb, hn, hc0, hc1, he0, he1⟩ := B.ex
    have L : SqL K H b [.int n, .bl g, .int c, .int e] := .inl (.inl hb)
    refine ⟨_, (pss_cons (ps_if (PW.pt (pw_and (pt_val (pe_ix ix_list (pv 0) pe_int (fun _ _ => rfl))) (pw_and1 (pt_cmpR op_gt (pe_ix ix_list (pv 0) pe_int (fun _ _ => rfl)) pe_int (nomark _)))))
        (pss_cons (ps_set (i := 2) sc__law_take.nd rfl (.inl rfl) (pe_op op_mod (pe_callTy call_intN (by rfl) z.int (by decide +kernel) (pa_cons (pe_ix ix_list (pv 0) pe_int (fun _ _ => rfl)) pa_nil)) (pv 1)))
        (pss_cons (ps_asg (pe_op op_fdivW (pe_ix ix_list (pv 0) pe_int (fun _ _ => rfl)) (pv 1)) (pg_sub (pv 0) pe_int set_list))
        (pss_one (ps_ret (pv 2)))))
        pss_nil)
      (pss_cons (ps_asg (pe_op op_add (pe_ix ix_list (pv 0) pe_int (fun _ _ => rfl)) pe_int) (pg_sub (pv 0) pe_int set_list))
      (pss_cons (ps_set (i := 3) sc__law_take.nd rfl (.inl rfl) (pe_op op_mod (pe_callTy call_intN (by rfl) z.int (by decide +kernel) (pa_cons (pe_op op_pow (pe_op op_add (pe_op op_add (pe_ix ix_list (pv 0) pe_int (fun _ _ => rfl)) (pe_op op_mul pe_int (pe_ix ix_list (pv 0) pe_int (fun _ _ => rfl)))) pe_int) pe_int) pa_nil)) pe_int))
      (pss_one (ps_ret (pe_op op_mod (pe_op op_fdiv (pe_op op_mod (pe_callTy call_intN (by rfl) z.int (by decide +kernel) (pa_cons (pe_op op_pow (pe_op op_add (pe_op op_mul (pv 3) pe_int) (pe_op op_mul pe_int (pe_ix ix_list (pv 0) pe_int (fun _ _ => rfl)))) pe_int) pa_nil)) pe_int) pe_int) (pv 1))))))), ?_⟩
    walk_at "rd"
    refine iteC (fun hg => ?_) (fun hg => ?_)
    · walk_at "rd"
      refine iteB (fun h0 => ?_) (fun h0 => ?_)
      · walk_at "rd"
        refine i_rI (wide_div hm (by omega : m.natAbs < 2 ^ 64) (by decide) (by decide)) ?_
        walk_at "rd"
        refine i_setL hb rfl ?_
        walk_at "rd"
        refine k _ _ (Int.emod_nonneg _ (by omega)) (Int.emod_lt_of_pos _ hm) ⟨n / m, g, c, e, upd_same, Int.ediv_nonneg hn (by omega), hc0, hc1, he0, by omega⟩ SB.upd
      · walk_at "rd"
        refine i_setL hb rfl ?_
        walk_at "rd"
        exact k _ _ (Int.emod_nonneg _ (by omega)) (Int.emod_lt_of_pos _ hm) ⟨n, g, c, e + 1, upd_same, hn, hc0, hc1, by omega, by omega⟩ SB.upd
    · walk_at "rd"
      refine i_setL hb rfl ?_
      walk_at "rd"
      exact k _ _ (Int.emod_nonneg _ (by omega)) (Int.emod_lt_of_pos _ hm) ⟨n, g, c, e + 1, upd_same, hn, hc0, hc1, by omega, by omega⟩ SB.upd
theorem ok__law_box (F : Fun K "_law_box" "_law_box" s__law_box f fd) (z : Z mg) : FnOk P w K mg base CX0 1 f fd ["great"] spBox := by
  refine F.ok sc__law_box (fun vs H Q E h => ?_) (fun cdv A outer s H vs Q E hr h => ?_)
  · obtain ⟨n, rfl, _⟩ := h; rfl
  · obtain ⟨n, rfl, k⟩ := h
    refine ⟨_, (pss_one (ps_ret (pe_lst (pa_cons (pe_callB call_absN (by rfl) z.abs (by decide +kernel) (pa_cons (pv 0) pa_nil)) (pa_cons (pe_cmpR op_ge (pe_callB call_absN (by rfl) z.abs (by decide +kernel) (pa_cons (pv 0) pa_nil)) (pe_op op_pow pe_int pe_int) (nomark _)) (pa_cons (pe_op op_mod (pe_callTy call_intN (by rfl) z.int (by decide +kernel) (pa_cons (pe_callB call_absN (by rfl) z.abs (by decide +kernel) (pa_cons (pv 0) pa_nil)) pa_nil)) pe_int) (pa_cons pe_int pa_nil))))))), ?_⟩
    walk_at "rd"
    have q0 := Int.emod_nonneg (if n < 0 then -n else n) (show (2147483629 : Int) ≠ 0 by decide)
    have q1 := Int.emod_lt_of_pos (if n < 0 then -n else n) (show (0 : Int) < 2147483629 by decide)
    refine ⟨Nat.le_of_ble_eq_true rfl, fun p np => ?_⟩
    refine k p _ np (same_upd np) ⟨_, _, _, _, upd_same, by split <;> omega, q0, q1, by omega, by omega⟩
theorem ok__law_cell (F : Fun K "_law_cell" "_law_cell" s__law_cell f fd) (z : Z mg) : FnOk P w K mg base CX0 1 f fd ["script", "k"] (spCell K) := by
  refine F.ok sc__law_cell (fun vs H Q E h => ?_) (fun cdv A outer s H vs Q E hr h => ?_)
  · obtain ⟨a, ns, j, rfl, _⟩ := h; rfl
  · obtain ⟨a, ns, j, rfl, L, h0, h1, k⟩ := h
    refine ⟨_, (pss_one (ps_ret (pe_ifExp (pt_cmpR op_lt (pv 1) (pe_callB call_lenQ (by rfl) z.len PySem.boot_len (pa_cons (pv 0) pa_nil)) (nomark _)) (pe_ix ix_list (pv 0) (pv 1) (fun _ _ => rfl)) (pe_op op_add (pe_op op_mul pe_int (pv 1)) (pe_op op_mod (pe_callB (cr_sum rfl) (by rfl) z.sum (by decide +kernel) (pa_cons (pe_slice sl_list (pv 0) po_none (po_some pe_int)) pa_nil)) pe_int))))), ?_⟩
    walk_at "rd"
    refine i_lenK L ?_
    walk_at "rd"
    rw [List.length_map]
    refine iteB (fun hlt => ?_) (fun hlt => ?_)
    · walk_at "rd"
      refine i_ixL L (atI_ints h0 hlt) ?_
      exact k _ _ (Same.refl _)
    · walk_at "rd"
      refine ⟨a, _, rfl, L, fun p np => ?_⟩
      walk_at "rd"
      have e : cutV (ns.map V.int) none (some 1) = (ns.take 1).map V.int := by
        unfold cutV
        rw [show HT.sIx (ns.map V.int).length (ns.map V.int).length (some 1) = min 1 (ns.map V.int).length from HT.sIx_nat _ _ 1, HT.sIx_none, List.drop_zero, Nat.sub_zero, List.map_take]
        rcases Nat.le_total 1 (ns.map V.int).length with q | q
        · rw [Nat.min_eq_left q]
        · rw [Nat.min_eq_right q, List.take_length, List.take_of_length_le q]
      rw [e]
      refine ⟨p, ns.take 1, rfl, sqL_of upd_same, ?_⟩
      walk_at "rd"
      exact k _ _ (same_upd np)
end
end Sw
namespace Sw
open PySem PySem.Spec PyProof.Rows L2
local macro_rules | `(tactic| walk_at "hp") => `(tactic| first
  | (with_reducible assumption) | (with_reducible exact upd_same)
  | ((with_reducible refine' upd_old ?q1 ?q2); (case q1 => (with_reducible assumption)); (case q2 => walk_at "hp"))
  | ((with_reducible refine' Same.at ?q1 ?q2); (case q1 => (with_reducible assumption)); (case q2 => walk_at "hp"))
  | ((with_reducible refine' upd_skip ?q1 ?q2); (case q1 => walk_at "ne"); (case q2 => walk_at "hp"))
  | fail)
local macro_rules | `(tactic| walk_at "ne") => `(tactic| first
  | (with_reducible assumption) | (with_reducible exact Ne.symm (by assumption))
  | ((with_reducible refine' ne_of_none ?q1 ?q2); (case q2 => (with_reducible assumption)); (case q1 => walk_at "hp"))
  | fail)
local macro_rules | `(tactic| walk_at "ci") => `(tactic| first | assumption | (show (0 : Int) < _; first | decide | (with_reducible omega)) | exact ⟨by decide, by decide⟩ | exact .inl ⟨by decide, by decide⟩ | exact .inr ⟨by decide, by decide⟩)
local macro_rules | `(tactic| walk_at "ln") => `(tactic| first | (with_reducible assumption) | (with_reducible omega) | (simp only [List.length_append, List.length_take, List.length_drop, List.length_reverse, List.length_cons, List.length_nil]; with_reducible omega))
local macro_rules | `(tactic| walk_at "rd1") => `(tactic| first
  | (with_reducible refine i_seq ?_) | (with_reducible refine i_asg ?_) | (with_reducible refine i_ret ?_) | (with_reducible refine i_name ?_) | ((with_reducible refine' i_var ?q1 ?_); (case q1 => exact rfl)) | (with_reducible refine i_c ?_) | (with_reducible refine i_op ?_) | (with_reducible refine i_un ?_)
  | (with_reducible refine i_rI0 ?_) | (with_reducible refine i_cb ?_) | (with_reducible refine i_cons ?_) | (with_reducible refine i_nil ?_) | (with_reducible refine i_call ?_) | (with_reducible refine i_if ?_) | (with_reducible refine i_ifE ?_) | (with_reducible refine i_test ?_) | (with_reducible refine i_bl ?_)
  | (with_reducible refine i_and ?_) | (with_reducible refine i_or ?_) | (with_reducible refine i_not ?_) | (with_reducible refine i_lst ?_) | (with_reducible refine i_tup ?_) | (with_reducible refine i_next ?_) | (with_reducible refine i_drop ?_) | (with_reducible refine i_sub ?_)
  | (with_reducible refine i_bm ?_) | (with_reducible refine i_sl ?_) | (with_reducible refine i_part ?_) | (with_reducible refine i_nopart ?_) | (with_reducible refine i_exI ?_) | (with_reducible refine i_chain ?_) | ((with_reducible refine' i_aug ?q1 ?_); (case q1 => exact rfl)) | (with_reducible refine i_ip ?_)
  | (with_reducible refine i_par ?_) | (with_reducible refine i_pair ?_) | (with_reducible refine i_andV ?_) | (with_reducible refine i_orV ?_) | (with_reducible refine i_notV ?_) | (with_reducible refine i_m1 ?_) | (with_reducible refine i_str ?_)
  | (with_reducible refine iteF ?_) | (with_reducible refine iteT ?_) | (with_reducible refine iteNT ?_) | (with_reducible refine iteNF ?_) | (with_reducible refine i_tyS ?_) | (with_reducible refine i_tB ?_) | (with_reducible refine i_retN ?_) | (with_reducible refine i_par3 ?_) | (with_reducible refine i_trip ?_) | (with_reducible refine i_gCons ?_) | (with_reducible refine i_gNil ?_) | (with_reducible refine i_lstRg ?_) | (with_reducible refine i_rg1 ?_)
  | (with_reducible refine i_lc ?_) | (with_reducible refine i_for ?_) | (with_reducible refine i_iList ?_) | (with_reducible refine i_iTup ?_) | (with_reducible refine i_iStr ?_) | (with_reducible refine i_iRng1 ?_) | (with_reducible refine i_iEnS ?_)
  | ((with_reducible refine' i_ixTH ?q1 ?q2 ?_); (case q1 => walk_at "hp"); (case q2 => exact rfl))
  | ((with_reducible refine' i_ixLH ?q1 ?q2 ?_); (case q1 => walk_at "hp"); (case q2 => exact rfl))
  | ((with_reducible refine i_addS ?q1 ?_); (case q1 => walk_at "ln")) | ((with_reducible refine i_lenSS ?q1 ?_); (case q1 => walk_at "ln")) | ((with_reducible refine i_slFrom ?q1 ?q2 ?_); (case q1 => walk_at "ln"); (case q2 => walk_at "ln")) | ((with_reducible refine i_slTo ?q1 ?q2 ?_); (case q1 => walk_at "ln"); (case q2 => walk_at "ln"))
  | ((with_reducible refine' i_tyL ?q1 ?_); (case q1 => walk_at "hp"))
  | ((with_reducible refine' i_gTupH ?q1 ?q2 ?_); (case q1 => walk_at "hp"); (case q2 => exact rfl))
  | (with_reducible refine i_dnew ?_) | (with_reducible refine i_init ?_) | (with_reducible refine i_fst ?_) | (with_reducible refine i_mk ?_) | (with_reducible refine i_raise ?_) | (with_reducible refine i_callS ?_) | (with_reducible refine i_kwS ?_)
  | (with_reducible refine i_revT ?_) | (with_reducible refine i_kw ?_) | ((with_reducible refine' ⟨_, _, rfl, sqT_of ?q1, ?_⟩); (case q1 => walk_at "hp"))
  | (with_reducible refine i_revS ?_) | ((with_reducible refine i_revSS ?q1 ?_); (case q1 => walk_at "ln"))
  | (with_reducible refine i_startS ?_) | (with_reducible refine i_inSg ?_) | (with_reducible refine i_absN ?_) | (with_reducible refine i_min2 ?_) | (with_reducible refine i_max2 ?_) | (with_reducible refine i_min3 ?_) | (with_reducible refine i_intN ?_) | (with_reducible refine i_intNB ?_)
  | ((with_reducible refine' i_lenL ?q1 ?_); (case q1 => walk_at "hp")) | ((with_reducible refine' i_lenT ?q1 ?_); (case q1 => walk_at "hp"))
  | (with_reducible refine i_eqI ?_) | (with_reducible refine i_neI ?_) | (with_reducible refine i_eqS ?_) | (with_reducible refine i_neS ?_) | (with_reducible refine i_isNoI ?_) | (with_reducible refine i_isNoN ?_) | (with_reducible refine i_isNoR ?_)
  | ((with_reducible refine i_pow ?q1 ?q2 ?q3 ?_); (case q1 => decide); (case q2 => decide); (case q3 => (with_reducible omega)))
  | ((with_reducible refine i_rI ?q1 ?_); (case q1 => walk_at "ci"))
  | (with_reducible refine Or.inl ⟨_, rfl, ?_⟩) | (with_reducible refine Or.inr ⟨_, rfl, ?_⟩) | (with_reducible refine ⟨_, rfl, ?_⟩) | (with_reducible refine ⟨_, _, rfl, ?_⟩) | (with_reducible refine ⟨_, _, rfl, rfl, ?_⟩)
  | ((with_reducible refine' ⟨_, _, rfl, Or.inl (sqL_of ?q1), ?_⟩); (case q1 => walk_at "hp")) | ((with_reducible refine' ⟨_, _, rfl, Or.inr (sqT_of ?q1), ?_⟩); (case q1 => walk_at "hp")) | (with_reducible refine i_dget ?_) | (with_reducible refine i_disp1T ?_) | (with_reducible refine i_dcT ?_) | (with_reducible refine i_dnewT ?_) | (with_reducible refine i_fld ?_) | (with_reducible refine i_sFld ?_) | (with_reducible refine i_make ?_) | (with_reducible refine i_meth ?_) | (with_reducible refine i_star ?_) | (with_reducible refine i_isNoS ?_) | (with_reducible refine i_lc2 ?_) | fail)
local macro_rules | `(tactic| walk_at "rd") => `(tactic| repeat' walk_at "rd1")

/-- is_integer(value) -/
def spInt (K : PySem.W.Frag) : Sp := fun vs H Q _ => ∃ x d, vs = [x] ∧ De K H x d ∧ Q (.bl (isI d)) H
/-- is_index(value, many) -/
def spIdx (K : PySem.W.Frag) : Sp := fun vs H Q _ => ∃ x d m, vs = [x, .int m] ∧ De K H x d ∧ Q (.bl (isX m d)) H
/-- is_signs(value) -/
def spSg (K : PySem.W.Frag) : Sp := fun vs H Q _ => ∃ x d, vs = [x] ∧ De K H x d ∧ Q (.bl (isG d)) H
/-- is_kind(value, signs) -/
def spKind (K : PySem.W.Frag) : Sp := fun vs H Q _ => ∃ x y d e n w, vs = [x, y] ∧ De K H x d ∧ Sd n w d ∧ n ≤ 50 ∧ StOk d ∧ De K H y e ∧ ∀ H', Same H H' → Q (.bl (onG e fun m => kindB m d)) H'
theorem kindB_no {m : Int} {ds : List PyData} (h : ds.length = 2 ∨ ds.length = 3) (e : (ds.drop 1).all (isX m) = false) : kindB m (.tuple ds) = false := by
  rcases ds with _ | ⟨x1, _ | ⟨x2, _ | ⟨x3, _ | ⟨x4, ys⟩⟩⟩⟩
  · rfl
  · rfl
  · simp only [List.drop_succ_cons, List.drop_zero, List.all_cons, List.all_nil, Bool.and_true] at e
    simp only [kindB, e, Bool.false_and]
  · simp only [List.drop_succ_cons, List.drop_zero, List.all_cons, List.all_nil, Bool.and_true] at e
    simp only [kindB, e, Bool.false_and]
  · rfl
theorem eqv_int (i j : Int) : PyData.eqv (.int i) (.int j) = decide (i = j) := by
  simp only [PyData.eqv]
  by_cases h : i = j
  · rw [h, decide_eq_true rfl]; exact beq_self_eq_true _
  · rw [decide_eq_false h]; exact beq_eq_false_iff_ne.mpr h
theorem tyB_int (d : PyData) : (tyB "int" d && !tyB "bool" d) = isI d := by cases d <;> rfl
theorem De.intB {K : PySem.W.Frag} {H : Hp} {x : V} {d : PyData} (h : De K H x d) (h2 : isI d = true) : ∃ i, d = .int i ∧ x = .int i := by
  cases h with
  | int i => exact ⟨i, rfl, rfl⟩
  | _ => cases h2
section
variable {P : Program} {w : World} {K : PySem.W.Frag} {mg : Str → Option Value} {base : Heap} {f : Addr} {fd : FuncData}
theorem ok_integer (F : Fun K "is_integer" "is_integer" s_is_integer f fd) (z : Z mg) : FnOk P w K mg base CX0 1 f fd ["value"] (spInt K) := by
  refine F.ok sc_is_integer (fun vs H Q E h => ?_) (fun cdv A outer s H vs Q E hr h => ?_)
  · obtain ⟨x, d, rfl, _⟩ := h; rfl
  · obtain ⟨x, d, rfl, hx, k⟩ := h
    refine ⟨_, (pss_one (ps_ret (pe_and (pe_callB call_isi (by rfl) z.isinstance (by decide +kernel) (pa_cons (pv 0) (pa_cons (pe_bltn (v := .ty "int") (by rfl) z.int (by decide +kernel) rfl) pa_nil))) (pe_one (pe_not (pe_callB call_isi (by rfl) z.isinstance (by decide +kernel) (pa_cons (pv 0) (pa_cons (pe_bltn (v := .ty "bool") (by rfl) z.bool (by decide +kernel) rfl) pa_nil)))))))), ?_⟩
    walk_at "rd"
    refine hx.isi (by simp) ?_
    walk_at "rd"
    rcases e : tyB "int" d with _ | _
    · rw [← tyB_int, e] at k
      walk_at "rd"
      exact k
    · rw [← tyB_int, e] at k
      walk_at "rd"
      refine hx.isi (by simp) ?_
      walk_at "rd"
      exact k
theorem ok_index (F : Fun K "is_index" "is_index" s_is_index f fd) (c_is_integer : Cal P w K mg base "is_integer" ["value"] 1 (spInt K)) : FnOk P w K mg base CX0 2 f fd ["value", "many"] (spIdx K) := by
  refine F.ok sc_is_index (fun vs H Q E h => ?_) (fun cdv A outer s H vs Q E hr h => ?_)
  · obtain ⟨x, d, m, rfl, _⟩ := h; rfl
  · obtain ⟨x, d, m, rfl, hx, k⟩ := h
    refine ⟨_, (pss_one (ps_ret (pe_and (pe_cal c_is_integer hr (pa_cons (pv 0) pa_nil)) (pe_one (pe_chain op_le op_lt pe_int (pv 0) (pv 1)))))), ?_⟩
    walk_at "rd"
    refine ⟨x, d, rfl, hx, ?_⟩
    walk_at "rd"
    rcases e : isI d with _ | _
    · have : isX m d = false := by cases d <;> first | rfl | cases e
      rw [this] at k
      walk_at "rd"
      exact k
    · obtain ⟨i, rfl, rfl⟩ := hx.intB e
      walk_at "rd"
      simp only [isX] at k
      refine iteB (fun q => ?_) (fun q => ?_)
      · rw [decide_eq_true q] at k
        walk_at "rd"
        exact k
      · rw [decide_eq_false q] at k
        exact k
theorem ok_signs (F : Fun K "is_signs" "is_signs" s_is_signs f fd) (c_is_integer : Cal P w K mg base "is_integer" ["value"] 1 (spInt K)) {t5 : Tok} (g_MOST_SIGNS : mg "MOST_SIGNS" = some (.int 5 t5)) : FnOk P w K mg base CX0 2 f fd ["value"] (spSg K) := by
  refine F.ok sc_is_signs (fun vs H Q E h => ?_) (fun cdv A outer s H vs Q E hr h => ?_)
  · obtain ⟨x, d, rfl, _⟩ := h; rfl
  · obtain ⟨x, d, rfl, hx, k⟩ := h
    refine ⟨_, (pss_one (ps_ret (pe_and (pe_cal c_is_integer hr (pa_cons (pv 0) pa_nil)) (pe_one (pe_chain op_le op_le pe_int (pv 0) (pe_glob (v := .int 5) rfl g_MOST_SIGNS ⟨_, rfl⟩)))))), ?_⟩
    walk_at "rd"
    refine ⟨x, d, rfl, hx, ?_⟩
    walk_at "rd"
    rcases e : isI d with _ | _
    · have : isG d = false := by cases d <;> first | rfl | cases e
      rw [this] at k
      walk_at "rd"
      exact k
    · obtain ⟨i, rfl, rfl⟩ := hx.intB e
      walk_at "rd"
      simp only [isG] at k
      refine iteB (fun q => ?_) (fun q => ?_)
      · rw [decide_eq_true q] at k
        walk_at "rd"
        exact k
      · rw [decide_eq_false q] at k
        exact k
theorem ok_sign (F : Fun K "is_sign" "is_sign" s_is_sign f fd) (c_is_index : Cal P w K mg base "is_index" ["value", "many"] 2 (spIdx K)) : FnOk P w K mg base CX0 3 f fd ["value", "signs"] (spIdx K) := by
  refine F.ok sc_is_sign (fun vs H Q E h => ?_) (fun cdv A outer s H vs Q E hr h => ?_)
  · obtain ⟨x, d, m, rfl, _⟩ := h; rfl
  · obtain ⟨x, d, m, rfl, hx, k⟩ := h
    refine ⟨_, (pss_one (ps_ret (pe_cal c_is_index hr (pa_cons (pv 0) (pa_cons (pv 1) pa_nil))))), ?_⟩
    walk_at "rd"
    exact ⟨x, d, m, rfl, hx, k⟩
end
end Sw
namespace Sw
open PySem PySem.Spec PyProof.Rows L2
local macro_rules | `(tactic| walk_at "hp") => `(tactic| first
  | (with_reducible assumption) | (with_reducible exact upd_same)
  | ((with_reducible refine' upd_old ?q1 ?q2); (case q1 => (with_reducible assumption)); (case q2 => walk_at "hp"))
  | ((with_reducible refine' Same.at ?q1 ?q2); (case q1 => (with_reducible assumption)); (case q2 => walk_at "hp"))
  | ((with_reducible refine' upd_skip ?q1 ?q2); (case q1 => walk_at "ne"); (case q2 => walk_at "hp"))
  | fail)
local macro_rules | `(tactic| walk_at "ne") => `(tactic| first
  | (with_reducible assumption) | (with_reducible exact Ne.symm (by assumption))
  | ((with_reducible refine' ne_of_none ?q1 ?q2); (case q2 => (with_reducible assumption)); (case q1 => walk_at "hp"))
  | fail)
local macro_rules | `(tactic| walk_at "ci") => `(tactic| first | assumption | (show (0 : Int) < _; first | decide | (with_reducible omega)) | exact ⟨by decide, by decide⟩ | exact .inl ⟨by decide, by decide⟩ | exact .inr ⟨by decide, by decide⟩)
local macro_rules | `(tactic| walk_at "ln") => `(tactic| first | (with_reducible assumption) | (with_reducible omega) | (simp only [List.length_append, List.length_take, List.length_drop, List.length_reverse, List.length_cons, List.length_nil]; with_reducible omega))
local macro_rules | `(tactic| walk_at "rd1") => `(tactic| first
  | (with_reducible refine i_seq ?_) | (with_reducible refine i_asg ?_) | (with_reducible refine i_ret ?_) | (with_reducible refine i_name ?_) | ((with_reducible refine' i_var ?q1 ?_); (case q1 => exact rfl)) | (with_reducible refine i_c ?_) | (with_reducible refine i_op ?_) | (with_reducible refine i_un ?_)
  | (with_reducible refine i_rI0 ?_) | (with_reducible refine i_cb ?_) | (with_reducible refine i_cons ?_) | (with_reducible refine i_nil ?_) | (with_reducible refine i_call ?_) | (with_reducible refine i_if ?_) | (with_reducible refine i_ifE ?_) | (with_reducible refine i_test ?_) | (with_reducible refine i_bl ?_)
  | (with_reducible refine i_and ?_) | (with_reducible refine i_or ?_) | (with_reducible refine i_not ?_) | (with_reducible refine i_lst ?_) | (with_reducible refine i_tup ?_) | (with_reducible refine i_next ?_) | (with_reducible refine i_drop ?_) | (with_reducible refine i_sub ?_)
  | (with_reducible refine i_bm ?_) | (with_reducible refine i_sl ?_) | (with_reducible refine i_part ?_) | (with_reducible refine i_nopart ?_) | (with_reducible refine i_exI ?_) | (with_reducible refine i_chain ?_) | ((with_reducible refine' i_aug ?q1 ?_); (case q1 => exact rfl)) | (with_reducible refine i_ip ?_)
  | (with_reducible refine i_par ?_) | (with_reducible refine i_pair ?_) | (with_reducible refine i_andV ?_) | (with_reducible refine i_orV ?_) | (with_reducible refine i_notV ?_) | (with_reducible refine i_m1 ?_) | (with_reducible refine i_str ?_)
  | (with_reducible refine iteF ?_) | (with_reducible refine iteT ?_) | (with_reducible refine iteNT ?_) | (with_reducible refine iteNF ?_) | (with_reducible refine i_tyS ?_) | (with_reducible refine i_tB ?_) | (with_reducible refine i_retN ?_) | (with_reducible refine i_par3 ?_) | (with_reducible refine i_trip ?_) | (with_reducible refine i_gCons ?_) | (with_reducible refine i_gNil ?_) | (with_reducible refine i_lstRg ?_) | (with_reducible refine i_rg1 ?_)
  | (with_reducible refine i_lc ?_) | (with_reducible refine i_for ?_) | (with_reducible refine i_iList ?_) | (with_reducible refine i_iTup ?_) | (with_reducible refine i_iStr ?_) | (with_reducible refine i_iRng1 ?_) | (with_reducible refine i_iEnS ?_)
  | ((with_reducible refine' i_ixTH ?q1 ?q2 ?_); (case q1 => walk_at "hp"); (case q2 => exact rfl))
  | ((with_reducible refine' i_ixLH ?q1 ?q2 ?_); (case q1 => walk_at "hp"); (case q2 => exact rfl))
  | ((with_reducible refine i_addS ?q1 ?_); (case q1 => walk_at "ln")) | ((with_reducible refine i_lenSS ?q1 ?_); (case q1 => walk_at "ln")) | ((with_reducible refine i_slFrom ?q1 ?q2 ?_); (case q1 => walk_at "ln"); (case q2 => walk_at "ln")) | ((with_reducible refine i_slTo ?q1 ?q2 ?_); (case q1 => walk_at "ln"); (case q2 => walk_at "ln"))
  | ((with_reducible refine' i_tyL ?q1 ?_); (case q1 => walk_at "hp"))
  | ((with_reducible refine' i_gTupH ?q1 ?q2 ?_); (case q1 => walk_at "hp"); (case q2 => exact rfl))
  | (with_reducible refine i_dnew ?_) | (with_reducible refine i_init ?_) | (with_reducible refine i_fst ?_) | (with_reducible refine i_mk ?_) | (with_reducible refine i_raise ?_) | (with_reducible refine i_callS ?_) | (with_reducible refine i_kwS ?_)
  | (with_reducible refine i_revT ?_) | (with_reducible refine i_kw ?_) | ((with_reducible refine' ⟨_, _, rfl, sqT_of ?q1, ?_⟩); (case q1 => walk_at "hp"))
  | (with_reducible refine i_revS ?_) | ((with_reducible refine i_revSS ?q1 ?_); (case q1 => walk_at "ln"))
  | (with_reducible refine i_startS ?_) | (with_reducible refine i_inSg ?_) | (with_reducible refine i_absN ?_) | (with_reducible refine i_min2 ?_) | (with_reducible refine i_max2 ?_) | (with_reducible refine i_min3 ?_) | (with_reducible refine i_intN ?_) | (with_reducible refine i_intNB ?_)
  | ((with_reducible refine' i_lenL ?q1 ?_); (case q1 => walk_at "hp")) | ((with_reducible refine' i_lenT ?q1 ?_); (case q1 => walk_at "hp"))
  | (with_reducible refine i_eqI ?_) | (with_reducible refine i_neI ?_) | (with_reducible refine i_eqS ?_) | (with_reducible refine i_neS ?_) | (with_reducible refine i_isNoI ?_) | (with_reducible refine i_isNoN ?_) | (with_reducible refine i_isNoR ?_)
  | ((with_reducible refine i_pow ?q1 ?q2 ?q3 ?_); (case q1 => decide); (case q2 => decide); (case q3 => (with_reducible omega)))
  | ((with_reducible refine i_rI ?q1 ?_); (case q1 => walk_at "ci"))
  | (with_reducible refine Or.inl ⟨_, rfl, ?_⟩) | (with_reducible refine Or.inr ⟨_, rfl, ?_⟩) | (with_reducible refine ⟨_, rfl, ?_⟩) | (with_reducible refine ⟨_, _, rfl, ?_⟩) | (with_reducible refine ⟨_, _, rfl, rfl, ?_⟩)
  | ((with_reducible refine' ⟨_, _, rfl, Or.inl (sqL_of ?q1), ?_⟩); (case q1 => walk_at "hp")) | ((with_reducible refine' ⟨_, _, rfl, Or.inr (sqT_of ?q1), ?_⟩); (case q1 => walk_at "hp")) | (with_reducible refine i_dget ?_) | (with_reducible refine i_disp1T ?_) | (with_reducible refine i_dcT ?_) | (with_reducible refine i_dnewT ?_) | (with_reducible refine i_fld ?_) | (with_reducible refine i_sFld ?_) | (with_reducible refine i_make ?_) | (with_reducible refine i_meth ?_) | (with_reducible refine i_star ?_) | (with_reducible refine i_isNoS ?_) | (with_reducible refine i_lc2 ?_) | fail)
local macro_rules | `(tactic| walk_at "rd") => `(tactic| repeat' walk_at "rd1")

def lineB (m : Int) : PyData → Bool
  | .tuple ds => ds.all (isX m)
  | _ => false
def seqB (d : PyData) : Bool := tyB "list" d || tyB "tuple" d
def LenOk (d : PyData) : Prop := ∀ ds, (d = .list ds ∨ d = .tuple ds) → ds.length ≤ 100000
/-- is_list(value), a list or a tuple -/
def spSeq (K : PySem.W.Frag) : Sp := fun vs H Q _ => ∃ a xs, vs = [.ref a] ∧ (H a = some (.lst xs) ∨ H a = some (.tup xs)) ∧ ∀ H', Same H H' → Q (.bl true) H'
/-- is_line(value, signs) -/
def spLine (K : PySem.W.Frag) : Sp := fun vs H Q _ => ∃ x d m, vs = [x, .int m] ∧ De K H x d ∧ LenOk d ∧ ∀ H', Same H H' → Q (.bl (lineB m d)) H'
/-- check_line(line, signs), a line -/
def spCkL (K : PySem.W.Frag) : Sp := fun vs H Q E => ∃ x d m, vs = [x, .int m] ∧ De K H x d ∧ LenOk d ∧ lineB m d = true ∧ ∀ H', Same H H' → Q .non H'
/-- check_signs(signs) -/
def spCkS (K : PySem.W.Frag) (C : Addr) : Sp := fun vs H Q E => ∃ x d, vs = [x] ∧ De K H x d ∧ (isG d = true → ∀ H', Same H H' → Q .non H') ∧
  (isG d = false → ∀ dx H', H dx = none → Same H H' → H' dx = some (.xd [("given", x)]) → E (.ref C) (some dx) H')
/-- check_signs(signs), a number of signs -/
def spCkS0 : Sp := fun vs H Q E => ∃ n : Nat, vs = [.int n] ∧ 1 ≤ n ∧ n ≤ 5 ∧ ∀ H', Same H H' → Q .non H'
abbrev tAZ : List Nat := [97, 98, 99, 100, 101, 102, 103, 104, 105, 106, 107, 108, 109, 110, 111, 112, 113, 114, 115, 116, 117, 118, 119, 120, 121, 122]
def azW (l : List Nat) : Prop := ∀ c ∈ l, 97 ≤ c ∧ c ≤ 122
/-- is_text(value), a text -/
def spTxt : Sp := fun vs H Q _ => ∃ l : List Nat, vs = [.str (S l)] ∧ azW l ∧ l.length ≤ 1000 ∧ ∀ H', Same H H' → Q (.bl true) H'
/-- is_word(value), a word -/
def spWd : Sp := fun vs H Q _ => ∃ l : List Nat, vs = [.str (S l)] ∧ azW l ∧ l.length ≤ 3 ∧ ∀ H', Same H H' → Q (.bl true) H'
/-- letter_of(place) -/
def spLet : Sp := fun vs H Q _ => ∃ n : Nat, vs = [.int n] ∧ n < 26 ∧ Q (.str (S [97 + n])) H
theorem az_get {n : Nat} (h : n < 26) : tAZ[n]? = some (97 + n) := by
  have : ∀ n : Fin 26, tAZ[n.val]? = some (97 + n.val) := by decide
  exact this ⟨n, h⟩
section
variable {P : Program} {w : World} {K : PySem.W.Frag} {mg : Str → Option Value} {base : Heap} {f : Addr} {fd : FuncData}
theorem ok_list (F : Fun K "is_list" "is_list" s_is_list f fd) (z : Z mg) : FnOk P w K mg base CX0 1 f fd ["value"] (spSeq K) := by
  refine F.ok sc_is_list (fun vs H Q E h => ?_) (fun cdv A outer s H vs Q E hr h => ?_)
  · obtain ⟨a, xs, rfl, _⟩ := h; rfl
  · obtain ⟨a, xs, rfl, hx, k⟩ := h
    refine ⟨_, (pss_one (ps_ret (pe_callB call_isiT (by rfl) z.isinstance (by decide +kernel) (pa_cons (pv 0) (pa_cons (pe_tup (pa_cons (pe_bltn (v := .ty "list") (by rfl) z.list (by decide +kernel) rfl) (pa_cons (pe_bltn (v := .ty "tuple") (by rfl) z.tuple (by decide +kernel) rfl) pa_nil))) pa_nil))))), ?_⟩
    walk_at "rd"
    refine ⟨Nat.le_of_ble_eq_true rfl, fun p np => ?_⟩
    walk_at "rd"
    rcases hx with hx | hx
    · exact Sw.isiLT (.base (.lst (same_upd np _ _ hx))) upd_same (kit_ty (show _ = some true by decide +kernel)) (kit_ty (show _ = some false by decide +kernel)) (k _ (same_upd np))
    · exact Sw.isiLT (.base (.tup (same_upd np _ _ hx))) upd_same (kit_ty (show _ = some false by decide +kernel)) (kit_ty (show _ = some true by decide +kernel)) (k _ (same_upd np))
theorem ok_line (F : Fun K "is_line" "is_line" s_is_line f fd) (z : Z mg) (c_is_index : Cal P w K mg base "is_index" ["value", "many"] 2 (spIdx K)) : FnOk P w K mg base CX0 3 f fd ["value", "signs"] (spLine K) := by
  refine F.ok sc_is_line (fun vs H Q E h => ?_) (fun cdv A outer s H vs Q E hr h => ?_)
  · obtain ⟨x, d, m, rfl, _⟩ := h; rfl
  · obtain ⟨x, d, m, rfl, hx, lok, k⟩ := h
    refine ⟨_, (pss_one (ps_ret (pe_and (pe_callB call_isi (by rfl) z.isinstance (by decide +kernel) (pa_cons (pv 0) (pa_cons (pe_bltn (v := .ty "tuple") (by rfl) z.tuple (by decide +kernel) rfl) pa_nil))) (pe_one (pe_callB (cr_all rfl) (by rfl) z.all (by decide +kernel) (pa_cons (pe_lc (own := [("sign", 2)]) (g := gName 2) (tt := tYes) rfl sc_is_line.nd (pi_tup (pv 0)) (blkOk_by (own := [("sign", 2)]) (N := n_is_line) (sc := defScope s_is_line) (by decide +kernel)) (fun _ _ _ _ _ => (pg_name (i := 2) sc_is_line.nd rfl (.inl rfl))) (fun _ _ _ _ _ => pts_nil) (fun _ _ _ _ _ => (pe_cal c_is_index hr (pa_cons (pv 2) (pa_cons (pv 1) pa_nil))))) pa_nil)))))), ?_⟩
    walk_at "rd"
    refine hx.isi (n := "tuple") (.inr (.inr (.inr (.inr rfl)))) ?_
    by_cases ht : ∃ ds, d = .tuple ds
    · obtain ⟨ds, rfl⟩ := ht
      obtain ⟨a, xs, rfl, ha, hxs⟩ := hx.tupI
      rw [show tyB "tuple" (.tuple ds) = true from rfl]
      walk_at "rd"
      refine ⟨⟨_, ha⟩, ?_⟩
      have lx := hxs.len
      refine go_map (walk_tup (xs := xs)) (fun i => V.bl (isX m (ds.getD i .none))) (by have := lok _ (.inr rfl); omega) (fun H s => Same.sqT s ha) (fun j v H6 H7 hj s6 y R2 hR2 => ?_) mono_name (fun pj H6 npj s6 ej => ?_)
      · obtain ⟨rfl, hv⟩ := y
        walk_at "rd"
        refine ⟨rfl, ?_⟩
        walk_at "rd"
        exact ⟨v, _, m, rfl, (hxs.getD hv).same s6, hR2 _ (Same.refl _)⟩
      · rw [lx, map_getD ds (fun d => V.bl (isX m d)), show ds.map (fun d => V.bl (isX m d)) = (ds.map (isX m)).map V.bl by rw [List.map_map]; rfl] at ej
        walk_at "rd"
        refine i_all ej ?_
        rw [List.all_map, show (id ∘ isX m) = isX m from rfl]
        exact k _ s6
    · have e : tyB "tuple" d = false := by cases d <;> first | rfl | exact (ht ⟨_, rfl⟩).elim
      have e2 : lineB m d = false := by cases d <;> first | rfl | exact (ht ⟨_, rfl⟩).elim
      rw [e]
      rw [e2] at k
      walk_at "rd"
      exact k _ (Same.refl _)
theorem ok_ckL (F : Fun K "check_line" "check_line" s_check_line f fd) (c_is_line : Cal P w K mg base "is_line" ["value", "signs"] 3 (spLine K)) : FnOk P w K mg base CX0 4 f fd ["line", "signs"] (spCkL K) := by
  refine F.ok sc_check_line (fun vs H Q E h => ?_) (fun cdv A outer s H vs Q E hr h => ?_)
  · obtain ⟨x, d, m, rfl, _⟩ := h; rfl
  · obtain ⟨x, d, m, rfl, hx, lok, e, k⟩ := h
    refine ⟨_, (pss_one (ps_if (pt_not (pt_val (pe_cal c_is_line hr (pa_cons (pv 0) (pa_cons (pv 1) pa_nil)))))
        (pss_one ps_never)
        pss_nil)), ?_⟩
    walk_at "rd"
    refine ⟨x, d, m, rfl, hx, lok, fun H1 s1 => ?_⟩
    rw [e]
    walk_at "rd"
    exact k _ s1
theorem ok_ckS {C : Addr} (F : Fun K "check_signs" "check_signs" s_check_signs f fd) (xs : XQ "InvalidSigns" P w K mg base C) (c_is_signs : Cal P w K mg base "is_signs" ["value"] 2 (spSg K)) : FnOk P w K mg base (L2.CX P w) 3 f fd ["signs"] (spCkS K C) := by
  refine Sw.Fun.okX F sc_check_signs (fun vs H Q E h => ?_) (fun cdv A outer s H vs Q E hr h tk => ?_)
  · obtain ⟨x, d, rfl, _⟩ := h; rfl
  · obtain ⟨x, d, rfl, hx, k1, k2⟩ := h
    refine ⟨_, (pss_one (ps_if (pt_not (pt_val (pe_cal c_is_signs hr (pa_cons (pv 0) pa_nil))))
        (pss_one (ps_rs rfl tk (pmk_Q xs hr (pv 0))))
        pss_nil)), ?_⟩
    walk_at "rd"
    refine ⟨x, d, rfl, hx, ?_⟩
    walk_at "rd"
    refine iteNC (fun e => ?_) (fun e => ?_)
    · walk_at "rd"
      refine i_thrown xs.T xs.no (fun dx nx => ?_)
      exact k2 e dx _ nx (same_upd nx) upd_same
    · walk_at "rd"
      exact k1 e _ (Same.refl _)
theorem ok_ckS0 (F : Fun K "check_signs" "check_signs" s_check_signs f fd) (c_is_signs : Cal P w K mg base "is_signs" ["value"] 2 (spSg K)) : FnOk P w K mg base CX0 3 f fd ["signs"] spCkS0 := by
  refine F.ok sc_check_signs (fun vs H Q E h => ?_) (fun cdv A outer s H vs Q E hr h => ?_)
  · obtain ⟨n, rfl, _⟩ := h; rfl
  · obtain ⟨n, rfl, n1, n5, k⟩ := h
    refine ⟨_, (pss_one (ps_if (pt_not (pt_val (pe_cal c_is_signs hr (pa_cons (pv 0) pa_nil))))
        (pss_one ps_never)
        pss_nil)), ?_⟩
    walk_at "rd"
    refine ⟨_, .int n, rfl, .int _, ?_⟩
    rw [show isG (.int (n : Int)) = true by simp only [isG, Bool.and_eq_true, decide_eq_true_eq]; omega]
    walk_at "rd"
    exact k _ (Same.refl _)
theorem ok_text (F : Fun K "is_text" "is_text" s_is_text f fd) (z : Z mg) {tz : Tok} (g_LETTERS : mg "LETTERS" = some (.str ("abcdefghijklmnopqrstuvwxyz" : Str) tz)) : FnOk P w K mg base CX0 1 f fd ["value"] spTxt := by
  refine F.ok sc_is_text (fun vs H Q E h => ?_) (fun cdv A outer s H vs Q E hr h => ?_)
  · obtain ⟨l, rfl, _⟩ := h; rfl
  · obtain ⟨l, rfl, az, ll, k⟩ := h
    refine ⟨_, (pss_one (ps_ret (pe_and (pe_callB call_isi (by rfl) z.isinstance (by decide +kernel) (pa_cons (pv 0) (pa_cons (pe_bltn (v := .ty "str") (by rfl) z.str (by decide +kernel) rfl) pa_nil))) (pe_one (pe_callB (cr_all rfl) (by rfl) z.all (by decide +kernel) (pa_cons (pe_lc (own := [("letter", 1)]) (g := gName 1) (tt := tYes) rfl sc_is_text.nd (pi_str (pv 0)) (blkOk_by (own := [("letter", 1)]) (N := n_is_text) (sc := defScope s_is_text) (by decide +kernel)) (fun _ _ _ _ _ => (pg_name (i := 1) sc_is_text.nd rfl (.inl rfl))) (fun _ _ _ _ _ => pts_nil) (fun _ _ _ _ _ => (pe_cmpR op_inSg (pv 1) (pe_glob (v := .str ("abcdefghijklmnopqrstuvwxyz" : Str)) rfl g_LETTERS ⟨_, rfl⟩) rfl))) pa_nil)))))), ?_⟩
    walk_at "rd"
    refine i_isi true (.base (.str _)) (kit_ty (by decide +kernel)) ?_
    walk_at "rd"
    refine go_map walk_S (fun i => V.bl true) (by omega) (fun _ _ => trivial) (fun i x H2 H3 hi s2 y R hR => ?_) mono_name (fun p H2 np s2 e2 => ?_)
    · obtain ⟨rfl, c, hc, rfl⟩ := y
      walk_at "rd"
      refine ⟨rfl, ?_⟩
      walk_at "rd"
      rw [az_in, decide_eq_true (az c (List.mem_of_getElem? hc))]
      exact hR _ (Same.refl _)
    · walk_at "rd"
      have e3 : H2 p = some (.lst (((List.range l.length).map fun i => true).map V.bl)) := by
        rw [e2, List.map_map]
        rfl
      refine i_all e3 ?_
      rw [show (((List.range l.length).map fun i => true).all id) = true by rw [List.all_map]; simp]
      exact k _ s2
theorem ok_word (F : Fun K "is_word" "is_word" s_is_word f fd) (z : Z mg) {t3 : Tok} (g_MOST_LETTERS : mg "MOST_LETTERS" = some (.int 3 t3)) (c_is_text : Cal P w K mg base "is_text" ["value"] 1 spTxt) : FnOk P w K mg base CX0 2 f fd ["value"] spWd := by
  refine F.ok sc_is_word (fun vs H Q E h => ?_) (fun cdv A outer s H vs Q E hr h => ?_)
  · obtain ⟨l, rfl, _⟩ := h; rfl
  · obtain ⟨l, rfl, az, ll, k⟩ := h
    refine ⟨_, (pss_one (ps_ret (pe_and (pe_cal c_is_text hr (pa_cons (pv 0) pa_nil)) (pe_one (pe_cmpR op_le (pe_callB call_lenS (by rfl) z.len PySem.boot_len (pa_cons (pv 0) pa_nil)) (pe_glob (v := .int 3) rfl g_MOST_LETTERS ⟨_, rfl⟩) (nomark _)))))), ?_⟩
    walk_at "rd"
    refine ⟨l, rfl, az, by omega, fun H1 s1 => ?_⟩
    walk_at "rd"
    rw [decide_eq_true (show (l.length : Int) ≤ 3 by omega)]
    exact k _ s1
theorem ok_letter (F : Fun K "letter_of" "letter_of" s_letter_of f fd) {tz : Tok} (g_LETTERS : mg "LETTERS" = some (.str ("abcdefghijklmnopqrstuvwxyz" : Str) tz)) : FnOk P w K mg base CX0 1 f fd ["place"] spLet := by
  refine F.ok sc_letter_of (fun vs H Q E h => ?_) (fun cdv A outer s H vs Q E hr h => ?_)
  · obtain ⟨n, rfl, _⟩ := h; rfl
  · obtain ⟨n, rfl, hn, k⟩ := h
    refine ⟨_, (pss_one (ps_ret (pe_ix ix_S (pe_glob (v := .str ("abcdefghijklmnopqrstuvwxyz" : Str)) rfl g_LETTERS ⟨_, rfl⟩) (pv 0) (fun _ _ => rfl)))), ?_⟩
    walk_at "rd"
    rw [show (Str.ofString "abcdefghijklmnopqrstuvwxyz") = S tAZ by decide +kernel]
    exact i_ixSI (by omega) (by rw [Int.toNat_natCast]; exact az_get hn) (by decide) k
end
end Sw
namespace Sw
open PySem PySem.Spec PyProof.Rows L2
local macro_rules | `(tactic| walk_at "hp") => `(tactic| first
  | (with_reducible assumption) | (with_reducible exact upd_same)
  | ((with_reducible refine' upd_old ?q1 ?q2); (case q1 => (with_reducible assumption)); (case q2 => walk_at "hp"))
  | ((with_reducible refine' Same.at ?q1 ?q2); (case q1 => (with_reducible assumption)); (case q2 => walk_at "hp"))
  | ((with_reducible refine' upd_skip ?q1 ?q2); (case q1 => walk_at "ne"); (case q2 => walk_at "hp"))
  | fail)
local macro_rules | `(tactic| walk_at "ne") => `(tactic| first
  | (with_reducible assumption) | (with_reducible exact Ne.symm (by assumption))
  | ((with_reducible refine' ne_of_none ?q1 ?q2); (case q2 => (with_reducible assumption)); (case q1 => walk_at "hp"))
  | fail)
local macro_rules | `(tactic| walk_at "ci") => `(tactic| first | assumption | (show (0 : Int) < _; first | decide | (with_reducible omega)) | exact ⟨by decide, by decide⟩ | exact .inl ⟨by decide, by decide⟩ | exact .inr ⟨by decide, by decide⟩)
local macro_rules | `(tactic| walk_at "ln") => `(tactic| first | (with_reducible assumption) | (with_reducible omega) | (simp only [List.length_append, List.length_take, List.length_drop, List.length_reverse, List.length_cons, List.length_nil]; with_reducible omega))
local macro_rules | `(tactic| walk_at "rd1") => `(tactic| first
  | (with_reducible refine i_seq ?_) | (with_reducible refine i_asg ?_) | (with_reducible refine i_ret ?_) | (with_reducible refine i_name ?_) | ((with_reducible refine' i_var ?q1 ?_); (case q1 => exact rfl)) | (with_reducible refine i_c ?_) | (with_reducible refine i_op ?_) | (with_reducible refine i_un ?_)
  | (with_reducible refine i_rI0 ?_) | (with_reducible refine i_cb ?_) | (with_reducible refine i_cons ?_) | (with_reducible refine i_nil ?_) | (with_reducible refine i_call ?_) | (with_reducible refine i_if ?_) | (with_reducible refine i_ifE ?_) | (with_reducible refine i_test ?_) | (with_reducible refine i_bl ?_)
  | (with_reducible refine i_and ?_) | (with_reducible refine i_or ?_) | (with_reducible refine i_not ?_) | (with_reducible refine i_lstM ?_) | (with_reducible refine i_lstLM ?_) | (with_reducible refine i_tupM ?_) | (with_reducible refine i_next ?_) | (with_reducible refine i_drop ?_) | (with_reducible refine i_sub ?_)
  | (with_reducible refine i_bm ?_) | (with_reducible refine i_sl ?_) | (with_reducible refine i_part ?_) | (with_reducible refine i_nopart ?_) | (with_reducible refine i_exI ?_) | (with_reducible refine i_chain ?_) | ((with_reducible refine' i_aug ?q1 ?_); (case q1 => exact rfl)) | (with_reducible refine i_ip ?_)
  | (with_reducible refine i_par ?_) | (with_reducible refine i_pair ?_) | (with_reducible refine i_andV ?_) | (with_reducible refine i_orV ?_) | (with_reducible refine i_notV ?_) | (with_reducible refine i_m1 ?_) | (with_reducible refine i_str ?_)
  | (with_reducible refine iteF ?_) | (with_reducible refine iteT ?_) | (with_reducible refine iteNT ?_) | (with_reducible refine iteNF ?_) | (with_reducible refine i_tyS ?_) | (with_reducible refine i_tB ?_) | (with_reducible refine i_retN ?_) | (with_reducible refine i_par3 ?_) | (with_reducible refine i_trip ?_) | (with_reducible refine i_gCons ?_) | (with_reducible refine i_gNil ?_) | (with_reducible refine i_lstRg ?_) | (with_reducible refine i_rg1 ?_)
  | (with_reducible refine i_lc ?_) | (with_reducible refine i_for ?_) | (with_reducible refine i_iList ?_) | (with_reducible refine i_iTup ?_) | (with_reducible refine i_iStr ?_) | (with_reducible refine i_iRng1 ?_) | (with_reducible refine i_iEnS ?_)
  | ((with_reducible refine' i_ixTH ?q1 ?q2 ?_); (case q1 => walk_at "hp"); (case q2 => exact rfl))
  | ((with_reducible refine' i_ixLH ?q1 ?q2 ?_); (case q1 => walk_at "hp"); (case q2 => exact rfl))
  | ((with_reducible refine i_addS ?q1 ?_); (case q1 => walk_at "ln")) | ((with_reducible refine i_lenSS ?q1 ?_); (case q1 => walk_at "ln")) | ((with_reducible refine i_slFrom ?q1 ?q2 ?_); (case q1 => walk_at "ln"); (case q2 => walk_at "ln")) | ((with_reducible refine i_slTo ?q1 ?q2 ?_); (case q1 => walk_at "ln"); (case q2 => walk_at "ln"))
  | ((with_reducible refine' i_tyL ?q1 ?_); (case q1 => walk_at "hp"))
  | ((with_reducible refine' i_gTupH ?q1 ?q2 ?_); (case q1 => walk_at "hp"); (case q2 => exact rfl))
  | (with_reducible refine i_dnewM ?_) | (with_reducible refine i_init ?_) | (with_reducible refine i_fst ?_) | (with_reducible refine i_mk ?_) | (with_reducible refine i_raise ?_) | (with_reducible refine i_callS ?_) | (with_reducible refine i_kwS ?_)
  | (with_reducible refine i_revT ?_) | (with_reducible refine i_kw ?_) | ((with_reducible refine' ⟨_, _, rfl, sqT_of ?q1, ?_⟩); (case q1 => walk_at "hp"))
  | (with_reducible refine i_revS ?_) | ((with_reducible refine i_revSS ?q1 ?_); (case q1 => walk_at "ln"))
  | (with_reducible refine i_startS ?_) | (with_reducible refine i_inSg ?_) | (with_reducible refine i_absN ?_) | (with_reducible refine i_min2 ?_) | (with_reducible refine i_max2 ?_) | (with_reducible refine i_min3 ?_) | (with_reducible refine i_intN ?_) | (with_reducible refine i_intNB ?_)
  | ((with_reducible refine' i_lenL ?q1 ?_); (case q1 => walk_at "hp")) | ((with_reducible refine' i_lenT ?q1 ?_); (case q1 => walk_at "hp"))
  | (with_reducible refine i_eqI ?_) | (with_reducible refine i_neI ?_) | (with_reducible refine i_eqS ?_) | (with_reducible refine i_neS ?_) | (with_reducible refine i_isNoI ?_) | (with_reducible refine i_isNoN ?_) | (with_reducible refine i_isNoR ?_)
  | ((with_reducible refine i_pow ?q1 ?q2 ?q3 ?_); (case q1 => decide); (case q2 => decide); (case q3 => (with_reducible omega)))
  | ((with_reducible refine i_rI ?q1 ?_); (case q1 => walk_at "ci"))
  | (with_reducible refine Or.inl ⟨_, rfl, ?_⟩) | (with_reducible refine Or.inr ⟨_, rfl, ?_⟩) | (with_reducible refine ⟨_, rfl, ?_⟩) | (with_reducible refine ⟨_, _, rfl, ?_⟩) | (with_reducible refine ⟨_, _, rfl, rfl, ?_⟩)
  | ((with_reducible refine' ⟨_, _, rfl, Or.inl (sqL_of ?q1), ?_⟩); (case q1 => walk_at "hp")) | ((with_reducible refine' ⟨_, _, rfl, Or.inr (sqT_of ?q1), ?_⟩); (case q1 => walk_at "hp")) | (with_reducible refine i_dget ?_) | (with_reducible refine i_disp1T ?_) | (with_reducible refine i_dcT ?_) | (with_reducible refine i_dnewT ?_) | (with_reducible refine i_fld ?_) | (with_reducible refine i_sFld ?_) | (with_reducible refine i_make ?_) | (with_reducible refine i_meth ?_) | (with_reducible refine i_star ?_) | (with_reducible refine i_isNoS ?_) | (with_reducible refine i_lc2 ?_) | fail)
local macro_rules | `(tactic| walk_at "rd") => `(tactic| repeat' walk_at "rd1")

/-! ### decoders -/
abbrev iV (n : Nat) : V := .int (n : Int)
abbrev Ent := Option (Nat × List Nat)
def entD : Ent → PyData
  | none => .none
  | some (q, w) => .tuple [.int (q : Nat), .str (S w)]
def EntAt (H : Hp) (v : V) : Ent → Prop
  | none => v = .non
  | some (q, w) => ∃ t, v = .ref t ∧ H t = some (.tup [iV q, .str (S w)])
def RowAt (H : Hp) (v : V) (row : List Ent) : Prop := ∃ r vs, v = .ref r ∧ H r = some (.lst vs) ∧ Paired (EntAt H) vs row
def StAt (H : Hp) (v : V) (st : List (List Ent)) : Prop := ∃ p vs, v = .ref p ∧ H p = some (.lst vs) ∧ Paired (RowAt H) vs st
abbrev endV : Option (List Nat) → V
  | none => .non
  | some w => .str (S w)
def EnAt (H : Hp) (v : V) (en : List (Option (List Nat))) : Prop := ∃ p, v = .ref p ∧ H p = some (.lst (en.map endV))
def TRow (H : Hp) (v : V) (row : List Ent) : Prop := ∃ r vs, v = .ref r ∧ H r = some (.tup vs) ∧ Paired (EntAt H) vs row
def TSt (H : Hp) (v : V) (st : List (List Ent)) : Prop := ∃ p vs, v = .ref p ∧ H p = some (.tup vs) ∧ Paired (TRow H) vs st
theorem EntAt.same {H H' : Hp} (s : Same H H') {v : V} {e : Ent} (h : EntAt H v e) : EntAt H' v e := by
  rcases e with _ | ⟨q, w⟩
  · exact h
  · obtain ⟨t, e, h⟩ := h; exact ⟨t, e, s _ _ h⟩
theorem RowAt.same {H H' : Hp} (s : Same H H') {v : V} {r : List Ent} (h : RowAt H v r) : RowAt H' v r := by
  obtain ⟨p, vs, e, h1, h2⟩ := h; exact ⟨p, vs, e, s _ _ h1, Paired.mapP h2 fun _ _ z => z.same s⟩
theorem StAt.same {H H' : Hp} (s : Same H H') {v : V} {r : List (List Ent)} (h : StAt H v r) : StAt H' v r := by
  obtain ⟨p, vs, e, h1, h2⟩ := h; exact ⟨p, vs, e, s _ _ h1, Paired.mapP h2 fun _ _ z => z.same s⟩
theorem EnAt.same {H H' : Hp} (s : Same H H') {v : V} {r : List (Option (List Nat))} (h : EnAt H v r) : EnAt H' v r := by
  obtain ⟨p, e, h1⟩ := h; exact ⟨p, e, s _ _ h1⟩
theorem TRow.same {H H' : Hp} (s : Same H H') {v : V} {r : List Ent} (h : TRow H v r) : TRow H' v r := by
  obtain ⟨p, vs, e, h1, h2⟩ := h; exact ⟨p, vs, e, s _ _ h1, Paired.mapP h2 fun _ _ z => z.same s⟩
theorem TSt.same {H H' : Hp} (s : Same H H') {v : V} {r : List (List Ent)} (h : TSt H v r) : TSt H' v r := by
  obtain ⟨p, vs, e, h1, h2⟩ := h; exact ⟨p, vs, e, s _ _ h1, Paired.mapP h2 fun _ _ z => z.same s⟩
theorem pairedAt {α β : Type} {F : α → β → Prop} : ∀ {l1 : List α} {l2 : List β}, Paired F l1 l2 → ∀ {i : Nat} {x : α}, l1[i]? = some x → ∃ y, l2[i]? = some y ∧ F x y := by
  intro l1 l2 h
  induction h with
  | nil => intro i x e; simp at e
  | @cons a b as bs r t ih =>
    intro i x e
    rcases i with _ | i
    · cases e; exact ⟨b, rfl, r⟩
    · exact ih e
theorem pairedAt2 {α β : Type} {F : α → β → Prop} : ∀ {l1 : List α} {l2 : List β}, Paired F l1 l2 → ∀ {i : Nat} {y : β}, l2[i]? = some y → ∃ x, l1[i]? = some x ∧ F x y := by
  intro l1 l2 h
  induction h with
  | nil => intro i x e; simp at e
  | @cons a b as bs r t ih =>
    intro i x e
    rcases i with _ | i
    · cases e; exact ⟨a, rfl, r⟩
    · exact ih e
/-- a good entry, end, decoder -/
def entOk (m : Nat) : Ent → Prop
  | none => True
  | some (q, w) => q < m ∧ azW w ∧ w.length ≤ 3
def endOk : Option (List Nat) → Prop
  | none => True
  | some w => azW w ∧ w.length ≤ 3
structure Good (n : Nat) (st : List (List Ent)) (en : List (Option (List Nat))) : Prop where
  n1 : 1 ≤ n
  n5 : n ≤ 5
  s1 : 1 ≤ st.length
  s6 : st.length ≤ 6
  row : ∀ r ∈ st, r.length = n
  ent : ∀ r ∈ st, ∀ e ∈ r, entOk st.length e
  le : en.length = st.length
  enk : ∀ e ∈ en, endOk e
theorem i_ixTz {K : PySem.W.Frag} {p : Addr} {xs : List V} {i : Int} {k : Nat} {v : V} {H : Hp} {Q : VK} (h1 : SqT K H p xs) (e : i = (k : Int)) (h2 : xs[k]? = some v) (h : Q v H) : rIxT K (.ref p) (.int i) H Q := by
  subst e; exact i_ixTn h1 h2 h
/-- is_entry(value, states) -/
def spEnt : Sp := fun vs H Q _ => ∃ (v : V) (m : Nat) (e : Ent), vs = [v, iV m] ∧ EntAt H v e ∧ entOk m e ∧ ∀ H', Same H H' → Q (.bl true) H'
/-- are_steps(value, signs) -/
def spStp : Sp := fun vs H Q _ => ∃ (v : V) (n : Nat) (st : List (List Ent)), vs = [v, iV n] ∧ StAt H v st ∧ n ≤ 5 ∧ 1 ≤ st.length ∧ st.length ≤ 6 ∧ (∀ r ∈ st, r.length = n) ∧ (∀ r ∈ st, ∀ e ∈ r, entOk st.length e) ∧ ∀ H', Same H H' → Q (.bl true) H'
/-- are_ends(value, states) -/
def spEns : Sp := fun vs H Q _ => ∃ (v : V) (m : Nat) (en : List (Option (List Nat))), vs = [v, iV m] ∧ EnAt H v en ∧ en.length = m ∧ m ≤ 6 ∧ (∀ e ∈ en, endOk e) ∧ ∀ H', Same H H' → Q (.bl true) H'
section
variable {P : Program} {w : World} {K : PySem.W.Frag} {mg : Str → Option Value} {base : Heap} {f : Addr} {fd : FuncData}
theorem ok_entry (F : Fun K "is_entry" "is_entry" s_is_entry f fd) (z : Z mg) (c_is_index : Cal P w K mg base "is_index" ["value", "many"] 2 (spIdx K)) (c_is_word : Cal P w K mg base "is_word" ["value"] 2 spWd) : FnOk P w K mg base CX0 3 f fd ["value", "states"] spEnt := by
  refine F.ok sc_is_entry (fun vs H Q E h => ?_) (fun cdv A outer s H vs Q E hr h => ?_)
  · obtain ⟨v, m, e, rfl, _⟩ := h; rfl
  · obtain ⟨v, m, e, rfl, he, ok, k⟩ := h
    refine ⟨_, (pss_cons (ps_if (pt_cmpR op_isNo (pv 0) pe_non (nomark _))
        (pss_one (ps_ret pe_bl))
        pss_nil)
      (pss_cons (ps_if (PW.pt (pw_or (pt_not (pt_val (pe_callB call_isi (by rfl) z.isinstance (by decide +kernel) (pa_cons (pv 0) (pa_cons (pe_bltn (v := .ty "tuple") (by rfl) z.tuple (by decide +kernel) rfl) pa_nil))))) (pw_or1 (pt_cmpR op_ne (pe_callB call_lenQ (by rfl) z.len PySem.boot_len (pa_cons (pv 0) pa_nil)) pe_int (nomark _)))))
        (pss_one (ps_ret pe_bl))
        pss_nil)
      (pss_one (ps_ret (pe_and (pe_cal c_is_index hr (pa_cons (pe_ix ix_tup (pv 0) pe_int (fun _ _ => rfl)) (pa_cons (pv 1) pa_nil))) (pe_one (pe_cal c_is_word hr (pa_cons (pe_ix ix_tup (pv 0) pe_int (fun _ _ => rfl)) pa_nil)))))))), ?_⟩
    rcases e with _ | ⟨q, wd⟩
    · cases (show v = V.non from he)
      walk_at "rd"
      exact k _ (Same.refl _)
    · obtain ⟨t, rfl, et⟩ := he
      obtain ⟨hq, az, lw⟩ := ok
      walk_at "rd"
      refine i_isi true (.base (.tup et)) (kit_ty (by decide +kernel)) ?_
      walk_at "rd"
      rw [show decide ((([iV q, V.str (S wd)] : List V).length : Int) = 2) = true from rfl]
      walk_at "rd"
      refine ⟨_, .int q, m, rfl, .int _, ?_⟩
      rw [show isX m (.int (q : Int)) = true by simp only [isX, Bool.and_eq_true, decide_eq_true_eq]; omega]
      walk_at "rd"
      exact ⟨wd, rfl, az, lw, k⟩
theorem ok_steps (F : Fun K "are_steps" "are_steps" s_are_steps f fd) (z : Z mg) {t40 : Tok} (g_MOST_STATES : mg "MOST_STATES" = some (.int 40 t40)) (c_is_list : Cal P w K mg base "is_list" ["value"] 1 (spSeq K)) (c_is_entry : Cal P w K mg base "is_entry" ["value", "states"] 3 spEnt) : FnOk P w K mg base CX0 4 f fd ["value", "signs"] spStp := by
  refine F.ok sc_are_steps (fun vs H Q E h => ?_) (fun cdv A outer s H vs Q E hr h => ?_)
  · obtain ⟨v, n, st, rfl, _⟩ := h; rfl
  · obtain ⟨v, n, st, rfl, ⟨p, vs, rfl, ep, pr⟩, n5, s1, s6, hrow, hent, k⟩ := h
    refine ⟨_, (pss_cons (ps_if (PW.pt (pw_or (pt_not (pt_val (pe_cal c_is_list hr (pa_cons (pv 0) pa_nil)))) (pw_or1 (pt_not (pt_chain op_le op_le pe_int (pe_callB call_lenQ (by rfl) z.len PySem.boot_len (pa_cons (pv 0) pa_nil)) (pe_glob (v := .int 40) rfl g_MOST_STATES ⟨_, rfl⟩))))))
        (pss_one (ps_ret pe_bl))
        pss_nil)
      (pss_cons (ps_if (pt_not (pt_val (pe_callB (cr_all rfl) (by rfl) z.all (by decide +kernel) (pa_cons (pe_lc (own := [("row", 2)]) (g := gName 2) (tt := tYes) rfl sc_are_steps.nd (pi_list (pv 0)) (blkOk_by (own := [("row", 2)]) (N := n_are_steps) (sc := defScope s_are_steps) (by decide +kernel)) (fun _ _ _ _ _ => (pg_name (i := 2) sc_are_steps.nd rfl (.inl rfl))) (fun _ _ _ _ _ => pts_nil) (fun _ _ _ _ _ => (pe_and (pe_cal c_is_list hr (pa_cons (pv 2) pa_nil)) (pe_one (pe_cmpR op_eq (pe_callB (call_lenQB (K := K) rfl) (by rfl) z.len PySem.boot_len (pa_cons (pv 2) pa_nil)) (pv 1) (nomark _)))))) pa_nil))))
        (pss_one (ps_ret pe_bl))
        pss_nil)
      (pss_one (ps_ret (pe_callB (cr_all rfl) (by rfl) z.all (by decide +kernel) (pa_cons (pe_lc2 (own := [("row", 2), ("entry", 3)]) (vs1 := [3]) (g := gName 2) (g1 := gName 3) (tt := tYes) (tt1 := tYes) rfl sc_are_steps.nd (pi_list (pv 0)) (blkOk_by (own := [("row", 2), ("entry", 3)]) (N := n_are_steps) (sc := defScope s_are_steps) (by decide +kernel)) (by decide) (fun _ _ _ _ _ => (pg_name (i := 2) sc_are_steps.nd rfl (.inl rfl))) (fun _ _ _ _ _ => pts_nil) (fun _ _ _ _ _ => (pi_listK (K := K) rfl (pv 2))) (fun _ _ _ _ _ => (pg_name (i := 3) sc_are_steps.nd rfl (.inl rfl))) (fun _ _ _ _ _ => pts_nil) (fun _ _ _ _ _ => (pe_cal c_is_entry hr (pa_cons (pv 3) (pa_cons (pe_callB (call_lenQB (K := K) rfl) (by rfl) z.len PySem.boot_len (pa_cons (pv 0) pa_nil)) pa_nil))))) pa_nil)))))), ?_⟩
    have lv : vs.length = st.length := Paired.length pr
    walk_at "rd"
    refine ⟨p, vs, rfl, .inl ep, fun H1 u1 => ?_⟩
    have ep1 := u1 _ _ ep
    walk_at "rd"
    rw [decide_eq_true (show (1 : Int) ≤ (vs.length : Int) by omega)]
    walk_at "rd"
    rw [decide_eq_true (show (vs.length : Int) ≤ 40 by omega)]
    walk_at "rd"
    refine ⟨⟨_, sqL_of ep1⟩, ?_⟩
    refine go_map (walk_list (xs := vs)) (fun i => V.bl true) (by omega) (fun H s => sqL_of (s _ _ ep1)) (fun j v H6 H7 hj s6 y R2 hR2 => ?_) mono_name (fun pj H6 npj s6 ej => ?_)
    · obtain ⟨rfl, hv⟩ := y
      obtain ⟨row, gr, rp, rs, rfl, er, prr⟩ := pairedAt pr hv
      have er := s6 _ _ (u1 _ _ er)
      have lr : rs.length = n := by rw [Paired.length prr]; exact hrow row (List.mem_of_getElem? gr)
      walk_at "rd"
      refine ⟨rfl, ?_⟩
      walk_at "rd"
      refine ⟨rp, rs, rfl, .inl er, fun H8 s8 => ?_⟩
      have er8 := s8 _ _ er
      walk_at "rd"
      rw [lr, decide_eq_true rfl]
      exact hR2 _ s8
    · walk_at "rd"
      have e3 : H6 pj = some (.lst (((List.range vs.length).map fun i => true).map V.bl)) := by
        rw [ej, List.map_map]; rfl
      refine i_all e3 ?_
      rw [show (((List.range vs.length).map fun i => true).all id) = true by rw [List.all_map]; simp]
      have u16 := u1.trans s6
      walk_at "rd"
      refine ⟨⟨_, sqL_of (u16 _ _ ep)⟩, ?_⟩
      refine go_lc2 (walk_list (xs := vs)) (fun p i Hx => ∃ m : Nat, m ≤ 5 * i ∧ Hx p = some (.lst ((List.replicate m true).map V.bl)) ∧ Same H6 Hx)
        (fun p np => ⟨0, Nat.zero_le _, upd_same, same_upd np⟩) (fun p i Hx hi q => sqL_of (q.choose_spec.2.2 _ _ (u16 _ _ ep))) (fun p' np i v H8 H9 hi q y => ?_) (fun p8 H8 np8 q => ?_) (fun σ2 H3 R R' h q => ?_) mono_name mono_yes
      · obtain ⟨m, hm, em, sx⟩ := q
        obtain ⟨rfl, hv⟩ := y
        obtain ⟨row, gr, rp, rs, rfl, er0, prr⟩ := pairedAt pr hv
        have er := sx _ _ (u16 _ _ er0)
        have lr : rs.length = n := by rw [Paired.length prr]; exact hrow row (List.mem_of_getElem? gr)
        walk_at "rd"
        refine ⟨rfl, i_yes (iteT ?_)⟩
        walk_at "rd"
        refine ⟨⟨_, sqL_of er⟩, ?_⟩
        refine ⟨rs.length, _, _, fun j Hx => ∃ m : Nat, m ≤ 5 * i + j ∧ Hx p' = some (.lst ((List.replicate m true).map V.bl)) ∧ Same H6 Hx, walk_list (xs := rs), ⟨m, by omega, em, sx⟩, fun j Hx hj q => sqL_of (q.choose_spec.2.2 _ _ (u16 _ _ er0)), fun j x Hx Hy hj q y => ?_, fun Hx q => ?_⟩
        · obtain ⟨m2, hm2, em2, sx2⟩ := q
          obtain ⟨rfl, hv2⟩ := y
          obtain ⟨e, ge, he⟩ := pairedAt prr hv2
          have he := (he.same u16).same sx2
          have ep2 := sx2 _ _ (u16 _ _ ep)
          have oke := hent row (List.mem_of_getElem? gr) e (List.mem_of_getElem? ge)
          walk_at "rd"
          refine ⟨rfl, i_yes (iteT ?_)⟩
          walk_at "rd"
          rw [lv]
          refine ⟨x, st.length, e, rfl, he, oke, fun H10 s10 => ?_⟩
          refine ⟨_, s10 _ _ em2, Nat.lt_of_le_of_lt (by rw [List.length_map, List.length_replicate]; omega) (Nat.lt_of_lt_of_le (by decide : 1000 < 100000) (Nat.le_of_ble_eq_true rfl)), m2 + 1, by omega, ?_, Same.set_new (sx2.trans s10) np⟩
          rw [upd_same, List.replicate_succ', List.map_append]; rfl
        · obtain ⟨m2, hm2, em2, sx2⟩ := q
          exact ⟨m2, by omega, em2, sx2⟩
      · obtain ⟨m, hm, em, sx⟩ := q
        walk_at "rd"
        refine i_all em ?_
        rw [show ((List.replicate m true).all id) = true by simp]
        exact k _ (u16.trans sx)
      · obtain ⟨v, e, a, rfl, hx, r⟩ := q
        exact ⟨_, e, a, rfl, hx, h _ _ r⟩
theorem ok_ends (F : Fun K "are_ends" "are_ends" s_are_ends f fd) (z : Z mg) (c_is_list : Cal P w K mg base "is_list" ["value"] 1 (spSeq K)) (c_is_word : Cal P w K mg base "is_word" ["value"] 2 spWd) : FnOk P w K mg base CX0 3 f fd ["value", "states"] spEns := by
  refine F.ok sc_are_ends (fun vs H Q E h => ?_) (fun cdv A outer s H vs Q E hr h => ?_)
  · obtain ⟨v, m, en, rfl, _⟩ := h; rfl
  · obtain ⟨v, m, en, rfl, ⟨p, rfl, ep⟩, rfl, m6, hen, k⟩ := h
    refine ⟨_, (pss_one (ps_ret (pe_and (pe_cal c_is_list hr (pa_cons (pv 0) pa_nil)) (pe_and (pe_cmpR op_eq (pe_callB call_lenQ (by rfl) z.len PySem.boot_len (pa_cons (pv 0) pa_nil)) (pv 1) (nomark _)) (pe_one (pe_callB (cr_all rfl) (by rfl) z.all (by decide +kernel) (pa_cons (pe_lc (own := [("end", 2)]) (g := gName 2) (tt := tYes) rfl sc_are_ends.nd (pi_list (pv 0)) (blkOk_by (own := [("end", 2)]) (N := n_are_ends) (sc := defScope s_are_ends) (by decide +kernel)) (fun _ _ _ _ _ => (pg_name (i := 2) sc_are_ends.nd rfl (.inl rfl))) (fun _ _ _ _ _ => pts_nil) (fun _ _ _ _ _ => (pe_or (pe_cmpR op_isNo (pv 2) pe_non (nomark _)) (pe_one (pe_cal c_is_word hr (pa_cons (pv 2) pa_nil)))))) pa_nil))))))), ?_⟩
    walk_at "rd"
    refine ⟨p, _, rfl, .inl ep, fun H1 u1 => ?_⟩
    have ep1 := u1 _ _ ep
    walk_at "rd"
    rw [List.length_map, decide_eq_true rfl]
    walk_at "rd"
    refine ⟨⟨_, sqL_of ep1⟩, ?_⟩
    refine go_map (walk_list (xs := en.map endV)) (fun i => V.bl true) (by rw [List.length_map]; omega) (fun H s => sqL_of (s _ _ ep1)) (fun j v H6 H7 hj s6 y R2 hR2 => ?_) mono_name (fun pj H6 npj s6 ej => ?_)
    · obtain ⟨rfl, hv⟩ := y
      obtain ⟨e, he, rfl⟩ : ∃ e, e ∈ en ∧ v = endV e := by
        obtain ⟨e, he, rfl⟩ := List.mem_map.mp (List.mem_of_getElem? hv)
        exact ⟨e, he, rfl⟩
      walk_at "rd"
      refine ⟨rfl, ?_⟩
      rcases e with _ | wd
      · walk_at "rd"
        exact hR2 _ (Same.refl _)
      · have ok := hen _ he
        walk_at "rd"
        exact ⟨wd, rfl, ok.1, ok.2, fun H8 s8 => hR2 _ s8⟩
    · walk_at "rd"
      have e3 : H6 pj = some (.lst (((List.range (en.map endV).length).map fun i => true).map V.bl)) := by
        rw [ej, List.map_map]; rfl
      refine i_all e3 ?_
      rw [show (((List.range (en.map endV).length).map fun i => true).all id) = true by rw [List.all_map]; simp]
      exact k _ (u1.trans s6)
end
end Sw
namespace Sw
open PySem PySem.Spec PyProof.Rows L2
local macro_rules | `(tactic| walk_at "hp") => `(tactic| first
  | (with_reducible assumption) | (with_reducible exact upd_same)
  | ((with_reducible refine' upd_old ?q1 ?q2); (case q1 => (with_reducible assumption)); (case q2 => walk_at "hp"))
  | ((with_reducible refine' Same.at ?q1 ?q2); (case q1 => (with_reducible assumption)); (case q2 => walk_at "hp"))
  | ((with_reducible refine' upd_skip ?q1 ?q2); (case q1 => walk_at "ne"); (case q2 => walk_at "hp"))
  | fail)
local macro_rules | `(tactic| walk_at "ne") => `(tactic| first
  | (with_reducible assumption) | (with_reducible exact Ne.symm (by assumption))
  | ((with_reducible refine' ne_of_none ?q1 ?q2); (case q2 => (with_reducible assumption)); (case q1 => walk_at "hp"))
  | fail)
local macro_rules | `(tactic| walk_at "ci") => `(tactic| first | assumption | (show (0 : Int) < _; first | decide | (with_reducible omega)) | exact ⟨by decide, by decide⟩ | exact .inl ⟨by decide, by decide⟩ | exact .inr ⟨by decide, by decide⟩)
local macro_rules | `(tactic| walk_at "ln") => `(tactic| first | (with_reducible assumption) | (with_reducible omega) | (simp only [List.length_append, List.length_take, List.length_drop, List.length_reverse, List.length_cons, List.length_nil]; with_reducible omega))
local macro_rules | `(tactic| walk_at "rd1") => `(tactic| first
  | (with_reducible refine i_seq ?_) | (with_reducible refine i_asg ?_) | (with_reducible refine i_ret ?_) | (with_reducible refine i_name ?_) | ((with_reducible refine' i_var ?q1 ?_); (case q1 => exact rfl)) | (with_reducible refine i_c ?_) | (with_reducible refine i_op ?_) | (with_reducible refine i_un ?_)
  | (with_reducible refine i_rI0 ?_) | (with_reducible refine i_cb ?_) | (with_reducible refine i_cons ?_) | (with_reducible refine i_nil ?_) | (with_reducible refine i_call ?_) | (with_reducible refine i_if ?_) | (with_reducible refine i_ifE ?_) | (with_reducible refine i_test ?_) | (with_reducible refine i_bl ?_)
  | (with_reducible refine i_and ?_) | (with_reducible refine i_or ?_) | (with_reducible refine i_not ?_) | (with_reducible refine i_lstM ?_) | (with_reducible refine i_lstLM ?_) | (with_reducible refine i_tupM ?_) | (with_reducible refine i_next ?_) | (with_reducible refine i_drop ?_) | (with_reducible refine i_sub ?_)
  | (with_reducible refine i_bm ?_) | (with_reducible refine i_sl ?_) | (with_reducible refine i_part ?_) | (with_reducible refine i_nopart ?_) | (with_reducible refine i_exI ?_) | (with_reducible refine i_chain ?_) | ((with_reducible refine' i_aug ?q1 ?_); (case q1 => exact rfl)) | (with_reducible refine i_ip ?_)
  | (with_reducible refine i_par ?_) | (with_reducible refine i_pair ?_) | (with_reducible refine i_andV ?_) | (with_reducible refine i_orV ?_) | (with_reducible refine i_notV ?_) | (with_reducible refine i_m1 ?_) | (with_reducible refine i_str ?_)
  | (with_reducible refine iteF ?_) | (with_reducible refine iteT ?_) | (with_reducible refine iteNT ?_) | (with_reducible refine iteNF ?_) | (with_reducible refine i_tyS ?_) | (with_reducible refine i_tB ?_) | (with_reducible refine i_retN ?_) | (with_reducible refine i_par3 ?_) | (with_reducible refine i_trip ?_) | (with_reducible refine i_gCons ?_) | (with_reducible refine i_gNil ?_) | (with_reducible refine i_lstRg ?_) | (with_reducible refine i_rg1 ?_)
  | (with_reducible refine i_lc ?_) | (with_reducible refine i_for ?_) | (with_reducible refine i_iList ?_) | (with_reducible refine i_iTup ?_) | (with_reducible refine i_iStr ?_) | (with_reducible refine i_iRng1 ?_) | (with_reducible refine i_iEnS ?_)
  | ((with_reducible refine' i_ixTH ?q1 ?q2 ?_); (case q1 => walk_at "hp"); (case q2 => exact rfl))
  | ((with_reducible refine' i_ixLH ?q1 ?q2 ?_); (case q1 => walk_at "hp"); (case q2 => exact rfl))
  | ((with_reducible refine i_addS ?q1 ?_); (case q1 => walk_at "ln")) | ((with_reducible refine i_lenSS ?q1 ?_); (case q1 => walk_at "ln")) | ((with_reducible refine i_slFrom ?q1 ?q2 ?_); (case q1 => walk_at "ln"); (case q2 => walk_at "ln")) | ((with_reducible refine i_slTo ?q1 ?q2 ?_); (case q1 => walk_at "ln"); (case q2 => walk_at "ln"))
  | ((with_reducible refine' i_tyL ?q1 ?_); (case q1 => walk_at "hp"))
  | ((with_reducible refine' i_gTupH ?q1 ?q2 ?_); (case q1 => walk_at "hp"); (case q2 => exact rfl))
  | (with_reducible refine i_dnewM ?_) | (with_reducible refine i_init ?_) | (with_reducible refine i_fst ?_) | (with_reducible refine i_mk ?_) | (with_reducible refine i_raise ?_) | (with_reducible refine i_callS ?_) | (with_reducible refine i_kwS ?_)
  | (with_reducible refine i_revT ?_) | (with_reducible refine i_kw ?_) | ((with_reducible refine' ⟨_, _, rfl, sqT_of ?q1, ?_⟩); (case q1 => walk_at "hp"))
  | (with_reducible refine i_revS ?_) | ((with_reducible refine i_revSS ?q1 ?_); (case q1 => walk_at "ln"))
  | (with_reducible refine i_startS ?_) | (with_reducible refine i_inSg ?_) | (with_reducible refine i_absN ?_) | (with_reducible refine i_min2 ?_) | (with_reducible refine i_max2 ?_) | (with_reducible refine i_min3 ?_) | (with_reducible refine i_intN ?_) | (with_reducible refine i_intNB ?_)
  | ((with_reducible refine' i_lenL ?q1 ?_); (case q1 => walk_at "hp")) | ((with_reducible refine' i_lenT ?q1 ?_); (case q1 => walk_at "hp"))
  | (with_reducible refine i_eqI ?_) | (with_reducible refine i_neI ?_) | (with_reducible refine i_eqS ?_) | (with_reducible refine i_neS ?_) | (with_reducible refine i_isNoI ?_) | (with_reducible refine i_isNoN ?_) | (with_reducible refine i_isNoR ?_)
  | ((with_reducible refine i_pow ?q1 ?q2 ?q3 ?_); (case q1 => decide); (case q2 => decide); (case q3 => (with_reducible omega)))
  | ((with_reducible refine i_rI ?q1 ?_); (case q1 => walk_at "ci"))
  | (with_reducible refine Or.inl ⟨_, rfl, ?_⟩) | (with_reducible refine Or.inr ⟨_, rfl, ?_⟩) | (with_reducible refine ⟨_, rfl, ?_⟩) | (with_reducible refine ⟨_, _, rfl, ?_⟩) | (with_reducible refine ⟨_, _, rfl, rfl, ?_⟩)
  | ((with_reducible refine' ⟨_, _, rfl, Or.inl (sqL_of ?q1), ?_⟩); (case q1 => walk_at "hp")) | ((with_reducible refine' ⟨_, _, rfl, Or.inr (sqT_of ?q1), ?_⟩); (case q1 => walk_at "hp")) | (with_reducible refine i_dget ?_) | (with_reducible refine i_disp1T ?_) | (with_reducible refine i_dcT ?_) | (with_reducible refine i_dnewT ?_) | (with_reducible refine i_fld ?_) | (with_reducible refine i_sFld ?_) | (with_reducible refine i_make ?_) | (with_reducible refine i_meth ?_) | (with_reducible refine i_star ?_) | (with_reducible refine i_isNoS ?_) | (with_reducible refine i_lc2 ?_) | fail)
local macro_rules | `(tactic| walk_at "rd") => `(tactic| repeat' walk_at "rd1")

/-- the class Decoder at C: what is asked of its names -/
structure DcC (K : PySem.W.Frag) (C : Addr) : Prop where
  cl : Cls K C
  a1 : NoAttr K C "signs"
  a2 : NoAttr K C "states"
  a3 : NoAttr K C "steps"
  a4 : NoAttr K C "ends"
def dFs (n : Nat) (k : Nat) (p1 p2 : Addr) : List (Str × V) := [("signs", iV n), ("states", iV k), ("steps", .ref p1), ("ends", .ref p2)]
/-- a decoder at v -/
def DAt (C : Addr) (H : Hp) (v : V) (n : Nat) (st : List (List Ent)) (en : List (Option (List Nat))) : Prop := ∃ a dx p1 p2, v = .ref a ∧ H a = some (.ins C dx (dFs n st.length p1 p2)) ∧ TSt H (.ref p1) st ∧ H p2 = some (.tup (en.map endV))
theorem DAt.same {C : Addr} {H H' : Hp} (s : Same H H') {v : V} {n : Nat} {st : List (List Ent)} {en : List (Option (List Nat))} (h : DAt C H v n st en) : DAt C H' v n st en := by
  obtain ⟨a, dx, p1, p2, e, h1, h2, h3⟩ := h; exact ⟨a, dx, p1, p2, e, s _ _ h1, h2.same s, s _ _ h3⟩
theorem insdel {H : Hp} {a p : Addr} {o : HO} {C dx : Addr} {fs : List (Str × V)} (hi : H a = some (.ins C dx fs)) (e : H p = some o) (no : ∀ C dx fs, o ≠ .ins C dx fs) : L2.del H a p = some o := by
  rw [L2.del_ne fun q => ?_]
  · exact e
  · rw [q, hi] at e; cases e; exact no _ _ _ rfl
theorem EntAt.del {H : Hp} {a C dx : Addr} {fs : List (Str × V)} (hi : H a = some (.ins C dx fs)) {v : V} {e : Ent} (h : EntAt H v e) : EntAt (L2.del H a) v e := by
  rcases e with _ | ⟨q, w⟩
  · exact h
  · obtain ⟨t, e, h⟩ := h; exact ⟨t, e, insdel hi h fun _ _ _ => HO.noConfusion⟩
theorem RowAt.del {H : Hp} {a C dx : Addr} {fs : List (Str × V)} (hi : H a = some (.ins C dx fs)) {v : V} {r : List Ent} (h : RowAt H v r) : RowAt (L2.del H a) v r := by
  obtain ⟨p, vs, e, h1, h2⟩ := h; exact ⟨p, vs, e, insdel hi h1 fun _ _ _ => HO.noConfusion, Paired.mapP h2 fun _ _ z => z.del hi⟩
theorem StAt.del {H : Hp} {a C dx : Addr} {fs : List (Str × V)} (hi : H a = some (.ins C dx fs)) {v : V} {r : List (List Ent)} (h : StAt H v r) : StAt (L2.del H a) v r := by
  obtain ⟨p, vs, e, h1, h2⟩ := h; exact ⟨p, vs, e, insdel hi h1 fun _ _ _ => HO.noConfusion, Paired.mapP h2 fun _ _ z => z.del hi⟩
theorem delSub {b : Addr} {H : Hp} : Same (L2.del H b) H := fun a o e => by
  by_cases c : a = b
  · rw [c, L2.del_same] at e; cases e
  · rwa [L2.del_ne c] at e
theorem putF_len (f : Str) (v : V) : ∀ fs : List (Str × V), (putF f v fs).length ≤ fs.length + 1
  | [] => Nat.le_refl _
  | (g, x) :: r => by
    unfold putF
    split
    · simp
    · have := putF_len f v r; simp; omega
theorem putF3 (f1 f2 f3 : Str) (v1 v2 v3 : V) : (putF f3 v3 (putF f2 v2 (putF f1 v1 []))).length < 1000 := by
  have h1 := putF_len f1 v1 []
  have h2 := putF_len f2 v2 (putF f1 v1 [])
  have h3 := putF_len f3 v3 (putF f2 v2 (putF f1 v1 []))
  simp at h1; omega
theorem putF2 (f1 f2 : Str) (v1 v2 : V) : (putF f2 v2 (putF f1 v1 [])).length < 1000 := by
  have h1 := putF_len f1 v1 []
  have h2 := putF_len f2 v2 (putF f1 v1 [])
  simp at h1; omega
theorem putF1 (f1 : Str) (v1 : V) : (putF f1 v1 []).length < 1000 := by
  have h1 := putF_len f1 v1 []
  simp at h1; omega
def TK (H H' : Hp) : Prop := ∀ a xs, H a = some (.tup xs) → H' a = some (.tup xs)
theorem TK.of {H H' : Hp} (s : Same H H') : TK H H' := fun a xs e => s _ _ e
theorem TK.lst {H : Hp} {p : Addr} {xs ys : List V} (e : H p = some (.lst xs)) : TK H (upd H p (.lst ys)) := fun a zs ea => by
  rw [upd_ne (fun q => by rw [q, e] at ea; cases ea)]; exact ea
theorem TK.ins {H : Hp} {p C dx : Addr} {fs gs : List (Str × V)} (e : H p = some (.ins C dx fs)) : TK H (upd H p (.ins C dx gs)) := fun a zs ea => by
  rw [upd_ne (fun q => by rw [q, e] at ea; cases ea)]; exact ea
theorem TK.trans {H1 H2 H3 : Hp} (s : TK H1 H2) (t : TK H2 H3) : TK H1 H3 := fun a xs e => t _ _ (s _ _ e)
theorem EntAt.tk {H H' : Hp} (s : TK H H') {v : V} {e : Ent} (h : EntAt H v e) : EntAt H' v e := by
  rcases e with _ | ⟨q, w⟩
  · exact h
  · obtain ⟨t, e, h⟩ := h; exact ⟨t, e, s _ _ h⟩
theorem TRow.tk {H H' : Hp} (s : TK H H') {v : V} {r : List Ent} (h : TRow H v r) : TRow H' v r := by
  obtain ⟨p, vs, e, h1, h2⟩ := h; exact ⟨p, vs, e, s _ _ h1, Paired.mapP h2 fun _ _ z => z.tk s⟩
theorem TSt.tk {H H' : Hp} (s : TK H H') {v : V} {r : List (List Ent)} (h : TSt H v r) : TSt H' v r := by
  obtain ⟨p, vs, e, h1, h2⟩ := h; exact ⟨p, vs, e, s _ _ h1, Paired.mapP h2 fun _ _ z => z.tk s⟩
theorem sm100 {n : Nat} (h : n ≤ 1000) : n < sizeLine := Nat.lt_of_le_of_lt h (Nat.lt_of_lt_of_le (by decide : 1000 < 100000) (Nat.le_of_ble_eq_true rfl))
theorem ints_de {K : PySem.W.Frag} {H : Hp} : ∀ l : List Nat, DeAll K H (l.map iV) (l.map fun (n : Nat) => PyData.int (n : Int))
  | [] => .nil
  | n :: l => .cons (.int _) (ints_de l)
theorem line_ok {n : Nat} {l : List Nat} (h : ∀ x ∈ l, x < n) : lineB n (.tuple (l.map fun (n : Nat) => PyData.int (n : Int))) = true := by
  simp only [lineB, List.all_map, List.all_eq_true]
  intro x hx
  have := h x hx
  simp only [Function.comp, isX, Bool.and_eq_true, decide_eq_true_eq]; omega
theorem line_len {l : List Nat} (h : l.length ≤ 1000) : LenOk (.tuple (l.map fun (n : Nat) => PyData.int (n : Int))) := by
  rintro ds (e | e)
  · cases e
  · cases e; rw [List.length_map]; omega
mutual
theorem eqv_self : ∀ (d : PyData), d.hasDict = false → PyData.eqv d d = true
  | .none, _ => by simp only [PyData.eqv]
  | .bool b, _ => by simp only [PyData.eqv]; exact beq_self_eq_true _
  | .int i, _ => by simp only [PyData.eqv]; exact beq_self_eq_true _
  | .str x, _ => by simp only [PyData.eqv]; exact beq_self_eq_true _
  | .list ds, h => by
    simp only [PyData.eqv]
    exact eqvAll_self ds (by simpa only [PyData.hasDict] using h)
  | .tuple ds, h => by
    simp only [PyData.eqv]
    exact eqvAll_self ds (by simpa only [PyData.hasDict] using h)
  | .dict _, h => by simp only [PyData.hasDict] at h; cases h
theorem eqvAll_self : ∀ (ds : List PyData), PyData.hasDictAll ds = false → PyData.eqvAll ds ds = true
  | [], _ => by simp only [PyData.eqvAll]
  | d :: ds, h => by
    simp only [PyData.hasDictAll, Bool.or_eq_false_iff] at h
    simp only [PyData.eqvAll, eqv_self d h.1, eqvAll_self ds h.2, Bool.and_self]
end
def rowD (r : List Ent) : PyData := .tuple (r.map entD)
def stD (st : List (List Ent)) : PyData := .tuple (st.map rowD)
def endD : Option (List Nat) → PyData
  | none => .none
  | some w => .str (S w)
def enD (en : List (Option (List Nat))) : PyData := .tuple (en.map endD)
theorem EntAt.de {K : PySem.W.Frag} {H : Hp} {v : V} {e : Ent} (h : EntAt H v e) : De K H v (entD e) := by
  rcases e with _ | ⟨q, w⟩
  · cases (show v = V.non from h); exact .non
  · obtain ⟨t, rfl, e⟩ := h
    exact .tup (sqT_of e) (.cons (.int _) (.cons (.str _) .nil))
theorem ents_de {K : PySem.W.Frag} {H : Hp} {vs : List V} {r : List Ent} (h : Paired (EntAt H) vs r) : DeAll K H vs (r.map entD) := by
  induction h with
  | nil => exact .nil
  | cons h _ ih => exact .cons h.de ih
theorem TRow.de {K : PySem.W.Frag} {H : Hp} {v : V} {r : List Ent} (h : TRow H v r) : De K H v (rowD r) := by
  obtain ⟨p, vs, rfl, e, pr⟩ := h
  exact .tup (sqT_of e) (ents_de pr)
theorem rows_de {K : PySem.W.Frag} {H : Hp} {vs : List V} {st : List (List Ent)} (h : Paired (TRow H) vs st) : DeAll K H vs (st.map rowD) := by
  induction h with
  | nil => exact .nil
  | cons h _ ih => exact .cons h.de ih
theorem TSt.de {K : PySem.W.Frag} {H : Hp} {v : V} {st : List (List Ent)} (h : TSt H v st) : De K H v (stD st) := by
  obtain ⟨p, vs, rfl, e, pr⟩ := h
  exact .tup (sqT_of e) (rows_de pr)
theorem ends_de {K : PySem.W.Frag} {H : Hp} : ∀ en : List (Option (List Nat)), DeAll K H (en.map endV) (en.map endD)
  | [] => .nil
  | none :: en => .cons .non (ends_de en)
  | some w :: en => .cons (.str _) (ends_de en)
theorem entD_flat (e : Ent) : (entD e).hasDict = false := by rcases e with _ | ⟨q, w⟩ <;> simp [entD, PyData.hasDict, PyData.hasDictAll]
theorem rowD_flat (r : List Ent) : (rowD r).hasDict = false := hasDict_tup.mpr fun y hy => by
  obtain ⟨e, _, rfl⟩ := List.mem_map.mp hy; exact entD_flat e
theorem stD_flat (st : List (List Ent)) : (stD st).hasDict = false := hasDict_tup.mpr fun y hy => by
  obtain ⟨e, _, rfl⟩ := List.mem_map.mp hy; exact rowD_flat e
theorem enD_flat (en : List (Option (List Nat))) : (enD en).hasDict = false := hasDict_tup.mpr fun y hy => by
  obtain ⟨e, _, rfl⟩ := List.mem_map.mp hy
  rcases e with _ | w <;> simp [endD, PyData.hasDict]
theorem azW_le {w : List Nat} (h : azW w) : ∀ c ∈ w, c ≤ 1000 := fun c hc => by have := h c hc; omega
theorem entD_sd {m : Nat} {e : Ent} (h : entOk m e) (hm : m ≤ 400) : Sd 1 20 (entD e) := by
  rcases e with _ | ⟨q, w⟩
  · exact sd_non.mono (by omega) (by omega)
  · obtain ⟨h1, h2, h3⟩ := h
    exact (sd_tup' (.cons (sd_int9 (by omega)) (.cons ((sd_str (azW_le h2)).mono (Nat.le_refl _) h3) .nil))).mono (by omega) (by omega)
theorem Good.stSd {n : Nat} {st : List (List Ent)} {en : List (Option (List Nat))} (g : Good n st en) : Sd 3 700 (stD st) := by
  have h1 : ∀ d ∈ st.map rowD, Sd 2 105 d := fun d hd => by
    obtain ⟨r, hr, rfl⟩ := List.mem_map.mp hd
    have := sd_tup (n := 1) (w := 20) (ds := r.map entD) fun d hd => by
      obtain ⟨e, he, rfl⟩ := List.mem_map.mp hd
      exact entD_sd (g.ent r hr e he) (by have := g.s6; omega)
    rw [List.length_map, g.row r hr] at this
    have h5 := g.n5
    exact this.mono (by omega) (by omega)
  have := sd_tup h1
  rw [List.length_map] at this
  have h6 := g.s6
  exact this.mono (by omega) (by omega)
theorem Good.enSd {n : Nat} {st : List (List Ent)} {en : List (Option (List Nat))} (g : Good n st en) : Sd 1 100 (enD en) := by
  have h1 : ∀ d ∈ en.map endD, Sd 0 3 d := fun d hd => by
    obtain ⟨e, he, rfl⟩ := List.mem_map.mp hd
    rcases e with _ | w
    · exact sd_non.mono (by omega) (by omega)
    · have := g.enk _ he
      exact (sd_str (azW_le this.1)).mono (Nat.le_refl _) this.2
  have := sd_tup h1
  rw [List.length_map, g.le] at this
  have h6 := g.s6
  exact this.mono (by omega) (by omega)
def runD (st : List (List Ent)) : Nat → List Nat → List Nat → Option (Nat × List Nat)
  | q, t, [] => some (q, t)
  | q, t, x :: l => match (st.getD q []).getD x none with
    | none => none
    | some (q', w) => runD st q' (t ++ w) l
def writD (st : List (List Ent)) (en : List (Option (List Nat))) (l : List Nat) : Option (List Nat) := match runD st 0 [] l with
  | none => none
  | some (q, t) => match en.getD q none with
    | none => none
    | some w => some (t ++ w)
theorem runD_app (st : List (List Ent)) : ∀ (l1 l2 : List Nat) (q : Nat) (t : List Nat), runD st q t (l1 ++ l2) = match runD st q t l1 with | none => none | some (q', t') => runD st q' t' l2
  | [], l2, q, t => rfl
  | x :: l1, l2, q, t => by
    simp only [List.cons_append, runD]
    cases (st.getD q []).getD x none with
    | none => rfl
    | some e => exact runD_app st l1 l2 _ _
/-- __init__(self, signs, steps, ends), good ones -/
def spIni (C : Addr) : Sp := fun vs H Q _ => ∃ (a dx : Addr) (v1 v2 : V) (n : Nat) (st : List (List Ent)) (en : List (Option (List Nat))), vs = [.ref a, iV n, v1, v2] ∧ H a = some (.ins C dx []) ∧ StAt H v1 st ∧ EnAt H v2 en ∧ Good n st en ∧
  ∀ p1 p2 H', SB a H H' → H' a = some (.ins C dx (dFs n st.length p1 p2)) → TSt H' (.ref p1) st → H' p2 = some (.tup (en.map endV)) → Q .non H'
/-- self == other, equal ones -/
def spEqD (C : Addr) : Sp := fun vs H Q _ => ∃ (v1 v2 : V) (n : Nat) (st : List (List Ent)) (en : List (Option (List Nat))), vs = [v1, v2] ∧ DAt C H v1 n st en ∧ DAt C H v2 n st en ∧ Good n st en ∧ ∀ H', Same H H' → Q (.bl true) H'
/-- a line -/
def LnAt (K : PySem.W.Frag) (H : Hp) (v : V) (l : List Nat) : Prop := ∃ a, v = .ref a ∧ SqT K H a (l.map iV)
/-- written(self, line) -/
def spWr (K : PySem.W.Frag) (C : Addr) : Sp := fun vs H Q _ => ∃ (v1 v2 : V) (n : Nat) (st : List (List Ent)) (en : List (Option (List Nat))) (l : List Nat), vs = [v1, v2] ∧ DAt C H v1 n st en ∧ Good n st en ∧ LnAt K H v2 l ∧ l.length ≤ 100 ∧ (∀ x ∈ l, x < n) ∧ ∀ H', Same H H' → Q (endV (writD st en l)) H'
section
variable {P : Program} {w : World} {K : PySem.W.Frag} {mg : Str → Option Value} {base : Heap} {f : Addr} {fd : FuncData}
theorem i_fldD {C a dx : Addr} {n k : Nat} {p1 p2 : Addr} {x : Str} {v : V} {H : Hp} {Q : VK} (c : Cls K C) (na : NoAttr K C x) (e : H a = some (.ins C dx (dFs n k p1 p2))) (l : (dFs n k p1 p2).lookup x = some v) (q : Q v H) : rFldR K x (.ref a) H Q := ⟨a, C, dx, _, v, rfl, e, c, na, l, q⟩
theorem i_sFldD {C a dx : Addr} {fs : List (Str × V)} {x : Str} {y : V} {H : Hp} {R : Hp → Prop} (c : Cls K C) (na : NoAttr K C x) (e : H a = some (.ins C dx fs)) (l : fs.length < 1000) (q : R (upd H a (.ins C dx (putF x y fs)))) : rSFld K x y (.ref a) H R := ⟨a, C, dx, fs, rfl, e, c, na, l, q⟩
theorem ok_ini {C : Addr} (F : Fun K "__init__" "Decoder.__init__" s_Decoder___init__ f fd) (z : Z mg) (dc : DcC K C) (c_check_signs : Cal P w K mg base "check_signs" ["signs"] 3 spCkS0) (c_are_steps : Cal P w K mg base "are_steps" ["value", "signs"] 4 spStp) (c_are_ends : Cal P w K mg base "are_ends" ["value", "states"] 3 spEns) : FnOk P w K mg base CX0 5 f fd ["self", "signs", "steps", "ends"] (spIni C) := by
  refine F.ok sc_Decoder___init__ (fun vs H Q E h => ?_) (fun cdv A outer s H vs Q E hr h => ?_)
  · obtain ⟨a, dx, v1, v2, n, st, en, rfl, _⟩ := h; rfl
  · obtain ⟨a, dx, v1, v2, n, st, en, rfl, ha, hst, hen, g, k⟩ := h
    refine ⟨_, (pss_cons (ps_expr (pe_cal c_check_signs hr (pa_cons (pv 1) pa_nil)))
      (pss_cons (ps_if (pt_not (pt_val (pe_cal c_are_steps hr (pa_cons (pv 2) (pa_cons (pv 1) pa_nil)))))
        (pss_one ps_never)
        pss_nil)
      (pss_cons (ps_if (pt_not (pt_val (pe_cal c_are_ends hr (pa_cons (pv 3) (pa_cons (pe_callB call_lenQ (by rfl) z.len PySem.boot_len (pa_cons (pv 2) pa_nil)) pa_nil)))))
        (pss_one ps_never)
        pss_nil)
      (pss_cons (ps_fld (pv 0) (pv 1) (by rfl))
      (pss_cons (ps_fld (pv 0) (pe_callB call_lenQ (by rfl) z.len PySem.boot_len (pa_cons (pv 2) pa_nil)) (by rfl))
      (pss_cons (ps_fld (pv 0) (pe_callTy call_tuple_of (by rfl) z.tuple (by decide +kernel) (pa_cons (pe_lc (own := [("row", 4)]) (g := gName 4) (tt := tYes) rfl sc_Decoder___init__.nd (pi_list (pv 2)) (blkOk_by (own := [("row", 4)]) (N := n_Decoder___init__) (sc := defScope s_Decoder___init__) (by decide +kernel)) (fun _ _ _ _ _ => (pg_name (i := 4) sc_Decoder___init__.nd rfl (.inl rfl))) (fun _ _ _ _ _ => pts_nil) (fun _ _ _ _ _ => (pe_callTy (call_tuple_ofB (K := K) rfl) (by rfl) z.tuple (by decide +kernel) (pa_cons (pv 4) pa_nil)))) pa_nil)) (by rfl))
      (pss_one (ps_fld (pv 0) (pe_callTy call_tuple_of (by rfl) z.tuple (by decide +kernel) (pa_cons (pv 3) pa_nil)) (by rfl))))))))), ?_⟩
    walk_at "rd"
    refine ⟨n, rfl, g.n1, g.n5, fun H1 s1 => ?_⟩
    walk_at "rd"
    refine ⟨v1, n, st, rfl, hst.same s1, g.n5, g.s1, g.s6, g.row, g.ent, fun H2 s2 => ?_⟩
    have s12 := s1.trans s2
    obtain ⟨p, vs, rfl, ep, pr⟩ := hst.same s12
    have lv : vs.length = st.length := Paired.length pr
    walk_at "rd"
    rw [lv]
    refine ⟨v2, st.length, en, rfl, hen.same s12, g.le, g.s6, g.enk, fun H3 s3 => ?_⟩
    have s13 := s12.trans s3
    have ha3 := s13 _ _ ha
    walk_at "rd"
    refine i_sFldD dc.cl dc.a1 ha3 (by simp) ?_
    have e4 := upd_same (H := H3) (a := a) (o := .ins C dx (putF "signs" (iV n) []))
    have d4 := SB.upd (b := a) (H := H3) (o := .ins C dx (putF "signs" (iV n) []))
    generalize upd H3 a (.ins C dx (putF "signs" (iV n) [])) = H4 at *
    obtain ⟨p', vs', epp, ep3, pr3⟩ := (hst.same s13).del ha3
    cases epp
    have lv' : vs'.length = st.length := Paired.length pr3
    have ep4 := delSub _ _ (del_sb d4 _ _ ep3)
    walk_at "rd"
    rw [lv']
    refine i_sFldD dc.cl dc.a2 e4 (putF1 _ _) ?_
    have e5 := upd_same (H := H4) (a := a) (o := .ins C dx (putF "states" (.int (st.length : Int)) (putF "signs" (iV n) [])))
    have d5 := d4.trans (SB.upd (b := a) (H := H4) (o := .ins C dx (putF "states" (.int (st.length : Int)) (putF "signs" (iV n) []))))
    generalize upd H4 a (.ins C dx (putF "states" (.int (st.length : Int)) (putF "signs" (iV n) []))) = H5 at *
    have ep5 := delSub _ _ (del_sb d5 _ _ ep3)
    walk_at "rd"
    refine ⟨⟨_, sqL_of ep5⟩, ?_⟩
    have D5 := del_sb d5
    refine go_lc (walk_list (xs := vs')) (fun p' i Hx => ∃ ws, Hx p' = some (.lst ws) ∧ Paired (TRow Hx) ws (st.take i) ∧ Same H5 Hx) (fun p' np => ⟨[], upd_same, .nil, same_upd np⟩) (fun p' i Hx hi q => sqL_of (q.choose_spec.2.2 _ _ ep5)) (fun p' np i v Hx Hy hi q y => ?_) (fun lp H6 nlp q => ?_)
    · obtain ⟨ws, ew, pw, sx⟩ := q
      obtain ⟨rfl, hv⟩ := y
      obtain ⟨row, gr, rp, rs, rfl, er, prr⟩ := pairedAt pr3 hv
      have er := sx _ _ (delSub _ _ (D5 _ _ er))
      have prr := Paired.mapP prr fun _ _ zz => ((zz.same D5).same delSub).same sx
      have lw : ws.length ≤ 6 := by have := Paired.length pw; rw [List.length_take] at this; have := g.s6; omega
      rw [List.take_add_one, gr]
      walk_at "rd"
      refine ⟨rfl, i_yes (iteT ?_)⟩
      walk_at "rd"
      refine ⟨rp, rs, rfl, .inl ⟨sqL_of er, fun t nt => ?_⟩⟩
      have st' := same_upd (o := .tup rs) nt
      have et := upd_same (H := Hy) (a := t) (o := .tup rs)
      generalize upd Hy t (.tup rs) = H7 at *
      have tk := (TK.of st').trans (TK.lst (ys := ws ++ [.ref t]) (st' _ _ ew))
      exact ⟨ws, st' _ _ ew, sm100 (by omega), _, upd_same, Paired.snoc (Paired.mapP pw fun _ _ zz => zz.tk tk) ⟨t, rs, rfl, TK.lst (st' _ _ ew) _ _ et, Paired.mapP prr fun _ _ zz => zz.tk tk⟩, Same.set_new (sx.trans st') np⟩
    obtain ⟨ws, ew, pw, s6⟩ := q
    rw [lv', List.take_length] at pw
    walk_at "rd"
    refine ⟨lp, ws, rfl, .inl ⟨sqL_of ew, fun p1 np1 => ?_⟩⟩
    have s7 := same_upd (o := .tup ws) np1
    have e7 := upd_same (H := H6) (a := p1) (o := .tup ws)
    generalize upd H6 p1 (.tup ws) = H7 at *
    have T7 : TSt H7 (.ref p1) st := ⟨p1, ws, rfl, e7, Paired.mapP pw fun _ _ zz => zz.same s7⟩
    have e57 := s7 _ _ (s6 _ _ e5)
    walk_at "rd"
    refine i_sFldD dc.cl dc.a3 e57 (putF2 _ _ _ _) ?_
    have T8 := T7.tk (TK.ins (gs := putF "steps" (.ref p1) (putF "states" (.int (st.length : Int)) (putF "signs" (iV n) []))) e57)
    have e8 := upd_same (H := H7) (a := a) (o := .ins C dx (putF "steps" (.ref p1) (putF "states" (.int (st.length : Int)) (putF "signs" (iV n) []))))
    have d8 := d5.trans ((SB.of (s6.trans s7)).trans (SB.upd (b := a) (H := H7) (o := .ins C dx (putF "steps" (.ref p1) (putF "states" (.int (st.length : Int)) (putF "signs" (iV n) []))))))
    generalize upd H7 a (.ins C dx (putF "steps" (.ref p1) (putF "states" (.int (st.length : Int)) (putF "signs" (iV n) [])))) = H8 at *
    obtain ⟨ep', rfl, een⟩ := hen.same s13
    have een8 : H8 ep' = some (.lst (en.map endV)) := d8 _ _ (fun q => by rw [q, ha3] at een; cases een) een
    walk_at "rd"
    refine ⟨ep', _, rfl, .inl ⟨sqL_of een8, fun p2 np2 => ?_⟩⟩
    have s9 := same_upd (o := .tup (en.map endV)) np2
    have e9 := upd_same (H := H8) (a := p2) (o := .tup (en.map endV))
    generalize upd H8 p2 (.tup (en.map endV)) = H9 at *
    have e89 := s9 _ _ e8
    have ne2 : p2 ≠ a := fun q => by rw [q, e89] at e9; cases e9
    walk_at "rd"
    refine i_sFldD dc.cl dc.a4 e89 (putF3 _ _ _ _ _ _) ?_
    have d10 := (SB.of (b := a) s13).trans (d8.trans ((SB.of s9).trans (SB.upd (b := a) (H := H9) (o := .ins C dx (putF "ends" (.ref p2) (putF "steps" (.ref p1) (putF "states" (.int (st.length : Int)) (putF "signs" (iV n) []))))))))
    exact k p1 p2 _ d10 upd_same ((T8.same s9).tk (TK.ins e89)) (by rw [upd_ne ne2]; exact e9)
theorem ok_eq {C : Addr} (F : Fun K "__eq__" "Decoder.__eq__" s_Decoder___eq__ f fd) (z : Z mg) (hmD : mg "Decoder" = some (.ref C)) (dc : DcC K C) (ic_Decoder : C8.InsC K C) : FnOk P w K mg base CX0 1 f fd ["self", "other"] (spEqD C) := by
  refine F.ok sc_Decoder___eq__ (fun vs H Q E h => ?_) (fun cdv A outer s H vs Q E hr h => ?_)
  · obtain ⟨v1, v2, n, st, en, rfl, _⟩ := h; rfl
  · obtain ⟨v1, v2, n, st, en, rfl, ⟨a, dx, p1, p2, rfl, ha, hp1, hp2⟩, ⟨b, dy, q1, q2, rfl, hb, hq1, hq2⟩, g, k⟩ := h
    refine ⟨_, (pss_one (ps_ret (pe_and (pe_callB (C8.call_isC ic_Decoder) (by rfl) z.isinstance (by decide +kernel) (pa_cons (pv 1) (pa_cons (pe_glob (v := .ref C) rfl hmD rfl) pa_nil))) (pe_and (pe_cmpR op_eq (pe_fld (pv 0) (by rfl)) (pe_fld (pv 1) (by rfl)) (nomark _)) (pe_and (pe_cmpR (op_eqD hr.units) (pe_fld (pv 0) (by rfl)) (pe_fld (pv 1) (by rfl)) (nomark _)) (pe_one (pe_cmpR (op_eqD hr.units) (pe_fld (pv 0) (by rfl)) (pe_fld (pv 1) (by rfl)) (nomark _)))))))), ?_⟩
    walk_at "rd"
    refine ⟨b, dy, _, rfl, hb, ?_⟩
    walk_at "rd"
    refine i_fldD dc.cl dc.a1 ha rfl ?_
    walk_at "rd"
    refine i_fldD dc.cl dc.a1 hb rfl ?_
    walk_at "rd"
    rw [decide_eq_true rfl]
    walk_at "rd"
    refine i_fldD dc.cl dc.a3 ha rfl ?_
    walk_at "rd"
    refine i_fldD dc.cl dc.a3 hb rfl ?_
    walk_at "rd"
    refine i_eqE hp1.de hq1.de g.stSd g.stSd (stD_flat _) (stD_flat _) ?_
    rw [eqv_self _ (stD_flat _)]
    walk_at "rd"
    refine i_fldD dc.cl dc.a4 ha rfl ?_
    walk_at "rd"
    refine i_fldD dc.cl dc.a4 hb rfl ?_
    walk_at "rd"
    refine i_eqE (d := enD en) (e := enD en) (.tup (sqT_of hp2) (ends_de en)) (.tup (sqT_of hq2) (ends_de en)) g.enSd g.enSd (enD_flat _) (enD_flat _) ?_
    rw [eqv_self _ (enD_flat _)]
    exact k _ (Same.refl _)
theorem ok_wr {C : Addr} (F : Fun K "written" "Decoder.written" s_Decoder_written f fd) (z : Z mg) (dc : DcC K C) (c_check_line : Cal P w K mg base "check_line" ["line", "signs"] 4 (spCkL K)) : FnOk P w K mg base CX0 5 f fd ["self", "line"] (spWr K C) := by
  refine F.ok sc_Decoder_written (fun vs H Q E h => ?_) (fun cdv A outer s H vs Q E hr h => ?_)
  · obtain ⟨v1, v2, n, st, en, l, rfl, _⟩ := h; rfl
  · obtain ⟨v1, v2, n, st, en, l, rfl, ⟨a, dx, p1, p2, rfl, ha, hp1, hp2⟩, g, ⟨lp, rfl, hl⟩, ll, ln, k⟩ := h
    refine ⟨_, (pss_cons (ps_expr (pe_cal c_check_line hr (pa_cons (pv 1) (pa_cons (pe_fld (pv 0) (by rfl)) pa_nil))))
      (pss_cons (ps_asg (pe_tup (pa_cons pe_int (pa_cons (pe_strS (l := []) (by decide +kernel)) pa_nil))) (pg_tup rfl (pgs_cons (pg_name (i := 2) sc_Decoder_written.nd rfl (.inl rfl)) (pgs_cons (pg_name (i := 3) sc_Decoder_written.nd rfl (.inl rfl)) pgs_nil))))
      (pss_cons (ps_for PassesOwn.never rfl (pi_tup (pv 1)) (pg_name (i := 4) sc_Decoder_written.nd rfl (.inl rfl))
        (pss_cons (ps_set (i := 5) sc_Decoder_written.nd rfl (.inl rfl) (pe_ix ix_tup (pe_ix ix_tup (pe_fld (pv 0) (by rfl)) (pv 2) (fun _ _ => rfl)) (pv 4) (fun _ _ => rfl)))
        (pss_cons (ps_if (pt_cmpR op_isNo (pv 5) pe_non (nomark _))
          (pss_one (ps_ret pe_non))
          pss_nil)
        (pss_cons (ps_set (i := 2) sc_Decoder_written.nd rfl (.inl rfl) (pe_ix ix_tup (pv 5) pe_int (fun _ _ => rfl)))
        (pss_one (ps_set (i := 3) sc_Decoder_written.nd rfl (.inl rfl) (pe_op op_addS (pv 3) (pe_ix ix_tup (pv 5) pe_int (fun _ _ => rfl)))))))))
      (pss_cons (ps_set (i := 6) sc_Decoder_written.nd rfl (.inl rfl) (pe_ix ix_tup (pe_fld (pv 0) (by rfl)) (pv 2) (fun _ _ => rfl)))
      (pss_one (ps_ret (pe_ifExp (pt_cmpR op_isNo (pv 6) pe_non (nomark _)) pe_non (pe_op op_addS (pv 3) (pv 6))))))))), ?_⟩
    walk_at "rd"
    refine i_fldD dc.cl dc.a1 ha rfl ?_
    walk_at "rd"
    refine ⟨.ref lp, .tuple (l.map fun (n : Nat) => PyData.int (n : Int)), n, rfl, .tup hl (ints_de l), line_len (by omega), line_ok ln, fun H1 s1 => ?_⟩
    walk_at "rd"
    refine newT0 (Nat.le_of_ble_eq_true rfl) fun t0 H2 nt0 s2 e0 => ?_
    refine ⟨t0, _, rfl, sqT_of e0, rfl, ?_⟩
    walk_at "rd"
    have s12 := s1.trans s2
    refine ⟨⟨_, Same.sqT s12 hl⟩, ?_⟩
    refine go_for (walk_tup (xs := l.map iV)) (fun i σ Hx => ∃ (q : Nat) (t : List Nat) (u4 u5 u6 : Option V), σ = [some (.ref a), some (.ref lp), some (iV q), some (.str (S t)), u4, u5, u6] ∧ runD st 0 [] (l.take i) = some (q, t) ∧ q < st.length ∧ t.length ≤ 3 * i ∧ Same H Hx)
      ⟨0, [], none, none, none, rfl, by rw [List.take_zero]; rfl, g.s1, by simp, s12⟩ (fun i σ Hx hi h => Same.sqT h.choose_spec.choose_spec.choose_spec.choose_spec.choose_spec.2.2.2.2 hl) (fun i v σ Hx Hy hi h y => ?_) (fun σ Hx h => ?_)
    · obtain ⟨q, t, u4, u5, u6, rfl, run, hq, lt, sx⟩ := h
      obtain ⟨rfl, hv⟩ := y
      rw [List.length_map] at hi
      have gx : l[i]? = some l[i] := List.getElem?_eq_getElem hi
      rw [List.getElem?_map, gx] at hv
      cases hv
      have hx : l[i] < n := ln _ (List.getElem_mem hi)
      generalize l[i] = x at *
      have run' : ∀ e, (st.getD q []).getD x none = e → runD st 0 [] (l.take (i + 1)) = match e with | none => none | some (q', w) => some (q', t ++ w) := fun e he => by
        rw [List.take_add_one, gx, runD_app, run]
        simp only [Option.toList, runD]
        rw [he]
      have hax := sx _ _ ha
      obtain ⟨p1', vs, e1, ep1, pr1⟩ := hp1.same sx
      cases e1
      have gq : st[q]? = some (st.getD q []) := by rw [List.getD_eq_getElem?_getD, List.getElem?_eq_getElem hq]; rfl
      have mq := List.mem_of_getElem? gq
      have lq := g.row _ mq
      have eq := g.ent _ mq
      obtain ⟨vr, gvr, rp, rs, rfl, erp, prr⟩ := pairedAt2 pr1 gq
      have gxr : (st.getD q [])[x]? = some ((st.getD q []).getD x none) := by rw [List.getD_eq_getElem?_getD (l := st.getD q []), List.getElem?_eq_getElem (by rw [lq]; exact hx)]; rfl
      have ex := eq _ (List.mem_of_getElem? gxr)
      obtain ⟨ve, gve, hve⟩ := pairedAt2 prr gxr
      generalize (st.getD q []).getD x none = ee at *
      walk_at "rd"
      refine i_fldD dc.cl dc.a3 hax rfl ?_
      walk_at "rd"
      refine i_ixTn (k := q) (sqT_of ep1) gvr ?_
      walk_at "rd"
      refine i_ixTn (k := x) (sqT_of erp) gve ?_
      walk_at "rd"
      rcases ee with _ | ⟨q', wd⟩
      · cases (show ve = V.non from hve)
        walk_at "rd"
        have : writD st en l = none := by
          unfold writD
          have := run' none rfl
          rw [show l = l.take (i + 1) ++ l.drop (i + 1) by rw [List.take_append_drop], runD_app, this]
        rw [this] at k
        exact k _ sx
      · obtain ⟨tp, rfl, etp⟩ := hve
        obtain ⟨hq', az, lw⟩ := ex
        have run2 := run' _ rfl
        walk_at "rd"
        exact ⟨q', t ++ wd, _, _, _, rfl, run2, hq', by rw [List.length_append]; omega, sx⟩
    · obtain ⟨q, t, u4, u5, u6, rfl, run, hq, lt, sx⟩ := h
      rw [List.length_map, List.take_length] at run
      have hax := sx _ _ ha
      have gq : en[q]? = some (en.getD q none) := by rw [List.getD_eq_getElem?_getD, List.getElem?_eq_getElem (by rw [g.le]; exact hq)]; rfl
      have gqv : (en.map endV)[q]? = some (endV (en.getD q none)) := by rw [List.getElem?_map, gq]; rfl
      have okq := g.enk _ (List.mem_of_getElem? gq)
      have wr : writD st en l = match en.getD q none with | none => none | some w => some (t ++ w) := by unfold writD; rw [run]
      rw [wr] at k
      rw [List.length_map] at lt
      generalize en.getD q none = ee at *
      walk_at "rd"
      refine i_fldD dc.cl dc.a4 hax rfl ?_
      walk_at "rd"
      refine i_ixTn (k := q) (sqT_of (sx _ _ hp2)) gqv ?_
      walk_at "rd"
      rcases ee with _ | wd
      · walk_at "rd"
        exact k _ sx
      · walk_at "rd"
        refine i_addS (by have := okq.2; omega) ?_
        exact k _ sx
end
end Sw
namespace Sw
open PySem PySem.Spec PyProof.Rows L2
local macro_rules | `(tactic| walk_at "hp") => `(tactic| first
  | (with_reducible assumption) | (with_reducible exact upd_same)
  | ((with_reducible refine' upd_old ?q1 ?q2); (case q1 => (with_reducible assumption)); (case q2 => walk_at "hp"))
  | ((with_reducible refine' Same.at ?q1 ?q2); (case q1 => (with_reducible assumption)); (case q2 => walk_at "hp"))
  | ((with_reducible refine' upd_skip ?q1 ?q2); (case q1 => walk_at "ne"); (case q2 => walk_at "hp"))
  | fail)
local macro_rules | `(tactic| walk_at "ne") => `(tactic| first
  | (with_reducible assumption) | (with_reducible exact Ne.symm (by assumption))
  | ((with_reducible refine' ne_of_none ?q1 ?q2); (case q2 => (with_reducible assumption)); (case q1 => walk_at "hp"))
  | fail)
local macro_rules | `(tactic| walk_at "ci") => `(tactic| first | assumption | (show (0 : Int) < _; first | decide | (with_reducible omega)) | exact ⟨by decide, by decide⟩ | exact .inl ⟨by decide, by decide⟩ | exact .inr ⟨by decide, by decide⟩)
local macro_rules | `(tactic| walk_at "ln") => `(tactic| first | (with_reducible assumption) | (with_reducible omega) | (simp only [List.length_append, List.length_take, List.length_drop, List.length_reverse, List.length_cons, List.length_nil]; with_reducible omega))
local macro_rules | `(tactic| walk_at "rd1") => `(tactic| first
  | (with_reducible refine i_seq ?_) | (with_reducible refine i_asg ?_) | (with_reducible refine i_ret ?_) | (with_reducible refine i_name ?_) | ((with_reducible refine' i_var ?q1 ?_); (case q1 => exact rfl)) | (with_reducible refine i_c ?_) | (with_reducible refine i_op ?_) | (with_reducible refine i_un ?_)
  | (with_reducible refine i_rI0 ?_) | (with_reducible refine i_cb ?_) | (with_reducible refine i_cons ?_) | (with_reducible refine i_nil ?_) | (with_reducible refine i_call ?_) | (with_reducible refine i_if ?_) | (with_reducible refine i_ifE ?_) | (with_reducible refine i_test ?_) | (with_reducible refine i_bl ?_)
  | (with_reducible refine i_and ?_) | (with_reducible refine i_or ?_) | (with_reducible refine i_not ?_) | (with_reducible refine i_lstM ?_) | (with_reducible refine i_lstLM ?_) | (with_reducible refine i_tupM ?_) | (with_reducible refine i_next ?_) | (with_reducible refine i_drop ?_) | (with_reducible refine i_sub ?_)
  | (with_reducible refine i_bm ?_) | (with_reducible refine i_sl ?_) | (with_reducible refine i_part ?_) | (with_reducible refine i_nopart ?_) | (with_reducible refine i_exI ?_) | (with_reducible refine i_chain ?_) | ((with_reducible refine' i_aug ?q1 ?_); (case q1 => exact rfl)) | (with_reducible refine i_ip ?_)
  | (with_reducible refine i_par ?_) | (with_reducible refine i_pair ?_) | (with_reducible refine i_andV ?_) | (with_reducible refine i_orV ?_) | (with_reducible refine i_notV ?_) | (with_reducible refine i_m1 ?_) | (with_reducible refine i_str ?_)
  | (with_reducible refine iteF ?_) | (with_reducible refine iteT ?_) | (with_reducible refine iteNT ?_) | (with_reducible refine iteNF ?_) | (with_reducible refine i_tyS ?_) | (with_reducible refine i_tB ?_) | (with_reducible refine i_retN ?_) | (with_reducible refine i_par3 ?_) | (with_reducible refine i_trip ?_) | (with_reducible refine i_gCons ?_) | (with_reducible refine i_gNil ?_) | (with_reducible refine i_lstRg ?_) | (with_reducible refine i_rg1 ?_)
  | (with_reducible refine i_lc ?_) | (with_reducible refine i_for ?_) | (with_reducible refine i_iList ?_) | (with_reducible refine i_iTup ?_) | (with_reducible refine i_iStr ?_) | (with_reducible refine i_iRng1 ?_) | (with_reducible refine i_iEnS ?_)
  | ((with_reducible refine' i_ixTH ?q1 ?q2 ?_); (case q1 => walk_at "hp"); (case q2 => exact rfl))
  | ((with_reducible refine' i_ixLH ?q1 ?q2 ?_); (case q1 => walk_at "hp"); (case q2 => exact rfl))
  | ((with_reducible refine i_addS ?q1 ?_); (case q1 => walk_at "ln")) | ((with_reducible refine i_lenSS ?q1 ?_); (case q1 => walk_at "ln")) | ((with_reducible refine i_slFrom ?q1 ?q2 ?_); (case q1 => walk_at "ln"); (case q2 => walk_at "ln")) | ((with_reducible refine i_slTo ?q1 ?q2 ?_); (case q1 => walk_at "ln"); (case q2 => walk_at "ln"))
  | ((with_reducible refine' i_tyL ?q1 ?_); (case q1 => walk_at "hp"))
  | ((with_reducible refine' i_gTupH ?q1 ?q2 ?_); (case q1 => walk_at "hp"); (case q2 => exact rfl))
  | (with_reducible refine i_dnewM ?_) | (with_reducible refine i_init ?_) | (with_reducible refine i_fst ?_) | (with_reducible refine i_mk ?_) | (with_reducible refine i_raise ?_) | (with_reducible refine i_callS ?_) | (with_reducible refine i_kwS ?_)
  | (with_reducible refine i_revT ?_) | (with_reducible refine i_kw ?_) | ((with_reducible refine' ⟨_, _, rfl, sqT_of ?q1, ?_⟩); (case q1 => walk_at "hp"))
  | (with_reducible refine i_revS ?_) | ((with_reducible refine i_revSS ?q1 ?_); (case q1 => walk_at "ln"))
  | (with_reducible refine i_startS ?_) | (with_reducible refine i_inSg ?_) | (with_reducible refine i_absN ?_) | (with_reducible refine i_min2 ?_) | (with_reducible refine i_max2 ?_) | (with_reducible refine i_min3 ?_) | (with_reducible refine i_intN ?_) | (with_reducible refine i_intNB ?_)
  | ((with_reducible refine' i_lenL ?q1 ?_); (case q1 => walk_at "hp")) | ((with_reducible refine' i_lenT ?q1 ?_); (case q1 => walk_at "hp"))
  | (with_reducible refine i_eqI ?_) | (with_reducible refine i_neI ?_) | (with_reducible refine i_eqS ?_) | (with_reducible refine i_neS ?_) | (with_reducible refine i_isNoI ?_) | (with_reducible refine i_isNoN ?_) | (with_reducible refine i_isNoR ?_)
  | ((with_reducible refine i_pow ?q1 ?q2 ?q3 ?_); (case q1 => decide); (case q2 => decide); (case q3 => (with_reducible omega)))
  | ((with_reducible refine i_rI ?q1 ?_); (case q1 => walk_at "ci"))
  | (with_reducible refine Or.inl ⟨_, rfl, ?_⟩) | (with_reducible refine Or.inr ⟨_, rfl, ?_⟩) | (with_reducible refine ⟨_, rfl, ?_⟩) | (with_reducible refine ⟨_, _, rfl, ?_⟩) | (with_reducible refine ⟨_, _, rfl, rfl, ?_⟩)
  | ((with_reducible refine' ⟨_, _, rfl, Or.inl (sqL_of ?q1), ?_⟩); (case q1 => walk_at "hp")) | ((with_reducible refine' ⟨_, _, rfl, Or.inr (sqT_of ?q1), ?_⟩); (case q1 => walk_at "hp")) | (with_reducible refine i_dget ?_) | (with_reducible refine i_disp1T ?_) | (with_reducible refine i_dcT ?_) | (with_reducible refine i_dnewT ?_) | (with_reducible refine i_fld ?_) | (with_reducible refine i_sFld ?_) | (with_reducible refine i_make ?_) | (with_reducible refine i_meth ?_) | (with_reducible refine i_star ?_) | (with_reducible refine i_isNoS ?_) | (with_reducible refine i_lc2 ?_) | fail)
local macro_rules | `(tactic| walk_at "rd") => `(tactic| repeat' walk_at "rd1")

/-! ### the codecs -/
def lt1 (i : Nat) : List Nat := [97 + i]
def rw0 (n : Nat) : List Ent := (List.range n).map fun i => some (0, lt1 i)
def rw1 (n sp : Nat) : List Ent := (List.range n).map fun i => if i = sp then some (1, []) else some (0, lt1 i)
def rw1m (n : Nat) : List Ent := (List.range n).map fun i => some (0, lt1 i ++ lt1 i)
def rw2s (n : Nat) : List Ent := (List.range (n - 1)).map (fun i => some (0, lt1 i)) ++ [some (1, [])]
def rw2g (n : Nat) : List Ent := (List.range (n - 1)).map (fun i => some (1, lt1 i ++ [120])) ++ [some (0, [])]
def rw3 (n : Nat) : List Ent := (List.range n).map fun i => some (i + 1, [])
def rw3r (n r : Nat) : List Ent := (List.range n).map fun i => some (0, List.replicate (min i 2 + 1) (97 + r))
def stM (way n sp : Nat) : List (List Ent) := match way with
  | 0 => [rw0 n]
  | 1 => [rw1 n sp, rw1m n]
  | 2 => [rw2s n, rw2g n]
  | _ => rw3 n :: (List.range n).map (rw3r n)
def enM (way n : Nat) : List (Option (List Nat)) := match way with
  | 0 => [some []]
  | 1 => [some [], none]
  | 2 => [some [], some []]
  | _ => some [] :: List.replicate n none
theorem az_lt1 {i : Nat} (h : i < 26) : azW (lt1 i) := fun c hc => by rw [List.mem_singleton.mp hc]; omega
theorem az_app {a b : List Nat} (h : azW a) (k : azW b) : azW (a ++ b) := fun c hc => (List.mem_append.mp hc).elim (h c) (k c)
theorem az_nil : azW [] := fun c hc => by cases hc
def wayOk (way n sp : Nat) : Prop := 1 ≤ n ∧ n ≤ 5 ∧ (way = 1 → sp < n) ∧ (way = 2 → 2 ≤ n)
theorem good_M {way n sp : Nat} (h : wayOk way n sp) : Good n (stM way n sp) (enM way n) := by
  obtain ⟨n1, n5, h1, h2⟩ := h
  rcases way with _ | _ | _ | way
  · refine ⟨n1, n5, by simp [stM], by simp [stM], ?_, ?_, rfl, ?_⟩
    · intro r hr; rw [List.mem_singleton.mp hr]; simp [rw0]
    · intro r hr e he
      rw [List.mem_singleton.mp hr] at he
      obtain ⟨i, hi, rfl⟩ := List.mem_map.mp he
      exact ⟨by simp [stM], az_lt1 (by have := List.mem_range.mp hi; omega), by simp [lt1]⟩
    · intro e he; rw [List.mem_singleton.mp he]; exact ⟨az_nil, by simp⟩
  · refine ⟨n1, n5, by simp [stM], by simp [stM], ?_, ?_, rfl, ?_⟩
    · intro r hr
      simp only [stM, List.mem_cons, List.not_mem_nil, or_false] at hr
      rcases hr with rfl | rfl <;> simp [rw1, rw1m]
    · intro r hr e he
      simp only [stM, List.mem_cons, List.not_mem_nil, or_false] at hr
      rcases hr with rfl | rfl
      · obtain ⟨i, hi, rfl⟩ := List.mem_map.mp he
        split
        · exact ⟨by simp [stM], az_nil, by simp⟩
        · exact ⟨by simp [stM], az_lt1 (by have := List.mem_range.mp hi; omega), by simp [lt1]⟩
      · obtain ⟨i, hi, rfl⟩ := List.mem_map.mp he
        have := az_lt1 (i := i) (by have := List.mem_range.mp hi; omega)
        exact ⟨by simp [stM], az_app this this, by simp [lt1]⟩
    · intro e he
      simp only [enM, List.mem_cons, List.not_mem_nil, or_false] at he
      rcases he with rfl | rfl
      · exact ⟨az_nil, by simp⟩
      · trivial
  · have h2 := h2 rfl
    refine ⟨n1, n5, by simp [stM], by simp [stM], ?_, ?_, rfl, ?_⟩
    · intro r hr
      simp only [stM, List.mem_cons, List.not_mem_nil, or_false] at hr
      rcases hr with rfl | rfl <;> simp [rw2s, rw2g] <;> omega
    · intro r hr e he
      simp only [stM, List.mem_cons, List.not_mem_nil, or_false] at hr
      rcases hr with rfl | rfl
      · rcases List.mem_append.mp he with he | he
        · obtain ⟨i, hi, rfl⟩ := List.mem_map.mp he
          exact ⟨by simp [stM], az_lt1 (by have := List.mem_range.mp hi; omega), by simp [lt1]⟩
        · rw [List.mem_singleton.mp he]; exact ⟨by simp [stM], az_nil, by simp⟩
      · rcases List.mem_append.mp he with he | he
        · obtain ⟨i, hi, rfl⟩ := List.mem_map.mp he
          exact ⟨by simp [stM], az_app (az_lt1 (by have := List.mem_range.mp hi; omega)) (fun c hc => by rw [List.mem_singleton.mp hc]; omega), by simp [lt1]⟩
        · rw [List.mem_singleton.mp he]; exact ⟨by simp [stM], az_nil, by simp⟩
    · intro e he
      simp only [enM, List.mem_cons, List.not_mem_nil, or_false] at he
      rcases he with rfl | rfl <;> exact ⟨az_nil, by simp⟩
  · have ls : (stM (way + 1 + 1 + 1) n sp).length = n + 1 := by simp [stM]
    refine ⟨n1, n5, by rw [ls]; omega, by rw [ls]; omega, ?_, ?_, by rw [ls]; simp [enM], ?_⟩
    · intro r hr
      rcases List.mem_cons.mp hr with rfl | hr
      · simp [rw3]
      · obtain ⟨i, _, rfl⟩ := List.mem_map.mp hr; simp [rw3r]
    · intro r hr e he
      rw [ls]
      rcases List.mem_cons.mp hr with rfl | hr
      · obtain ⟨i, hi, rfl⟩ := List.mem_map.mp he
        exact ⟨by have := List.mem_range.mp hi; omega, az_nil, by simp⟩
      · obtain ⟨r0, hr0, rfl⟩ := List.mem_map.mp hr
        obtain ⟨i, hi, rfl⟩ := List.mem_map.mp he
        have := List.mem_range.mp hr0
        exact ⟨by omega, fun c hc => by rw [List.eq_of_mem_replicate hc]; omega, by simp; omega⟩
    · intro e he
      rcases List.mem_cons.mp he with rfl | he
      · exact ⟨az_nil, by simp⟩
      · rw [List.eq_of_mem_replicate he]; trivial
/-- a row under way -/
def EUp (H0 : Hp) (p : Addr) (es : List Ent) (H : Hp) : Prop := ∃ vs, H p = some (.lst vs) ∧ Paired (EntAt H) vs es ∧ Same H0 H
theorem EUp.nil {H : Hp} {p : Addr} (n : H p = none) : EUp H p [] (upd H p (.lst [])) := ⟨[], upd_same, .nil, same_upd n⟩
theorem EUp.push {H0 H H3 : Hp} {p t : Addr} {es : List Ent} {q : Nat} {wd : List Nat} (h : EUp H0 p es H) (np : H0 p = none) (s : Same H H3) (et : H3 t = some (.tup [iV q, .str (S wd)])) (l : es.length ≤ 1000) : ∃ acc, H3 p = some (.lst acc) ∧ acc.length < sizeLine ∧ EUp H0 p (es ++ [some (q, wd)]) (upd H3 p (.lst (acc ++ [.ref t]))) := by
  obtain ⟨vs, e, pr, s0⟩ := h
  have lv : vs.length = es.length := Paired.length pr
  have tk := TK.lst (ys := vs ++ [.ref t]) (s _ _ e)
  exact ⟨vs, s _ _ e, sm100 (by omega), _, upd_same, Paired.snoc (Paired.mapP pr fun _ _ z => (z.same s).tk tk) ⟨t, rfl, tk _ _ et⟩, Same.set_new (s0.trans s) np⟩
theorem EUp.row {H0 H : Hp} {p : Addr} {es : List Ent} (h : EUp H0 p es H) : RowAt H (.ref p) es ∧ Same H0 H := by
  obtain ⟨vs, e, pr, s⟩ := h; exact ⟨⟨p, vs, rfl, e, pr⟩, s⟩
/-- rows under way -/
structure SUp (p : Addr) (st : List (List Ent)) (vs : List V) (H : Hp) : Prop where
  e : H p = some (.lst vs)
  pr : Paired (fun v r => RowAt H v r ∧ v ≠ .ref p) vs st
theorem SUp.same {p : Addr} {st : List (List Ent)} {vs : List V} {H H' : Hp} (h : SUp p st vs H) (s : Same H H') : SUp p st vs H' := ⟨s _ _ h.e, Paired.mapP h.pr fun _ _ z => ⟨z.1.same s, z.2⟩⟩
theorem RowAt.upd {H : Hp} {p : Addr} {xs ys : List V} {v : V} {r : List Ent} (h : RowAt H v r) (e : H p = some (.lst xs)) (ne : v ≠ .ref p) : RowAt (L2.upd H p (.lst ys)) v r := by
  obtain ⟨q, vs, rfl, e1, pr⟩ := h
  exact ⟨q, vs, rfl, by rw [L2.upd_ne (fun c => ne (by rw [c]))]; exact e1, Paired.mapP pr fun _ _ z => z.tk (TK.lst e)⟩
theorem SUp.push {p rr : Addr} {st : List (List Ent)} {vs : List V} {H : Hp} {R : List Ent} (h : SUp p st vs H) (hr : RowAt H (.ref rr) R) (ne : rr ≠ p) : SUp p (st ++ [R]) (vs ++ [.ref rr]) (upd H p (.lst (vs ++ [.ref rr]))) :=
  ⟨upd_same, Paired.snoc (Paired.mapP h.pr fun _ _ z => ⟨z.1.upd h.e z.2, z.2⟩) ⟨hr.upd h.e (fun q => ne (V.ref.inj q)), fun q => ne (V.ref.inj q)⟩⟩
theorem SUp.st {p : Addr} {st : List (List Ent)} {vs : List V} {H : Hp} (h : SUp p st vs H) : StAt H (.ref p) st := ⟨p, vs, rfl, h.e, Paired.mapP h.pr fun _ _ z => z.1⟩
theorem flat_rep (n x : Nat) : (List.replicate n [x]).flatten = List.replicate n x := by
  induction n with
  | zero => rfl
  | succ n ih => rw [List.replicate_succ, List.replicate_succ, List.flatten_cons, ih]; rfl
theorem range_snoc {α : Type} (f : Nat → α) (i : Nat) : (List.range (i + 1)).map f = (List.range i).map f ++ [f i] := by rw [List.range_succ, List.map_append]; rfl
theorem i_makeD {C : Addr} {n : Nat} {v1 v2 : V} {st : List (List Ent)} {en : List (Option (List Nat))} {H : Hp} {Q : VK} {E : XK} (h1 : StAt H v1 st) (h2 : EnAt H v2 en) (g : Good n st en) (q : ∀ v H', Same H H' → DAt C H' v n st en → Q v H') : rMake C (spIni C) E [iV n, v1, v2] H Q := by
  intro x dx nx ndx ne
  have s1 : Same H (upd (upd H dx (.own x)) x (.ins C dx [])) := Same.set_new (same_upd ndx) nx
  refine ⟨x, dx, v1, v2, n, st, en, rfl, upd_same, h1.same s1, h2.same s1, g, fun p1 p2 H' sb hx t1 t2 => ⟨rfl, q (.ref x) H' (fun a o e => ?_) ⟨x, dx, p1, p2, rfl, hx, t1, t2⟩⟩⟩
  have nax : a ≠ x := fun q => by rw [q, nx] at e; cases e
  exact sb _ _ nax (s1 _ _ e)
/-- the promise of the makers: named way, with a number of signs and a mark -/
def spMk (K : PySem.W.Frag) (C XS : Addr) (way : Nat) : Sp := fun vs H Q E => ∃ x d, vs = [x] ∧ De K H x d ∧
  ((isG d = true ∧ (way = 2 → d ≠ .int 1)) ∨ (((isG d = false) ∨ (way = 2 ∧ d = .int 1)) ∧ ∀ dx H', H dx = none → Same H H' → H' dx = some (.xd [("given", x)]) → E (.ref XS) (some dx) H')) ∧
  (∀ n sp : Nat, d = .int n → wayOk way n sp → ∀ v H', Same H H' → DAt C H' v n (stM way n sp) (enM way n) → Q v H')
/-- escaped(signs, mark) -/
def spMk2 (K : PySem.W.Frag) (C XS XG : Addr) : Sp := fun vs H Q E => ∃ x y d e, vs = [x, y] ∧ De K H x d ∧ De K H y e ∧
  (isG d = true ∨ (isG d = false ∧ ∀ dx H', H dx = none → Same H H' → H' dx = some (.xd [("given", x)]) → E (.ref XS) (some dx) H')) ∧
  (∀ n : Nat, d = .int n → 1 ≤ n → n ≤ 5 → isX n e = true ∨ (isX n e = false ∧ ∀ dx H', H dx = none → Same H H' → H' dx = some (.xd [("given", y)]) → E (.ref XG) (some dx) H')) ∧
  (∀ n sp : Nat, d = .int n → e = .int sp → wayOk 1 n sp → ∀ v H', Same H H' → DAt C H' v n (stM 1 n sp) (enM 1 n) → Q v H')
theorem isG_nat {d : PyData} (h : isG d = true) : ∃ n : Nat, d = .int n ∧ 1 ≤ n ∧ n ≤ 5 := by
  cases d with
  | int i =>
    simp only [isG, Bool.and_eq_true, decide_eq_true_eq] at h
    exact ⟨i.toNat, by congr 1; omega, by omega, by omega⟩
  | _ => cases h
theorem isX_nat {n : Nat} {e : PyData} (h : isX n e = true) : ∃ m : Nat, e = .int m ∧ m < n := by
  cases e with
  | int i =>
    simp only [isX, Bool.and_eq_true, decide_eq_true_eq] at h
    exact ⟨i.toNat, by congr 1; omega, by omega⟩
  | _ => cases h
section
variable {P : Program} {w : World} {K : PySem.W.Frag} {mg : Str → Option Value} {base : Heap} {f : Addr} {fd : FuncData}
theorem ok_cop {C XS : Addr} (F : Fun K "copier" "copier" s_copier f fd) (z : Z mg) (x_check_signs : CalX P w K mg base "check_signs" ["signs"] 3 (spCkS K XS)) (c_letter_of : Cal P w K mg base "letter_of" ["place"] 1 spLet) (m_Decoder : C8.Mak P w K mg base 5 "Decoder" C (spIni C) []) : FnOk P w K mg base (L2.CX P w) 7 f fd ["signs"] (spMk K C XS 0) := by
  refine Sw.Fun.okX F sc_copier (fun vs H Q E h => ?_) (fun cdv A outer s H vs Q E hr h tk => ?_)
  · obtain ⟨x, d, rfl, _⟩ := h; rfl
  · obtain ⟨x, d, rfl, hx, k1, k2⟩ := h
    refine ⟨_, (pss_cons (ps_expr (pe_calX x_check_signs hr tk (pa_cons (pv 0) pa_nil)))
      (pss_one (ps_ret (C8.pe_mk m_Decoder hr (by decide) (by rfl) (pa_cons (pv 0) (pa_cons (pe_lst (pa_cons (pe_lc (own := [("sign", 1)]) (g := gName 1) (tt := tYes) rfl sc_copier.nd (pi_range1 (by rfl) z.range (pa_cons (pv 0) pa_nil)) (blkOk_by (own := [("sign", 1)]) (N := n_copier) (sc := defScope s_copier) (by decide +kernel)) (fun _ _ _ _ _ => (pg_name (i := 1) sc_copier.nd rfl (.inl rfl))) (fun _ _ _ _ _ => pts_nil) (fun _ _ _ _ _ => (pe_tup (pa_cons pe_int (pa_cons (pe_cal c_letter_of hr (pa_cons (pv 1) pa_nil)) pa_nil))))) pa_nil)) (pa_cons (pe_lst (pa_cons (pe_strS (l := []) (by decide +kernel)) pa_nil)) pa_nil))))))), ?_⟩
    walk_at "rd"
    refine ⟨x, d, rfl, hx, fun e H1 s1 => ?_, fun e => ?_⟩
    case refine_2 =>
      rcases k1 with ⟨e', _⟩ | ⟨_, k⟩
      · rw [e] at e'; cases e'
      · exact k
    obtain ⟨n, rfl, n1, n5⟩ := isG_nat e
    cases hx.intI
    have wo : wayOk 0 n 0 := ⟨n1, n5, by omega, by omega⟩
    walk_at "rd"
    refine i_rng (by omega) (by omega) ?_
    rw [Int.toNat_natCast]
    refine go_lc walk_rangeZ (fun p i Hx => EUp H1 p ((List.range i).map fun i => some (0, lt1 i)) Hx) (fun p np => EUp.nil np) (fun _ _ _ _ _ => trivial) (fun p np i v Hx Hy hi q y => ?_) (fun rp H2 nrp q => ?_)
    · obtain ⟨rfl, rfl⟩ := y
      rw [range_snoc]
      walk_at "rd"
      refine ⟨rfl, i_yes (iteT ?_)⟩
      walk_at "rd"
      refine ⟨i, rfl, by omega, ?_⟩
      walk_at "rd"
      refine newT0 (Nat.le_of_ble_eq_true rfl) fun t H3 nt s3 et => ?_
      exact q.push np s3 et (by simp; omega)
    obtain ⟨R2, s2⟩ := q.row
    walk_at "rd"
    refine newL0 (Nat.le_of_ble_eq_true rfl) fun sp H3 nsp s3 esp => ?_
    walk_at "rd"
    refine newL0 (Nat.le_of_ble_eq_true rfl) fun ep H4 nep s4 eep => ?_
    walk_at "rd"
    refine i_makeD (st := stM 0 n 0) (en := enM 0 n) ⟨sp, _, rfl, s4 _ _ esp, .cons (R2.same (s3.trans s4)) .nil⟩ ⟨ep, rfl, eep⟩ (good_M wo) (fun v H5 s5 D => ?_)
    exact k2 n 0 rfl wo v H5 (s1.trans (s2.trans (s3.trans (s4.trans s5)))) D
theorem ok_esc {C XS XG : Addr} (F : Fun K "escaped" "escaped" s_escaped f fd) (z : Z mg) (xg : XQ "InvalidSign" P w K mg base XG) (x_check_signs : CalX P w K mg base "check_signs" ["signs"] 3 (spCkS K XS)) (c_is_sign : Cal P w K mg base "is_sign" ["value", "signs"] 3 (spIdx K)) (c_letter_of : Cal P w K mg base "letter_of" ["place"] 1 spLet) (m_Decoder : C8.Mak P w K mg base 5 "Decoder" C (spIni C) []) : FnOk P w K mg base (L2.CX P w) 7 f fd ["signs", "mark"] (spMk2 K C XS XG) := by
  refine Sw.Fun.okX F sc_escaped (fun vs H Q E h => ?_) (fun cdv A outer s H vs Q E hr h tk => ?_)
  · obtain ⟨x, y, d, e, rfl, _⟩ := h; rfl
  · obtain ⟨x, y, d, e, rfl, hx, hy, k1, k2, k3⟩ := h
    refine ⟨_, (pss_cons (ps_expr (pe_calX x_check_signs hr tk (pa_cons (pv 0) pa_nil)))
      (pss_cons (ps_if (pt_not (pt_val (pe_cal c_is_sign hr (pa_cons (pv 1) (pa_cons (pv 0) pa_nil)))))
        (pss_one (ps_rs rfl tk (pmk_Q xg hr (pv 1))))
        pss_nil)
      (pss_cons (ps_setLc (i := 2) (own := [("sign", 3)]) (g := gName 3) (tt := tYes) rfl sc_escaped.nd rfl rfl (sw_true rfl rfl rfl (by decide +kernel)) (pi_range1 (by rfl) z.range (pa_cons (pv 0) pa_nil)) (blkOk_by (own := [("sign", 3)]) (N := n_escaped) (sc := defScope s_escaped) (by decide +kernel)) (fun _ _ _ _ _ => (pg_name (i := 3) sc_escaped.nd rfl (.inl rfl))) (fun _ _ _ _ _ => pts_nil) (fun _ _ _ _ _ => (pe_ifExp (pt_cmpR op_eq (pv 3) (pv 1) (nomark _)) (pe_tup (pa_cons pe_int (pa_cons (pe_strS (l := []) (by decide +kernel)) pa_nil))) (pe_tup (pa_cons pe_int (pa_cons (pe_cal c_letter_of hr (pa_cons (pv 3) pa_nil)) pa_nil))))))
      (pss_cons (ps_setLc (i := 4) (own := [("sign", 3)]) (g := gName 3) (tt := tYes) rfl sc_escaped.nd rfl rfl (sw_true rfl rfl rfl (by decide +kernel)) (pi_range1 (by rfl) z.range (pa_cons (pv 0) pa_nil)) (blkOk_by (own := [("sign", 3)]) (N := n_escaped) (sc := defScope s_escaped) (by decide +kernel)) (fun _ _ _ _ _ => (pg_name (i := 3) sc_escaped.nd rfl (.inl rfl))) (fun _ _ _ _ _ => pts_nil) (fun _ _ _ _ _ => (pe_tup (pa_cons pe_int (pa_cons (pe_op op_mulS (pe_cal c_letter_of hr (pa_cons (pv 3) pa_nil)) pe_int) pa_nil)))))
      (pss_one (ps_ret (C8.pe_mk m_Decoder hr (by decide) (by rfl) (pa_cons (pv 0) (pa_cons (pe_lst (pa_cons (pv 2) (pa_cons (pv 4) pa_nil))) (pa_cons (pe_lst (pa_cons (pe_strS (l := []) (by decide +kernel)) (pa_cons pe_non pa_nil))) pa_nil)))))))))), ?_⟩
    walk_at "rd"
    refine ⟨x, d, rfl, hx, fun e' H1 s1 => ?_, fun e' => ?_⟩
    case refine_2 =>
      rcases k1 with e'' | ⟨_, k⟩
      · rw [e'] at e''; cases e''
      · exact k
    obtain ⟨n, rfl, n1, n5⟩ := isG_nat e'
    cases hx.intI
    walk_at "rd"
    refine ⟨y, e, n, rfl, hy.same s1, ?_⟩
    walk_at "rd"
    refine iteNC (fun e2 => ?_) (fun e2 => ?_)
    · walk_at "rd"
      refine i_thrown xg.T xg.no (fun dx nx => ?_)
      rcases k2 n rfl n1 n5 with e3 | ⟨_, k⟩
      · rw [e2] at e3; cases e3
      · exact k dx _ (s1.free nx) (s1.trans (same_upd nx)) upd_same
    obtain ⟨sp, rfl, hsp⟩ := isX_nat e2
    cases hy.intI
    have wo : wayOk 1 n sp := ⟨n1, n5, fun _ => hsp, by omega⟩
    walk_at "rd"
    refine i_rng (by omega) (by omega) ?_
    rw [Int.toNat_natCast]
    refine go_lc walk_rangeZ (fun p i Hx => EUp H1 p ((List.range i).map fun i => if i = sp then some (1, []) else some (0, lt1 i)) Hx) (fun p np => EUp.nil np) (fun _ _ _ _ _ => trivial) (fun p np i v Hx Hy hi q y => ?_) (fun rp H2 nrp q => ?_)
    · obtain ⟨rfl, rfl⟩ := y
      rw [range_snoc]
      walk_at "rd"
      refine ⟨rfl, i_yes (iteT ?_)⟩
      walk_at "rd"
      refine iteB (fun c => ?_) (fun c => ?_)
      · rw [if_pos (show i = sp by omega)]
        walk_at "rd"
        refine newT0 (Nat.le_of_ble_eq_true rfl) fun t H3 nt s3 et => ?_
        exact q.push np s3 et (by simp; omega)
      · rw [if_neg (show ¬ i = sp by omega)]
        walk_at "rd"
        refine ⟨i, rfl, by omega, ?_⟩
        walk_at "rd"
        refine newT0 (Nat.le_of_ble_eq_true rfl) fun t H3 nt s3 et => ?_
        exact q.push np s3 et (by simp; omega)
    obtain ⟨R2, s2⟩ := q.row
    walk_at "rd"
    refine i_rng (by omega) (by omega) ?_
    rw [Int.toNat_natCast]
    refine go_lc walk_rangeZ (fun p i Hx => EUp H2 p ((List.range i).map fun i => some (0, lt1 i ++ lt1 i)) Hx) (fun p np => EUp.nil np) (fun _ _ _ _ _ => trivial) (fun p np i v Hx Hy hi q y => ?_) (fun rm H3 nrm q => ?_)
    · obtain ⟨rfl, rfl⟩ := y
      rw [range_snoc]
      walk_at "rd"
      refine ⟨rfl, i_yes (iteT ?_)⟩
      walk_at "rd"
      refine ⟨i, rfl, by omega, ?_⟩
      walk_at "rd"
      refine i_mulS (n := 2) (by simp) (by omega) ?_
      walk_at "rd"
      refine newT0 (Nat.le_of_ble_eq_true rfl) fun t H3 nt s3 et => ?_
      exact q.push np s3 et (by simp; omega)
    obtain ⟨R3, s3⟩ := q.row
    walk_at "rd"
    refine newL0 (Nat.le_of_ble_eq_true rfl) fun sp' H4 nsp s4 esp => ?_
    walk_at "rd"
    refine newL0 (Nat.le_of_ble_eq_true rfl) fun ep H5 nep s5 eep => ?_
    walk_at "rd"
    refine i_makeD (st := stM 1 n sp) (en := enM 1 n) ⟨sp', _, rfl, s5 _ _ esp, .cons (R2.same (s3.trans (s4.trans s5))) (.cons (R3.same (s4.trans s5)) .nil)⟩ ⟨ep, rfl, eep⟩ (good_M wo) (fun v H6 s6 D => ?_)
    exact k3 n sp rfl rfl wo v H6 (s1.trans (s2.trans (s3.trans (s4.trans (s5.trans s6))))) D
theorem ok_shi {C XS : Addr} (F : Fun K "shifted" "shifted" s_shifted f fd) (z : Z mg) (xs : XQ "InvalidSigns" P w K mg base XS) (c_is_signs : Cal P w K mg base "is_signs" ["value"] 2 (spSg K)) (c_letter_of : Cal P w K mg base "letter_of" ["place"] 1 spLet) (m_Decoder : C8.Mak P w K mg base 5 "Decoder" C (spIni C) []) : FnOk P w K mg base (L2.CX P w) 7 f fd ["signs"] (spMk K C XS 2) := by
  refine Sw.Fun.okX F sc_shifted (fun vs H Q E h => ?_) (fun cdv A outer s H vs Q E hr h tk => ?_)
  · obtain ⟨x, d, rfl, _⟩ := h; rfl
  · obtain ⟨x, d, rfl, hx, k1, k2⟩ := h
    refine ⟨_, (pss_cons (ps_if (PW.pt (pw_or (pt_not (pt_val (pe_cal c_is_signs hr (pa_cons (pv 0) pa_nil)))) (pw_or1 (pt_cmpR op_lt (pv 0) pe_int (nomark _)))))
        (pss_one (ps_rs rfl tk (pmk_Q xs hr (pv 0))))
        pss_nil)
      (pss_cons (ps_set (i := 1) sc_shifted.nd rfl (.inl rfl) (pe_op op_sub (pv 0) pe_int))
      (pss_cons (ps_setLc (i := 2) (own := [("sign", 3)]) (g := gName 3) (tt := tYes) rfl sc_shifted.nd rfl rfl (sw_true rfl rfl rfl (by decide +kernel)) (pi_range1 (by rfl) z.range (pa_cons (pv 1) pa_nil)) (blkOk_by (own := [("sign", 3)]) (N := n_shifted) (sc := defScope s_shifted) (by decide +kernel)) (fun _ _ _ _ _ => (pg_name (i := 3) sc_shifted.nd rfl (.inl rfl))) (fun _ _ _ _ _ => pts_nil) (fun _ _ _ _ _ => (pe_tup (pa_cons pe_int (pa_cons (pe_cal c_letter_of hr (pa_cons (pv 3) pa_nil)) pa_nil)))))
      (pss_cons (ps_setLc (i := 4) (own := [("sign", 3)]) (g := gName 3) (tt := tYes) rfl sc_shifted.nd rfl rfl (sw_true rfl rfl rfl (by decide +kernel)) (pi_range1 (by rfl) z.range (pa_cons (pv 1) pa_nil)) (blkOk_by (own := [("sign", 3)]) (N := n_shifted) (sc := defScope s_shifted) (by decide +kernel)) (fun _ _ _ _ _ => (pg_name (i := 3) sc_shifted.nd rfl (.inl rfl))) (fun _ _ _ _ _ => pts_nil) (fun _ _ _ _ _ => (pe_tup (pa_cons pe_int (pa_cons (pe_op op_addS (pe_cal c_letter_of hr (pa_cons (pv 3) pa_nil)) (pe_strS (l := [120]) (by decide +kernel))) pa_nil)))))
      (pss_one (ps_ret (C8.pe_mk m_Decoder hr (by decide) (by rfl) (pa_cons (pv 0) (pa_cons (pe_lst (pa_cons (pe_lst (StX.pa_star (pv 2) (pa_cons (pe_tup (pa_cons pe_int (pa_cons (pe_strS (l := []) (by decide +kernel)) pa_nil))) pa_nil))) (pa_cons (pe_lst (StX.pa_star (pv 4) (pa_cons (pe_tup (pa_cons pe_int (pa_cons (pe_strS (l := []) (by decide +kernel)) pa_nil))) pa_nil))) pa_nil))) (pa_cons (pe_lst (pa_cons (pe_strS (l := []) (by decide +kernel)) (pa_cons (pe_strS (l := []) (by decide +kernel)) pa_nil))) pa_nil)))))))))), ?_⟩
    walk_at "rd"
    refine ⟨x, d, rfl, hx, ?_⟩
    walk_at "rd"
    have thrown : isG d = false ∨ d = .int 1 → ∀ dx H', H dx = none → Same H H' → H' dx = some (.xd [("given", x)]) → E (.ref XS) (some dx) H' := fun c => by
      rcases k1 with ⟨e', ne⟩ | ⟨_, k⟩
      · rcases c with c | c
        · rw [e'] at c; cases c
        · exact (ne rfl c).elim
      · exact k
    cases e : isG d with
    | false =>
      refine iteT ?_
      refine iteT ?_
      walk_at "rd"
      refine i_thrown xs.T xs.no (fun dx nx => ?_)
      exact thrown (.inl e) dx _ nx (same_upd nx) upd_same
    | true =>
      refine iteF ?_
      obtain ⟨n, rfl, n1, n5⟩ := isG_nat e
      cases hx.intI
      walk_at "rd"
      refine iteB (fun lt => ?_) (fun ge => ?_)
      · obtain rfl : n = 1 := by omega
        walk_at "rd"
        refine i_thrown xs.T xs.no (fun dx nx => ?_)
        exact thrown (.inr rfl) dx _ nx (same_upd nx) upd_same
      have wo : wayOk 2 n 0 := ⟨n1, n5, by omega, fun _ => by omega⟩
      walk_at "rd"
      rw [show (n : Int) - 1 = ((n - 1 : Nat) : Int) by omega]
      walk_at "rd"
      refine i_rng (by omega) (by omega) ?_
      rw [Int.toNat_natCast]
      refine go_lc walk_rangeZ (fun p i Hx => EUp H p ((List.range i).map fun i => some (0, lt1 i)) Hx) (fun p np => EUp.nil np) (fun _ _ _ _ _ => trivial) (fun p np i v Hx Hy hi q y => ?_) (fun rp H2 nrp q => ?_)
      · obtain ⟨rfl, rfl⟩ := y
        rw [range_snoc]
        walk_at "rd"
        refine ⟨rfl, i_yes (iteT ?_)⟩
        walk_at "rd"
        refine ⟨i, rfl, by omega, ?_⟩
        walk_at "rd"
        refine newT0 (Nat.le_of_ble_eq_true rfl) fun t H3 nt s3 et => ?_
        exact q.push np s3 et (by simp; omega)
      obtain ⟨vs2, ev2, pr2, s2⟩ := q
      have lv2 : vs2.length ≤ 5 := by have := Paired.length pr2; rw [List.length_map, List.length_range] at this; omega
      walk_at "rd"
      refine i_rng (by omega) (by omega) ?_
      rw [Int.toNat_natCast]
      refine go_lc walk_rangeZ (fun p i Hx => EUp H2 p ((List.range i).map fun i => some (1, lt1 i ++ [120])) Hx) (fun p np => EUp.nil np) (fun _ _ _ _ _ => trivial) (fun p np i v Hx Hy hi q y => ?_) (fun rm H3 nrm q => ?_)
      · obtain ⟨rfl, rfl⟩ := y
        rw [range_snoc]
        walk_at "rd"
        refine ⟨rfl, i_yes (iteT ?_)⟩
        walk_at "rd"
        refine ⟨i, rfl, by omega, ?_⟩
        walk_at "rd"
        refine newT0 (Nat.le_of_ble_eq_true rfl) fun t H3 nt s3 et => ?_
        exact q.push np s3 et (by simp; omega)
      obtain ⟨vs3, ev3, pr3, s3⟩ := q
      have lv3 : vs3.length ≤ 5 := by have := Paired.length pr3; rw [List.length_map, List.length_range] at this; omega
      walk_at "rd"
      refine ⟨rp, vs2, rfl, .inr (sqL_of (s3 _ _ ev2)), ?_⟩
      walk_at "rd"
      refine newT0 (Nat.le_of_ble_eq_true rfl) fun t4 H4 nt4 s4 et4 => ?_
      walk_at "rd"
      refine newL0 (Nat.le_of_lt (sm100 (by rw [List.length_append]; simp; omega))) fun p5 H5 np5 s5 e5 => ?_
      walk_at "rd"
      refine ⟨rm, vs3, rfl, .inr (sqL_of (s5 _ _ (s4 _ _ ev3))), ?_⟩
      walk_at "rd"
      refine newT0 (Nat.le_of_ble_eq_true rfl) fun t6 H6 nt6 s6 et6 => ?_
      walk_at "rd"
      refine newL0 (Nat.le_of_lt (sm100 (by rw [List.length_append]; simp; omega))) fun p7 H7 np7 s7 e7 => ?_
      walk_at "rd"
      refine newL0 (Nat.le_of_ble_eq_true rfl) fun p8 H8 np8 s8 e8 => ?_
      walk_at "rd"
      refine newL0 (Nat.le_of_ble_eq_true rfl) fun p9 H9 np9 s9 e9 => ?_
      have u59 := s6.trans (s7.trans (s8.trans s9))
      have u79 := s8.trans s9
      have u39 := s4.trans (s5.trans u59)
      walk_at "rd"
      refine i_makeD (st := stM 2 n 0) (en := enM 2 n) ⟨p8, _, rfl, s9 _ _ e8, .cons ⟨p5, _, rfl, u59 _ _ e5, Paired.snoc (Paired.mapP pr2 fun _ _ zz => (zz.same s3).same u39) ⟨t4, rfl, u59 _ _ (s5 _ _ et4)⟩⟩ (.cons ⟨p7, _, rfl, u79 _ _ e7, Paired.snoc (Paired.mapP pr3 fun _ _ zz => zz.same u39) ⟨t6, rfl, u79 _ _ (s7 _ _ et6)⟩⟩ .nil)⟩ ⟨p9, rfl, e9⟩ (good_M wo) (fun v H10 s10 D => ?_)
      exact k2 n 0 rfl wo v H10 (s2.trans (s3.trans (u39.trans s10))) D
theorem ok_rl {C XS : Addr} (F : Fun K "run_lengths" "run_lengths" s_run_lengths f fd) (z : Z mg) (x_check_signs : CalX P w K mg base "check_signs" ["signs"] 3 (spCkS K XS)) (c_letter_of : Cal P w K mg base "letter_of" ["place"] 1 spLet) {t2 : Tok} (g_MOST_ROUNDS : mg "MOST_ROUNDS" = some (.int 2 t2)) (m_Decoder : C8.Mak P w K mg base 5 "Decoder" C (spIni C) []) : FnOk P w K mg base (L2.CX P w) 7 f fd ["signs"] (spMk K C XS 3) := by
  refine Sw.Fun.okX F sc_run_lengths (fun vs H Q E h => ?_) (fun cdv A outer s H vs Q E hr h tk => ?_)
  · obtain ⟨x, d, rfl, _⟩ := h; rfl
  · obtain ⟨x, d, rfl, hx, k1, k2⟩ := h
    refine ⟨_, (pss_cons (ps_expr (pe_calX x_check_signs hr tk (pa_cons (pv 0) pa_nil)))
      (pss_cons (ps_set (i := 1) sc_run_lengths.nd rfl (.inl rfl) (pe_lst (pa_cons (pe_lc (own := [("sign", 2)]) (g := gName 2) (tt := tYes) rfl sc_run_lengths.nd (pi_range1 (by rfl) z.range (pa_cons (pv 0) pa_nil)) (blkOk_by (own := [("sign", 2)]) (N := n_run_lengths) (sc := defScope s_run_lengths) (by decide +kernel)) (fun _ _ _ _ _ => (pg_name (i := 2) sc_run_lengths.nd rfl (.inl rfl))) (fun _ _ _ _ _ => pts_nil) (fun _ _ _ _ _ => (pe_tup (pa_cons (pe_op op_add (pv 2) pe_int) (pa_cons (pe_strS (l := []) (by decide +kernel)) pa_nil))))) pa_nil)))
      (pss_cons (ps_for PassesOwn.leaving rfl (pi_range1 (by rfl) z.range (pa_cons (pv 0) pa_nil)) (pg_name (i := 3) sc_run_lengths.nd rfl (.inr rfl))
        (pss_one (ps_expr (pe_bm PySem.F.plainAttrs_list PySem.F.slot_list_append PySem.F.type_list_append mt_append (pv 1) (pa_cons (pe_lc (own := [("sign", 2)]) (g := gName 2) (tt := tYes) rfl sc_run_lengths.nd (pi_range1 (by rfl) z.range (pa_cons (pv 0) pa_nil)) (blkOk_by (own := [("sign", 2)]) (N := n_run_lengths) (sc := defScope s_run_lengths) (by decide +kernel)) (fun _ _ _ _ _ => (pg_name (i := 2) sc_run_lengths.nd rfl (.inl rfl))) (fun _ _ _ _ _ => pts_nil) (fun _ _ _ _ _ => (pe_tup (pa_cons pe_int (pa_cons (pe_op op_mulS (pe_cal c_letter_of hr (pa_cons (pv 3) pa_nil)) (pe_op op_add (pe_callB (call_min2N rfl) (by rfl) z.min_ (by decide +kernel) (pa_cons (pv 2) (pa_cons (pe_glob (v := .int 2) rfl g_MOST_ROUNDS ⟨_, rfl⟩) pa_nil))) pe_int)) pa_nil))))) pa_nil)))))
      (pss_one (ps_ret (C8.pe_mk m_Decoder hr (by decide) (by rfl) (pa_cons (pv 0) (pa_cons (pv 1) (pa_cons (pe_lst (pa_cons (pe_strS (l := []) (by decide +kernel)) (StX.pa_star (pe_lc (own := [("sign", 2)]) (g := gName 2) (tt := tYes) rfl sc_run_lengths.nd (pi_range1 (by rfl) z.range (pa_cons (pv 0) pa_nil)) (blkOk_by (own := [("sign", 2)]) (N := n_run_lengths) (sc := defScope s_run_lengths) (by decide +kernel)) (fun _ _ _ _ _ => (pg_name (i := 2) sc_run_lengths.nd rfl (.inl rfl))) (fun _ _ _ _ _ => pts_nil) (fun _ _ _ _ _ => pe_non)) pa_nil))) pa_nil))))))))), ?_⟩
    walk_at "rd"
    refine ⟨x, d, rfl, hx, fun e H1 s1 => ?_, fun e => ?_⟩
    case refine_2 =>
      rcases k1 with ⟨e', _⟩ | ⟨_, k⟩
      · rw [e] at e'; cases e'
      · exact k
    obtain ⟨n, rfl, n1, n5⟩ := isG_nat e
    cases hx.intI
    have wo : wayOk 3 n 0 := ⟨n1, n5, by omega, by omega⟩
    walk_at "rd"
    refine i_rng (by omega) (by omega) ?_
    rw [Int.toNat_natCast]
    refine go_lc walk_rangeZ (fun p i Hx => EUp H1 p ((List.range i).map fun i => some (i + 1, [])) Hx) (fun p np => EUp.nil np) (fun _ _ _ _ _ => trivial) (fun p np i v Hx Hy hi q y => ?_) (fun rp H2 nrp q => ?_)
    · obtain ⟨rfl, rfl⟩ := y
      rw [range_snoc]
      walk_at "rd"
      refine ⟨rfl, i_yes (iteT ?_)⟩
      walk_at "rd"
      refine newT0 (Nat.le_of_ble_eq_true rfl) fun t H3 nt s3 et => ?_
      exact q.push np s3 (q := i + 1) (by rw [et]; congr 3) (by simp; omega)
    obtain ⟨R2, s2⟩ := q.row
    walk_at "rd"
    refine newL0 (Nat.le_of_ble_eq_true rfl) fun sp H3 nsp s3 esp => ?_
    have rsp : rp ≠ sp := fun q => by obtain ⟨r, vs, e, er, _⟩ := R2; cases e; rw [q, nsp] at er; cases er
    walk_at "rd"
    refine i_rng (by omega) (by omega) ?_
    rw [Int.toNat_natCast]
    refine go_for walk_rangeZ (fun i σ Hx => ∃ (vs : List V) (u2 u3 : Option V), σ = [some (.int n), some (.ref sp), u2, u3] ∧ SUp sp (rw3 n :: (List.range i).map (rw3r n)) vs Hx ∧ Same H2 Hx) ⟨_, none, none, rfl, ⟨esp, .cons ⟨R2.same s3, fun e => rsp (V.ref.inj e)⟩ .nil⟩, s3⟩ (fun _ _ _ _ _ => trivial) (fun r v σ Hx Hy hr' h y => ?_) (fun σ Hx h => ?_)
    · obtain ⟨vs, u2, u3, rfl, S, sx⟩ := h
      obtain ⟨rfl, rfl⟩ := y
      have es := S.e
      have lvs : vs.length ≤ 6 := by have := Paired.length S.pr; simp at this; omega
      walk_at "rd"
      refine i_rng (by omega) (by omega) ?_
      rw [Int.toNat_natCast]
      refine go_lc walk_rangeZ (fun p i Hz => EUp Hy p ((List.range i).map fun i => some (0, List.replicate (min i 2 + 1) (97 + r))) Hz) (fun p np => EUp.nil np) (fun _ _ _ _ _ => trivial) (fun p np i v Hz Hw hi q y => ?_) (fun rr H4 nrr q => ?_)
      · obtain ⟨rfl, rfl⟩ := y
        rw [range_snoc]
        walk_at "rd"
        refine ⟨rfl, i_yes (iteT ?_)⟩
        walk_at "rd"
        refine ⟨r, rfl, by omega, ?_⟩
        walk_at "rd"
        rw [show min (i : Int) 2 + 1 = ((min i 2 + 1 : Nat) : Int) by omega]
        refine i_mulS (n := min i 2 + 1) (by simp) (by omega) ?_
        rw [show (List.replicate (min i 2 + 1) [97 + r]).flatten = List.replicate (min i 2 + 1) (97 + r) from flat_rep _ _]
        walk_at "rd"
        refine newT0 (Nat.le_of_ble_eq_true rfl) fun t H3 nt s3 et => ?_
        exact q.push np s3 et (by simp; omega)
      obtain ⟨R4, s4⟩ := q.row
      have S4 := S.same s4
      have es4 := s4 _ _ es
      have nrs : rr ≠ sp := fun q => by rw [q, es] at nrr; cases nrr
      walk_at "rd"
      refine i_append es4 (sm100 (by omega)) ?_
      refine ⟨vs ++ [.ref rr], _, _, rfl, ?_, Same.set_new (sx.trans s4) nsp⟩
      rw [range_snoc]
      exact S4.push (R := rw3r n r) R4 nrs
    · obtain ⟨vs, u2, u3, rfl, S, sx⟩ := h
      have es := S.e
      walk_at "rd"
      refine i_rng (by omega) (by omega) ?_
      rw [Int.toNat_natCast]
      refine go_lc walk_rangeZ (fun p i Hz => Hz p = some (.lst (List.replicate i .non)) ∧ Same Hx Hz) (fun p np => ⟨upd_same, same_upd np⟩) (fun _ _ _ _ _ => trivial) (fun p np i v Hz Hw hi q y => ?_) (fun np' H5 nnp q => ?_)
      · obtain ⟨rfl, rfl⟩ := y
        obtain ⟨ez, sz⟩ := q
        walk_at "rd"
        refine ⟨rfl, i_yes (iteT ?_)⟩
        walk_at "rd"
        refine ⟨_, ez, sm100 (by simp; omega), ?_, Same.set_new sz np⟩
        rw [upd_same, List.replicate_succ']
      obtain ⟨e5, s5⟩ := q
      walk_at "rd"
      refine ⟨np', _, rfl, .inr (sqL_of e5), ?_⟩
      walk_at "rd"
      refine newL0 (Nat.le_of_lt (sm100 (by simp; omega))) fun ep H6 nep s6 e6 => ?_
      walk_at "rd"
      refine i_makeD (st := stM 3 n 0) (en := enM 3 n) ((S.st).same (s5.trans s6)) ⟨ep, rfl, ?_⟩ (good_M wo) (fun v H10 s10 D => ?_)
      · rw [e6]; simp [enM]
      · exact k2 n 0 rfl wo v H10 (s1.trans (s2.trans (sx.trans (s5.trans (s6.trans s10))))) D
end
end Sw
namespace Sw
open PySem PySem.Spec PyProof.Rows L2
local macro_rules | `(tactic| walk_at "hp") => `(tactic| first
  | (with_reducible assumption) | (with_reducible exact upd_same)
  | ((with_reducible refine' upd_old ?q1 ?q2); (case q1 => (with_reducible assumption)); (case q2 => walk_at "hp"))
  | ((with_reducible refine' Same.at ?q1 ?q2); (case q1 => (with_reducible assumption)); (case q2 => walk_at "hp"))
  | ((with_reducible refine' upd_skip ?q1 ?q2); (case q1 => walk_at "ne"); (case q2 => walk_at "hp"))
  | fail)
local macro_rules | `(tactic| walk_at "ne") => `(tactic| first
  | (with_reducible assumption) | (with_reducible exact Ne.symm (by assumption))
  | ((with_reducible refine' ne_of_none ?q1 ?q2); (case q2 => (with_reducible assumption)); (case q1 => walk_at "hp"))
  | fail)
local macro_rules | `(tactic| walk_at "ci") => `(tactic| first | assumption | (show (0 : Int) < _; first | decide | (with_reducible omega)) | exact ⟨by decide, by decide⟩ | exact .inl ⟨by decide, by decide⟩ | exact .inr ⟨by decide, by decide⟩)
local macro_rules | `(tactic| walk_at "ln") => `(tactic| first | (with_reducible assumption) | (with_reducible omega) | (simp only [List.length_append, List.length_take, List.length_drop, List.length_reverse, List.length_cons, List.length_nil]; with_reducible omega))
local macro_rules | `(tactic| walk_at "rd1") => `(tactic| first
  | (with_reducible refine i_seq ?_) | (with_reducible refine i_asg ?_) | (with_reducible refine i_ret ?_) | (with_reducible refine i_name ?_) | ((with_reducible refine' i_var ?q1 ?_); (case q1 => exact rfl)) | (with_reducible refine i_c ?_) | (with_reducible refine i_op ?_) | (with_reducible refine i_un ?_)
  | (with_reducible refine i_rI0 ?_) | (with_reducible refine i_cb ?_) | (with_reducible refine i_cons ?_) | (with_reducible refine i_nil ?_) | (with_reducible refine i_call ?_) | (with_reducible refine i_if ?_) | (with_reducible refine i_ifE ?_) | (with_reducible refine i_test ?_) | (with_reducible refine i_bl ?_)
  | (with_reducible refine i_and ?_) | (with_reducible refine i_or ?_) | (with_reducible refine i_not ?_) | (with_reducible refine i_lstM ?_) | (with_reducible refine i_lstLM ?_) | (with_reducible refine i_tupM ?_) | (with_reducible refine i_next ?_) | (with_reducible refine i_drop ?_) | (with_reducible refine i_sub ?_)
  | (with_reducible refine i_bm ?_) | (with_reducible refine i_sl ?_) | (with_reducible refine i_part ?_) | (with_reducible refine i_nopart ?_) | (with_reducible refine i_exI ?_) | (with_reducible refine i_chain ?_) | ((with_reducible refine' i_aug ?q1 ?_); (case q1 => exact rfl)) | (with_reducible refine i_ip ?_)
  | (with_reducible refine i_par ?_) | (with_reducible refine i_pair ?_) | (with_reducible refine i_andV ?_) | (with_reducible refine i_orV ?_) | (with_reducible refine i_notV ?_) | (with_reducible refine i_m1 ?_) | (with_reducible refine i_str ?_)
  | (with_reducible refine iteF ?_) | (with_reducible refine iteT ?_) | (with_reducible refine iteNT ?_) | (with_reducible refine iteNF ?_) | (with_reducible refine i_tyS ?_) | (with_reducible refine i_tB ?_) | (with_reducible refine i_retN ?_) | (with_reducible refine i_par3 ?_) | (with_reducible refine i_trip ?_) | (with_reducible refine i_gCons ?_) | (with_reducible refine i_gNil ?_) | (with_reducible refine i_lstRg ?_) | (with_reducible refine i_rg1 ?_)
  | (with_reducible refine i_lc ?_) | (with_reducible refine i_for ?_) | (with_reducible refine i_iList ?_) | (with_reducible refine i_iTup ?_) | (with_reducible refine i_iStr ?_) | (with_reducible refine i_iRng1 ?_) | (with_reducible refine i_iEnS ?_)
  | ((with_reducible refine' i_ixTH ?q1 ?q2 ?_); (case q1 => walk_at "hp"); (case q2 => exact rfl))
  | ((with_reducible refine' i_ixLH ?q1 ?q2 ?_); (case q1 => walk_at "hp"); (case q2 => exact rfl))
  | ((with_reducible refine i_addS ?q1 ?_); (case q1 => walk_at "ln")) | ((with_reducible refine i_lenSS ?q1 ?_); (case q1 => walk_at "ln")) | ((with_reducible refine i_slFrom ?q1 ?q2 ?_); (case q1 => walk_at "ln"); (case q2 => walk_at "ln")) | ((with_reducible refine i_slTo ?q1 ?q2 ?_); (case q1 => walk_at "ln"); (case q2 => walk_at "ln"))
  | ((with_reducible refine' i_tyL ?q1 ?_); (case q1 => walk_at "hp"))
  | ((with_reducible refine' i_gTupH ?q1 ?q2 ?_); (case q1 => walk_at "hp"); (case q2 => exact rfl))
  | (with_reducible refine i_dnewM ?_) | (with_reducible refine i_init ?_) | (with_reducible refine i_fst ?_) | (with_reducible refine i_mk ?_) | (with_reducible refine i_raise ?_) | (with_reducible refine i_callS ?_) | (with_reducible refine i_kwS ?_)
  | (with_reducible refine i_revT ?_) | (with_reducible refine i_kw ?_) | ((with_reducible refine' ⟨_, _, rfl, sqT_of ?q1, ?_⟩); (case q1 => walk_at "hp"))
  | (with_reducible refine i_revS ?_) | ((with_reducible refine i_revSS ?q1 ?_); (case q1 => walk_at "ln"))
  | (with_reducible refine i_startS ?_) | (with_reducible refine i_inSg ?_) | (with_reducible refine i_absN ?_) | (with_reducible refine i_min2 ?_) | (with_reducible refine i_max2 ?_) | (with_reducible refine i_min3 ?_) | (with_reducible refine i_intN ?_) | (with_reducible refine i_intNB ?_)
  | ((with_reducible refine' i_lenL ?q1 ?_); (case q1 => walk_at "hp")) | ((with_reducible refine' i_lenT ?q1 ?_); (case q1 => walk_at "hp"))
  | (with_reducible refine i_eqI ?_) | (with_reducible refine i_neI ?_) | (with_reducible refine i_eqS ?_) | (with_reducible refine i_neS ?_) | (with_reducible refine i_isNoI ?_) | (with_reducible refine i_isNoN ?_) | (with_reducible refine i_isNoR ?_)
  | ((with_reducible refine i_pow ?q1 ?q2 ?q3 ?_); (case q1 => decide); (case q2 => decide); (case q3 => (with_reducible omega)))
  | ((with_reducible refine i_rI ?q1 ?_); (case q1 => walk_at "ci"))
  | (with_reducible refine Or.inl ⟨_, rfl, ?_⟩) | (with_reducible refine Or.inr ⟨_, rfl, ?_⟩) | (with_reducible refine ⟨_, rfl, ?_⟩) | (with_reducible refine ⟨_, _, rfl, ?_⟩) | (with_reducible refine ⟨_, _, rfl, rfl, ?_⟩)
  | ((with_reducible refine' ⟨_, _, rfl, Or.inl (sqL_of ?q1), ?_⟩); (case q1 => walk_at "hp")) | ((with_reducible refine' ⟨_, _, rfl, Or.inr (sqT_of ?q1), ?_⟩); (case q1 => walk_at "hp")) | (with_reducible refine i_dget ?_) | (with_reducible refine i_disp1T ?_) | (with_reducible refine i_dcT ?_) | (with_reducible refine i_dnewT ?_) | (with_reducible refine i_fld ?_) | (with_reducible refine i_sFld ?_) | (with_reducible refine i_make ?_) | (with_reducible refine i_meth ?_) | (with_reducible refine i_star ?_) | (with_reducible refine i_isNoS ?_) | (with_reducible refine i_lc2 ?_) | fail)
local macro_rules | `(tactic| walk_at "rd") => `(tactic| repeat' walk_at "rd1")

theorem call_dictPB {X : Cx} {K : PySem.W.Frag} (hcalm : X.calm = true) (e : X.K = K) : CallR X (.type "dict") (fun xs H Q => ∃ (a : Addr) (ps : List Addr) (kvs : List (Key × V)), xs = [.ref a] ∧ SqL K H a (ps.map V.ref) ∧ Paired (fun p kv => SqT K H p [kV kv.1, kv.2]) ps kvs ∧
    ∀ p, H p = none → Q (.ref p) (upd H p (.dK (mergeK [] kvs)))) := by
  subst e
  exact call_dictP hcalm
def whB (l m : Int) : PyData → Bool
  | .int i => decide (l ≤ i) && decide (i ≤ m)
  | _ => false
/-- _law_whole(thing, least, most) -/
def spWh (K : PySem.W.Frag) : Sp := fun vs H Q _ => ∃ x d l m, vs = [x, .int l, .int m] ∧ De K H x d ∧ Q (.bl (whB l m d)) H
/-- an odd value -/
structure Odd (K : PySem.W.Frag) (G : Hp) (v : V) (d : PyData) : Prop where
  de : De K G v d
  sd : Sd 3 300 d
  ls : ∀ ds, d = .list ds → ds = [] ∨ ds = [.int 1]
theorem Odd.same {K : PySem.W.Frag} {G G' : Hp} {v : V} {d : PyData} (h : Odd K G v d) (s : Same G G') : Odd K G' v d := ⟨h.de.same s, h.sd, h.ls⟩
theorem sd_d11 : Sd 2 40 (.dict [(.int 1, .int 1)]) := ⟨by simp [PyData.depth, PyData.depthKv], by simp [PyData.weight, PyData.weightKv]; decide, by simp [PyData.showable, PyData.showableKv]; decide, by simp [PyData.leavesShort, PyData.leavesShortKv]; have := (sd_int (i := 1) (by decide)).ls; simpa only [PyData.leavesShort, decide_eq_true_eq] using this, by simp [sok]⟩
theorem Odd.int {K : PySem.W.Frag} {G : Hp} {i : Int} (h : i.natAbs < 10 ^ 40) : Odd K G (.int i) (.int i) := ⟨.int _, (sd_int h).mono (by omega) (by omega), fun ds e => by cases e⟩
/-- _law_odd(box, most) -/
def spOdd (K : PySem.W.Frag) : Sp := fun vs H Q _ => ∃ (b : Addr) (m d0 : Int), vs = [.ref b, .int m] ∧ -1 ≤ m ∧ m ≤ 10 ∧ BoxAt H b d0 ∧ d0 + 14 ≤ 1000000 ∧
  ∀ (v : V) (d : PyData) (H' : Hp), Odd K (L2.del H' b) v d → BoxAt H' b (d0 + 14) → SB b H H' → (∀ a ds, v = .ref a → d = .list ds → H a = none) → Q v H'
/-- _law_copy(thing) -/
def spCopy (K : PySem.W.Frag) : Sp := fun vs H Q _ => ∃ v d, vs = [v] ∧ Odd K H v d ∧ ∀ v' H', Same H H' → Odd K H' v' d → (∀ a, v' = .ref a → v = v' ∧ tyB "list" d = false ∨ H a = none) → Q v' H'
section
variable {P : Program} {w : World} {K : PySem.W.Frag} {mg : Str → Option Value} {base : Heap} {f : Addr} {fd : FuncData}
theorem ok_whole (F : Fun K "_law_whole" "_law_whole" s__law_whole f fd) (z : Z mg) : FnOk P w K mg base CX0 1 f fd ["thing", "least", "most"] (spWh K) := by
  refine F.ok sc__law_whole (fun vs H Q E h => ?_) (fun cdv A outer s H vs Q E hr h => ?_)
  · obtain ⟨x, d, l, m, rfl, _⟩ := h; rfl
  · obtain ⟨x, d, l, m, rfl, hx, k⟩ := h
    refine ⟨_, (pss_one (ps_ret (pe_and (pe_callB call_isi (by rfl) z.isinstance (by decide +kernel) (pa_cons (pv 0) (pa_cons (pe_bltn (v := .ty "int") (by rfl) z.int (by decide +kernel) rfl) pa_nil))) (pe_and (pe_not (pe_callB call_isi (by rfl) z.isinstance (by decide +kernel) (pa_cons (pv 0) (pa_cons (pe_bltn (v := .ty "bool") (by rfl) z.bool (by decide +kernel) rfl) pa_nil)))) (pe_one (pe_chain op_le op_le (pv 1) (pv 0) (pv 2))))))), ?_⟩
    walk_at "rd"
    refine hx.isi (by simp) ?_
    walk_at "rd"
    rcases e : tyB "int" d with _ | _
    · rw [show whB l m d = false by cases d <;> first | rfl | cases e] at k
      walk_at "rd"
      exact k
    · walk_at "rd"
      refine hx.isi (by simp) ?_
      walk_at "rd"
      rcases e2 : tyB "bool" d with _ | _
      · obtain ⟨i, rfl, rfl⟩ := hx.intB (by rw [← tyB_int, e, e2]; rfl)
        simp only [whB] at k
        walk_at "rd"
        refine iteB (fun q => ?_) (fun q => ?_)
        · rw [decide_eq_true q] at k
          walk_at "rd"
          exact k
        · rw [decide_eq_false q] at k
          exact k
      · rw [show whB l m d = false by cases d <;> first | rfl | cases e2] at k
        walk_at "rd"
        exact k
theorem ok_odd (F : Fun K "_law_odd" "_law_odd" s__law_odd f fd) (z : Z mg) (c__law_take : Cal P w K mg base "_law_take" ["box", "many"] 1 spTake) : FnOk P w K mg base CX0 2 f fd ["box", "most"] (spOdd K) := by
  refine F.ok sc__law_odd (fun vs H Q E h => ?_) (fun cdv A outer s H vs Q E hr h => ?_)
  · obtain ⟨b, m, d0, rfl, _⟩ := h; rfl
  · obtain ⟨b, m, d0, rfl, m0, m9, B, hd, k⟩ := h
    refine ⟨_, (pss_cons (ps_set (i := 2) sc__law_odd.nd rfl (.inl rfl) (pe_lstL (pa_cons (pe_op op_add (pv 1) pe_int) (pa_cons (pe_un un_neg pe_int) (pa_cons pe_bl (pa_cons pe_bl (pa_cons pe_non (pa_cons (pe_strS (l := [49]) (by decide +kernel)) (pa_cons (pe_tup (pa_cons pe_int pa_nil)) (pa_cons (pe_lstL (pa_cons pe_int pa_nil)) (pa_cons (pe_lstL pa_nil) (pa_cons (pe_op op_pow pe_int pe_int) (pa_cons (pe_un un_neg (pe_op op_pow pe_int pe_int)) (pa_cons (pe_strS (l := []) (by decide +kernel)) (pa_cons (pe_callTy (call_dictPB rfl rfl) (by rfl) z.dict (by decide +kernel) (pa_cons (pe_lstL (pa_cons (pe_tup (pa_cons pe_int (pa_cons pe_int pa_nil))) pa_nil)) pa_nil)) (pa_cons pe_int pa_nil))))))))))))))))
      (pss_one (ps_ret (pe_ix ix_list (pv 2) (pe_cal c__law_take hr (pa_cons (pv 0) (pa_cons pe_int pa_nil))) (fun _ _ => rfl))))), ?_⟩
    walk_at "rd"
    refine i_rU ?_
    walk_at "rd"
    refine newT B (Nat.le_of_ble_eq_true rfl) fun p1 H1 B1 s1 e1 t1 => ?_
    walk_at "rd"
    refine newLL B1 (Nat.le_of_ble_eq_true rfl) fun p2 H2 l2 n2 B2 s2 e2 t2 => ?_
    walk_at "rd"
    refine newLL B2 (Nat.le_of_ble_eq_true rfl) fun p3 H3 l3 n3 B3 s3 e3 t3 => ?_
    walk_at "rd"
    refine i_rU ?_
    walk_at "rd"
    refine newT B3 (Nat.le_of_ble_eq_true rfl) fun p4 H4 B4 s4 e4 t4 => ?_
    walk_at "rd"
    refine newLL B4 (Nat.le_of_ble_eq_true rfl) fun p5 H5 l5 n5 B5 s5 e5 t5 => ?_
    walk_at "rd"
    refine ⟨p5, [p4], [(.inl 1, .int 1)], rfl, sqL_of (del_sub _ _ e5), .cons (sqT_of (del_sub _ _ (s5 _ _ e4))) .nil, fun p6 n6 => ?_⟩
    have B6 := B5.same (same_upd (o := .dK (mergeK [] [(.inl 1, .int 1)])) n6)
    have s6 := del_sb (b := b) (SB.of (same_upd (o := .dK (mergeK [] [(.inl 1, .int 1)])) n6))
    have t6 := same_upd (o := .dK (mergeK [] [(.inl 1, .int 1)])) n6
    have e6 : L2.del (upd H5 p6 (.dK (mergeK [] [(.inl 1, .int 1)]))) b p6 = some (.dK [(.inl 1, .int 1)]) := del_new B5 n6
    generalize upd H5 p6 (.dK (mergeK [] [(.inl 1, .int 1)])) = H6 at *
    walk_at "rd"
    refine newLL B6 (Nat.le_of_ble_eq_true rfl) fun p7 H7 l7 n7 B7 s7 e7 t7 => ?_
    have n7b := box_ne B6 n7
    walk_at "rd"
    refine ⟨b, 14, _, rfl, B7, by omega, by omega, by omega, fun r H8 r0 r1 B8 s8 => ?_⟩
    have e78 := s8 _ _ n7b (del_sub _ _ e7)
    have s78 := s7.trans (del_sb s8)
    have e1 := s78 _ _ (s6 _ _ (s5 _ _ (s4 _ _ (s3 _ _ (s2 _ _ e1)))))
    have e2 := s78 _ _ (s6 _ _ (s5 _ _ (s4 _ _ (s3 _ _ e2))))
    have e3 := s78 _ _ (s6 _ _ (s5 _ _ (s4 _ _ e3)))
    have e6 := s78 _ _ e6
    have sf : SB b H H8 := (SB.of (t1.trans (t2.trans (t3.trans (t4.trans (t5.trans (t6.trans t7))))))).trans s8
    obtain ⟨x, d, ex, hx, hf⟩ : ∃ x d, ([.int (m + 1), .int (-1), .bl true, .bl false, .non, .str (S [49]), .ref p1, .ref p2, .ref p3, .int (10 ^ 30), .int (-(10 ^ 30)), .str (S []), .ref p6, .int 0] : List V)[r.toNat]? = some x ∧ Odd K (L2.del H8 b) x d ∧ ∀ a ds, x = .ref a → d = .list ds → H a = none := by
      have hr : r = 0 ∨ r = 1 ∨ r = 2 ∨ r = 3 ∨ r = 4 ∨ r = 5 ∨ r = 6 ∨ r = 7 ∨ r = 8 ∨ r = 9 ∨ r = 10 ∨ r = 11 ∨ r = 12 ∨ r = 13 := by omega
      rcases hr with rfl | rfl | rfl | rfl | rfl | rfl | rfl | rfl | rfl | rfl | rfl | rfl | rfl | rfl
      · exact ⟨_, _, rfl, .int (by omega), fun a ds e => by cases e⟩
      · exact ⟨_, _, rfl, .int (by decide), fun a ds e => by cases e⟩
      · exact ⟨_, _, rfl, ⟨.bl _, (sd_bl _).mono (by omega) (by omega), fun ds e => by cases e⟩, fun a ds e => by cases e⟩
      · exact ⟨_, _, rfl, ⟨.bl _, (sd_bl _).mono (by omega) (by omega), fun ds e => by cases e⟩, fun a ds e => by cases e⟩
      · exact ⟨_, _, rfl, ⟨.non, sd_non.mono (by omega) (by omega), fun ds e => by cases e⟩, fun a ds e => by cases e⟩
      · exact ⟨_, _, rfl, ⟨.str _, (sd_str (by decide)).mono (by omega) (by decide), fun ds e => by cases e⟩, fun a ds e => by cases e⟩
      · exact ⟨_, _, rfl, ⟨.tup (sqT_of e1) (.cons (.int _) .nil), (sd_tup' (.cons (sd_int (by decide)) .nil)).mono (by omega) (by omega), fun ds e => by cases e⟩, fun a ds _ e => by cases e⟩
      · exact ⟨_, _, rfl, ⟨.lst e2 l2 (.cons (.int _) .nil), (sd_lst' (.cons (sd_int (by decide)) .nil)).mono (by omega) (by omega), fun ds e => by cases e; exact .inr rfl⟩, fun a ds e _ => by cases e; exact t1.free n2⟩
      · exact ⟨_, _, rfl, ⟨.lst e3 l3 .nil, (sd_lst' (n := 0) .nil).mono (by omega) (by omega), fun ds e => by cases e; exact .inl rfl⟩, fun a ds e _ => by cases e; exact (t1.trans t2).free n3⟩
      · exact ⟨_, _, rfl, .int (by decide), fun a ds e => by cases e⟩
      · exact ⟨_, _, rfl, .int (by decide), fun a ds e => by cases e⟩
      · exact ⟨_, _, rfl, ⟨.str _, (sd_str (l := []) (by simp)).mono (by omega) (by simp), fun ds e => by cases e⟩, fun a ds e => by cases e⟩
      · exact ⟨_, _, rfl, ⟨.dict e6 (.cons (.int _) .nil), sd_d11.mono (by omega) (by omega), fun ds e => by cases e⟩, fun a ds _ e => by cases e⟩
      · exact ⟨_, _, rfl, .int (by decide), fun a ds e => by cases e⟩
    refine i_ixLv e78 r0 ex ?_
    exact k _ _ _ hx (B8.mono (by omega)) sf hf
theorem ok_copy (F : Fun K "_law_copy" "_law_copy" s__law_copy f fd) (z : Z mg) : FnOk P w K mg base CX0 1 f fd ["thing"] (spCopy K) := by
  refine F.ok sc__law_copy (fun vs H Q E h => ?_) (fun cdv A outer s H vs Q E hr h => ?_)
  · obtain ⟨v, d, rfl, _⟩ := h; rfl
  · obtain ⟨v, d, rfl, o, k⟩ := h
    refine ⟨_, (pss_one (ps_ret (pe_ifExp (pt_val (pe_callB call_isi (by rfl) z.isinstance (by decide +kernel) (pa_cons (pv 0) (pa_cons (pe_bltn (v := .ty "list") (by rfl) z.list (by decide +kernel) rfl) pa_nil)))) (pe_callTy call_listL (by rfl) z.list (by decide +kernel) (pa_cons (pv 0) pa_nil)) (pv 0)))), ?_⟩
    walk_at "rd"
    refine o.de.isi (n := "list") (by simp) ?_
    walk_at "rd"
    rcases e : tyB "list" d with _ | _
    · walk_at "rd"
      exact k v H (Same.refl _) o fun a ea => .inl ⟨rfl, e⟩
    · obtain ⟨ds, rfl⟩ : ∃ ds, d = .list ds := by cases d <;> first | exact ⟨_, rfl⟩ | cases e
      obtain ⟨a, xs, rfl, ea, la, hds⟩ := o.de.lstI
      walk_at "rd"
      refine i_listL (.inl (sqL_of ea)) fun c nc lc => ?_
      exact k _ _ (same_upd nc) ⟨.lst upd_same lc (hds.same (same_upd nc)), o.sd, o.ls⟩ fun a' ea' => .inr (by cases ea'; exact nc)
end
end Sw
namespace Sw
open PySem PySem.Spec PyProof.Rows L2
local macro_rules | `(tactic| walk_at "hp") => `(tactic| first
  | (with_reducible assumption) | (with_reducible exact upd_same)
  | ((with_reducible refine' upd_old ?q1 ?q2); (case q1 => (with_reducible assumption)); (case q2 => walk_at "hp"))
  | ((with_reducible refine' Same.at ?q1 ?q2); (case q1 => (with_reducible assumption)); (case q2 => walk_at "hp"))
  | ((with_reducible refine' upd_skip ?q1 ?q2); (case q1 => walk_at "ne"); (case q2 => walk_at "hp"))
  | fail)
local macro_rules | `(tactic| walk_at "ne") => `(tactic| first
  | (with_reducible assumption) | (with_reducible exact Ne.symm (by assumption))
  | ((with_reducible refine' ne_of_none ?q1 ?q2); (case q2 => (with_reducible assumption)); (case q1 => walk_at "hp"))
  | fail)
local macro_rules | `(tactic| walk_at "ci") => `(tactic| first | assumption | (show (0 : Int) < _; first | decide | (with_reducible omega)) | exact ⟨by decide, by decide⟩ | exact .inl ⟨by decide, by decide⟩ | exact .inr ⟨by decide, by decide⟩)
local macro_rules | `(tactic| walk_at "ln") => `(tactic| first | (with_reducible assumption) | (with_reducible omega) | (simp only [List.length_append, List.length_take, List.length_drop, List.length_reverse, List.length_cons, List.length_nil]; with_reducible omega))
local macro_rules | `(tactic| walk_at "rd1") => `(tactic| first
  | (with_reducible refine i_seq ?_) | (with_reducible refine i_asg ?_) | (with_reducible refine i_ret ?_) | (with_reducible refine i_name ?_) | ((with_reducible refine' i_var ?q1 ?_); (case q1 => exact rfl)) | (with_reducible refine i_c ?_) | (with_reducible refine i_op ?_) | (with_reducible refine i_un ?_)
  | (with_reducible refine i_rI0 ?_) | (with_reducible refine i_cb ?_) | (with_reducible refine i_cons ?_) | (with_reducible refine i_nil ?_) | (with_reducible refine i_call ?_) | (with_reducible refine i_if ?_) | (with_reducible refine i_ifE ?_) | (with_reducible refine i_test ?_) | (with_reducible refine i_bl ?_)
  | (with_reducible refine i_and ?_) | (with_reducible refine i_or ?_) | (with_reducible refine i_not ?_) | (with_reducible refine i_lstM ?_) | (with_reducible refine i_lstLM ?_) | (with_reducible refine i_tupM ?_) | (with_reducible refine i_next ?_) | (with_reducible refine i_drop ?_) | (with_reducible refine i_sub ?_)
  | (with_reducible refine i_bm ?_) | (with_reducible refine i_sl ?_) | (with_reducible refine i_part ?_) | (with_reducible refine i_nopart ?_) | (with_reducible refine i_exI ?_) | (with_reducible refine i_chain ?_) | ((with_reducible refine' i_aug ?q1 ?_); (case q1 => exact rfl)) | (with_reducible refine i_ip ?_)
  | (with_reducible refine i_par ?_) | (with_reducible refine i_pair ?_) | (with_reducible refine i_andV ?_) | (with_reducible refine i_orV ?_) | (with_reducible refine i_notV ?_) | (with_reducible refine i_m1 ?_) | (with_reducible refine i_str ?_)
  | (with_reducible refine iteF ?_) | (with_reducible refine iteT ?_) | (with_reducible refine iteNT ?_) | (with_reducible refine iteNF ?_) | (with_reducible refine i_tyS ?_) | (with_reducible refine i_tB ?_) | (with_reducible refine i_retN ?_) | (with_reducible refine i_par3 ?_) | (with_reducible refine i_trip ?_) | (with_reducible refine i_gCons ?_) | (with_reducible refine i_gNil ?_) | (with_reducible refine i_lstRg ?_) | (with_reducible refine i_rg1 ?_)
  | (with_reducible refine i_lc ?_) | (with_reducible refine i_for ?_) | (with_reducible refine i_iList ?_) | (with_reducible refine i_iTup ?_) | (with_reducible refine i_iStr ?_) | (with_reducible refine i_iRng1 ?_) | (with_reducible refine i_iEnS ?_)
  | ((with_reducible refine' i_ixTH ?q1 ?q2 ?_); (case q1 => walk_at "hp"); (case q2 => exact rfl))
  | ((with_reducible refine' i_ixLH ?q1 ?q2 ?_); (case q1 => walk_at "hp"); (case q2 => exact rfl))
  | ((with_reducible refine i_addS ?q1 ?_); (case q1 => walk_at "ln")) | ((with_reducible refine i_lenSS ?q1 ?_); (case q1 => walk_at "ln")) | ((with_reducible refine i_slFrom ?q1 ?q2 ?_); (case q1 => walk_at "ln"); (case q2 => walk_at "ln")) | ((with_reducible refine i_slTo ?q1 ?q2 ?_); (case q1 => walk_at "ln"); (case q2 => walk_at "ln"))
  | ((with_reducible refine' i_tyL ?q1 ?_); (case q1 => walk_at "hp"))
  | ((with_reducible refine' i_gTupH ?q1 ?q2 ?_); (case q1 => walk_at "hp"); (case q2 => exact rfl))
  | (with_reducible refine i_dnewM ?_) | (with_reducible refine i_init ?_) | (with_reducible refine i_fst ?_) | (with_reducible refine i_mk ?_) | (with_reducible refine i_raise ?_) | (with_reducible refine i_callS ?_) | (with_reducible refine i_kwS ?_)
  | (with_reducible refine i_revT ?_) | (with_reducible refine i_kw ?_) | ((with_reducible refine' ⟨_, _, rfl, sqT_of ?q1, ?_⟩); (case q1 => walk_at "hp"))
  | (with_reducible refine i_revS ?_) | ((with_reducible refine i_revSS ?q1 ?_); (case q1 => walk_at "ln"))
  | (with_reducible refine i_startS ?_) | (with_reducible refine i_inSg ?_) | (with_reducible refine i_absN ?_) | (with_reducible refine i_min2 ?_) | (with_reducible refine i_max2 ?_) | (with_reducible refine i_min3 ?_) | (with_reducible refine i_intN ?_) | (with_reducible refine i_intNB ?_)
  | ((with_reducible refine' i_lenL ?q1 ?_); (case q1 => walk_at "hp")) | ((with_reducible refine' i_lenT ?q1 ?_); (case q1 => walk_at "hp"))
  | (with_reducible refine i_eqI ?_) | (with_reducible refine i_neI ?_) | (with_reducible refine i_eqS ?_) | (with_reducible refine i_neS ?_) | (with_reducible refine i_isNoI ?_) | (with_reducible refine i_isNoN ?_) | (with_reducible refine i_isNoR ?_)
  | ((with_reducible refine i_pow ?q1 ?q2 ?q3 ?_); (case q1 => decide); (case q2 => decide); (case q3 => (with_reducible omega)))
  | ((with_reducible refine i_rI ?q1 ?_); (case q1 => walk_at "ci"))
  | (with_reducible refine Or.inl ⟨_, rfl, ?_⟩) | (with_reducible refine Or.inr ⟨_, rfl, ?_⟩) | (with_reducible refine ⟨_, rfl, ?_⟩) | (with_reducible refine ⟨_, _, rfl, ?_⟩) | (with_reducible refine ⟨_, _, rfl, rfl, ?_⟩)
  | ((with_reducible refine' ⟨_, _, rfl, Or.inl (sqL_of ?q1), ?_⟩); (case q1 => walk_at "hp")) | ((with_reducible refine' ⟨_, _, rfl, Or.inr (sqT_of ?q1), ?_⟩); (case q1 => walk_at "hp")) | (with_reducible refine i_dget ?_) | (with_reducible refine i_disp1T ?_) | (with_reducible refine i_dcT ?_) | (with_reducible refine i_dnewT ?_) | (with_reducible refine i_fld ?_) | (with_reducible refine i_sFld ?_) | (with_reducible refine i_make ?_) | (with_reducible refine i_meth ?_) | (with_reducible refine i_star ?_) | (with_reducible refine i_isNoS ?_) | (with_reducible refine i_lc2 ?_) | fail)
local macro_rules | `(tactic| walk_at "rd") => `(tactic| repeat' walk_at "rd1")

def loW (way : Nat) : Int := if way = 2 then 2 else 1
theorem whB_int {l m : Int} {d : PyData} (h : whB l m d = true) : ∃ i : Int, d = .int i ∧ l ≤ i ∧ i ≤ m := by
  cases d with
  | int i => simp only [whB, Bool.and_eq_true, decide_eq_true_eq] at h; exact ⟨i, rfl, h⟩
  | _ => cases h
/-- what the makers are asked, and what comes -/
inductive Made (way : Nat) (d e : PyData) : Prop
  | good (n sp : Nat) : d = .int n → wayOk way n sp → (way = 1 → e = .int sp) → Made way d e
  | signs : whB (loW way) 5 d = false → Made way d e
  | sign : way = 1 → whB 1 5 d = true → (∀ n : Nat, d = .int n → isX n e = false) → Made way d e
/-- _law_made(way, named, many, special) -/
def spMade (K : PySem.W.Frag) (C XS XG : Addr) : Sp := fun vs H Q E => ∃ (way : Nat) (nm : Bool) (x y : V) (d e : PyData), vs = [.int way, .bl nm, x, y] ∧ way < 4 ∧ De K H x d ∧ De K H y e ∧
  ((∃ n sp : Nat, d = .int n ∧ wayOk way n sp ∧ (way = 1 → e = .int sp) ∧ ∀ v H', Same H H' → DAt C H' v n (stM way n sp) (enM way n) → Q v H') ∨
   (whB (loW way) 5 d = false ∧ ∀ dx H', H dx = none → Same H H' → H' dx = some (.xd [("given", x)]) → E (.ref XS) (some dx) H') ∨
   (way = 1 ∧ whB 1 5 d = true ∧ (∀ n : Nat, d = .int n → isX n e = false) ∧ ∀ dx H', H dx = none → Same H H' → H' dx = some (.xd [("given", y)]) → E (.ref XG) (some dx) H'))
def sgKs : List Str := ["signs"]
def mkKs : List Str := ["mark", "signs"]
theorem isG_wh (d : PyData) : isG d = whB 1 5 d := by cases d <;> rfl
theorem stM_sp {way n sp sp' : Nat} (h : way ≠ 1) : stM way n sp = stM way n sp' := by
  rcases way with _ | _ | _ | way
  · rfl
  · exact (h rfl).elim
  · rfl
  · rfl
theorem spMk_of {K : PySem.W.Frag} {C XS : Addr} {way : Nat} {x : V} {d e : PyData} {H : Hp} {Q : VK} {E : XK} (h1 : way ≠ 1) (hx : De K H x d)
    (k : (∃ n sp : Nat, d = .int n ∧ wayOk way n sp ∧ (way = 1 → e = .int sp) ∧ ∀ v H', Same H H' → DAt C H' v n (stM way n sp) (enM way n) → Q v H') ∨
      (whB (loW way) 5 d = false ∧ ∀ dx H', H dx = none → Same H H' → H' dx = some (.xd [("given", x)]) → E (.ref XS) (some dx) H')) : spMk K C XS way [x] H Q E := by
  refine ⟨x, d, rfl, hx, ?_, fun n' sp' e' wo v H' s D => ?_⟩
  · rcases k with ⟨n, sp, rfl, ⟨n1, n5, _, w2⟩, _⟩ | ⟨b, k⟩
    · refine .inl ⟨by simp only [isG, Bool.and_eq_true, decide_eq_true_eq]; omega, fun e2 e3 => ?_⟩
      have := w2 e2
      have := PyData.int.inj e3
      omega
    · refine .inr ⟨?_, k⟩
      unfold loW at b
      split at b
      · rename_i h2
        rcases e : isG d with _ | _
        · exact .inl rfl
        · rw [isG_wh] at e
          obtain ⟨i, rfl, i1, i5⟩ := whB_int e
          refine .inr ⟨h2, ?_⟩
          simp only [whB, Bool.and_eq_false_iff, decide_eq_false_iff_not] at b
          rw [show i = 1 by omega]
      · rw [isG_wh]; exact .inl b
  · rcases k with ⟨n, sp, rfl, _, _, k⟩ | ⟨b, k⟩
    · cases e'
      rw [stM_sp (sp' := sp) h1] at D
      exact k v H' s D
    · subst e'
      obtain ⟨n1, n5, _, w2⟩ := wo
      unfold loW at b
      simp only [whB, Bool.and_eq_false_iff, decide_eq_false_iff_not] at b
      split at b
      · rename_i h2; have := w2 h2; omega
      · omega
theorem spMk2_of {K : PySem.W.Frag} {C XS XG : Addr} {x y : V} {d e : PyData} {H : Hp} {Q : VK} {E : XK} (hx : De K H x d) (hy : De K H y e)
    (k : (∃ n sp : Nat, d = .int n ∧ wayOk 1 n sp ∧ (1 = 1 → e = .int sp) ∧ ∀ v H', Same H H' → DAt C H' v n (stM 1 n sp) (enM 1 n) → Q v H') ∨
      (whB (loW 1) 5 d = false ∧ ∀ dx H', H dx = none → Same H H' → H' dx = some (.xd [("given", x)]) → E (.ref XS) (some dx) H') ∨
      (1 = 1 ∧ whB 1 5 d = true ∧ (∀ n : Nat, d = .int n → isX n e = false) ∧ ∀ dx H', H dx = none → Same H H' → H' dx = some (.xd [("given", y)]) → E (.ref XG) (some dx) H')) : spMk2 K C XS XG [x, y] H Q E := by
  refine ⟨x, y, d, e, rfl, hx, hy, ?_, fun n' e' n1 n5 => ?_, fun n' sp' e1 e2 wo v H' s D => ?_⟩
  · rcases k with ⟨n, sp, rfl, ⟨n1, n5, _, w2⟩, _⟩ | ⟨b, k⟩ | ⟨_, b, _⟩
    · exact .inl (by simp only [isG, Bool.and_eq_true, decide_eq_true_eq]; omega)
    · exact .inr ⟨by rw [isG_wh]; exact b, k⟩
    · exact .inl (by rw [isG_wh]; exact b)
  · rcases k with ⟨n, sp, rfl, ⟨_, _, hs, w2⟩, e2, _⟩ | ⟨b, k⟩ | ⟨_, b, c, k⟩
    · cases e'
      rw [e2 rfl]
      have := hs rfl
      exact .inl (by simp only [isX, Bool.and_eq_true, decide_eq_true_eq]; omega)
    · subst e'
      have : whB 1 5 (.int n') = false := b
      simp only [whB, Bool.and_eq_false_iff, decide_eq_false_iff_not] at this
      omega
    · exact .inr ⟨c _ e', k⟩
  · rcases k with ⟨n, sp, rfl, _, e3, k⟩ | ⟨b, k⟩ | ⟨_, b, c, k⟩
    · cases e1
      cases e2.symm.trans (e3 rfl)
      exact k v H' s D
    · subst e1
      obtain ⟨n1, n5, _, w2⟩ := wo
      have : whB 1 5 (.int n') = false := b
      simp only [whB, Bool.and_eq_false_iff, decide_eq_false_iff_not] at this
      omega
    · have := c _ e1
      rw [e2] at this
      have h := wo.2.2.1 rfl
      simp only [isX, Bool.and_eq_false_iff, decide_eq_false_iff_not] at this
      omega
section
variable {P : Program} {w : World} {K : PySem.W.Frag} {mg : Str → Option Value} {base : Heap} {f : Addr} {fd : FuncData}
theorem ok_made {C XS XG : Addr} (F : Fun K "_law_made" "_law_made" s__law_made f fd) 
    (x_copier : CalX P w K mg base "copier" ["signs"] 7 (spMk K C XS 0)) (kx_copier : CalKX P w K mg base "copier" ["signs"] 7 (spMk K C XS 0) sgKs one1 one1)
    (x_escaped : CalX P w K mg base "escaped" ["signs", "mark"] 7 (spMk2 K C XS XG)) (kx_escaped : CalKX P w K mg base "escaped" ["signs", "mark"] 7 (spMk2 K C XS XG) mkKs rev2 rev2)
    (x_shifted : CalX P w K mg base "shifted" ["signs"] 7 (spMk K C XS 2)) (kx_shifted : CalKX P w K mg base "shifted" ["signs"] 7 (spMk K C XS 2) sgKs one1 one1)
    (x_run_lengths : CalX P w K mg base "run_lengths" ["signs"] 7 (spMk K C XS 3)) (kx_run_lengths : CalKX P w K mg base "run_lengths" ["signs"] 7 (spMk K C XS 3) sgKs one1 one1) :
    FnOk P w K mg base (L2.CX P w) 8 f fd ["way", "named", "many", "special"] (spMade K C XS XG) := by
  refine Sw.Fun.okX F sc__law_made (fun vs H Q E h => ?_) (fun cdv A outer s H vs Q E hr h tk => ?_)
  · obtain ⟨way, nm, x, y, d, e, rfl, _⟩ := h; rfl
  · obtain ⟨way, nm, x, y, d, e, rfl, w4, hx, hy, k⟩ := h
    refine ⟨_, (pss_cons (ps_if (pt_cmpR op_eq (pv 0) pe_int (nomark _))
        (pss_one (ps_ret (pe_ifExp (pt_val (pv 1)) (pe_calKX kx_copier hr tk (pk_cons (pv 2) pk_nil)) (pe_calX x_copier hr tk (pa_cons (pv 2) pa_nil)))))
        pss_nil)
      (pss_cons (ps_if (pt_cmpR op_eq (pv 0) pe_int (nomark _))
        (pss_one (ps_ret (pe_ifExp (pt_val (pv 1)) (pe_calKX kx_escaped hr tk (pk_cons (pv 3) (pk_cons (pv 2) pk_nil))) (pe_calX x_escaped hr tk (pa_cons (pv 2) (pa_cons (pv 3) pa_nil))))))
        pss_nil)
      (pss_cons (ps_if (pt_cmpR op_eq (pv 0) pe_int (nomark _))
        (pss_one (ps_ret (pe_ifExp (pt_val (pv 1)) (pe_calKX kx_shifted hr tk (pk_cons (pv 2) pk_nil)) (pe_calX x_shifted hr tk (pa_cons (pv 2) pa_nil)))))
        pss_nil)
      (pss_one (ps_ret (pe_ifExp (pt_val (pv 1)) (pe_calKX kx_run_lengths hr tk (pk_cons (pv 2) pk_nil)) (pe_calX x_run_lengths hr tk (pa_cons (pv 2) pa_nil)))))))), ?_⟩
    have k0 : way ≠ 1 → (∃ n sp : Nat, d = .int n ∧ wayOk way n sp ∧ (way = 1 → e = .int sp) ∧ ∀ v H', Same H H' → DAt C H' v n (stM way n sp) (enM way n) → Q v H') ∨
      (whB (loW way) 5 d = false ∧ ∀ dx H', H dx = none → Same H H' → H' dx = some (.xd [("given", x)]) → E (.ref XS) (some dx) H') := fun h1 => by
      rcases k with k | k | k
      · exact .inl k
      · exact .inr k
      · exact (h1 k.1).elim
    obtain rfl | rfl | rfl | rfl : way = 0 ∨ way = 1 ∨ way = 2 ∨ way = 3 := by omega
    · walk_at "rd"
      rw [decide_eq_true (show ((0 : Nat) : Int) = 0 by omega)]
      walk_at "rd"
      cases nm
      · refine iteF ?_
        walk_at "rd"
        exact spMk_of (by decide) hx (k0 (by decide))
      · refine iteT ?_
        walk_at "rd"
        exact spMk_of (by decide) hx (k0 (by decide))
    · walk_at "rd"
      rw [decide_eq_false (show ¬ ((1 : Nat) : Int) = 0 by omega)]
      walk_at "rd"
      rw [decide_eq_true (show ((1 : Nat) : Int) = 1 by omega)]
      walk_at "rd"
      cases nm
      · refine iteF ?_
        walk_at "rd"
        exact spMk2_of hx hy k
      · refine iteT ?_
        walk_at "rd"
        exact spMk2_of hx hy k
    · walk_at "rd"
      rw [decide_eq_false (show ¬ ((2 : Nat) : Int) = 0 by omega)]
      walk_at "rd"
      rw [decide_eq_false (show ¬ ((2 : Nat) : Int) = 1 by omega)]
      walk_at "rd"
      rw [decide_eq_true (show ((2 : Nat) : Int) = 2 by omega)]
      walk_at "rd"
      cases nm
      · refine iteF ?_
        walk_at "rd"
        exact spMk_of (by decide) hx (k0 (by decide))
      · refine iteT ?_
        walk_at "rd"
        exact spMk_of (by decide) hx (k0 (by decide))
    · walk_at "rd"
      rw [decide_eq_false (show ¬ ((3 : Nat) : Int) = 0 by omega)]
      walk_at "rd"
      rw [decide_eq_false (show ¬ ((3 : Nat) : Int) = 1 by omega)]
      walk_at "rd"
      rw [decide_eq_false (show ¬ ((3 : Nat) : Int) = 2 by omega)]
      walk_at "rd"
      cases nm
      · refine iteF ?_
        walk_at "rd"
        exact spMk_of (by decide) hx (k0 (by decide))
      · refine iteT ?_
        walk_at "rd"
        exact spMk_of (by decide) hx (k0 (by decide))
/-- _law_told(way, named, many, special) -/
def spTold (K : PySem.W.Frag) (C : Addr) : Sp := fun vs H Q _ => ∃ (way : Nat) (nm : Bool) (x y : V) (d e : PyData), vs = [.int way, .bl nm, x, y] ∧ way < 4 ∧ De K H x d ∧ De K H y e ∧
  ((∃ n sp : Nat, d = .int n ∧ wayOk way n sp ∧ (way = 1 → e = .int sp) ∧ ∀ t v H', Same H H' → DAt C H' v n (stM way n sp) (enM way n) → H' t = some (.lst [.str (S [109, 97, 100, 101]), v]) → Q (.ref t) H') ∨
   (whB (loW way) 5 d = false ∧ ∀ t H', H t = none → sysModules < t → Same H H' → H' t = some (.lst [.str (S [115, 105, 103, 110, 115]), x]) → Q (.ref t) H') ∨
   (way = 1 ∧ whB 1 5 d = true ∧ (∀ n : Nat, d = .int n → isX n e = false) ∧ ∀ t H', H t = none → sysModules < t → Same H H' → H' t = some (.lst [.str (S [115, 105, 103, 110]), y]) → Q (.ref t) H'))
theorem ok_told {C XS XG : Addr} (F : Fun K "_law_told" "_law_told" s__law_told f fd) (xs : XQ "InvalidSigns" P w K mg base XS) (xg : XQ "InvalidSign" P w K mg base XG) (hDC : PySem.W.exmOne K (.ref XG) (.ref XS) = some false)
    (x__law_made : CalX P w K mg base "_law_made" ["way", "named", "many", "special"] 8 (spMade K C XS XG)) :
    FnOk P w K mg base CX0 9 f fd ["way", "named", "many", "special"] (spTold K C) := by
  refine F.ok sc__law_told (fun vs H Q E h => ?_) (fun cdv A outer s H vs Q E hr h => ?_)
  · obtain ⟨way, nm, x, y, d, e, rfl, _⟩ := h; rfl
  · obtain ⟨way, nm, x, y, d, e, rfl, w4, hx, hy, k⟩ := h
    refine ⟨_, (pss_one (ps_tries (Wo := fun _ _ _ _ => False) rfl rfl sc__law_told.nd takes_none (fun W pn xe tk po => (pss_one (ps_ret (pe_lstL (pa_cons (pe_strS (l := [109, 97, 100, 101]) (by decide +kernel)) (pa_cons (pe_calX x__law_made hr tk (pa_cons (pv 0) (pa_cons (pv 1) (pa_cons (pv 2) (pa_cons (pv 3) pa_nil))))) pa_nil))))))
      (.cons (i := 4) rfl rfl (names_Q xs) (fun a oe cls d pn hz hf => (pss_one (ps_ret (pe_lstL (pa_cons (pe_strS (l := [115, 105, 103, 110, 115]) (by decide +kernel)) (pa_cons (pe_xf xs.xf xs.no hz hf (pv 4)) pa_nil)))))) (.cons (i := 4) rfl rfl (names_Q xg) (fun a oe cls d pn hz hf => (pss_one (ps_ret (pe_lstL (pa_cons (pe_strS (l := [115, 105, 103, 110]) (by decide +kernel)) (pa_cons (pe_xf xg.xf xg.no hz hf (pv 4)) pa_nil)))))) .nil)))), ?_⟩
    walk_at "rd"
    refine ⟨way, nm, x, y, d, e, rfl, w4, hx, hy, ?_⟩
    rcases k with ⟨n, sp, rfl, wo, e2, k⟩ | ⟨b, k⟩ | ⟨w1, b, c, k⟩
    · refine .inl ⟨n, sp, rfl, wo, e2, fun v H1 s1 D => ?_⟩
      walk_at "rd"
      refine newLL0 (Nat.le_of_ble_eq_true rfl) fun t H2 nt lt s2 et => ?_
      exact k t v _ (s1.trans s2) (D.same s2) et
    · refine .inr (.inl ⟨b, fun dx H1 nx s1 ed => ?_⟩)
      refine ⟨true, xs.me, fun _ a na => ?_, fun z => by cases z⟩
      walk_at "rd"
      refine ⟨_, rfl, rfl, rfl, dx, _, _, rfl, ed, rfl, ?_⟩
      walk_at "rd"
      refine newLL0 (Nat.le_of_ble_eq_true rfl) fun t H2 nt lt s2 et => ?_
      exact k t _ (s1.free nt) lt (s1.trans s2) et
    · refine .inr (.inr ⟨w1, b, c, fun dx H1 nx s1 ed => ?_⟩)
      refine ⟨false, hDC, (fun z => by cases z), fun _ => ⟨true, xg.me, fun _ a na => ?_, fun z => by cases z⟩⟩
      walk_at "rd"
      refine ⟨_, rfl, rfl, rfl, dx, _, _, rfl, ed, rfl, ?_⟩
      walk_at "rd"
      refine newLL0 (Nat.le_of_ble_eq_true rfl) fun t H2 nt lt s2 et => ?_
      exact k t _ (s1.free nt) lt (s1.trans s2) et
end
end Sw
namespace Sw
open PySem PySem.Spec PyProof.Rows L2
local macro_rules | `(tactic| walk_at "hp") => `(tactic| first
  | (with_reducible assumption) | (with_reducible exact upd_same)
  | ((with_reducible refine' upd_old ?q1 ?q2); (case q1 => (with_reducible assumption)); (case q2 => walk_at "hp"))
  | ((with_reducible refine' Same.at ?q1 ?q2); (case q1 => (with_reducible assumption)); (case q2 => walk_at "hp"))
  | ((with_reducible refine' upd_skip ?q1 ?q2); (case q1 => walk_at "ne"); (case q2 => walk_at "hp"))
  | fail)
local macro_rules | `(tactic| walk_at "ne") => `(tactic| first
  | (with_reducible assumption) | (with_reducible exact Ne.symm (by assumption))
  | ((with_reducible refine' ne_of_none ?q1 ?q2); (case q2 => (with_reducible assumption)); (case q1 => walk_at "hp"))
  | fail)
local macro_rules | `(tactic| walk_at "ci") => `(tactic| first | assumption | (show (0 : Int) < _; first | decide | (with_reducible omega)) | exact ⟨by decide, by decide⟩ | exact .inl ⟨by decide, by decide⟩ | exact .inr ⟨by decide, by decide⟩)
local macro_rules | `(tactic| walk_at "ln") => `(tactic| first | (with_reducible assumption) | (with_reducible omega) | (simp only [List.length_append, List.length_take, List.length_drop, List.length_reverse, List.length_cons, List.length_nil]; with_reducible omega))
local macro_rules | `(tactic| walk_at "rd1") => `(tactic| first
  | (with_reducible refine i_seq ?_) | (with_reducible refine i_asg ?_) | (with_reducible refine i_ret ?_) | (with_reducible refine i_name ?_) | ((with_reducible refine' i_var ?q1 ?_); (case q1 => exact rfl)) | (with_reducible refine i_c ?_) | (with_reducible refine i_op ?_) | (with_reducible refine i_un ?_)
  | (with_reducible refine i_rI0 ?_) | (with_reducible refine i_cb ?_) | (with_reducible refine i_cons ?_) | (with_reducible refine i_nil ?_) | (with_reducible refine i_call ?_) | (with_reducible refine i_if ?_) | (with_reducible refine i_ifE ?_) | (with_reducible refine i_test ?_) | (with_reducible refine i_bl ?_)
  | (with_reducible refine i_and ?_) | (with_reducible refine i_or ?_) | (with_reducible refine i_not ?_) | (with_reducible refine i_lstM ?_) | (with_reducible refine i_lstLM ?_) | (with_reducible refine i_tupM ?_) | (with_reducible refine i_next ?_) | (with_reducible refine i_drop ?_) | (with_reducible refine i_sub ?_)
  | (with_reducible refine i_bm ?_) | (with_reducible refine i_sl ?_) | (with_reducible refine i_part ?_) | (with_reducible refine i_nopart ?_) | (with_reducible refine i_exI ?_) | (with_reducible refine i_chain ?_) | ((with_reducible refine' i_aug ?q1 ?_); (case q1 => exact rfl)) | (with_reducible refine i_ip ?_)
  | (with_reducible refine i_par ?_) | (with_reducible refine i_pair ?_) | (with_reducible refine i_andV ?_) | (with_reducible refine i_orV ?_) | (with_reducible refine i_notV ?_) | (with_reducible refine i_m1 ?_) | (with_reducible refine i_str ?_)
  | (with_reducible refine iteF ?_) | (with_reducible refine iteT ?_) | (with_reducible refine iteNT ?_) | (with_reducible refine iteNF ?_) | (with_reducible refine i_tyS ?_) | (with_reducible refine i_tB ?_) | (with_reducible refine i_retN ?_) | (with_reducible refine i_par3 ?_) | (with_reducible refine i_trip ?_) | (with_reducible refine i_gCons ?_) | (with_reducible refine i_gNil ?_) | (with_reducible refine i_lstRg ?_) | (with_reducible refine i_rg1 ?_)
  | (with_reducible refine i_lc ?_) | (with_reducible refine i_for ?_) | (with_reducible refine i_iList ?_) | (with_reducible refine i_iTup ?_) | (with_reducible refine i_iStr ?_) | (with_reducible refine i_iRng1 ?_) | (with_reducible refine i_iEnS ?_)
  | ((with_reducible refine' i_ixTH ?q1 ?q2 ?_); (case q1 => walk_at "hp"); (case q2 => exact rfl))
  | ((with_reducible refine' i_ixLH ?q1 ?q2 ?_); (case q1 => walk_at "hp"); (case q2 => exact rfl))
  | ((with_reducible refine i_addS ?q1 ?_); (case q1 => walk_at "ln")) | ((with_reducible refine i_lenSS ?q1 ?_); (case q1 => walk_at "ln")) | ((with_reducible refine i_slFrom ?q1 ?q2 ?_); (case q1 => walk_at "ln"); (case q2 => walk_at "ln")) | ((with_reducible refine i_slTo ?q1 ?q2 ?_); (case q1 => walk_at "ln"); (case q2 => walk_at "ln"))
  | ((with_reducible refine' i_tyL ?q1 ?_); (case q1 => walk_at "hp"))
  | ((with_reducible refine' i_gTupH ?q1 ?q2 ?_); (case q1 => walk_at "hp"); (case q2 => exact rfl))
  | (with_reducible refine i_dnewM ?_) | (with_reducible refine i_init ?_) | (with_reducible refine i_fst ?_) | (with_reducible refine i_mk ?_) | (with_reducible refine i_raise ?_) | (with_reducible refine i_callS ?_) | (with_reducible refine i_kwS ?_)
  | (with_reducible refine i_revT ?_) | (with_reducible refine i_kw ?_) | ((with_reducible refine' ⟨_, _, rfl, sqT_of ?q1, ?_⟩); (case q1 => walk_at "hp"))
  | (with_reducible refine i_revS ?_) | ((with_reducible refine i_revSS ?q1 ?_); (case q1 => walk_at "ln"))
  | (with_reducible refine i_startS ?_) | (with_reducible refine i_inSg ?_) | (with_reducible refine i_absN ?_) | (with_reducible refine i_min2 ?_) | (with_reducible refine i_max2 ?_) | (with_reducible refine i_min3 ?_) | (with_reducible refine i_intN ?_) | (with_reducible refine i_intNB ?_)
  | ((with_reducible refine' i_lenL ?q1 ?_); (case q1 => walk_at "hp")) | ((with_reducible refine' i_lenT ?q1 ?_); (case q1 => walk_at "hp"))
  | (with_reducible refine i_eqI ?_) | (with_reducible refine i_neI ?_) | (with_reducible refine i_eqS ?_) | (with_reducible refine i_neS ?_) | (with_reducible refine i_isNoI ?_) | (with_reducible refine i_isNoN ?_) | (with_reducible refine i_isNoR ?_)
  | ((with_reducible refine i_pow ?q1 ?q2 ?q3 ?_); (case q1 => decide); (case q2 => decide); (case q3 => (with_reducible omega)))
  | ((with_reducible refine i_rI ?q1 ?_); (case q1 => walk_at "ci"))
  | (with_reducible refine Or.inl ⟨_, rfl, ?_⟩) | (with_reducible refine Or.inr ⟨_, rfl, ?_⟩) | (with_reducible refine ⟨_, rfl, ?_⟩) | (with_reducible refine ⟨_, _, rfl, ?_⟩) | (with_reducible refine ⟨_, _, rfl, rfl, ?_⟩)
  | ((with_reducible refine' ⟨_, _, rfl, Or.inl (sqL_of ?q1), ?_⟩); (case q1 => walk_at "hp")) | ((with_reducible refine' ⟨_, _, rfl, Or.inr (sqT_of ?q1), ?_⟩); (case q1 => walk_at "hp")) | (with_reducible refine i_dget ?_) | (with_reducible refine i_disp1T ?_) | (with_reducible refine i_dcT ?_) | (with_reducible refine i_dnewT ?_) | (with_reducible refine i_fld ?_) | (with_reducible refine i_sFld ?_) | (with_reducible refine i_make ?_) | (with_reducible refine i_meth ?_) | (with_reducible refine i_star ?_) | (with_reducible refine i_isNoS ?_) | (with_reducible refine i_lc2 ?_) | fail)
local macro_rules | `(tactic| walk_at "rd") => `(tactic| repeat' walk_at "rd1")

def nmW (n : Nat) : List Nat := [97, 98, 99, 100, 101].take n
theorem nmW_get {n i : Nat} {c : Nat} (h : (nmW n)[i]? = some c) : c = 97 + i ∧ i < 5 := by
  have hi : i < 5 := by
    obtain ⟨hl, _⟩ := List.getElem?_eq_some_iff.mp h
    simp [nmW] at hl; omega
  unfold nmW at h
  rw [List.getElem?_take] at h
  split at h
  · obtain rfl | rfl | rfl | rfl | rfl : i = 0 ∨ i = 1 ∨ i = 2 ∨ i = 3 ∨ i = 4 := by omega
    all_goals (simp at h; omega)
  · cases h
theorem nmW_len {n : Nat} (h : n ≤ 5) : (nmW n).length = n := by simp [nmW]; omega
theorem nmW_cut {n : Nat} (h1 : 1 ≤ n) (h : n ≤ 5) : cut (nmW n) none (some (-1)) = nmW (n - 1) := by
  obtain rfl | rfl | rfl | rfl | rfl : n = 1 ∨ n = 2 ∨ n = 3 ∨ n = 4 ∨ n = 5 := by omega
  all_goals rfl
theorem paired_set {α β : Type} {F : α → β → Prop} {x : α} {y : β} : ∀ {l1 : List α} {l2 : List β}, Paired F l1 l2 → F x y → ∀ {i : Nat}, Paired F (l1.set i x) (l2.set i y) := by
  intro l1 l2 h r
  induction h with
  | nil => intro i; exact .nil
  | @cons a b as bs r0 t ih =>
    intro i
    rcases i with _ | i
    · exact .cons r t
    · exact .cons r0 ih
theorem ixN_at {n j : Nat} (hj : j < n) : ixN n (j : Int) = some j := by
  unfold ixN
  rw [if_pos (by omega), if_pos (by omega)]
  simp
theorem rw1_set (n sp : Nat) : rw1 n sp = ((List.range n).map fun i => (some (0, lt1 i) : Ent)).set sp (some (1, [])) := by
  refine List.ext_getElem (by simp [rw1]) fun i h1 h2 => ?_
  simp only [rw1, List.getElem_map, List.getElem_range, List.getElem_set]
  by_cases c : i = sp
  · rw [if_pos c, if_pos c.symm]
  · rw [if_neg c, if_neg fun q => c q.symm]
theorem three_tab {i : Nat} (h : i < 5) : ([.int 1, .int 2, .int 3, .int 3, .int 3] : List V)[(i : Int).toNat]? = some (.int ((min i 2 + 1 : Nat) : Int)) := by
  obtain rfl | rfl | rfl | rfl | rfl : i = 0 ∨ i = 1 ∨ i = 2 ∨ i = 3 ∨ i = 4 := by omega
  all_goals rfl
theorem flat_repV (n : Nat) : (List.replicate n [V.non]).flatten = List.replicate n V.non := by
  induction n with
  | zero => rfl
  | succ n ih => rw [List.replicate_succ, List.replicate_succ, List.flatten_cons, ih]; rfl
/-- _law_parts(way, many, special) -/
def spParts : Sp := fun vs H Q _ => ∃ (way n sp : Nat) (y : V), vs = [.int way, .int n, y] ∧ way < 4 ∧ wayOk way n sp ∧ (way = 1 → y = .int sp) ∧
  ∀ t v1 v2 H', Same H H' → H' t = some (.lst [v1, v2]) → StAt H' v1 (stM way n sp) → EnAt H' v2 (enM way n) → Q (.ref t) H'
section
variable {P : Program} {w : World} {K : PySem.W.Frag} {mg : Str → Option Value} {base : Heap} {f : Addr} {fd : FuncData}
theorem ok_parts (F : Fun K "_law_parts" "_law_parts" s__law_parts f fd) (z : Z mg) : FnOk P w K mg base CX0 1 f fd ["way", "many", "special"] spParts := by
  refine F.ok sc__law_parts (fun vs H Q E h => ?_) (fun cdv A outer s H vs Q E hr h => ?_)
  · obtain ⟨way, n, sp, y, rfl, _⟩ := h; rfl
  · obtain ⟨way, n, sp, y, rfl, w4, wo, hy, k⟩ := h
    refine ⟨_, (pss_cons (ps_set (i := 3) sc__law_parts.nd rfl (.inl rfl) (pe_slice sl_S (pe_strS (l := [97, 98, 99, 100, 101]) (by decide +kernel)) po_none (po_some (pv 1))))
      (pss_cons (ps_if (pt_cmpR op_eq (pv 0) pe_int (nomark _))
        (pss_one (ps_ret (pe_lst (pa_cons (pe_lst (pa_cons (pe_lc (own := [("name", 4)]) (g := gName 4) (tt := tYes) rfl sc__law_parts.nd (pi_str (pv 3)) (blkOk_by (own := [("name", 4)]) (N := n__law_parts) (sc := defScope s__law_parts) (by decide +kernel)) (fun _ _ _ _ _ => (pg_name (i := 4) sc__law_parts.nd rfl (.inl rfl))) (fun _ _ _ _ _ => pts_nil) (fun _ _ _ _ _ => (pe_tup (pa_cons pe_int (pa_cons (pv 4) pa_nil))))) pa_nil)) (pa_cons (pe_lst (pa_cons (pe_strS (l := []) (by decide +kernel)) pa_nil)) pa_nil)))))
        pss_nil)
      (pss_cons (ps_if (pt_cmpR op_eq (pv 0) pe_int (nomark _))
        (pss_cons (ps_setLc (i := 5) (own := [("name", 4)]) (g := gName 4) (tt := tYes) rfl sc__law_parts.nd rfl rfl (sw_true rfl rfl rfl (by decide +kernel)) (pi_str (pv 3)) (blkOk_by (own := [("name", 4)]) (N := n__law_parts) (sc := defScope s__law_parts) (by decide +kernel)) (fun _ _ _ _ _ => (pg_name (i := 4) sc__law_parts.nd rfl (.inl rfl))) (fun _ _ _ _ _ => pts_nil) (fun _ _ _ _ _ => (pe_tup (pa_cons pe_int (pa_cons (pv 4) pa_nil)))))
        (pss_cons (ps_asg (pe_tup (pa_cons pe_int (pa_cons (pe_strS (l := []) (by decide +kernel)) pa_nil))) (pg_sub (pv 5) (pv 2) set_list))
        (pss_one (ps_ret (pe_lst (pa_cons (pe_lst (pa_cons (pv 5) (pa_cons (pe_lc (own := [("name", 4)]) (g := gName 4) (tt := tYes) rfl sc__law_parts.nd (pi_str (pv 3)) (blkOk_by (own := [("name", 4)]) (N := n__law_parts) (sc := defScope s__law_parts) (by decide +kernel)) (fun _ _ _ _ _ => (pg_name (i := 4) sc__law_parts.nd rfl (.inl rfl))) (fun _ _ _ _ _ => pts_nil) (fun _ _ _ _ _ => (pe_tup (pa_cons pe_int (pa_cons (pe_op op_addS (pv 4) (pv 4)) pa_nil))))) pa_nil))) (pa_cons (pe_lst (pa_cons (pe_strS (l := []) (by decide +kernel)) (pa_cons pe_non pa_nil))) pa_nil)))))))
        pss_nil)
      (pss_cons (ps_if (pt_cmpR op_eq (pv 0) pe_int (nomark _))
        (pss_cons (ps_set (i := 6) sc__law_parts.nd rfl (.inl rfl) (pe_op op_cat (pe_lc (own := [("name", 4)]) (g := gName 4) (tt := tYes) rfl sc__law_parts.nd (pi_str (pe_slice sl_S (pv 3) po_none (po_some (pe_un un_neg pe_int)))) (blkOk_by (own := [("name", 4)]) (N := n__law_parts) (sc := defScope s__law_parts) (by decide +kernel)) (fun _ _ _ _ _ => (pg_name (i := 4) sc__law_parts.nd rfl (.inl rfl))) (fun _ _ _ _ _ => pts_nil) (fun _ _ _ _ _ => (pe_tup (pa_cons pe_int (pa_cons (pv 4) pa_nil))))) (pe_lst (pa_cons (pe_tup (pa_cons pe_int (pa_cons (pe_strS (l := []) (by decide +kernel)) pa_nil))) pa_nil))))
        (pss_one (ps_ret (pe_lst (pa_cons (pe_lst (pa_cons (pv 6) (pa_cons (pe_op op_cat (pe_lc (own := [("name", 4)]) (g := gName 4) (tt := tYes) rfl sc__law_parts.nd (pi_str (pe_slice sl_S (pv 3) po_none (po_some (pe_un un_neg pe_int)))) (blkOk_by (own := [("name", 4)]) (N := n__law_parts) (sc := defScope s__law_parts) (by decide +kernel)) (fun _ _ _ _ _ => (pg_name (i := 4) sc__law_parts.nd rfl (.inl rfl))) (fun _ _ _ _ _ => pts_nil) (fun _ _ _ _ _ => (pe_tup (pa_cons pe_int (pa_cons (pe_op op_addS (pv 4) (pe_strS (l := [120]) (by decide +kernel))) pa_nil))))) (pe_lst (pa_cons (pe_tup (pa_cons pe_int (pa_cons (pe_strS (l := []) (by decide +kernel)) pa_nil))) pa_nil))) pa_nil))) (pa_cons (pe_lst (pa_cons (pe_strS (l := []) (by decide +kernel)) (pa_cons (pe_strS (l := []) (by decide +kernel)) pa_nil))) pa_nil))))))
        pss_nil)
      (pss_cons (ps_set (i := 7) sc__law_parts.nd rfl (.inl rfl) (pe_lst (pa_cons (pe_lc (own := [("k", 8)]) (g := gName 8) (tt := tYes) rfl sc__law_parts.nd (pi_range1 (by rfl) z.range (pa_cons (pv 1) pa_nil)) (blkOk_by (own := [("k", 8)]) (N := n__law_parts) (sc := defScope s__law_parts) (by decide +kernel)) (fun _ _ _ _ _ => (pg_name (i := 8) sc__law_parts.nd rfl (.inl rfl))) (fun _ _ _ _ _ => pts_nil) (fun _ _ _ _ _ => (pe_tup (pa_cons (pe_op op_add (pv 8) pe_int) (pa_cons (pe_strS (l := []) (by decide +kernel)) pa_nil))))) pa_nil)))
      (pss_cons (ps_for PassesOwn.never rfl (pi_str (pv 3)) (pg_name (i := 4) sc__law_parts.nd rfl (.inr rfl))
        (pss_one (ps_expr (pe_bm PySem.F.plainAttrs_list PySem.F.slot_list_append PySem.F.type_list_append mt_append (pv 7) (pa_cons (pe_lc (own := [("k", 8)]) (g := gName 8) (tt := tYes) rfl sc__law_parts.nd (pi_range1 (by rfl) z.range (pa_cons (pv 1) pa_nil)) (blkOk_by (own := [("k", 8)]) (N := n__law_parts) (sc := defScope s__law_parts) (by decide +kernel)) (fun _ _ _ _ _ => (pg_name (i := 8) sc__law_parts.nd rfl (.inl rfl))) (fun _ _ _ _ _ => pts_nil) (fun _ _ _ _ _ => (pe_tup (pa_cons pe_int (pa_cons (pe_op op_mulS (pv 4) (pe_ix (r := rIxL K) ix_list (pe_lst (pa_cons pe_int (pa_cons pe_int (pa_cons pe_int (pa_cons pe_int (pa_cons pe_int pa_nil)))))) (pv 8) (fun _ _ => rfl))) pa_nil))))) pa_nil)))))
      (pss_one (ps_ret (pe_lst (pa_cons (pv 7) (pa_cons (pe_op op_cat (pe_lst (pa_cons (pe_strS (l := []) (by decide +kernel)) pa_nil)) (pe_op op_rep (pe_lst (pa_cons pe_non pa_nil)) (pv 1))) pa_nil))))))))))), ?_⟩
    obtain ⟨n1, n5, hs, h2⟩ := id wo
    walk_at "rd"
    rw [show List.take (n : Int).toNat [97, 98, 99, 100, 101] = nmW n from rfl]
    obtain rfl | rfl | rfl | rfl : way = 0 ∨ way = 1 ∨ way = 2 ∨ way = 3 := by omega
    · rw [decide_eq_true (show ((0 : Nat) : Int) = 0 by omega)]
      walk_at "rd"
      refine go_lc walk_S (fun p i Hx => EUp H p ((List.range i).map fun i => some (0, lt1 i)) Hx) (fun p np => EUp.nil np) (fun _ _ _ _ _ => trivial) (fun p np i v Hx Hy hi q y => ?_) (fun rp H2 nrp q => ?_)
      · obtain ⟨rfl, c, hc, rfl⟩ := y
        obtain ⟨rfl, i5⟩ := nmW_get hc
        rw [range_snoc]
        walk_at "rd"
        refine ⟨rfl, i_yes (iteT ?_)⟩
        walk_at "rd"
        refine newT0 (Nat.le_of_ble_eq_true rfl) fun t H3 nt s3 et => ?_
        exact q.push np s3 et (by simp; omega)
      rw [nmW_len n5] at q
      obtain ⟨R2, s2⟩ := q.row
      walk_at "rd"
      refine newL0 (Nat.le_of_ble_eq_true rfl) fun p3 H3 n3 s3 e3 => ?_
      walk_at "rd"
      refine newL0 (Nat.le_of_ble_eq_true rfl) fun p4 H4 n4 s4 e4 => ?_
      walk_at "rd"
      refine newL0 (Nat.le_of_ble_eq_true rfl) fun p5 H5 n5 s5 e5 => ?_
      exact k p5 _ _ H5 (s2.trans (s3.trans (s4.trans s5))) e5 ⟨p3, _, rfl, s5 _ _ (s4 _ _ e3), .cons (R2.same (s3.trans (s4.trans s5))) .nil⟩ ⟨p4, rfl, s5 _ _ e4⟩
    · rw [decide_eq_false (show ¬ ((1 : Nat) : Int) = 0 by omega)]
      walk_at "rd"
      rw [decide_eq_true (show ((1 : Nat) : Int) = 1 by omega)]
      walk_at "rd"
      refine go_lc walk_S (fun p i Hx => EUp H p ((List.range i).map fun i => some (0, lt1 i)) Hx) (fun p np => EUp.nil np) (fun _ _ _ _ _ => trivial) (fun p np i v Hx Hy hi q y => ?_) (fun rp H2 nrp q => ?_)
      · obtain ⟨rfl, c, hc, rfl⟩ := y
        obtain ⟨rfl, i5⟩ := nmW_get hc
        rw [range_snoc]
        walk_at "rd"
        refine ⟨rfl, i_yes (iteT ?_)⟩
        walk_at "rd"
        refine newT0 (Nat.le_of_ble_eq_true rfl) fun t H3 nt s3 et => ?_
        exact q.push np s3 et (by simp; omega)
      rw [nmW_len n5] at q
      cases hy rfl
      walk_at "rd"
      have hsn := hs rfl
      obtain ⟨vs, ev, pr, s2⟩ := q
      have lv : vs.length = n := by have := Paired.length pr; simpa using this
      refine newT0 (Nat.le_of_ble_eq_true rfl) fun t3 H3 n3 s3 e3 => ?_
      walk_at "rd"
      refine i_setL (s3 _ _ ev) (j := sp) (by rw [lv]; exact ixN_at hsn) ?_
      have tk := TK.lst (ys := vs.set sp (.ref t3)) (s3 _ _ ev)
      have R4 : RowAt (L2.upd H3 rp (.lst (vs.set sp (.ref t3)))) (.ref rp) (rw1 n sp) := by
        refine ⟨rp, _, rfl, upd_same, ?_⟩
        rw [rw1_set]
        exact paired_set (Paired.mapP pr fun _ _ zz => (zz.same s3).tk tk) (show EntAt _ _ (some (1, [])) from ⟨t3, rfl, tk _ _ e3⟩)
      have s4 : Same H (L2.upd H3 rp (.lst (vs.set sp (.ref t3)))) := Same.set_new (s2.trans s3) nrp
      generalize L2.upd H3 rp (.lst (vs.set sp (.ref t3))) = H4 at *
      walk_at "rd"
      refine go_lc walk_S (fun p i Hx => EUp H4 p ((List.range i).map fun i => some (0, lt1 i ++ lt1 i)) Hx) (fun p np => EUp.nil np) (fun _ _ _ _ _ => trivial) (fun p np i v Hx Hy hi q y => ?_) (fun rm H5 nrm q => ?_)
      · obtain ⟨rfl, c, hc, rfl⟩ := y
        obtain ⟨rfl, i5⟩ := nmW_get hc
        rw [range_snoc]
        walk_at "rd"
        refine ⟨rfl, i_yes (iteT ?_)⟩
        walk_at "rd"
        refine newT0 (Nat.le_of_ble_eq_true rfl) fun t H3 nt s3 et => ?_
        exact q.push np s3 et (by simp; omega)
      rw [nmW_len n5] at q
      obtain ⟨R5, s5⟩ := q.row
      walk_at "rd"
      refine newL0 (Nat.le_of_ble_eq_true rfl) fun p6 H6 n6 s6 e6 => ?_
      walk_at "rd"
      refine newL0 (Nat.le_of_ble_eq_true rfl) fun p7 H7 n7 s7 e7 => ?_
      walk_at "rd"
      refine newL0 (Nat.le_of_ble_eq_true rfl) fun p8 H8 n8 s8 e8 => ?_
      have s68 := s6.trans (s7.trans s8)
      exact k p8 _ _ H8 (s4.trans (s5.trans s68)) e8 ⟨p6, _, rfl, s8 _ _ (s7 _ _ e6), .cons (R4.same (s5.trans s68)) (.cons (R5.same s68) .nil)⟩ ⟨p7, rfl, s8 _ _ e7⟩
    · have n2 := h2 rfl
      rw [decide_eq_false (show ¬ ((2 : Nat) : Int) = 0 by omega)]
      walk_at "rd"
      rw [decide_eq_false (show ¬ ((2 : Nat) : Int) = 1 by omega)]
      walk_at "rd"
      rw [decide_eq_true (show ((2 : Nat) : Int) = 2 by omega)]
      walk_at "rd"
      refine i_rU ?_
      walk_at "rd"
      refine ⟨_, rfl, by rw [nmW_len n5]; omega, ?_⟩
      rw [nmW_cut n1 n5]
      refine ⟨_, rfl, ?_⟩
      refine go_lc walk_S (fun p i Hx => EUp H p ((List.range i).map fun i => some (0, lt1 i)) Hx) (fun p np => EUp.nil np) (fun _ _ _ _ _ => trivial) (fun p np i v Hx Hy hi q y => ?_) (fun rp H2 nrp q => ?_)
      · obtain ⟨rfl, c, hc, rfl⟩ := y
        obtain ⟨rfl, i5⟩ := nmW_get hc
        rw [range_snoc]
        walk_at "rd"
        refine ⟨rfl, i_yes (iteT ?_)⟩
        walk_at "rd"
        refine newT0 (Nat.le_of_ble_eq_true rfl) fun t H3 nt s3 et => ?_
        exact q.push np s3 et (by simp; omega)
      rw [nmW_len (show n - 1 ≤ 5 by omega)] at q
      obtain ⟨vs2, ev2, pr2, s2⟩ := q
      have lv2 : vs2.length ≤ 5 := by have := Paired.length pr2; rw [List.length_map, List.length_range] at this; omega
      walk_at "rd"
      refine newT0 (Nat.le_of_ble_eq_true rfl) fun t3 H3 n3 s3 e3 => ?_
      walk_at "rd"
      refine newL0 (Nat.le_of_ble_eq_true rfl) fun p4 H4 n4 s4 e4 => ?_
      have ev24 := s4 _ _ (s3 _ _ ev2)
      walk_at "rd"
      refine ⟨rp, p4, vs2, _, rfl, rfl, ev24, e4, Nat.le_of_lt (sm100 (by simp; omega)), fun p5 np5 => ?_⟩
      have s5 := same_upd (o := .lst (vs2 ++ [.ref t3])) np5
      have e5 := upd_same (H := H4) (a := p5) (o := .lst (vs2 ++ [.ref t3]))
      generalize L2.upd H4 p5 (.lst (vs2 ++ [.ref t3])) = H5 at *
      have s25 := s3.trans (s4.trans s5)
      have R5 : RowAt H5 (.ref p5) (rw2s n) := ⟨p5, _, rfl, e5, Paired.snoc (Paired.mapP pr2 fun _ _ zz => zz.same s25) (show EntAt _ _ (some (1, [])) from ⟨t3, rfl, s5 _ _ (s4 _ _ e3)⟩)⟩
      have s05 := s2.trans s25
      walk_at "rd"
      refine i_rU ?_
      walk_at "rd"
      refine ⟨_, rfl, by rw [nmW_len n5]; omega, ?_⟩
      rw [nmW_cut n1 n5]
      refine ⟨_, rfl, ?_⟩
      refine go_lc walk_S (fun p i Hx => EUp H5 p ((List.range i).map fun i => some (1, lt1 i ++ [120])) Hx) (fun p np => EUp.nil np) (fun _ _ _ _ _ => trivial) (fun p np i v Hx Hy hi q y => ?_) (fun rm H6 nrm q => ?_)
      · obtain ⟨rfl, c, hc, rfl⟩ := y
        obtain ⟨rfl, i5⟩ := nmW_get hc
        rw [range_snoc]
        walk_at "rd"
        refine ⟨rfl, i_yes (iteT ?_)⟩
        walk_at "rd"
        refine newT0 (Nat.le_of_ble_eq_true rfl) fun t H3 nt s3 et => ?_
        exact q.push np s3 et (by simp; omega)
      rw [nmW_len (show n - 1 ≤ 5 by omega)] at q
      obtain ⟨vs6, ev6, pr6, s6⟩ := q
      have lv6 : vs6.length ≤ 5 := by have := Paired.length pr6; rw [List.length_map, List.length_range] at this; omega
      walk_at "rd"
      refine newT0 (Nat.le_of_ble_eq_true rfl) fun t7 H7 n7 s7 e7 => ?_
      walk_at "rd"
      refine newL0 (Nat.le_of_ble_eq_true rfl) fun p8 H8 n8 s8 e8 => ?_
      walk_at "rd"
      refine ⟨rm, p8, vs6, _, rfl, rfl, s8 _ _ (s7 _ _ ev6), e8, Nat.le_of_lt (sm100 (by simp; omega)), fun p9 np9 => ?_⟩
      have s9 := same_upd (o := .lst (vs6 ++ [.ref t7])) np9
      have e9 := upd_same (H := H8) (a := p9) (o := .lst (vs6 ++ [.ref t7]))
      generalize L2.upd H8 p9 (.lst (vs6 ++ [.ref t7])) = H9 at *
      have s69 := s7.trans (s8.trans s9)
      have R9 : RowAt H9 (.ref p9) (rw2g n) := ⟨p9, _, rfl, e9, Paired.snoc (Paired.mapP pr6 fun _ _ zz => zz.same s69) (show EntAt _ _ (some (0, [])) from ⟨t7, rfl, s9 _ _ (s8 _ _ e7)⟩)⟩
      walk_at "rd"
      refine newL0 (Nat.le_of_ble_eq_true rfl) fun p10 H10 n10 s10 e10 => ?_
      walk_at "rd"
      refine newL0 (Nat.le_of_ble_eq_true rfl) fun p11 H11 n11 s11 e11 => ?_
      walk_at "rd"
      refine newL0 (Nat.le_of_ble_eq_true rfl) fun p12 H12 n12 s12 e12 => ?_
      have sE := s10.trans (s11.trans s12)
      exact k p12 _ _ H12 (s05.trans (s6.trans (s69.trans sE))) e12 ⟨p10, _, rfl, s12 _ _ (s11 _ _ e10), .cons (R5.same (s6.trans (s69.trans sE))) (.cons (R9.same sE) .nil)⟩ ⟨p11, rfl, s12 _ _ e11⟩
    · rw [decide_eq_false (show ¬ ((3 : Nat) : Int) = 0 by omega)]
      walk_at "rd"
      rw [decide_eq_false (show ¬ ((3 : Nat) : Int) = 1 by omega)]
      walk_at "rd"
      rw [decide_eq_false (show ¬ ((3 : Nat) : Int) = 2 by omega)]
      walk_at "rd"
      refine i_rng (by omega) (by omega) ?_
      rw [Int.toNat_natCast]
      refine go_lc walk_rangeZ (fun p i Hx => EUp H p ((List.range i).map fun i => some (i + 1, [])) Hx) (fun p np => EUp.nil np) (fun _ _ _ _ _ => trivial) (fun p np i v Hx Hy hi q y => ?_) (fun rp H2 nrp q => ?_)
      · obtain ⟨rfl, rfl⟩ := y
        rw [range_snoc]
        walk_at "rd"
        refine ⟨rfl, i_yes (iteT ?_)⟩
        walk_at "rd"
        refine newT0 (Nat.le_of_ble_eq_true rfl) fun t H3 nt s3 et => ?_
        exact q.push np s3 (q := i + 1) (by rw [et]; congr 3) (by simp; omega)
      obtain ⟨R2, s2⟩ := q.row
      walk_at "rd"
      refine newL0 (Nat.le_of_ble_eq_true rfl) fun st H3 nst s3 est => ?_
      have rst : rp ≠ st := fun q => by obtain ⟨r, vs, e, er, _⟩ := R2; cases e; rw [q, nst] at er; cases er
      walk_at "rd"
      refine go_for walk_S (fun i σ Hx => ∃ (vs : List V) (u4 u5 u6 u8 : Option V), σ = [some (.int (3 : Nat)), some (.int n), some y, some (.str (S (nmW n))), u4, u5, u6, some (.ref st), u8] ∧ SUp st (rw3 n :: (List.range i).map (rw3r n)) vs Hx ∧ Same H2 Hx) ⟨_, none, none, none, none, rfl, ⟨est, .cons ⟨R2.same s3, fun e => rst (V.ref.inj e)⟩ .nil⟩, s3⟩ (fun _ _ _ _ _ => trivial) (fun r v σ Hx Hy hr' h y => ?_) (fun σ Hx h => ?_)
      · obtain ⟨vs, u4, u5, u6, u8, rfl, S', sx⟩ := h
        obtain ⟨rfl, c, hc, rfl⟩ := y
        obtain ⟨rfl, r5⟩ := nmW_get hc
        have es := S'.e
        have lvs : vs.length ≤ 6 := by have := Paired.length S'.pr; simp at this; omega
        walk_at "rd"
        refine i_rng (by omega) (by omega) ?_
        rw [Int.toNat_natCast]
        refine go_lc walk_rangeZ (fun p i Hz => EUp Hy p ((List.range i).map fun i => some (0, List.replicate (min i 2 + 1) (97 + r))) Hz) (fun p np => EUp.nil np) (fun _ _ _ _ _ => trivial) (fun p np i v Hz Hw hi q y => ?_) (fun rr H4 nrr q => ?_)
        · obtain ⟨rfl, rfl⟩ := y
          rw [range_snoc]
          walk_at "rd"
          refine ⟨rfl, i_yes (iteT ?_)⟩
          walk_at "rd"
          refine newL0 (Nat.le_of_ble_eq_true rfl) fun tp H5 ntp s5 etp => ?_
          walk_at "rd"
          refine i_ixLv etp (by omega) (v := .int ((min i 2 + 1 : Nat) : Int)) (three_tab (by omega)) ?_
          refine i_mulS (n := min i 2 + 1) (by simp) (by omega) ?_
          rw [show (List.replicate (min i 2 + 1) [97 + r]).flatten = List.replicate (min i 2 + 1) (97 + r) from flat_rep _ _]
          walk_at "rd"
          refine newT0 (Nat.le_of_ble_eq_true rfl) fun t H3 nt s3 et => ?_
          exact q.push np (s5.trans s3) et (by simp; omega)
        obtain ⟨R4, s4⟩ := q.row
        have S4 := S'.same s4
        have es4 := s4 _ _ es
        have nrs : rr ≠ st := fun q => by rw [q, es] at nrr; cases nrr
        walk_at "rd"
        refine i_append es4 (sm100 (by omega)) ?_
        refine ⟨vs ++ [.ref rr], _, _, _, _, rfl, ?_, Same.set_new (sx.trans s4) nst⟩
        rw [range_snoc]
        exact S4.push (R := rw3r n r) R4 nrs
      · obtain ⟨vs, u4, u5, u6, u8, rfl, S', sx⟩ := h
        have es := S'.e
        rw [nmW_len n5] at S'
        walk_at "rd"
        refine newL0 (Nat.le_of_ble_eq_true rfl) fun p5 H5 n5' s5 e5 => ?_
        walk_at "rd"
        refine newL0 (Nat.le_of_ble_eq_true rfl) fun p6 H6 n6 s6 e6 => ?_
        walk_at "rd"
        refine ⟨p6, n, [.non], rfl, rfl, e6, by omega, by omega, Nat.le_of_lt (sm100 (by simp; omega)), fun p7 np7 => ?_⟩
        have e7 := upd_same (H := H6) (a := p7) (o := .lst (List.replicate (n : Int).toNat [V.non]).flatten)
        have s7 := same_upd (o := .lst (List.replicate (n : Int).toNat [V.non]).flatten) np7
        generalize L2.upd H6 p7 (.lst (List.replicate (n : Int).toNat [V.non]).flatten) = H7 at *
        rw [Int.toNat_natCast, flat_repV] at e7
        walk_at "rd"
        refine ⟨p5, p7, _, _, rfl, rfl, s7 _ _ (s6 _ _ e5), e7, Nat.le_of_lt (sm100 (by simp; omega)), fun p8 np8 => ?_⟩
        have e8 := upd_same (H := H7) (a := p8) (o := .lst ([V.str (S [])] ++ List.replicate n V.non))
        have s8 := same_upd (o := .lst ([V.str (S [])] ++ List.replicate n V.non)) np8
        generalize L2.upd H7 p8 (.lst ([V.str (S [])] ++ List.replicate n V.non)) = H8 at *
        walk_at "rd"
        refine newL0 (Nat.le_of_ble_eq_true rfl) fun p9 H9 n9 s9 e9 => ?_
        have s59 := s5.trans (s6.trans (s7.trans (s8.trans s9)))
        refine k p9 _ _ H9 (s2.trans (sx.trans s59)) e9 (S'.st.same s59) ⟨p8, rfl, ?_⟩
        rw [s9 _ _ e8]; simp [enM]
end
end Sw
namespace Sw
open PySem PySem.Spec PyProof.Rows L2
local macro_rules | `(tactic| walk_at "hp") => `(tactic| first
  | (with_reducible assumption) | (with_reducible exact upd_same)
  | ((with_reducible refine' upd_old ?q1 ?q2); (case q1 => (with_reducible assumption)); (case q2 => walk_at "hp"))
  | ((with_reducible refine' Same.at ?q1 ?q2); (case q1 => (with_reducible assumption)); (case q2 => walk_at "hp"))
  | ((with_reducible refine' upd_skip ?q1 ?q2); (case q1 => walk_at "ne"); (case q2 => walk_at "hp"))
  | fail)
local macro_rules | `(tactic| walk_at "ne") => `(tactic| first
  | (with_reducible assumption) | (with_reducible exact Ne.symm (by assumption))
  | ((with_reducible refine' ne_of_none ?q1 ?q2); (case q2 => (with_reducible assumption)); (case q1 => walk_at "hp"))
  | fail)
local macro_rules | `(tactic| walk_at "ci") => `(tactic| first | assumption | (show (0 : Int) < _; first | decide | (with_reducible omega)) | exact ⟨by decide, by decide⟩ | exact .inl ⟨by decide, by decide⟩ | exact .inr ⟨by decide, by decide⟩)
local macro_rules | `(tactic| walk_at "ln") => `(tactic| first | (with_reducible assumption) | (with_reducible omega) | (simp only [List.length_append, List.length_take, List.length_drop, List.length_reverse, List.length_cons, List.length_nil]; with_reducible omega))
local macro_rules | `(tactic| walk_at "rd1") => `(tactic| first
  | (with_reducible refine i_seq ?_) | (with_reducible refine i_asg ?_) | (with_reducible refine i_ret ?_) | (with_reducible refine i_name ?_) | ((with_reducible refine' i_var ?q1 ?_); (case q1 => exact rfl)) | (with_reducible refine i_c ?_) | (with_reducible refine i_op ?_) | (with_reducible refine i_un ?_)
  | (with_reducible refine i_rI0 ?_) | (with_reducible refine i_cb ?_) | (with_reducible refine i_cons ?_) | (with_reducible refine i_nil ?_) | (with_reducible refine i_call ?_) | (with_reducible refine i_if ?_) | (with_reducible refine i_ifE ?_) | (with_reducible refine i_test ?_) | (with_reducible refine i_bl ?_)
  | (with_reducible refine i_and ?_) | (with_reducible refine i_or ?_) | (with_reducible refine i_not ?_) | (with_reducible refine i_lstM ?_) | (with_reducible refine i_lstLM ?_) | (with_reducible refine i_tupM ?_) | (with_reducible refine i_next ?_) | (with_reducible refine i_drop ?_) | (with_reducible refine i_sub ?_)
  | (with_reducible refine i_bm ?_) | (with_reducible refine i_sl ?_) | (with_reducible refine i_part ?_) | (with_reducible refine i_nopart ?_) | (with_reducible refine i_exI ?_) | (with_reducible refine i_chain ?_) | ((with_reducible refine' i_aug ?q1 ?_); (case q1 => exact rfl)) | (with_reducible refine i_ip ?_)
  | (with_reducible refine i_par ?_) | (with_reducible refine i_pair ?_) | (with_reducible refine i_andV ?_) | (with_reducible refine i_orV ?_) | (with_reducible refine i_notV ?_) | (with_reducible refine i_m1 ?_) | (with_reducible refine i_str ?_)
  | (with_reducible refine iteF ?_) | (with_reducible refine iteT ?_) | (with_reducible refine iteNT ?_) | (with_reducible refine iteNF ?_) | (with_reducible refine i_tyS ?_) | (with_reducible refine i_tB ?_) | (with_reducible refine i_retN ?_) | (with_reducible refine i_par3 ?_) | (with_reducible refine i_trip ?_) | (with_reducible refine i_gCons ?_) | (with_reducible refine i_gNil ?_) | (with_reducible refine i_lstRg ?_) | (with_reducible refine i_rg1 ?_)
  | (with_reducible refine i_lc ?_) | (with_reducible refine i_for ?_) | (with_reducible refine i_iList ?_) | (with_reducible refine i_iTup ?_) | (with_reducible refine i_iStr ?_) | (with_reducible refine i_iRng1 ?_) | (with_reducible refine i_iEnS ?_)
  | ((with_reducible refine' i_ixTH ?q1 ?q2 ?_); (case q1 => walk_at "hp"); (case q2 => exact rfl))
  | ((with_reducible refine' i_ixLH ?q1 ?q2 ?_); (case q1 => walk_at "hp"); (case q2 => exact rfl))
  | ((with_reducible refine i_addS ?q1 ?_); (case q1 => walk_at "ln")) | ((with_reducible refine i_lenSS ?q1 ?_); (case q1 => walk_at "ln")) | ((with_reducible refine i_slFrom ?q1 ?q2 ?_); (case q1 => walk_at "ln"); (case q2 => walk_at "ln")) | ((with_reducible refine i_slTo ?q1 ?q2 ?_); (case q1 => walk_at "ln"); (case q2 => walk_at "ln"))
  | ((with_reducible refine' i_tyL ?q1 ?_); (case q1 => walk_at "hp"))
  | ((with_reducible refine' i_gTupH ?q1 ?q2 ?_); (case q1 => walk_at "hp"); (case q2 => exact rfl))
  | (with_reducible refine i_dnewM ?_) | (with_reducible refine i_init ?_) | (with_reducible refine i_fst ?_) | (with_reducible refine i_mk ?_) | (with_reducible refine i_raise ?_) | (with_reducible refine i_callS ?_) | (with_reducible refine i_kwS ?_)
  | (with_reducible refine i_revT ?_) | (with_reducible refine i_kw ?_) | ((with_reducible refine' ⟨_, _, rfl, sqT_of ?q1, ?_⟩); (case q1 => walk_at "hp"))
  | (with_reducible refine i_revS ?_) | ((with_reducible refine i_revSS ?q1 ?_); (case q1 => walk_at "ln"))
  | (with_reducible refine i_startS ?_) | (with_reducible refine i_inSg ?_) | (with_reducible refine i_absN ?_) | (with_reducible refine i_min2 ?_) | (with_reducible refine i_max2 ?_) | (with_reducible refine i_min3 ?_) | (with_reducible refine i_intN ?_) | (with_reducible refine i_intNB ?_)
  | ((with_reducible refine' i_lenL ?q1 ?_); (case q1 => walk_at "hp")) | ((with_reducible refine' i_lenT ?q1 ?_); (case q1 => walk_at "hp"))
  | (with_reducible refine i_eqI ?_) | (with_reducible refine i_neI ?_) | (with_reducible refine i_eqS ?_) | (with_reducible refine i_neS ?_) | (with_reducible refine i_isNoI ?_) | (with_reducible refine i_isNoN ?_) | (with_reducible refine i_isNoR ?_)
  | ((with_reducible refine i_pow ?q1 ?q2 ?q3 ?_); (case q1 => decide); (case q2 => decide); (case q3 => (with_reducible omega)))
  | ((with_reducible refine i_rI ?q1 ?_); (case q1 => walk_at "ci"))
  | (with_reducible refine Or.inl ⟨_, rfl, ?_⟩) | (with_reducible refine Or.inr ⟨_, rfl, ?_⟩) | (with_reducible refine ⟨_, rfl, ?_⟩) | (with_reducible refine ⟨_, _, rfl, ?_⟩) | (with_reducible refine ⟨_, _, rfl, rfl, ?_⟩)
  | ((with_reducible refine' ⟨_, _, rfl, Or.inl (sqL_of ?q1), ?_⟩); (case q1 => walk_at "hp")) | ((with_reducible refine' ⟨_, _, rfl, Or.inr (sqT_of ?q1), ?_⟩); (case q1 => walk_at "hp")) | (with_reducible refine i_dget ?_) | (with_reducible refine i_disp1T ?_) | (with_reducible refine i_dcT ?_) | (with_reducible refine i_dnewT ?_) | (with_reducible refine i_fld ?_) | (with_reducible refine i_sFld ?_) | (with_reducible refine i_make ?_) | (with_reducible refine i_meth ?_) | (with_reducible refine i_star ?_) | (with_reducible refine i_isNoS ?_) | (with_reducible refine i_lc2 ?_) | fail)
local macro_rules | `(tactic| walk_at "rd") => `(tactic| repeat' walk_at "rd1")

/-! ### the law's own reading -/
abbrev Rs := List Nat × Option Nat × Nat
def rdS (way n sp : Nat) : Rs → Nat → Rs
  | (f, h, m), x => match way with
    | 0 => (f ++ lt1 x, h, m)
    | 2 => if x = n - 1 then (f, h, 1 - m) else (f ++ lt1 x ++ List.replicate m 120, h, m)
    | 1 => match h with
      | none => if x = sp then (f, some x, m) else (f ++ lt1 x, none, m)
      | some _ => (f ++ (lt1 x ++ lt1 x), none, m)
    | _ => match h with
      | none => (f, some x, m)
      | some k => (f ++ List.replicate (1 + min x 2) (97 + k), none, m)
def rdL (way n sp : Nat) (l : List Nat) : Rs := l.foldl (rdS way n sp) ([], none, 0)
def readR (way n sp : Nat) (l : List Nat) : Option (List Nat) := match rdL way n sp l with
  | (f, none, _) => some f
  | (_, some _, _) => none
def RelR (way : Nat) (q : Nat) (t : List Nat) : Rs → Prop
  | (f, h, m) => t = f ∧ m ≤ 1 ∧ match way with
    | 0 => q = 0 ∧ h = none
    | 2 => q = m ∧ h = none
    | 1 => match h with | none => q = 0 | some _ => q = 1
    | _ => match h with | none => q = 0 | some k => q = k + 1
theorem rel_step {way n sp q x : Nat} {t : List Nat} {s : Rs} (wo : wayOk way n sp) (hx : x < n) (h : RelR way q t s) (hk : ∀ k, s.2.1 = some k → k < n) : ∃ q' w, ((stM way n sp).getD q []).getD x none = some (q', w) ∧ RelR way q' (t ++ w) (rdS way n sp s x) ∧ ∀ k, (rdS way n sp s x).2.1 = some k → k < n := by
  obtain ⟨f, hd, m⟩ := s
  obtain ⟨n1, n5, hs, h2⟩ := wo
  have gr : ∀ (g : Nat → Ent), ((List.range n).map g).getD x none = g x := fun g => by
    rw [List.getD_eq_getElem?_getD, List.getElem?_map, List.getElem?_range hx]; rfl
  obtain ⟨rfl, m1, h⟩ := h
  rcases way with _ | _ | _ | way
  · obtain ⟨rfl, rfl⟩ := h
    exact ⟨0, lt1 x, gr _, ⟨rfl, m1, rfl, rfl⟩, hk⟩
  · rcases hd with _ | k
    · cases (show q = 0 from h)
      by_cases c : x = sp
      · refine ⟨1, [], (gr _).trans (if_pos c), ?_, ?_⟩
        · simp only [rdS, if_pos c, List.append_nil]; exact ⟨rfl, m1, rfl⟩
        · simp only [rdS, if_pos c]; intro k e; cases e; exact hx
      · refine ⟨0, lt1 x, (gr _).trans (if_neg c), ?_, ?_⟩
        · simp only [rdS, if_neg c]; exact ⟨rfl, m1, rfl⟩
        · simp only [rdS, if_neg c]; intro k e; cases e
    · cases (show q = 1 from h)
      exact ⟨0, lt1 x ++ lt1 x, gr _, ⟨rfl, m1, rfl⟩, fun k e => by cases e⟩
  · obtain ⟨rfl, rfl⟩ := h
    have n2 := h2 rfl
    have hl : ∀ (g : Nat → Ent) (e : Ent), (((List.range (n - 1)).map g) ++ [e]).getD x none = if x = n - 1 then e else g x := fun g e => by
      rw [List.getD_eq_getElem?_getD]
      split
      · rename_i c
        rw [List.getElem?_append_right (by simp; omega), List.length_map, List.length_range, c, Nat.sub_self]; rfl
      · rename_i c
        rw [List.getElem?_append_left (by simp; omega), List.getElem?_map, List.getElem?_range (by omega)]; rfl
    obtain rfl | rfl : q = 0 ∨ q = 1 := by omega
    · by_cases c : x = n - 1
      · refine ⟨1, [], (hl _ _).trans (if_pos c), ?_, ?_⟩
        · simp only [rdS, if_pos c, List.append_nil]; exact ⟨rfl, by omega, rfl, rfl⟩
        · simp only [rdS, if_pos c]; exact hk
      · refine ⟨0, lt1 x, (hl _ _).trans (if_neg c), ?_, ?_⟩
        · simp only [rdS, if_neg c, List.replicate_zero, List.append_nil]; exact ⟨rfl, by omega, rfl, rfl⟩
        · simp only [rdS, if_neg c]; exact hk
    · by_cases c : x = n - 1
      · refine ⟨0, [], (hl _ _).trans (if_pos c), ?_, ?_⟩
        · simp only [rdS, if_pos c, List.append_nil]; exact ⟨rfl, by omega, rfl, rfl⟩
        · simp only [rdS, if_pos c]; exact hk
      · refine ⟨1, lt1 x ++ [120], (hl _ _).trans (if_neg c), ?_, ?_⟩
        · simp only [rdS, if_neg c, List.append_assoc]; exact ⟨rfl, by omega, rfl, rfl⟩
        · simp only [rdS, if_neg c]; exact hk
  · rcases hd with _ | k
    · cases (show q = 0 from h)
      refine ⟨x + 1, [], gr _, ?_, ?_⟩
      · rw [List.append_nil]; exact ⟨rfl, m1, rfl⟩
      · intro k e; cases e; exact hx
    · cases (show q = k + 1 from h)
      have hk' := hk k rfl
      refine ⟨0, List.replicate (min x 2 + 1) (97 + k), ?_, ?_, fun k e => by cases e⟩
      · have : (stM (way + 1 + 1 + 1) n sp).getD (k + 1) [] = rw3r n k := by
          show (rw3 n :: (List.range n).map (rw3r n)).getD (k + 1) [] = _
          rw [List.getD_eq_getElem?_getD, List.getElem?_cons_succ, List.getElem?_map, List.getElem?_range hk']; rfl
        rw [this]
        exact gr _
      · rw [Nat.add_comm (min x 2) 1]; exact ⟨rfl, m1, rfl⟩
theorem rel_run {way n sp : Nat} (wo : wayOk way n sp) : ∀ {l : List Nat} {q : Nat} {t : List Nat} {s : Rs}, (∀ x ∈ l, x < n) → RelR way q t s → (∀ k, s.2.1 = some k → k < n) → ∃ q' t', runD (stM way n sp) q t l = some (q', t') ∧ RelR way q' t' (l.foldl (rdS way n sp) s) ∧ ∀ k, (l.foldl (rdS way n sp) s).2.1 = some k → k < n
  | [], q, t, s, _, h, hk => ⟨q, t, rfl, h, hk⟩
  | x :: l, q, t, s, hl, h, hk => by
    obtain ⟨q', w, e, h', hk'⟩ := rel_step wo (hl x List.mem_cons_self) h hk
    obtain ⟨q2, t2, e2, r⟩ := rel_run wo (fun y hy => hl y (List.mem_cons_of_mem _ hy)) h' hk'
    refine ⟨q2, t2, ?_, r⟩
    simp only [runD]
    rw [e]; exact e2
/-- what the decoder writes is what the law reads -/
theorem writ_read {way n sp : Nat} {l : List Nat} (w4 : way < 4) (wo : wayOk way n sp) (hl : ∀ x ∈ l, x < n) : writD (stM way n sp) (enM way n) l = readR way n sp l := by
  obtain ⟨q, t, e, r, hk⟩ := rel_run wo (q := 0) (t := []) (s := ([], none, 0)) hl (by
    obtain rfl | rfl | rfl | rfl : way = 0 ∨ way = 1 ∨ way = 2 ∨ way = 3 := by omega
    all_goals simp [RelR]) (fun k e => by cases e)
  unfold writD readR rdL
  rw [e]
  generalize l.foldl (rdS way n sp) ([], none, 0) = s at *
  obtain ⟨f, h, m⟩ := s
  obtain ⟨rfl, m1, r⟩ := r
  obtain rfl | rfl | rfl | rfl : way = 0 ∨ way = 1 ∨ way = 2 ∨ way = 3 := by omega
  · obtain ⟨rfl, rfl⟩ := r
    simp [enM]
  · rcases h with _ | k
    · cases (show q = 0 from r); simp [enM]
    · cases (show q = 1 from r); simp [enM]
  · obtain ⟨rfl, rfl⟩ := r
    obtain rfl | rfl : q = 0 ∨ q = 1 := by omega
    all_goals simp [enM]
  · rcases h with _ | k
    · cases (show q = 0 from r); simp [enM]
    · cases (show q = k + 1 from r)
      have := hk k rfl
      simp [enM, List.getD_eq_getElem?_getD, List.getElem?_replicate, this]
end Sw
namespace Sw
open PySem PySem.Spec PyProof.Rows L2
local macro_rules | `(tactic| walk_at "hp") => `(tactic| first
  | (with_reducible assumption) | (with_reducible exact upd_same)
  | ((with_reducible refine' upd_old ?q1 ?q2); (case q1 => (with_reducible assumption)); (case q2 => walk_at "hp"))
  | ((with_reducible refine' Same.at ?q1 ?q2); (case q1 => (with_reducible assumption)); (case q2 => walk_at "hp"))
  | ((with_reducible refine' upd_skip ?q1 ?q2); (case q1 => walk_at "ne"); (case q2 => walk_at "hp"))
  | fail)
local macro_rules | `(tactic| walk_at "ne") => `(tactic| first
  | (with_reducible assumption) | (with_reducible exact Ne.symm (by assumption))
  | ((with_reducible refine' ne_of_none ?q1 ?q2); (case q2 => (with_reducible assumption)); (case q1 => walk_at "hp"))
  | fail)
local macro_rules | `(tactic| walk_at "ci") => `(tactic| first | assumption | (show (0 : Int) < _; first | decide | (with_reducible omega)) | exact ⟨by decide, by decide⟩ | exact .inl ⟨by decide, by decide⟩ | exact .inr ⟨by decide, by decide⟩)
local macro_rules | `(tactic| walk_at "ln") => `(tactic| first | (with_reducible assumption) | (with_reducible omega) | (simp only [List.length_append, List.length_take, List.length_drop, List.length_reverse, List.length_cons, List.length_nil]; with_reducible omega))
local macro_rules | `(tactic| walk_at "rd1") => `(tactic| first
  | (with_reducible refine i_seq ?_) | (with_reducible refine i_asg ?_) | (with_reducible refine i_ret ?_) | (with_reducible refine i_name ?_) | ((with_reducible refine' i_var ?q1 ?_); (case q1 => exact rfl)) | (with_reducible refine i_c ?_) | (with_reducible refine i_op ?_) | (with_reducible refine i_un ?_)
  | (with_reducible refine i_rI0 ?_) | (with_reducible refine i_cb ?_) | (with_reducible refine i_cons ?_) | (with_reducible refine i_nil ?_) | (with_reducible refine i_call ?_) | (with_reducible refine i_if ?_) | (with_reducible refine i_ifE ?_) | (with_reducible refine i_test ?_) | (with_reducible refine i_bl ?_)
  | (with_reducible refine i_and ?_) | (with_reducible refine i_or ?_) | (with_reducible refine i_not ?_) | (with_reducible refine i_lstM ?_) | (with_reducible refine i_lstLM ?_) | (with_reducible refine i_tupM ?_) | (with_reducible refine i_next ?_) | (with_reducible refine i_drop ?_) | (with_reducible refine i_sub ?_)
  | (with_reducible refine i_bm ?_) | (with_reducible refine i_sl ?_) | (with_reducible refine i_part ?_) | (with_reducible refine i_nopart ?_) | (with_reducible refine i_exI ?_) | (with_reducible refine i_chain ?_) | ((with_reducible refine' i_aug ?q1 ?_); (case q1 => exact rfl)) | (with_reducible refine i_ip ?_)
  | (with_reducible refine i_par ?_) | (with_reducible refine i_pair ?_) | (with_reducible refine i_andV ?_) | (with_reducible refine i_orV ?_) | (with_reducible refine i_notV ?_) | (with_reducible refine i_m1 ?_) | (with_reducible refine i_str ?_)
  | (with_reducible refine iteF ?_) | (with_reducible refine iteT ?_) | (with_reducible refine iteNT ?_) | (with_reducible refine iteNF ?_) | (with_reducible refine i_tyS ?_) | (with_reducible refine i_tB ?_) | (with_reducible refine i_retN ?_) | (with_reducible refine i_par3 ?_) | (with_reducible refine i_trip ?_) | (with_reducible refine i_gCons ?_) | (with_reducible refine i_gNil ?_) | (with_reducible refine i_lstRg ?_) | (with_reducible refine i_rg1 ?_)
  | (with_reducible refine i_lc ?_) | (with_reducible refine i_for ?_) | (with_reducible refine i_iList ?_) | (with_reducible refine i_iTup ?_) | (with_reducible refine i_iStr ?_) | (with_reducible refine i_iRng1 ?_) | (with_reducible refine i_iEnS ?_)
  | ((with_reducible refine' i_ixTH ?q1 ?q2 ?_); (case q1 => walk_at "hp"); (case q2 => exact rfl))
  | ((with_reducible refine' i_ixLH ?q1 ?q2 ?_); (case q1 => walk_at "hp"); (case q2 => exact rfl))
  | ((with_reducible refine i_addS ?q1 ?_); (case q1 => walk_at "ln")) | ((with_reducible refine i_lenSS ?q1 ?_); (case q1 => walk_at "ln")) | ((with_reducible refine i_slFrom ?q1 ?q2 ?_); (case q1 => walk_at "ln"); (case q2 => walk_at "ln")) | ((with_reducible refine i_slTo ?q1 ?q2 ?_); (case q1 => walk_at "ln"); (case q2 => walk_at "ln"))
  | ((with_reducible refine' i_tyL ?q1 ?_); (case q1 => walk_at "hp"))
  | ((with_reducible refine' i_gTupH ?q1 ?q2 ?_); (case q1 => walk_at "hp"); (case q2 => exact rfl))
  | (with_reducible refine i_dnewM ?_) | (with_reducible refine i_init ?_) | (with_reducible refine i_fst ?_) | (with_reducible refine i_mk ?_) | (with_reducible refine i_raise ?_) | (with_reducible refine i_callS ?_) | (with_reducible refine i_kwS ?_)
  | (with_reducible refine i_revT ?_) | (with_reducible refine i_kw ?_) | ((with_reducible refine' ⟨_, _, rfl, sqT_of ?q1, ?_⟩); (case q1 => walk_at "hp"))
  | (with_reducible refine i_revS ?_) | ((with_reducible refine i_revSS ?q1 ?_); (case q1 => walk_at "ln"))
  | (with_reducible refine i_startS ?_) | (with_reducible refine i_inSg ?_) | (with_reducible refine i_absN ?_) | (with_reducible refine i_min2 ?_) | (with_reducible refine i_max2 ?_) | (with_reducible refine i_min3 ?_) | (with_reducible refine i_intN ?_) | (with_reducible refine i_intNB ?_)
  | ((with_reducible refine' i_lenL ?q1 ?_); (case q1 => walk_at "hp")) | ((with_reducible refine' i_lenT ?q1 ?_); (case q1 => walk_at "hp"))
  | (with_reducible refine i_eqI ?_) | (with_reducible refine i_neI ?_) | (with_reducible refine i_eqS ?_) | (with_reducible refine i_neS ?_) | (with_reducible refine i_isNoI ?_) | (with_reducible refine i_isNoN ?_) | (with_reducible refine i_isNoR ?_)
  | ((with_reducible refine i_pow ?q1 ?q2 ?q3 ?_); (case q1 => decide); (case q2 => decide); (case q3 => (with_reducible omega)))
  | ((with_reducible refine i_rI ?q1 ?_); (case q1 => walk_at "ci"))
  | (with_reducible refine Or.inl ⟨_, rfl, ?_⟩) | (with_reducible refine Or.inr ⟨_, rfl, ?_⟩) | (with_reducible refine ⟨_, rfl, ?_⟩) | (with_reducible refine ⟨_, _, rfl, ?_⟩) | (with_reducible refine ⟨_, _, rfl, rfl, ?_⟩)
  | ((with_reducible refine' ⟨_, _, rfl, Or.inl (sqL_of ?q1), ?_⟩); (case q1 => walk_at "hp")) | ((with_reducible refine' ⟨_, _, rfl, Or.inr (sqT_of ?q1), ?_⟩); (case q1 => walk_at "hp")) | (with_reducible refine i_dget ?_) | (with_reducible refine i_disp1T ?_) | (with_reducible refine i_dcT ?_) | (with_reducible refine i_dnewT ?_) | (with_reducible refine i_fld ?_) | (with_reducible refine i_sFld ?_) | (with_reducible refine i_make ?_) | (with_reducible refine i_meth ?_) | (with_reducible refine i_star ?_) | (with_reducible refine i_isNoS ?_) | (with_reducible refine i_lc2 ?_) | fail)
local macro_rules | `(tactic| walk_at "rd") => `(tactic| repeat' walk_at "rd1")

abbrev hV : Option Nat → V
  | none => .non
  | some k => .int (k : Int)
/-- _law_read(way, many, special, line) -/
def spRead (K : PySem.W.Frag) : Sp := fun vs H Q _ => ∃ (way n sp : Nat) (y v : V) (l : List Nat), vs = [.int way, .int n, y, v] ∧ way < 4 ∧ wayOk way n sp ∧ (way = 1 → y = .int sp) ∧ LnAt K H v l ∧ l.length ≤ 100 ∧ (∀ x ∈ l, x < n) ∧ ∀ H', Same H H' → Q (endV (readR way n sp l)) H'
theorem ix_abc {x : Nat} {H : Hp} {Q : VK} (h : x < 5) (q : Q (.str (S [97 + x])) H) : rIxSS (.str (S [97, 98, 99, 100, 101])) (.int (x : Int)) H Q := by
  refine ⟨_, _, 97 + x, rfl, rfl, by decide, ?_, q⟩
  obtain rfl | rfl | rfl | rfl | rfl : x = 0 ∨ x = 1 ∨ x = 2 ∨ x = 3 ∨ x = 4 := by omega
  all_goals rfl
theorem rdL_snoc (way n sp : Nat) (l : List Nat) {i x : Nat} (g : l[i]? = some x) : rdL way n sp (l.take (i + 1)) = rdS way n sp (rdL way n sp (l.take i)) x := by
  rw [List.take_add_one, g]
  unfold rdL
  rw [List.foldl_append]; rfl
section
variable {P : Program} {w : World} {K : PySem.W.Frag} {mg : Str → Option Value} {base : Heap} {f : Addr} {fd : FuncData}
theorem ok_read (F : Fun K "_law_read" "_law_read" s__law_read f fd) (z : Z mg) : FnOk P w K mg base CX0 1 f fd ["way", "many", "special", "line"] (spRead K) := by
  refine F.ok sc__law_read (fun vs H Q E h => ?_) (fun cdv A outer s H vs Q E hr h => ?_)
  · obtain ⟨way, n, sp, y, v, l, rfl, _⟩ := h; rfl
  · obtain ⟨way, n, sp, y, v, l, rfl, w4, wo, hy, ⟨a, rfl, hl⟩, ll, ln, k⟩ := h
    refine ⟨_, (pss_cons (ps_asg (pe_tup (pa_cons (pe_strS (l := []) (by decide +kernel)) (pa_cons pe_non (pa_cons pe_int pa_nil)))) (pg_tup rfl (pgs_cons (pg_name (i := 4) sc__law_read.nd rfl (.inl rfl)) (pgs_cons (pg_name (i := 5) sc__law_read.nd rfl (.inl rfl)) (pgs_cons (pg_name (i := 6) sc__law_read.nd rfl (.inl rfl)) pgs_nil)))))
      (pss_cons (ps_for PassesOwn.never rfl (pi_tup (pv 3)) (pg_name (i := 7) sc__law_read.nd rfl (.inl rfl))
        (pss_cons (ps_set (i := 8) sc__law_read.nd rfl (.inl rfl) (pe_ix ix_S (pe_strS (l := [97, 98, 99, 100, 101]) (by decide +kernel)) (pv 7) (fun _ _ => rfl)))
        (pss_one (ps_if (pt_cmpR op_eq (pv 0) pe_int (nomark _))
          (pss_one (ps_set (i := 4) sc__law_read.nd rfl (.inl rfl) (pe_op op_addS (pv 4) (pv 8))))
          (pss_one (ps_if (PW.pt (pw_and (pt_cmpR op_eq (pv 0) pe_int (nomark _)) (pw_and1 (pt_cmpR op_eq (pv 7) (pe_op op_sub (pv 1) pe_int) (nomark _)))))
            (pss_one (ps_set (i := 6) sc__law_read.nd rfl (.inl rfl) (pe_op op_sub pe_int (pv 6))))
            (pss_one (ps_if (pt_cmpR op_eq (pv 0) pe_int (nomark _))
              (pss_one (ps_set (i := 4) sc__law_read.nd rfl (.inl rfl) (pe_op op_addS (pe_op op_addS (pv 4) (pv 8)) (pe_op op_mulS (pe_strS (l := [120]) (by decide +kernel)) (pv 6)))))
              (pss_one (ps_if (PW.pt (pw_and (pt_cmpR op_isNo (pv 5) pe_non (nomark _)) (pw_and1 (PW.pt (pw_or (pt_cmpR op_eq (pv 0) pe_int (nomark _)) (pw_or1 (pt_cmpR op_eq (pv 7) (pv 2) (nomark _))))))))
                (pss_one (ps_set (i := 5) sc__law_read.nd rfl (.inl rfl) (pv 7)))
                (pss_one (ps_if (pt_cmpR op_isNo (pv 5) pe_non (nomark _))
                  (pss_one (ps_set (i := 4) sc__law_read.nd rfl (.inl rfl) (pe_op op_addS (pv 4) (pv 8))))
                  (pss_cons (ps_set (i := 4) sc__law_read.nd rfl (.inl rfl) (pe_op op_addS (pv 4) (pe_ifExp (pt_cmpR op_eq (pv 0) pe_int (nomark _)) (pe_op op_addS (pv 8) (pv 8)) (pe_op op_mulS (pe_ix ix_S (pe_strS (l := [97, 98, 99, 100, 101]) (by decide +kernel)) (pv 5) (fun _ _ => rfl)) (pe_op op_add pe_int (pe_callB (call_min2N rfl) (by rfl) z.min_ (by decide +kernel) (pa_cons (pv 7) (pa_cons pe_int pa_nil))))))))
                  (pss_one (ps_set (i := 5) sc__law_read.nd rfl (.inl rfl) pe_non)))))))))))))))
      (pss_one (ps_ret (pe_ifExp (pt_cmpR op_notN (pv 5) pe_non (nomark _)) pe_non (pv 4)))))), ?_⟩
    obtain ⟨n1, n5, hs, h2⟩ := id wo
    walk_at "rd"
    refine newT0 (Nat.le_of_ble_eq_true rfl) fun t0 H2 nt0 s2 e0 => ?_
    refine ⟨t0, _, rfl, sqT_of e0, rfl, ?_⟩
    walk_at "rd"
    refine ⟨⟨_, Same.sqT s2 hl⟩, ?_⟩
    refine go_for (walk_tup (xs := l.map iV)) (fun i σ Hx => ∃ (f : List Nat) (h : Option Nat) (m : Nat) (u7 u8 : Option V), σ = [some (.int way), some (.int n), some y, some (.ref a), some (.str (S f)), some (hV h), some (.int m), u7, u8] ∧ rdL way n sp (l.take i) = (f, h, m) ∧ m ≤ 1 ∧ f.length ≤ 3 * i ∧ (∀ k, h = some k → k < 5) ∧ Same H Hx)
      ⟨[], none, 0, none, none, rfl, rfl, by omega, by simp, nofun, s2⟩ (fun i σ Hx hi h => Same.sqT h.choose_spec.choose_spec.choose_spec.choose_spec.choose_spec.2.2.2.2.2 hl) (fun i v σ Hx Hy hi h y => ?_) (fun σ Hx h => ?_)
    · obtain ⟨f, h, m, u7, u8, rfl, run, m1, lf, hk, sx⟩ := h
      obtain ⟨rfl, hv⟩ := y
      rw [List.length_map] at hi
      have gx : l[i]? = some l[i] := List.getElem?_eq_getElem hi
      have run' := rdL_snoc way n sp l gx
      rw [run] at run'
      rw [List.getElem?_map, gx] at hv
      cases hv
      have hx : l[i] < n := ln _ (List.getElem_mem hi)
      generalize l[i] = x at *
      walk_at "rd"
      refine ix_abc (by omega) ?_
      walk_at "rd"
      obtain rfl | rfl | rfl | rfl : way = 0 ∨ way = 1 ∨ way = 2 ∨ way = 3 := by omega
      · rw [decide_eq_true (show ((0 : Nat) : Int) = 0 by omega)]
        walk_at "rd"
        exact ⟨_, _, _, _, _, rfl, run', m1, by rw [List.length_append]; simp [lt1]; omega, hk, sx⟩
      · rw [decide_eq_false (show ¬ ((1 : Nat) : Int) = 0 by omega)]
        walk_at "rd"
        rw [decide_eq_false (show ¬ ((1 : Nat) : Int) = 2 by omega)]
        walk_at "rd"
        rw [decide_eq_false (show ¬ ((1 : Nat) : Int) = 2 by omega)]
        walk_at "rd"
        cases hy rfl
        rcases h with _ | kk
        · walk_at "rd"
          rw [decide_eq_false (show ¬ ((1 : Nat) : Int) = 3 by omega)]
          walk_at "rd"
          by_cases c : x = sp
          · rw [decide_eq_true (show (x : Int) = (sp : Int) by omega)]
            walk_at "rd"
            simp only [rdS, if_pos c] at run'
            exact ⟨_, some x, _, _, _, rfl, run', m1, by omega, (fun k e => by cases e; omega), sx⟩
          · rw [decide_eq_false (show ¬ (x : Int) = (sp : Int) by omega)]
            walk_at "rd"
            simp only [rdS, if_neg c] at run'
            exact ⟨_, none, _, _, _, rfl, run', m1, by rw [List.length_append]; simp [lt1]; omega, nofun, sx⟩
        · walk_at "rd"
          rw [decide_eq_true (show ((1 : Nat) : Int) = 1 by omega)]
          walk_at "rd"
          exact ⟨_, none, _, _, _, rfl, run', m1, by simp; omega, nofun, sx⟩
      · rw [decide_eq_false (show ¬ ((2 : Nat) : Int) = 0 by omega)]
        walk_at "rd"
        rw [decide_eq_true (show ((2 : Nat) : Int) = 2 by omega)]
        walk_at "rd"
        by_cases c : x = n - 1
        · rw [decide_eq_true (show (x : Int) = (n : Int) - 1 by omega)]
          walk_at "rd"
          simp only [rdS, if_pos c] at run'
          exact ⟨_, _, 1 - m, _, _, by rw [show (1 : Int) - (m : Int) = ((1 - m : Nat) : Int) by omega]; rfl, run', by omega, by omega, hk, sx⟩
        · rw [decide_eq_false (show ¬ (x : Int) = (n : Int) - 1 by omega)]
          walk_at "rd"
          rw [decide_eq_true (show ((2 : Nat) : Int) = 2 by omega)]
          walk_at "rd"
          refine i_mulS (n := m) (by simp) (by omega) ?_
          rw [show (List.replicate m [120]).flatten = List.replicate m 120 from flat_rep _ _]
          walk_at "rd"
          refine i_addS (by simp; omega) ?_
          walk_at "rd"
          simp only [rdS, if_neg c] at run'
          exact ⟨_, _, _, _, _, rfl, run', m1, by rw [List.length_append, List.length_append, List.length_replicate]; simp [lt1]; omega, hk, sx⟩
      · rw [decide_eq_false (show ¬ ((3 : Nat) : Int) = 0 by omega)]
        walk_at "rd"
        rw [decide_eq_false (show ¬ ((3 : Nat) : Int) = 2 by omega)]
        walk_at "rd"
        rw [decide_eq_false (show ¬ ((3 : Nat) : Int) = 2 by omega)]
        walk_at "rd"
        rcases h with _ | kk
        · walk_at "rd"
          rw [decide_eq_true (show ((3 : Nat) : Int) = 3 by omega)]
          walk_at "rd"
          exact ⟨_, some x, _, _, _, rfl, run', m1, by omega, (fun k e => by cases e; omega), sx⟩
        · have hkk := hk kk rfl
          walk_at "rd"
          rw [decide_eq_false (show ¬ ((3 : Nat) : Int) = 1 by omega)]
          walk_at "rd"
          refine ix_abc (by omega) ?_
          walk_at "rd"
          rw [show (1 : Int) + min (x : Int) 2 = ((1 + min x 2 : Nat) : Int) by omega]
          refine i_mulS (n := 1 + min x 2) (by simp) (by omega) ?_
          rw [show (List.replicate (1 + min x 2) [97 + kk]).flatten = List.replicate (1 + min x 2) (97 + kk) from flat_rep _ _]
          walk_at "rd"
          refine i_addS (by simp; omega) ?_
          walk_at "rd"
          exact ⟨_, none, _, _, _, rfl, run', m1, by rw [List.length_append, List.length_replicate]; omega, nofun, sx⟩
    · obtain ⟨f, h, m, u7, u8, rfl, run, m1, lf, hk, sx⟩ := h
      rw [List.length_map, List.take_length] at run
      rcases h with _ | kk
      · have e : readR way n sp l = some f := by unfold readR; rw [run]
        rw [e] at k
        walk_at "rd"
        refine ⟨rfl, ?_⟩
        rw [show (!decide (hV none = V.non)) = false from by rw [decide_eq_true rfl]; rfl]
        walk_at "rd"
        exact k _ sx
      · have e : readR way n sp l = none := by unfold readR; rw [run]
        rw [e] at k
        walk_at "rd"
        refine ⟨rfl, ?_⟩
        rw [show (!decide (hV (some kk) = V.non)) = true from by rw [decide_eq_false nofun]; rfl]
        walk_at "rd"
        exact k _ sx
end
end Sw
namespace Sw
open PySem PySem.Spec PyProof.Rows L2
local macro_rules | `(tactic| walk_at "hp") => `(tactic| first
  | (with_reducible assumption) | (with_reducible exact upd_same)
  | ((with_reducible refine' upd_old ?q1 ?q2); (case q1 => (with_reducible assumption)); (case q2 => walk_at "hp"))
  | ((with_reducible refine' Same.at ?q1 ?q2); (case q1 => (with_reducible assumption)); (case q2 => walk_at "hp"))
  | ((with_reducible refine' upd_skip ?q1 ?q2); (case q1 => walk_at "ne"); (case q2 => walk_at "hp"))
  | fail)
local macro_rules | `(tactic| walk_at "ne") => `(tactic| first
  | (with_reducible assumption) | (with_reducible exact Ne.symm (by assumption))
  | ((with_reducible refine' ne_of_none ?q1 ?q2); (case q2 => (with_reducible assumption)); (case q1 => walk_at "hp"))
  | fail)
local macro_rules | `(tactic| walk_at "ci") => `(tactic| first | assumption | (show (0 : Int) < _; first | decide | (with_reducible omega)) | exact ⟨by decide, by decide⟩ | exact .inl ⟨by decide, by decide⟩ | exact .inr ⟨by decide, by decide⟩)
local macro_rules | `(tactic| walk_at "ln") => `(tactic| first | (with_reducible assumption) | (with_reducible omega) | (simp only [List.length_append, List.length_take, List.length_drop, List.length_reverse, List.length_cons, List.length_nil]; with_reducible omega))
local macro_rules | `(tactic| walk_at "rd1") => `(tactic| first
  | (with_reducible refine i_seq ?_) | (with_reducible refine i_asg ?_) | (with_reducible refine i_ret ?_) | (with_reducible refine i_name ?_) | ((with_reducible refine' i_var ?q1 ?_); (case q1 => exact rfl)) | (with_reducible refine i_c ?_) | (with_reducible refine i_op ?_) | (with_reducible refine i_un ?_)
  | (with_reducible refine i_rI0 ?_) | (with_reducible refine i_cb ?_) | (with_reducible refine i_cons ?_) | (with_reducible refine i_nil ?_) | (with_reducible refine i_call ?_) | (with_reducible refine i_if ?_) | (with_reducible refine i_ifE ?_) | (with_reducible refine i_test ?_) | (with_reducible refine i_bl ?_)
  | (with_reducible refine i_and ?_) | (with_reducible refine i_or ?_) | (with_reducible refine i_not ?_) | (with_reducible refine i_lstM ?_) | (with_reducible refine i_lstLM ?_) | (with_reducible refine i_tupM ?_) | (with_reducible refine i_next ?_) | (with_reducible refine i_drop ?_) | (with_reducible refine i_sub ?_)
  | (with_reducible refine i_bm ?_) | (with_reducible refine i_sl ?_) | (with_reducible refine i_part ?_) | (with_reducible refine i_nopart ?_) | (with_reducible refine i_exI ?_) | (with_reducible refine i_chain ?_) | ((with_reducible refine' i_aug ?q1 ?_); (case q1 => exact rfl)) | (with_reducible refine i_ip ?_)
  | (with_reducible refine i_par ?_) | (with_reducible refine i_pair ?_) | (with_reducible refine i_andV ?_) | (with_reducible refine i_orV ?_) | (with_reducible refine i_notV ?_) | (with_reducible refine i_m1 ?_) | (with_reducible refine i_str ?_)
  | (with_reducible refine iteF ?_) | (with_reducible refine iteT ?_) | (with_reducible refine iteNT ?_) | (with_reducible refine iteNF ?_) | (with_reducible refine i_tyS ?_) | (with_reducible refine i_tB ?_) | (with_reducible refine i_retN ?_) | (with_reducible refine i_par3 ?_) | (with_reducible refine i_trip ?_) | (with_reducible refine i_gCons ?_) | (with_reducible refine i_gNil ?_) | (with_reducible refine i_lstRg ?_) | (with_reducible refine i_rg1 ?_)
  | (with_reducible refine i_lc ?_) | (with_reducible refine i_for ?_) | (with_reducible refine i_iList ?_) | (with_reducible refine i_iTup ?_) | (with_reducible refine i_iStr ?_) | (with_reducible refine i_iRng1 ?_) | (with_reducible refine i_iEnS ?_)
  | ((with_reducible refine' i_ixTH ?q1 ?q2 ?_); (case q1 => walk_at "hp"); (case q2 => exact rfl))
  | ((with_reducible refine' i_ixLH ?q1 ?q2 ?_); (case q1 => walk_at "hp"); (case q2 => exact rfl))
  | ((with_reducible refine i_addS ?q1 ?_); (case q1 => walk_at "ln")) | ((with_reducible refine i_lenSS ?q1 ?_); (case q1 => walk_at "ln")) | ((with_reducible refine i_slFrom ?q1 ?q2 ?_); (case q1 => walk_at "ln"); (case q2 => walk_at "ln")) | ((with_reducible refine i_slTo ?q1 ?q2 ?_); (case q1 => walk_at "ln"); (case q2 => walk_at "ln"))
  | ((with_reducible refine' i_tyL ?q1 ?_); (case q1 => walk_at "hp"))
  | ((with_reducible refine' i_gTupH ?q1 ?q2 ?_); (case q1 => walk_at "hp"); (case q2 => exact rfl))
  | (with_reducible refine i_dnewM ?_) | (with_reducible refine i_init ?_) | (with_reducible refine i_fst ?_) | (with_reducible refine i_mk ?_) | (with_reducible refine i_raise ?_) | (with_reducible refine i_callS ?_) | (with_reducible refine i_kwS ?_)
  | (with_reducible refine i_revT ?_) | (with_reducible refine i_kw ?_) | ((with_reducible refine' ⟨_, _, rfl, sqT_of ?q1, ?_⟩); (case q1 => walk_at "hp"))
  | (with_reducible refine i_revS ?_) | ((with_reducible refine i_revSS ?q1 ?_); (case q1 => walk_at "ln"))
  | (with_reducible refine i_startS ?_) | (with_reducible refine i_inSg ?_) | (with_reducible refine i_absN ?_) | (with_reducible refine i_min2 ?_) | (with_reducible refine i_max2 ?_) | (with_reducible refine i_min3 ?_) | (with_reducible refine i_intN ?_) | (with_reducible refine i_intNB ?_)
  | ((with_reducible refine' i_lenL ?q1 ?_); (case q1 => walk_at "hp")) | ((with_reducible refine' i_lenT ?q1 ?_); (case q1 => walk_at "hp"))
  | (with_reducible refine i_eqI ?_) | (with_reducible refine i_neI ?_) | (with_reducible refine i_eqS ?_) | (with_reducible refine i_neS ?_) | (with_reducible refine i_isNoI ?_) | (with_reducible refine i_isNoN ?_) | (with_reducible refine i_isNoR ?_)
  | ((with_reducible refine i_pow ?q1 ?q2 ?q3 ?_); (case q1 => decide); (case q2 => decide); (case q3 => (with_reducible omega)))
  | ((with_reducible refine i_rI ?q1 ?_); (case q1 => walk_at "ci"))
  | (with_reducible refine Or.inl ⟨_, rfl, ?_⟩) | (with_reducible refine Or.inr ⟨_, rfl, ?_⟩) | (with_reducible refine ⟨_, rfl, ?_⟩) | (with_reducible refine ⟨_, _, rfl, ?_⟩) | (with_reducible refine ⟨_, _, rfl, rfl, ?_⟩)
  | ((with_reducible refine' ⟨_, _, rfl, Or.inl (sqL_of ?q1), ?_⟩); (case q1 => walk_at "hp")) | ((with_reducible refine' ⟨_, _, rfl, Or.inr (sqT_of ?q1), ?_⟩); (case q1 => walk_at "hp")) | (with_reducible refine i_dget ?_) | (with_reducible refine i_disp1T ?_) | (with_reducible refine i_dcT ?_) | (with_reducible refine i_dnewT ?_) | (with_reducible refine i_fld ?_) | (with_reducible refine i_sFld ?_) | (with_reducible refine i_make ?_) | (with_reducible refine i_meth ?_) | (with_reducible refine i_star ?_) | (with_reducible refine i_isNoS ?_) | (with_reducible refine i_lc2 ?_) | fail)
local macro_rules | `(tactic| walk_at "rd") => `(tactic| repeat' walk_at "rd1")

structure RdOk (N : Nat) (s : Rs) : Prop where
  a : ∀ c ∈ s.1, c ≤ 1000
  b : s.1.length ≤ N
  c : ∀ k, s.2.1 = some k → k < 5
  d : s.2.2 ≤ 1
theorem rdS_ok {way n sp x N : Nat} {s : Rs} (h : RdOk N s) (hx : x < 5) : RdOk (N + 3) (rdS way n sp s x) := by
  obtain ⟨f, hd, m⟩ := s
  obtain ⟨ha, hb, hc, hm⟩ := h
  have ap : ∀ w : List Nat, w.length ≤ 3 → (∀ c ∈ w, c ≤ 1000) → (∀ c ∈ f ++ w, c ≤ 1000) ∧ (f ++ w).length ≤ N + 3 := fun w lw hw =>
    ⟨fun c h => (List.mem_append.mp h).elim (ha c) (hw c), by rw [List.length_append]; have : f.length ≤ N := hb; omega⟩
  have hb0 : f.length ≤ N + 3 := Nat.le_trans hb (by omega)
  have l1 : ∀ c ∈ lt1 x, c ≤ 1000 := fun c h => by rw [List.mem_singleton.mp h]; omega
  have l2 : ∀ c ∈ lt1 x ++ lt1 x, c ≤ 1000 := fun c h => (List.mem_append.mp h).elim (l1 c) (l1 c)
  rcases way with _ | _ | _ | way
  · have := ap (lt1 x) (by simp [lt1]) l1
    exact ⟨this.1, this.2, hc, hm⟩
  · rcases hd with _ | k
    · by_cases c : x = sp
      · simp only [rdS, if_pos c]
        exact ⟨ha, hb0, fun k e => by cases e; exact hx, hm⟩
      · simp only [rdS, if_neg c]
        have := ap (lt1 x) (by simp [lt1]) l1
        exact ⟨this.1, this.2, nofun, hm⟩
    · have := ap (lt1 x ++ lt1 x) (by simp [lt1]) l2
      exact ⟨this.1, this.2, nofun, hm⟩
  · by_cases c : x = n - 1
    · simp only [rdS, if_pos c]
      exact ⟨ha, hb0, hc, by show 1 - m ≤ 1; omega⟩
    · simp only [rdS, if_neg c, List.append_assoc]
      have hm' : m ≤ 1 := hm
      have := ap (lt1 x ++ List.replicate m 120) (by simp [lt1]; omega) (fun c h => (List.mem_append.mp h).elim (l1 c) fun h => by rw [List.eq_of_mem_replicate h]; omega)
      exact ⟨this.1, this.2, hc, hm⟩
  · rcases hd with _ | k
    · exact ⟨ha, hb0, fun k e => by cases e; exact hx, hm⟩
    · have hk := hc k rfl
      have := ap (List.replicate (1 + min x 2) (97 + k)) (by simp; omega) (fun c h => by rw [List.eq_of_mem_replicate h]; omega)
      exact ⟨this.1, this.2, nofun, hm⟩
theorem rd_ok {way n sp : Nat} : ∀ {l : List Nat} {s : Rs} {N : Nat}, (∀ x ∈ l, x < 5) → RdOk N s → RdOk (N + 3 * l.length) (l.foldl (rdS way n sp) s)
  | [], s, N, _, h => h
  | x :: l, s, N, hl, h => by
    have := rd_ok (way := way) (n := n) (sp := sp) (fun y hy => hl y (List.mem_cons_of_mem _ hy)) (rdS_ok (way := way) (n := n) (sp := sp) h (hl x List.mem_cons_self))
    rw [List.length_cons, show N + 3 * (l.length + 1) = N + 3 + 3 * l.length by omega]
    exact this
theorem read_sd {way n sp : Nat} {l : List Nat} (hl : ∀ x ∈ l, x < 5) (h2 : l.length ≤ 100) : Sd 0 300 (endD (readR way n sp l)) := by
  have := rd_ok (way := way) (n := n) (sp := sp) (s := ([], none, 0)) (N := 0) hl ⟨nofun, Nat.le_refl _, nofun, Nat.zero_le _⟩
  unfold readR rdL
  generalize l.foldl (rdS way n sp) ([], none, 0) = s at *
  obtain ⟨f, h, m⟩ := s
  rcases h with _ | k
  · exact (sd_str this.a).mono (Nat.le_refl _) (Nat.le_trans this.b (by omega))
  · exact sd_non.mono (by omega) (by omega)
theorem end_de {K : PySem.W.Frag} {H : Hp} (o : Option (List Nat)) : De K H (endV o) (endD o) := by
  rcases o with _ | w
  · exact .non
  · exact .str _
theorem SB.set_new {b p : Addr} {H H1 : Hp} {o : HO} (s : SB b H H1) (n : H p = none) : SB b H (L2.upd H1 p o) := fun a u na ha => by
  by_cases e : a = p
  · rw [e, n] at ha; cases ha
  · rw [L2.upd_ne e]; exact s a u na ha
theorem box_lst {H : Hp} {b : Addr} {d : Int} (B : BoxAt H b d) : ∃ i xs, H b = some (.lst (.int i :: xs)) := by
  obtain ⟨n, g, c, e, hb, _⟩ := B.ex
  exact ⟨_, _, hb⟩
theorem paired_mem {α β : Type} {F G : α → β → Prop} {l1 : List α} {l2 : List β} (h : Paired F l1 l2) (k : ∀ x y, y ∈ l2 → F x y → G x y) : Paired G l1 l2 := by
  induction h with
  | nil => exact .nil
  | cons r _ ih => exact .cons (k _ _ List.mem_cons_self r) (ih fun x y hy => k x y (List.mem_cons_of_mem _ hy))
theorem RowAt.box {H : Hp} {b : Addr} {d : Int} (B : BoxAt H b d) {v : V} {r : List Ent} (h : RowAt H v r) (ne : r ≠ []) : RowAt (L2.del H b) v r := by
  obtain ⟨p, vs, rfl, e1, pr⟩ := h
  obtain ⟨i, xs, eb⟩ := box_lst B
  have npb : p ≠ b := by
    rintro rfl
    cases e1.symm.trans eb
    cases pr with
    | @cons _ y _ _ h _ => rcases y with _ | ⟨q, w⟩ <;> simp [EntAt] at h
  refine ⟨p, vs, rfl, by rw [L2.del_ne npb]; exact e1, Paired.mapP pr fun v y h => ?_⟩
  rcases y with _ | ⟨q, w⟩
  · exact h
  · obtain ⟨t, rfl, et⟩ := h
    exact ⟨t, rfl, by rw [L2.del_ne fun c => by rw [c, eb] at et; cases et]; exact et⟩
theorem StAt.box {H : Hp} {b : Addr} {d : Int} (B : BoxAt H b d) {v : V} {n : Nat} {st : List (List Ent)} {en : List (Option (List Nat))} (h : StAt H v st) (g : Good n st en) : StAt (L2.del H b) v st := by
  obtain ⟨p, vs, rfl, e1, pr⟩ := h
  obtain ⟨i, xs, eb⟩ := box_lst B
  have npb : p ≠ b := by
    rintro rfl
    cases e1.symm.trans eb
    cases pr with
    | cons h _ => obtain ⟨_, _, e, _⟩ := h; cases e
  have nr : ∀ r ∈ st, r ≠ [] := fun r hr e => by have := g.row r hr; have := g.n1; rw [e] at *; simp at *; omega
  exact ⟨p, vs, rfl, (by rw [L2.del_ne npb]; exact e1), paired_mem pr fun v r hr h => RowAt.box B h (nr r hr)⟩
theorem EnAt.box {H : Hp} {b : Addr} {d : Int} (B : BoxAt H b d) {v : V} {en : List (Option (List Nat))} (h : EnAt H v en) (ne : 1 ≤ en.length) : EnAt (L2.del H b) v en := by
  obtain ⟨p, rfl, e1⟩ := h
  obtain ⟨i, xs, eb⟩ := box_lst B
  have npb : p ≠ b := by
    rintro rfl
    rw [eb] at e1
    rcases en with _ | ⟨e, en⟩
    · simp at ne
    · rcases e with _ | w <;> simp [endV] at e1
  exact ⟨p, rfl, by rw [L2.del_ne npb]; exact e1⟩
theorem LnAt.same {K : PySem.W.Frag} {H H' : Hp} {v : V} {l : List Nat} (s : Same H H') (h : LnAt K H v l) : LnAt K H' v l := by
  obtain ⟨a, e, q⟩ := h
  exact ⟨a, e, Same.sqT s q⟩
/-- _law_made_right(box, way, many, special, made) -/
def spMR (C : Addr) : Sp := fun vs H Q _ => ∃ (b : Addr) (way n sp : Nat) (y v : V) (d0 : Int), vs = [.ref b, .int way, .int n, y, v] ∧ way < 4 ∧ wayOk way n sp ∧ (way = 1 → y = .int sp) ∧ DAt C (L2.del H b) v n (stM way n sp) (enM way n) ∧ BoxAt H b d0 ∧ d0 + 1000 ≤ 1000000 ∧
  ∀ H', SB b H H' → Q (.bl true) H'
section
variable {P : Program} {w : World} {K : PySem.W.Frag} {mg : Str → Option Value} {base : Heap} {f : Addr} {fd : FuncData}
theorem ok_mr {C : Addr} (F : Fun K "_law_made_right" "_law_made_right" s__law_made_right f fd) (z : Z mg) (hmD : mg "Decoder" = some (.ref C)) (dc : DcC K C) (ic_Decoder : C8.InsC K C) (eqD : EqI P w K mg base 1 C (spEqD C))
    (m_Decoder : C8.Mak P w K mg base 5 "Decoder" C (spIni C) []) (mt_Decoder_written : C8.Met P w K mg base 5 C "written" (spWr K C) [])
    (c__law_take : Cal P w K mg base "_law_take" ["box", "many"] 1 spTake) (c__law_parts : Cal P w K mg base "_law_parts" ["way", "many", "special"] 1 spParts) (c__law_read : Cal P w K mg base "_law_read" ["way", "many", "special", "line"] 1 (spRead K)) :
    FnG P w K mg base CX0 10 f fd ["box", "way", "many", "special", "made"] (spMR C) := by
  refine Sw.Fun.okG0 F sc__law_made_right (fun vs H Q E h => ?_) (fun cdv A outer s H vs Q E hr quiet h => ?_)
  · obtain ⟨b, way, n, sp, y, v, d0, rfl, _⟩ := h; rfl
  · obtain ⟨b, way, n, sp, y, v, d0, rfl, w4, wo, hy, D, B, hd, k⟩ := h
    refine ⟨_, (pss_cons (ps_if (pt_not (pt_val (pe_callB (C8.call_isC ic_Decoder) (by rfl) z.isinstance (by decide +kernel) (pa_cons (pv 4) (pa_cons (pe_glob (v := .ref C) rfl hmD rfl) pa_nil)))))
        (pss_one (ps_ret pe_bl))
        pss_nil)
      (pss_cons (ps_asg (pe_cal c__law_parts hr (pa_cons (pv 1) (pa_cons (pv 2) (pa_cons (pv 3) pa_nil)))) (pg_lst rfl (pgs_cons (pg_name (i := 5) sc__law_made_right.nd rfl (.inl rfl)) (pgs_cons (pg_name (i := 6) sc__law_made_right.nd rfl (.inl rfl)) pgs_nil))))
      (pss_cons (ps_set (i := 7) sc__law_made_right.nd rfl (.inl rfl) (pe_tup (pa_cons (pv 2) (pa_cons (pe_callB call_lenQ (by rfl) z.len PySem.boot_len (pa_cons (pv 5) pa_nil)) (pa_cons (pe_callTy call_tuple_of (by rfl) z.tuple (by decide +kernel) (pa_cons (pe_lc (own := [("row", 8)]) (g := gName 8) (tt := tYes) rfl sc__law_made_right.nd (pi_list (pv 5)) (blkOk_by (own := [("row", 8)]) (N := n__law_made_right) (sc := defScope s__law_made_right) (by decide +kernel)) (fun _ _ _ _ _ => (pg_name (i := 8) sc__law_made_right.nd rfl (.inl rfl))) (fun _ _ _ _ _ => pts_nil) (fun _ _ _ _ _ => (pe_callTy (call_tuple_ofB (K := K) rfl) (by rfl) z.tuple (by decide +kernel) (pa_cons (pv 8) pa_nil)))) pa_nil)) (pa_cons (pe_callTy call_tuple_of (by rfl) z.tuple (by decide +kernel) (pa_cons (pv 6) pa_nil)) pa_nil))))))
      (pss_cons (ps_if (pt_cmpR op_ne (pe_callB (call_repE quiet hr.units) (by rfl) z.repr (by decide +kernel) (pa_cons (pe_tup (pa_cons (pe_fld (pv 4) (by rfl)) (pa_cons (pe_fld (pv 4) (by rfl)) (pa_cons (pe_fld (pv 4) (by rfl)) (pa_cons (pe_fld (pv 4) (by rfl)) pa_nil))))) pa_nil)) (pe_callB (call_repE quiet hr.units) (by rfl) z.repr (by decide +kernel) (pa_cons (pv 7) pa_nil)) (nomark _))
        (pss_one (ps_ret pe_bl))
        pss_nil)
      (pss_cons (ps_for PassesOwn.never rfl (pi_range1 (by rfl) z.range (pa_cons pe_int pa_nil)) (pg_name (i := 9) sc__law_made_right.nd rfl (.inl rfl))
        (pss_cons (ps_set (i := 10) sc__law_made_right.nd rfl (.inl rfl) (pe_callTy call_tuple_of (by rfl) z.tuple (by decide +kernel) (pa_cons (pe_lc (own := [("k", 11)]) (g := gName 11) (tt := tYes) rfl sc__law_made_right.nd (pi_range1 (by rfl) z.range (pa_cons (pe_ix ix_list (pe_lstL (pa_cons (pe_cal c__law_take hr (pa_cons (pv 0) (pa_cons pe_int pa_nil))) (pa_cons (pe_op op_mul pe_int (pe_cal c__law_take hr (pa_cons (pv 0) (pa_cons pe_int pa_nil)))) pa_nil))) (pe_cal c__law_take hr (pa_cons (pv 0) (pa_cons pe_int pa_nil))) (fun _ _ => rfl)) pa_nil)) (blkOk_by (own := [("k", 11)]) (N := n__law_made_right) (sc := defScope s__law_made_right) (by decide +kernel)) (fun _ _ _ _ _ => (pg_name (i := 11) sc__law_made_right.nd rfl (.inl rfl))) (fun _ _ _ _ _ => pts_nil) (fun _ _ _ _ _ => (pe_cal c__law_take hr (pa_cons (pv 0) (pa_cons (pv 2) pa_nil))))) pa_nil)))
        (pss_cons (ps_if (pt_cmpR op_ne (pe_callB (call_repE quiet hr.units) (by rfl) z.repr (by decide +kernel) (pa_cons (C8.pe_mt mt_Decoder_written hr (by decide) (pv 4) (pa_cons (pv 10) pa_nil)) pa_nil)) (pe_callB (call_repE quiet hr.units) (by rfl) z.repr (by decide +kernel) (pa_cons (pe_cal c__law_read hr (pa_cons (pv 1) (pa_cons (pv 2) (pa_cons (pv 3) (pa_cons (pv 10) pa_nil))))) pa_nil)) (nomark _))
          (pss_one (ps_ret pe_bl))
          pss_nil)
        (pss_one (ps_if (pt_cmpR op_ne (pe_callB (call_repE quiet hr.units) (by rfl) z.repr (by decide +kernel) (pa_cons (C8.pe_mt mt_Decoder_written hr (by decide) (pv 4) (pa_cons (pv 10) pa_nil)) pa_nil)) (pe_callB (call_repE quiet hr.units) (by rfl) z.repr (by decide +kernel) (pa_cons (pe_cal c__law_read hr (pa_cons (pv 1) (pa_cons (pv 2) (pa_cons (pv 3) (pa_cons (pv 10) pa_nil))))) pa_nil)) (nomark _))
          (pss_one (ps_ret pe_bl))
          pss_nil)))))
      (pss_one (ps_ret (pe_cmpR (op_eqO eqD hr) (pv 4) (C8.pe_mk m_Decoder hr (by decide) (by rfl) (pa_cons (pv 2) (pa_cons (pv 5) (pa_cons (pv 6) pa_nil)))) (nomark _))))))))), ?_⟩
    obtain ⟨n1, n5, hs, h2⟩ := id wo
    have g := good_M wo
    obtain ⟨a, dx, p1, p2, rfl, ha, hp1, hp2⟩ := D
    walk_at "rd"
    refine ⟨a, dx, _, rfl, del_sub _ _ ha, ?_⟩
    walk_at "rd"
    refine ⟨way, n, sp, y, rfl, w4, wo, hy, fun t v1 v2 H1 s1 et S1 N1 => ?_⟩
    generalize est : stM way n sp = st at *
    generalize een : enM way n = en at *
    have B1 := B.same s1
    have S1' := S1.box B1 g
    have N1' := N1.box B1 (by have := g.le; have := g.s1; omega)
    have d1 := del_sb (SB.of (b := b) s1)
    refine ⟨t, _, rfl, sqL_of et, rfl, ?_⟩
    obtain ⟨p, vs, rfl, ep, pr⟩ := S1
    obtain ⟨ne, rfl, en1⟩ := N1
    have lv : vs.length = st.length := Paired.length pr
    have l6 := g.s6
    walk_at "rd"
    rw [lv]
    refine ⟨⟨_, sqL_of ep⟩, ?_⟩
    refine go_lc (walk_list (xs := vs)) (fun p' i Hx => ∃ ws, Hx p' = some (.lst ws) ∧ Paired (TRow Hx) ws (st.take i) ∧ Same H1 Hx) (fun p' np => ⟨[], upd_same, .nil, same_upd np⟩) (fun p' i Hx hi q => sqL_of (q.choose_spec.2.2 _ _ ep)) (fun p' np i v Hx Hy hi q y => ?_) (fun lp H6 nlp q => ?_)
    · obtain ⟨ws, ew, pw, sx⟩ := q
      obtain ⟨rfl, hv⟩ := y
      obtain ⟨row, gr, rp, rs, rfl, er, prr⟩ := pairedAt pr hv
      have er := sx _ _ er
      have prr := Paired.mapP prr fun _ _ zz => zz.same sx
      have lw : ws.length ≤ 6 := by have := Paired.length pw; rw [List.length_take] at this; omega
      rw [List.take_add_one, gr]
      walk_at "rd"
      refine ⟨rfl, i_yes (iteT ?_)⟩
      walk_at "rd"
      refine ⟨rp, rs, rfl, .inl ⟨sqL_of er, fun t nt => ?_⟩⟩
      have st' := same_upd (o := .tup rs) nt
      have et := upd_same (H := Hy) (a := t) (o := .tup rs)
      generalize upd Hy t (.tup rs) = H7 at *
      have tk := (TK.of st').trans (TK.lst (ys := ws ++ [.ref t]) (st' _ _ ew))
      exact ⟨ws, st' _ _ ew, sm100 (by omega), _, upd_same, Paired.snoc (Paired.mapP pw fun _ _ zz => zz.tk tk) ⟨t, rs, rfl, TK.lst (st' _ _ ew) _ _ et, Paired.mapP prr fun _ _ zz => zz.tk tk⟩, Same.set_new (sx.trans st') np⟩
    obtain ⟨ws, ew, pw, s6⟩ := q
    rw [lv, List.take_length] at pw
    walk_at "rd"
    refine ⟨lp, ws, rfl, .inl ⟨sqL_of ew, fun q1 np1 => ?_⟩⟩
    have s7 := same_upd (o := .tup ws) np1
    have e7 := upd_same (H := H6) (a := q1) (o := .tup ws)
    generalize upd H6 q1 (.tup ws) = H7 at *
    have T7 : TSt H7 (.ref q1) st := ⟨q1, ws, rfl, e7, Paired.mapP pw fun _ _ zz => zz.same s7⟩
    walk_at "rd"
    refine ⟨ne, _, rfl, .inl ⟨sqL_of (s7 _ _ (s6 _ _ en1)), fun q2 np2 => ?_⟩⟩
    have s8 := same_upd (o := .tup (en.map endV)) np2
    have e8 := upd_same (H := H7) (a := q2) (o := .tup (en.map endV))
    generalize upd H7 q2 (.tup (en.map endV)) = H8 at *
    walk_at "rd"
    refine newT0 (Nat.le_of_ble_eq_true rfl) fun du H9 ndu s9 edu => ?_
    have s19 := s6.trans (s7.trans (s8.trans s9))
    have s09 := s1.trans s19
    have ha9 := s09 _ _ (del_sub _ _ ha)
    walk_at "rd"
    refine i_fldD dc.cl dc.a1 ha9 rfl ?_
    walk_at "rd"
    refine i_fldD dc.cl dc.a2 ha9 rfl ?_
    walk_at "rd"
    refine i_fldD dc.cl dc.a3 ha9 rfl ?_
    walk_at "rd"
    refine i_fldD dc.cl dc.a4 ha9 rfl ?_
    walk_at "rd"
    refine newT0 (Nat.le_of_ble_eq_true rfl) fun t10 H10 n10 s10 e10 => ?_
    have sd4 : Sd 4 30000 (.tuple [.int n, .int st.length, stD st, enD en]) := (sd_tup' (n := 3) (.cons ((sd_int9 (by omega)).mono (by omega) (Nat.le_refl _)) (.cons ((sd_int9 (by omega)).mono (by omega) (Nat.le_refl _)) (.cons (g.stSd.mono (by omega) (Nat.le_refl _)) (.cons (g.enSd.mono (by omega) (Nat.le_refl _)) .nil))))).mono (by omega) (by omega)
    walk_at "rd"
    refine i_repE (d := .tuple [.int n, .int st.length, stD st, enD en]) (.tup (sqT_of e10) (.cons (.int _) (.cons (.int _) (.cons ((hp1.same del_sub).same (s09.trans s10)).de (.cons (.tup (sqT_of (s10 _ _ (s09 _ _ (del_sub _ _ hp2)))) (ends_de en)) .nil))))) sd4 (by omega) (by omega) ?_
    walk_at "rd"
    refine i_repE (d := .tuple [.int n, .int st.length, stD st, enD en]) (.tup (sqT_of (s10 _ _ edu)) (.cons (.int _) (.cons (.int _) (.cons (T7.same (s8.trans (s9.trans s10))).de (.cons (.tup (sqT_of (s10 _ _ (s9 _ _ e8))) (ends_de en)) .nil))))) sd4 (by omega) (by omega) ?_
    walk_at "rd"
    refine ⟨rfl, ?_⟩
    rw [decide_eq_true rfl]
    walk_at "rd"
    have d9 := del_sb (SB.of (b := b) (s19.trans s10))
    have d10 := d1.trans d9
    have D10 : DAt C (L2.del H10 b) (.ref a) n st en := DAt.same d10 ⟨a, dx, p1, p2, rfl, ha, hp1, hp2⟩
    have S10 := S1'.same d9
    have N10 := N1'.same d9
    have B10 := B.same (s09.trans s10)
    have f10 := SB.of (b := b) (s09.trans s10)
    refine i_rng (by omega) (by omega) ?_
    refine go_for walk_rangeZ (fun i σ Hx => ∃ (u8 u9 u10 u11 : Option V), σ = [some (.ref b), some (.int way), some (.int n), some y, some (.ref a), some (.ref p), some (.ref ne), some (.ref du), u8, u9, u10, u11] ∧ DAt C (L2.del Hx b) (.ref a) n st en ∧ StAt (L2.del Hx b) (.ref p) st ∧ EnAt (L2.del Hx b) (.ref ne) en ∧ BoxAt Hx b (d0 + 40 * i) ∧ SB b H Hx)
      ⟨_, _, _, _, rfl, D10, S10, N10, B10.mono (by omega), f10⟩ (fun _ _ _ _ _ => trivial) (fun i v σ Hx Hy hi h y => ?_) (fun σ Hx h => ?_)
    · obtain ⟨u8, u9, u10, u11, rfl, Dx, Sx, Nx, Bx, sx⟩ := h
      obtain ⟨rfl, rfl⟩ := y
      have hi3 : i < 3 := hi
      walk_at "rd"
      refine ⟨b, 4, _, rfl, Bx, by omega, by omega, by omega, fun r1 K1 r10 r11 C1 t1 => ?_⟩
      walk_at "rd"
      refine ⟨b, 13, _, rfl, C1, by omega, by omega, by omega, fun r2 K2 r20 r21 C2 t2 => ?_⟩
      walk_at "rd"
      refine newLL C2 (Nat.le_of_ble_eq_true rfl) fun p3 K3 l3 n3 C3 t3 e3 v3 => ?_
      have np3 := box_ne C2 n3
      walk_at "rd"
      refine ⟨b, 2, _, rfl, C3, by omega, by omega, by omega, fun r4 K4 r40 r41 C4 t4 => ?_⟩
      have e4 := t4 _ _ np3 (del_sub _ _ e3)
      obtain ⟨m, em, hm⟩ : ∃ m : Nat, ([.int r1, .int (2 * r2)] : List V)[r4.toNat]? = some (.int m) ∧ m ≤ 24 := by
        obtain rfl | rfl : r4 = 0 ∨ r4 = 1 := by omega
        · exact ⟨r1.toNat, by show some (V.int r1) = _; congr 2; omega, by omega⟩
        · exact ⟨(2 * r2).toNat, by show some (V.int (2 * r2)) = _; congr 2; omega, by omega⟩
      refine i_ixLv e4 r40 em ?_
      have t04 : SB b Hy K4 := t1.trans (t2.trans ((SB.of v3).trans t4))
      walk_at "rd"
      refine i_rng (by omega) (by omega) ?_
      rw [Int.toNat_natCast]
      refine go_lc walk_rangeZ (fun p i' Hx => ∃ l : List Nat, Hx p = some (.lst (l.map iV)) ∧ l.length = i' ∧ (∀ x ∈ l, x < n) ∧ BoxAt Hx b (d0 + 40 * i + 3 + i') ∧ SB b K4 Hx) (fun p np => ⟨[], upd_same, rfl, nofun, (C4.same (same_upd np)).mono (by omega), SB.of (same_upd np)⟩) (fun _ _ _ _ _ => trivial) (fun p' np i' v Hx Hz hi' q y' => ?_) (fun p5 K5 n5 q => ?_)
      · obtain ⟨l, ep', el, ln, Bx', sx'⟩ := q
        obtain ⟨rfl, rfl⟩ := y'
        walk_at "rd"
        refine ⟨rfl, i_yes (iteT ?_)⟩
        walk_at "rd"
        refine ⟨b, n, _, rfl, Bx', by omega, by omega, by omega, fun x H4 x0 x1 B4 s4 => ?_⟩
        obtain ⟨x, rfl⟩ : ∃ n : Nat, x = n := ⟨x.toNat, by omega⟩
        have pb := box_ne C4 np
        refine ⟨l.map iV, s4 _ _ pb ep', sm100 (by rw [List.length_map]; omega), l ++ [x], ?_, by rw [List.length_append, el]; rfl, fun z hz => ?_, (B4.upd_ne' pb).mono (by omega), SB.set_new (sx'.trans s4) np⟩
        · rw [upd_same, List.map_append]; rfl
        · rcases List.mem_append.mp hz with hz | hz
          · exact ln z hz
          · rw [List.mem_singleton.mp hz]; omega
      obtain ⟨l, e5, el, ln, C5, t5⟩ := q
      walk_at "rd"
      refine ⟨p5, _, rfl, .inl ⟨sqL_of e5, fun lp np6 => ?_⟩⟩
      have v6 := same_upd (o := .tup (l.map iV)) np6
      have C6 := C5.same v6
      have e6 := upd_same (H := K5) (a := lp) (o := .tup (l.map iV))
      generalize upd K5 lp (.tup (l.map iV)) = K6 at *
      have dK := del_sb (t04.trans (t5.trans (SB.of v6)))
      have tK := t04.trans (t5.trans (SB.of v6))
      have D6 := Dx.same dK
      have S6 := Sx.same dK
      have N6 := Nx.same dK
      have sK := sx.trans tK
      have ll : l.length ≤ 100 := by omega
      have LnK : LnAt K K6 (.ref lp) l := ⟨lp, rfl, sqT_of e6⟩
      have ln5 : ∀ x ∈ l, x < 5 := fun x hx => by have := ln x hx; omega
      have wr : writD st en l = readR way n sp l := by rw [← est, ← een]; exact writ_read w4 wo ln
      have DK := D6.same del_sub
      obtain ⟨a', dx', p1', p2', ea', ha', hp1', hp2'⟩ := id DK
      cases ea'
      walk_at "rd"
      refine ⟨a, dx', _, rfl, ha', rfl, ?_⟩
      walk_at "rd"
      refine ⟨.ref a, .ref lp, n, st, en, l, rfl, DK, g, LnK, ll, ln, fun K7 vK7 => ?_⟩
      rw [wr]
      walk_at "rd"
      refine i_repE (end_de _) (read_sd ln5 ll) (by omega) (by omega) ?_
      walk_at "rd"
      refine ⟨way, n, sp, y, .ref lp, l, rfl, w4, wo, hy, LnAt.same vK7 LnK, ll, ln, fun K8 vK8 => ?_⟩
      walk_at "rd"
      refine i_repE (end_de _) (read_sd ln5 ll) (by omega) (by omega) ?_
      walk_at "rd"
      refine ⟨rfl, ?_⟩
      rw [decide_eq_true rfl]
      walk_at "rd"
      have v68 := vK7.trans vK8
      refine ⟨a, dx', _, rfl, v68 _ _ ha', rfl, ?_⟩
      walk_at "rd"
      refine ⟨.ref a, .ref lp, n, st, en, l, rfl, (DK.same v68), g, (LnAt.same v68 LnK), ll, ln, fun K9 vK9 => ?_⟩
      rw [wr]
      walk_at "rd"
      refine i_repE (end_de _) (read_sd ln5 ll) (by omega) (by omega) ?_
      walk_at "rd"
      refine ⟨way, n, sp, y, .ref lp, l, rfl, w4, wo, hy, LnAt.same vK9 (LnAt.same v68 LnK), ll, ln, fun K10 vK10 => ?_⟩
      walk_at "rd"
      refine i_repE (end_de _) (read_sd ln5 ll) (by omega) (by omega) ?_
      walk_at "rd"
      refine ⟨rfl, ?_⟩
      rw [decide_eq_true rfl]
      walk_at "rd"
      have v6A := v68.trans (vK9.trans vK10)
      have dA := del_sb (SB.of (b := b) v6A)
      exact ⟨_, _, _, _, rfl, D6.same dA, S6.same dA, N6.same dA, (C6.same v6A).mono (by omega), sK.trans (SB.of v6A)⟩
    · obtain ⟨u8, u9, u10, u11, rfl, Dx, Sx, Nx, Bx, sx⟩ := h
      have DX := Dx.same del_sub
      obtain ⟨a', dx', p1', p2', ea', ha', hp1', hp2'⟩ := id DX
      cases ea'
      walk_at "rd"
      refine i_makeD (st := st) (en := en) (Sx.same del_sub) (Nx.same del_sub) g (fun v H5 s5 D5 => ?_)
      obtain ⟨a2, dx2, r1, r2, rfl, h2', _, _⟩ := id D5
      refine ⟨a, a2, dx', dx2, _, _, rfl, rfl, s5 _ _ ha', h2', ?_⟩
      refine ⟨.ref a, .ref a2, n, st, en, rfl, DX.same s5, D5, g, fun H6 s6 => ⟨true, rfl, ?_⟩⟩
      exact k _ (sx.trans (SB.of (s5.trans s6)))
end
end Sw
namespace Sw
open PySem PySem.Spec PyProof.Rows L2
local macro_rules | `(tactic| walk_at "hp") => `(tactic| first
  | (with_reducible assumption) | (with_reducible exact upd_same)
  | ((with_reducible refine' upd_old ?q1 ?q2); (case q1 => (with_reducible assumption)); (case q2 => walk_at "hp"))
  | ((with_reducible refine' Same.at ?q1 ?q2); (case q1 => (with_reducible assumption)); (case q2 => walk_at "hp"))
  | ((with_reducible refine' upd_skip ?q1 ?q2); (case q1 => walk_at "ne"); (case q2 => walk_at "hp"))
  | fail)
local macro_rules | `(tactic| walk_at "ne") => `(tactic| first
  | (with_reducible assumption) | (with_reducible exact Ne.symm (by assumption))
  | ((with_reducible refine' ne_of_none ?q1 ?q2); (case q2 => (with_reducible assumption)); (case q1 => walk_at "hp"))
  | fail)
local macro_rules | `(tactic| walk_at "ci") => `(tactic| first | assumption | (show (0 : Int) < _; first | decide | (with_reducible omega)) | exact ⟨by decide, by decide⟩ | exact .inl ⟨by decide, by decide⟩ | exact .inr ⟨by decide, by decide⟩)
local macro_rules | `(tactic| walk_at "ln") => `(tactic| first | (with_reducible assumption) | (with_reducible omega) | (simp only [List.length_append, List.length_take, List.length_drop, List.length_reverse, List.length_cons, List.length_nil]; with_reducible omega))
local macro_rules | `(tactic| walk_at "rd1") => `(tactic| first
  | (with_reducible refine i_seq ?_) | (with_reducible refine i_asg ?_) | (with_reducible refine i_ret ?_) | (with_reducible refine i_name ?_) | ((with_reducible refine' i_var ?q1 ?_); (case q1 => exact rfl)) | (with_reducible refine i_c ?_) | (with_reducible refine i_op ?_) | (with_reducible refine i_un ?_)
  | (with_reducible refine i_rI0 ?_) | (with_reducible refine i_cb ?_) | (with_reducible refine i_cons ?_) | (with_reducible refine i_nil ?_) | (with_reducible refine i_call ?_) | (with_reducible refine i_if ?_) | (with_reducible refine i_ifE ?_) | (with_reducible refine i_test ?_) | (with_reducible refine i_bl ?_)
  | (with_reducible refine i_and ?_) | (with_reducible refine i_or ?_) | (with_reducible refine i_not ?_) | (with_reducible refine i_lstM ?_) | (with_reducible refine i_lstLM ?_) | (with_reducible refine i_tupM ?_) | (with_reducible refine i_next ?_) | (with_reducible refine i_drop ?_) | (with_reducible refine i_sub ?_)
  | (with_reducible refine i_bm ?_) | (with_reducible refine i_sl ?_) | (with_reducible refine i_part ?_) | (with_reducible refine i_nopart ?_) | (with_reducible refine i_exI ?_) | (with_reducible refine i_chain ?_) | ((with_reducible refine' i_aug ?q1 ?_); (case q1 => exact rfl)) | (with_reducible refine i_ip ?_)
  | (with_reducible refine i_par ?_) | (with_reducible refine i_pair ?_) | (with_reducible refine i_andV ?_) | (with_reducible refine i_orV ?_) | (with_reducible refine i_notV ?_) | (with_reducible refine i_m1 ?_) | (with_reducible refine i_str ?_)
  | (with_reducible refine iteF ?_) | (with_reducible refine iteT ?_) | (with_reducible refine iteNT ?_) | (with_reducible refine iteNF ?_) | (with_reducible refine i_tyS ?_) | (with_reducible refine i_tB ?_) | (with_reducible refine i_retN ?_) | (with_reducible refine i_par3 ?_) | (with_reducible refine i_trip ?_) | (with_reducible refine i_gCons ?_) | (with_reducible refine i_gNil ?_) | (with_reducible refine i_lstRg ?_) | (with_reducible refine i_rg1 ?_)
  | (with_reducible refine i_lc ?_) | (with_reducible refine i_for ?_) | (with_reducible refine i_iList ?_) | (with_reducible refine i_iTup ?_) | (with_reducible refine i_iStr ?_) | (with_reducible refine i_iRng1 ?_) | (with_reducible refine i_iEnS ?_)
  | ((with_reducible refine' i_ixTH ?q1 ?q2 ?_); (case q1 => walk_at "hp"); (case q2 => exact rfl))
  | ((with_reducible refine' i_ixLH ?q1 ?q2 ?_); (case q1 => walk_at "hp"); (case q2 => exact rfl))
  | ((with_reducible refine i_addS ?q1 ?_); (case q1 => walk_at "ln")) | ((with_reducible refine i_lenSS ?q1 ?_); (case q1 => walk_at "ln")) | ((with_reducible refine i_slFrom ?q1 ?q2 ?_); (case q1 => walk_at "ln"); (case q2 => walk_at "ln")) | ((with_reducible refine i_slTo ?q1 ?q2 ?_); (case q1 => walk_at "ln"); (case q2 => walk_at "ln"))
  | ((with_reducible refine' i_tyL ?q1 ?_); (case q1 => walk_at "hp"))
  | ((with_reducible refine' i_gTupH ?q1 ?q2 ?_); (case q1 => walk_at "hp"); (case q2 => exact rfl))
  | (with_reducible refine i_dnewM ?_) | (with_reducible refine i_init ?_) | (with_reducible refine i_fst ?_) | (with_reducible refine i_mk ?_) | (with_reducible refine i_raise ?_) | (with_reducible refine i_callS ?_) | (with_reducible refine i_kwS ?_)
  | (with_reducible refine i_revT ?_) | (with_reducible refine i_kw ?_) | ((with_reducible refine' ⟨_, _, rfl, sqT_of ?q1, ?_⟩); (case q1 => walk_at "hp"))
  | (with_reducible refine i_revS ?_) | ((with_reducible refine i_revSS ?q1 ?_); (case q1 => walk_at "ln"))
  | (with_reducible refine i_startS ?_) | (with_reducible refine i_inSg ?_) | (with_reducible refine i_absN ?_) | (with_reducible refine i_min2 ?_) | (with_reducible refine i_max2 ?_) | (with_reducible refine i_min3 ?_) | (with_reducible refine i_intN ?_) | (with_reducible refine i_intNB ?_)
  | ((with_reducible refine' i_lenL ?q1 ?_); (case q1 => walk_at "hp")) | ((with_reducible refine' i_lenT ?q1 ?_); (case q1 => walk_at "hp"))
  | (with_reducible refine i_eqI ?_) | (with_reducible refine i_neI ?_) | (with_reducible refine i_eqS ?_) | (with_reducible refine i_neS ?_) | (with_reducible refine i_isNoI ?_) | (with_reducible refine i_isNoN ?_) | (with_reducible refine i_isNoR ?_)
  | ((with_reducible refine i_pow ?q1 ?q2 ?q3 ?_); (case q1 => decide); (case q2 => decide); (case q3 => (with_reducible omega)))
  | ((with_reducible refine i_rI ?q1 ?_); (case q1 => walk_at "ci"))
  | (with_reducible refine Or.inl ⟨_, rfl, ?_⟩) | (with_reducible refine Or.inr ⟨_, rfl, ?_⟩) | (with_reducible refine ⟨_, rfl, ?_⟩) | (with_reducible refine ⟨_, _, rfl, ?_⟩) | (with_reducible refine ⟨_, _, rfl, rfl, ?_⟩)
  | ((with_reducible refine' ⟨_, _, rfl, Or.inl (sqL_of ?q1), ?_⟩); (case q1 => walk_at "hp")) | ((with_reducible refine' ⟨_, _, rfl, Or.inr (sqT_of ?q1), ?_⟩); (case q1 => walk_at "hp")) | (with_reducible refine i_dget ?_) | (with_reducible refine i_disp1T ?_) | (with_reducible refine i_dcT ?_) | (with_reducible refine i_dnewT ?_) | (with_reducible refine i_fld ?_) | (with_reducible refine i_sFld ?_) | (with_reducible refine i_make ?_) | (with_reducible refine i_meth ?_) | (with_reducible refine i_star ?_) | (with_reducible refine i_isNoS ?_) | (with_reducible refine i_lc2 ?_) | fail)
local macro_rules | `(tactic| walk_at "rd") => `(tactic| repeat' walk_at "rd1")

theorem cond_and {c0 : Bool} {t : L2.St → Hp → (Bool → Hp → Prop) → Prop} {σ : L2.St} {H : Hp} {R : Bool → Hp → Prop} (P : Bool → Prop) (h1 : ∀ R' : Bool → Hp → Prop, (∀ c, P c → R' c H) → if c0 = true then t σ H R' else R' false H) (h2 : ∀ c, P c → R c H) : if c0 = true then t σ H R else R false H := h1 R h2
theorem val_te {t : TE} {σ : L2.St} {H : Hp} {Q : VK} (P : V → Hp → Prop) (h1 : ∀ Q' : VK, (∀ v H', P v H' → Q' v H') → t σ H Q') (h2 : ∀ v H', P v H' → Q v H') : t σ H Q := h1 Q h2
theorem val_ifH {c : Bool} {t u : TE} {σ : L2.St} {H : Hp} {Q : VK} (P : V → Hp → Prop) (h1 : ∀ Q' : VK, (∀ v H', P v H' → Q' v H') → if c = true then t σ H Q' else u σ H Q') (h2 : ∀ v H', P v H' → Q v H') : if c = true then t σ H Q else u σ H Q := h1 Q h2
theorem low_at {way : Nat} (h : way < 4) : ([.int 1, .int 1, .int 2, .int 1] : List V)[((way : Int)).toNat]? = some (.int (loW way)) := by
  rw [Int.toNat_natCast]
  obtain rfl | rfl | rfl | rfl : way = 0 ∨ way = 1 ∨ way = 2 ∨ way = 3 := by omega
  · rfl
  · rfl
  · rfl
  · rfl
theorem SB.none {b a : Addr} {H H1 : Hp} {d : Int} (s : SB b H H1) (B : BoxAt H1 b d) (n : H1 a = none) : H a = none := by
  rcases e : H a with _ | o
  · rfl
  · have := s _ _ (box_ne B n) e
    rw [n] at this
    cases this
theorem isX_wh {m : Int} : ∀ e : PyData, isX m e = whB 0 (m - 1) e := fun e => by
  cases e with
  | int i => simp only [isX, whB]; congr 1; exact decide_eq_decide.mpr (by omega)
  | _ => rfl
theorem DAt.box {C : Addr} {H : Hp} {b : Addr} {dd : Int} (B : BoxAt H b dd) {v : V} {n : Nat} {st : List (List Ent)} {en : List (Option (List Nat))} (h : DAt C H v n st en) : DAt C (L2.del H b) v n st en := by
  obtain ⟨i, xs, eb⟩ := box_lst B
  have tup : ∀ {p : Addr} {zs : List V}, H p = some (.tup zs) → L2.del H b p = some (.tup zs) := fun {p zs} e => by
    rw [L2.del_ne fun c => by rw [c, eb] at e; cases e]; exact e
  obtain ⟨a, dx, p1, p2, rfl, ha, ⟨q, ws, eq, hq, pr⟩, h2⟩ := h
  refine ⟨a, dx, p1, p2, rfl, by rw [L2.del_ne fun c => by rw [c, eb] at ha; cases ha]; exact ha, ⟨q, ws, eq, tup hq, Paired.mapP pr fun v r h => ?_⟩, tup h2⟩
  obtain ⟨p, vs, rfl, hp, pe⟩ := h
  refine ⟨p, vs, rfl, tup hp, Paired.mapP pe fun v y h => ?_⟩
  rcases y with _ | ⟨s, w⟩
  · exact h
  · obtain ⟨t, rfl, et⟩ := h
    exact ⟨t, rfl, tup et⟩
/-- a list of a word and a value -/
def lst2 (w : List Nat) (d : PyData) : PyData := .list [.str (S w), d]
theorem lst2_de {K : PySem.W.Frag} {H : Hp} {t : Addr} {w : List Nat} {y : V} {d : PyData} (e : H t = some (.lst [.str (S w), y])) (lt : sysModules < t) (h : De K H y d) : De K H (.ref t) (lst2 w d) := .lst e lt (.cons (.str _) (.cons h .nil))
theorem lst2_sd {w : List Nat} {d : PyData} {n m : Nat} (hw : ∀ c ∈ w, c ≤ 1000) (lw : w.length ≤ 20) (h : Sd n m d) (hn : n ≤ 5) (hm : m ≤ 400) : Sd 6 1000 (lst2 w d) := (sd_lst' (n := 5) (.cons ((sd_str hw).mono (by omega) (Nat.le_refl _)) (.cons (h.mono (by omega) (Nat.le_refl _)) .nil))).mono (by omega) (by simp; omega)
theorem odd_more {ds : List PyData} (h : ds = [] ∨ ds = [.int 1]) : Sd 3 300 (.list (ds ++ [.str (S [109, 111, 114, 101])])) := by
  have s4 : Sd 0 4 (.str (S [109, 111, 114, 101])) := sd_str (l := [109, 111, 114, 101]) (by decide)
  rcases h with rfl | rfl
  · exact (sd_lst' (n := 0) (.cons s4 .nil)).mono (by omega) (by omega)
  · exact (sd_lst' (n := 0) (.cons (sd_int (by decide)) (.cons s4 .nil))).mono (by omega) (by omega)
/-- _law_one_right(box) -/
def spOne : Sp := fun vs H Q _ => ∃ (b : Addr) (d0 : Int), vs = [.ref b] ∧ BoxAt H b d0 ∧ d0 + 2000 ≤ 1000000 ∧ ∀ H', SB b H H' → Q (.bl true) H'
section
variable {P : Program} {w : World} {K : PySem.W.Frag} {mg : Str → Option Value} {base : Heap} {f : Addr} {fd : FuncData}
theorem ok_one {C : Addr} (F : Fun K "_law_one_right" "_law_one_right" s__law_one_right f fd) (z : Z mg) (eqD : EqI P w K mg base 1 C (spEqD C))
    (c__law_take : Cal P w K mg base "_law_take" ["box", "many"] 1 spTake) (c__law_odd : Cal P w K mg base "_law_odd" ["box", "most"] 2 (spOdd K)) (c__law_whole : Cal P w K mg base "_law_whole" ["thing", "least", "most"] 1 (spWh K)) (c__law_copy : Cal P w K mg base "_law_copy" ["thing"] 1 (spCopy K))
    (c__law_told : Cal P w K mg base "_law_told" ["way", "named", "many", "special"] 9 (spTold K C)) (q__law_made_right : CalG P w K mg base "_law_made_right" ["box", "way", "many", "special", "made"] 10 (spMR C)) : FnG P w K mg base CX0 11 f fd ["box"] spOne := by
  refine Sw.Fun.okG0 F sc__law_one_right (fun vs H Q E h => ?_) (fun cdv A outer s H vs Q E hr quiet h => ?_)
  · obtain ⟨b, d0, rfl, _⟩ := h; rfl
  · obtain ⟨b, d0, rfl, B, hd, k⟩ := h
    refine ⟨_, (pss_cons (ps_par3 (i := 1) (j := 2) (l := 3) rfl sc__law_one_right.nd rfl rfl rfl (by decide) (by decide) (by decide) rfl rfl rfl (pa_cons (pe_cal c__law_take hr (pa_cons (pv 0) (pa_cons pe_int pa_nil))) (pa_cons (pe_cmpR op_eq (pe_cal c__law_take hr (pa_cons (pv 0) (pa_cons pe_int pa_nil))) pe_int (nomark _)) (pa_cons (pe_cal c__law_take hr (pa_cons (pv 0) (pa_cons pe_int pa_nil))) pa_nil))) (by rfl))
      (pss_cons (ps_set (i := 4) sc__law_one_right.nd rfl (.inl rfl) (pe_ifExp (pt_cmpR op_gt (pv 3) pe_int (nomark _)) (pe_op op_add pe_int (pe_cal c__law_take hr (pa_cons (pv 0) (pa_cons pe_int pa_nil)))) (pe_cal c__law_odd hr (pa_cons (pv 0) (pa_cons pe_int pa_nil)))))
      (pss_cons (ps_set (i := 5) sc__law_one_right.nd rfl (.inl rfl) (pe_cal c__law_whole hr (pa_cons (pv 4) (pa_cons (pe_ix ix_list (pe_lstL (pa_cons pe_int (pa_cons pe_int (pa_cons pe_int (pa_cons pe_int pa_nil))))) (pv 1) (fun _ _ => rfl)) (pa_cons pe_int pa_nil)))))
      (pss_cons (ps_set (i := 6) sc__law_one_right.nd rfl (.inl rfl) (pe_ifExp (PW.pt (pw_and (pt_val (pv 5)) (pw_and1 (pt_cmpR op_ne (pv 3) pe_int (nomark _))))) (pe_cal c__law_take hr (pa_cons (pv 0) (pa_cons (pv 4) pa_nil))) (pe_cal c__law_odd hr (pa_cons (pv 0) (pa_cons (pe_ifExp (pt_val (pv 5)) (pe_op op_sub (pv 4) pe_int) pe_int) pa_nil)))))
      (pss_cons (ps_set (i := 7) sc__law_one_right.nd rfl (.inl rfl) (pe_or (pe_cmpR op_ne (pv 1) pe_int (nomark _)) (pe_one (pe_and (pv 5) (pe_one (pe_cal c__law_whole hr (pa_cons (pv 6) (pa_cons pe_int (pa_cons (pe_op op_sub (pv 4) pe_int) pa_nil)))))))))
      (pss_cons (ps_set (i := 8) sc__law_one_right.nd rfl (.inl rfl) (pe_cal c__law_told hr (pa_cons (pv 1) (pa_cons (pv 2) (pa_cons (pv 4) (pa_cons (pv 6) pa_nil))))))
      (pss_cons (ps_set (i := 9) sc__law_one_right.nd rfl (.inl rfl) (pe_cal c__law_told hr (pa_cons (pv 1) (pa_cons (pe_not (pv 2)) (pa_cons (pe_cal c__law_copy hr (pa_cons (pv 4) pa_nil)) (pa_cons (pe_cal c__law_copy hr (pa_cons (pv 6) pa_nil)) pa_nil))))))
      (pss_cons (ps_if (PW.pt (pw_and (pt_val (pv 5)) (pw_and1 (pt_val (pv 7)))))
        (pss_cons (ps_if (PW.pt (pw_or (pt_cmpR (op_neX hr.units) (pe_ix ix_list (pv 8) pe_int (fun _ _ => rfl)) (pe_strS (l := [109, 97, 100, 101]) (by decide +kernel)) (nomark _)) (pw_or (pt_cmpR (op_neX hr.units) (pe_ix ix_list (pv 9) pe_int (fun _ _ => rfl)) (pe_strS (l := [109, 97, 100, 101]) (by decide +kernel)) (nomark _)) (pw_or1 (pt_cmpR (op_neO eqD hr) (pe_ix ix_list (pv 8) pe_int (fun _ _ => rfl)) (pe_ix ix_list (pv 9) pe_int (fun _ _ => rfl)) (nomark _))))))
          (pss_one (ps_ret pe_bl))
          pss_nil)
        (pss_one (ps_ret (pe_calG q__law_made_right hr quiet (pa_cons (pv 0) (pa_cons (pv 1) (pa_cons (pv 4) (pa_cons (pv 6) (pa_cons (pe_ix ix_list (pv 8) pe_int (fun _ _ => rfl)) pa_nil)))))))))
        pss_nil)
      (pss_cons (ps_set (i := 10) sc__law_one_right.nd rfl (.inl rfl) (pe_ifExp (pt_val (pv 5)) (pe_lstL (pa_cons (pe_strS (l := [115, 105, 103, 110]) (by decide +kernel)) (pa_cons (pv 6) pa_nil))) (pe_lstL (pa_cons (pe_strS (l := [115, 105, 103, 110, 115]) (by decide +kernel)) (pa_cons (pv 4) pa_nil)))))
      (pss_cons (ps_if (PW.pt (pw_or (pt_cmpR op_ne (pe_callB (call_repE quiet hr.units) (by rfl) z.repr (by decide +kernel) (pa_cons (pv 8) pa_nil)) (pe_callB (call_repE quiet hr.units) (by rfl) z.repr (by decide +kernel) (pa_cons (pv 10) pa_nil)) (nomark _)) (pw_or1 (pt_cmpR op_ne (pe_callB (call_repE quiet hr.units) (by rfl) z.repr (by decide +kernel) (pa_cons (pv 9) pa_nil)) (pe_callB (call_repE quiet hr.units) (by rfl) z.repr (by decide +kernel) (pa_cons (pv 10) pa_nil)) (nomark _)))))
        (pss_one (ps_ret pe_bl))
        pss_nil)
      (pss_cons (ps_if (pt_val (pe_callB call_isi (by rfl) z.isinstance (by decide +kernel) (pa_cons (pe_ix ix_list (pv 10) pe_int (fun _ _ => rfl)) (pa_cons (pe_bltn (v := .ty "list") (by rfl) z.list (by decide +kernel) rfl) pa_nil))))
        (pss_one (ps_expr (pe_bm PySem.F.plainAttrs_list PySem.F.slot_list_append PySem.F.type_list_append mt_append (pe_ix ix_list (pv 10) pe_int (fun _ _ => rfl)) (pa_cons (pe_strS (l := [109, 111, 114, 101]) (by decide +kernel)) pa_nil))))
        pss_nil)
      (pss_one (ps_ret (pe_cmpR op_eq (pe_callB (call_repE quiet hr.units) (by rfl) z.repr (by decide +kernel) (pa_cons (pv 8) pa_nil)) (pe_callB (call_repE quiet hr.units) (by rfl) z.repr (by decide +kernel) (pa_cons (pv 10) pa_nil)) (nomark _))))))))))))))), ?_⟩
    walk_at "rd"
    refine ⟨b, 4, d0, rfl, B, by omega, by omega, by omega, fun way H1 w0 w4 B1 s1 => ?_⟩
    obtain ⟨way, rfl⟩ : ∃ n : Nat, way = n := ⟨way.toNat, by omega⟩
    have w4 : way < 4 := by omega
    walk_at "rd"
    refine ⟨b, 2, _, rfl, B1, by omega, by omega, by omega, fun r2 H2 r20 r21 B2 s2 => ?_⟩
    walk_at "rd"
    generalize decide (r2 = 1) = nm
    walk_at "rd"
    refine ⟨b, 5, _, rfl, B2, by omega, by omega, by omega, fun slip H3 p0 p1 B3 s3 => ?_⟩
    have s03 := s1.trans (s2.trans s3)
    walk_at "rd"
    refine val_ifH (fun v H' => ∃ d, Odd K (L2.del H' b) v d ∧ BoxAt H' b (d0 + 30) ∧ SB b H H' ∧ ∀ a ds, v = .ref a → d = .list ds → H a = none) (fun Q' kQ => ?_) (fun x H4 q => ?_)
    · refine iteB (fun hs => ?_) (fun hs => ?_)
      · walk_at "rd"
        refine ⟨b, 5, _, rfl, B3, by omega, by omega, by omega, fun r H4 r0 r1 B4 s4 => ?_⟩
        walk_at "rd"
        exact kQ _ _ ⟨_, Odd.int (by omega), B4.mono (by omega), s03.trans s4, fun a ds e => by cases e⟩
      · walk_at "rd"
        exact ⟨b, 5, _, rfl, by omega, by omega, B3, by omega, fun v d H4 o B4 s4 hf => kQ _ _ ⟨d, o, B4.mono (by omega), s03.trans s4, fun a ds e1 e2 => s03.none B3 (hf a ds e1 e2)⟩⟩
    obtain ⟨d, ox, B4, s04, fx⟩ := q
    walk_at "rd"
    refine newLL B4 (Nat.le_of_ble_eq_true rfl) fun lp H5 l5 n5 B5 s5 e5 t5 => ?_
    walk_at "rd"
    refine i_ixLv (i := (way : Int)) (v := .int (loW way)) (del_sub _ _ e5) (by omega) (low_at w4) ?_
    walk_at "rd"
    have o5 := ox.same s5
    refine ⟨x, d, loW way, 5, rfl, o5.de.same del_sub, ?_⟩
    have s05 := s04.trans (SB.of t5)
    walk_at "rd"
    refine cond_and (fun c => c = true → whB (loW way) 5 d = true) (fun R' kR => ?_) (fun c hc => ?_)
    · rcases e : whB (loW way) 5 d with _ | _
      · walk_at "rd"
        exact kR _ (fun q => by cases q)
      · walk_at "rd"
        exact kR _ fun _ => e
    refine val_ifH (fun v H' => ∃ e, Odd K (L2.del H' b) v e ∧ Odd K (L2.del H' b) x d ∧ BoxAt H' b (d0 + 60) ∧ SB b H H' ∧ ∀ a ds, v = .ref a → e = .list ds → H a = none) (fun Q' kQ => ?_) (fun y H6 q => ?_)
    · rcases c with _ | _
      · walk_at "rd"
        have go : ∀ m : Int, -1 ≤ m → m ≤ 10 → spOdd K [.ref b, .int m] H5 Q' L2.E0 := fun m m0 m1 => ⟨b, m, _, rfl, m0, m1, B5, by omega, fun v e H6 o B6 s6 hf => kQ _ _ ⟨e, o, o5.same (del_sb s6), B6.mono (by omega), s05.trans s6, fun a ds e1 e2 => s05.none B5 (hf a ds e1 e2)⟩⟩
        rcases e : whB (loW way) 5 d with _ | _
        · walk_at "rd"
          exact go 3 (by decide) (by decide)
        · obtain ⟨i, rfl, i1, i5⟩ := whB_int e
          have hx := o5.de
          cases hx
          walk_at "rd"
          exact go _ (by unfold loW at i1; split at i1 <;> omega) (by omega)
      · obtain ⟨i, rfl, i1, i5⟩ := whB_int (hc rfl)
        have hx := o5.de
        cases hx
        walk_at "rd"
        have i0 : 1 ≤ i := by unfold loW at i1; split at i1 <;> omega
        refine ⟨b, i, _, rfl, B5, by omega, by omega, by omega, fun r H6 r0 r1 B6 s6 => ?_⟩
        exact kQ _ _ ⟨_, Odd.int (by omega), Odd.int (by omega), B6.mono (by omega), s05.trans s6, fun a ds e => by cases e⟩
    obtain ⟨e, oy, o6, B6, s06, fy⟩ := q
    refine i_name ?_
    with_reducible refine i_seq ?_
    with_reducible refine i_asg ?_
    refine val_te (fun v H' => H' = H6 ∧ ∃ r, v = .bl r ∧ (whB (loW way) 5 d = false ∨ (whB (loW way) 5 d = true ∧ ((r = true ∧ ∃ n sp : Nat, d = .int n ∧ wayOk way n sp ∧ (way = 1 → e = .int sp)) ∨ (r = false ∧ way = 1 ∧ ∀ n : Nat, d = .int n → isX n e = false))))) (fun Q' kQ => ?_) (fun v H7 q => ?_)
    · by_cases w1 : way = 1
      · subst w1
        walk_at "rd"
        rw [decide_eq_true (show (((1 : Nat) : Int) = 1) by omega)]
        rcases e1 : whB (loW 1) 5 d with _ | _
        · rw [e1] at kQ
          walk_at "rd"
          exact kQ _ _ ⟨rfl, _, rfl, .inl rfl⟩
        · rw [e1] at kQ
          obtain ⟨i, rfl, i1, i5⟩ := whB_int e1
          have i1 : (1 : Int) ≤ i := i1
          have hx := o6.de
          cases hx
          walk_at "rd"
          refine ⟨y, e, 0, i - 1, rfl, oy.de.same del_sub, ?_⟩
          walk_at "rd"
          refine kQ _ _ ⟨rfl, _, rfl, .inr ⟨rfl, ?_⟩⟩
          rcases e2 : whB 0 (i - 1) e with _ | _
          · refine .inr ⟨rfl, rfl, fun n en => ?_⟩
            have := PyData.int.inj en
            subst this
            rw [isX_wh]; exact e2
          · obtain ⟨j, rfl, j1, j5⟩ := whB_int e2
            exact .inl ⟨rfl, i.toNat, j.toNat, (by congr 1; omega), ⟨by omega, by omega, fun _ => by omega, fun q => by cases q⟩, fun _ => by congr 1; omega⟩
      · walk_at "rd"
        rw [decide_eq_false (fun q => w1 (by omega))]
        walk_at "rd"
        refine kQ _ _ ⟨rfl, _, rfl, ?_⟩
        rcases e1 : whB (loW way) 5 d with _ | _
        · exact .inl rfl
        · obtain ⟨i, rfl, i1, i5⟩ := whB_int e1
          refine .inr ⟨rfl, .inl ⟨rfl, i.toNat, 0, ?_, ⟨?_, ?_, fun q => (w1 q).elim, fun q => ?_⟩, fun q => (w1 q).elim⟩⟩
          · unfold loW at i1; split at i1 <;> (congr 1; omega)
          · unfold loW at i1; split at i1 <;> omega
          · omega
          · subst q; have i1 : (2 : Int) ≤ i := i1; omega
    obtain ⟨rfl, r, rfl, hr3⟩ := q
    walk_at "rd"
    have ox7 := o6.same del_sub
    have oy7 := oy.same del_sub
    rcases hr3 with e1 | ⟨e1, ⟨rfl, n, sp, rfl, wo, e2⟩ | ⟨rfl, w1, nx⟩⟩
    · refine ⟨way, nm, x, y, d, e, rfl, w4, ox7.de, oy7.de, .inr (.inl ⟨e1, fun t H8 nt lt s8 et => ?_⟩)⟩
      walk_at "rd"
      refine ⟨x, d, rfl, ox7.same s8, fun x' H9 s9 ox' fx' => ?_⟩
      walk_at "rd"
      refine ⟨y, e, rfl, oy7.same (s8.trans s9), fun y' H10 s10 oy' fy' => ?_⟩
      walk_at "rd"
      refine ⟨way, !nm, x', y', d, e, rfl, w4, (ox'.same s10).de, oy'.de, .inr (.inl ⟨e1, fun u H11 nu lu s11 eu => ?_⟩)⟩
      walk_at "rd"
      rw [e1]
      walk_at "rd"
      refine newLL0 (Nat.le_of_ble_eq_true rfl) fun q H12 nq lq s12 eq => ?_
      have s812 := s9.trans (s10.trans (s11.trans s12))
      have s712 := s8.trans s812
      have ov := ox7.same s712
      have dt := lst2_de (s812 _ _ et) lt ov.de
      have du := lst2_de (s12 _ _ eu) lu ((ox'.same s10).same (s11.trans s12)).de
      have dq := lst2_de eq lq ov.de
      have sd2 : Sd 6 1000 (lst2 [115, 105, 103, 110, 115] d) := lst2_sd (by decide) (by decide) ov.sd (by omega) (by omega)
      walk_at "rd"
      refine i_repE dt sd2 (by omega) (by omega) ?_
      walk_at "rd"
      refine i_repE dq sd2 (by omega) (by omega) ?_
      walk_at "rd"
      refine ⟨rfl, ?_⟩
      rw [decide_eq_true rfl]
      walk_at "rd"
      refine i_repE du sd2 (by omega) (by omega) ?_
      walk_at "rd"
      refine i_repE dq sd2 (by omega) (by omega) ?_
      walk_at "rd"
      refine ⟨rfl, ?_⟩
      rw [decide_eq_true rfl]
      walk_at "rd"
      refine ov.de.isi (n := "list") (by simp) ?_
      walk_at "rd"
      rcases el : tyB "list" d with _ | _
      · walk_at "rd"
        refine i_repE dt sd2 (by omega) (by omega) ?_
        walk_at "rd"
        refine i_repE dq sd2 (by omega) (by omega) ?_
        walk_at "rd"
        refine ⟨rfl, ?_⟩
        rw [decide_eq_true rfl]
        exact k _ (s06.trans (SB.of s712))
      · obtain ⟨ds, rfl⟩ : ∃ ds, d = .list ds := by cases d <;> first | exact ⟨_, rfl⟩ | cases el
        obtain ⟨a, zs, rfl, ea7, la, hds⟩ := ox7.de.lstI
        have ea := s712 _ _ ea7
        have nta : t ≠ a := fun c => by rw [c, ea7] at nt; cases nt
        have nqa : q ≠ a := fun c => by rw [c, (s8.trans (s9.trans (s10.trans s11))) _ _ ea7] at nq; cases nq
        have lz : zs.length ≤ 1 := by rw [hds.len]; rcases ov.ls _ rfl with e | e <;> rw [e] <;> simp
        walk_at "rd"
        refine i_append ea (sm100 (by omega)) ?_
        have dm : De K (upd H12 a (.lst (zs ++ [.str (S [109, 111, 114, 101])]))) (.ref a) (.list (ds ++ [.str (S [109, 111, 114, 101])])) := by
          refine .lst upd_same la ?_
          rcases ov.ls _ rfl with e | e
          · subst e; cases hds; exact .cons (.str _) .nil
          · subst e
            cases hds with
            | cons h1 h2 => cases h1; cases h2; exact .cons (.int _) (.cons (.str _) .nil)
        have sm : Sd 6 1000 (lst2 [115, 105, 103, 110, 115] (.list (ds ++ [.str (S [109, 111, 114, 101])]))) := lst2_sd (by decide) (by decide) (odd_more (ov.ls _ rfl)) (by omega) (by omega)
        have dt2 := lst2_de (by rw [upd_ne nta]; exact s812 _ _ et) lt dm
        have dq2 := lst2_de (by rw [upd_ne nqa]; exact eq) lq dm
        walk_at "rd"
        refine i_repE dt2 sm (by omega) (by omega) ?_
        walk_at "rd"
        refine i_repE dq2 sm (by omega) (by omega) ?_
        walk_at "rd"
        refine ⟨rfl, ?_⟩
        rw [decide_eq_true rfl]
        exact k _ (SB.set_new (s06.trans (SB.of s712)) (fx _ _ rfl rfl))
    · have hx := ox7.de
      cases hx
      refine ⟨way, nm, .int n, y, .int n, e, rfl, w4, ox7.de, oy7.de, .inl ⟨n, sp, rfl, wo, e2, fun t v H8 s8 D8 et => ?_⟩⟩
      walk_at "rd"
      refine ⟨.int n, .int n, rfl, ox7.same s8, fun x' H9 s9 ox' fx' => ?_⟩
      walk_at "rd"
      refine ⟨y, e, rfl, oy7.same (s8.trans s9), fun y' H10 s10 oy' fy' => ?_⟩
      walk_at "rd"
      refine ⟨way, !nm, x', y', .int n, e, rfl, w4, (ox'.same s10).de, oy'.de, .inl ⟨n, sp, rfl, wo, e2, fun u v2 H11 s11 D11 eu => ?_⟩⟩
      walk_at "rd"
      rw [e1]
      walk_at "rd"
      have s811 := s9.trans (s10.trans s11)
      have et11 := s811 _ _ et
      have g := good_M wo
      have hs : (!isS [109, 97, 100, 101] (.str (S [109, 97, 100, 101]))) = false := by simp [isS]
      have ot : Ok1 (.str (S [109, 97, 100, 101])) := .inr rfl
      have st : Sd 0 4 (.str (S [109, 97, 100, 101])) := sd_str (l := [109, 97, 100, 101]) (by decide)
      refine i_neS1 (.str _) st ot (by decide) ?_
      refine ⟨_, rfl, ?_⟩
      rw [hs]
      walk_at "rd"
      refine i_neS1 (.str _) st ot (by decide) ?_
      refine ⟨_, rfl, ?_⟩
      rw [hs]
      walk_at "rd"
      have D11' := D8.same s811
      obtain ⟨a1, dx1, p1, p2, rfl, ha1, _, _⟩ := id D11'
      obtain ⟨a2, dx2, r1, r2, rfl, ha2, _, _⟩ := id D11
      refine ⟨a1, a2, dx1, dx2, _, _, rfl, rfl, ha1, ha2, ?_⟩
      refine ⟨.ref a1, .ref a2, n, _, _, rfl, D11', D11, g, fun H12 s12 => ⟨true, rfl, ?_⟩⟩
      refine ⟨false, rfl, ?_⟩
      walk_at "rd"
      have s712 := s8.trans (s811.trans s12)
      have B12 := B6.same s712
      refine ⟨b, way, n, sp, y, .ref a1, _, rfl, w4, wo, fun q => ?_, (D11'.same s12).box B12, B12, by omega, fun H13 s13 => ?_⟩
      · have h := oy7.de; rw [e2 q] at h; cases h; rfl
      · exact k _ (s06.trans ((SB.of s712).trans s13))
    · refine ⟨way, nm, x, y, d, e, rfl, w4, ox7.de, oy7.de, .inr (.inr ⟨w1, by rw [w1] at e1; exact e1, nx, fun t H8 nt lt s8 et => ?_⟩)⟩
      walk_at "rd"
      refine ⟨x, d, rfl, ox7.same s8, fun x' H9 s9 ox' fx' => ?_⟩
      walk_at "rd"
      refine ⟨y, e, rfl, oy7.same (s8.trans s9), fun y' H10 s10 oy' fy' => ?_⟩
      walk_at "rd"
      refine ⟨way, !nm, x', y', d, e, rfl, w4, (ox'.same s10).de, oy'.de, .inr (.inr ⟨w1, by rw [w1] at e1; exact e1, nx, fun u H11 nu lu s11 eu => ?_⟩)⟩
      walk_at "rd"
      rw [e1]
      walk_at "rd"
      refine newLL0 (Nat.le_of_ble_eq_true rfl) fun q H12 nq lq s12 eq => ?_
      have s812 := s9.trans (s10.trans (s11.trans s12))
      have s712 := s8.trans s812
      have ov := oy7.same s712
      have dt := lst2_de (s812 _ _ et) lt ov.de
      have du := lst2_de (s12 _ _ eu) lu (oy'.same (s11.trans s12)).de
      have dq := lst2_de eq lq ov.de
      have sd2 : Sd 6 1000 (lst2 [115, 105, 103, 110] e) := lst2_sd (by decide) (by decide) ov.sd (by omega) (by omega)
      walk_at "rd"
      refine i_repE dt sd2 (by omega) (by omega) ?_
      walk_at "rd"
      refine i_repE dq sd2 (by omega) (by omega) ?_
      walk_at "rd"
      refine ⟨rfl, ?_⟩
      rw [decide_eq_true rfl]
      walk_at "rd"
      refine i_repE du sd2 (by omega) (by omega) ?_
      walk_at "rd"
      refine i_repE dq sd2 (by omega) (by omega) ?_
      walk_at "rd"
      refine ⟨rfl, ?_⟩
      rw [decide_eq_true rfl]
      walk_at "rd"
      refine ov.de.isi (n := "list") (by simp) ?_
      walk_at "rd"
      rcases el : tyB "list" e with _ | _
      · walk_at "rd"
        refine i_repE dt sd2 (by omega) (by omega) ?_
        walk_at "rd"
        refine i_repE dq sd2 (by omega) (by omega) ?_
        walk_at "rd"
        refine ⟨rfl, ?_⟩
        rw [decide_eq_true rfl]
        exact k _ (s06.trans (SB.of s712))
      · obtain ⟨ds, rfl⟩ : ∃ ds, e = .list ds := by cases e <;> first | exact ⟨_, rfl⟩ | cases el
        obtain ⟨a, zs, rfl, ea7, la, hds⟩ := oy7.de.lstI
        have ea := s712 _ _ ea7
        have nta : t ≠ a := fun c => by rw [c, ea7] at nt; cases nt
        have nqa : q ≠ a := fun c => by rw [c, (s8.trans (s9.trans (s10.trans s11))) _ _ ea7] at nq; cases nq
        have lz : zs.length ≤ 1 := by rw [hds.len]; rcases ov.ls _ rfl with e | e <;> rw [e] <;> simp
        walk_at "rd"
        refine i_append ea (sm100 (by omega)) ?_
        have dm : De K (upd H12 a (.lst (zs ++ [.str (S [109, 111, 114, 101])]))) (.ref a) (.list (ds ++ [.str (S [109, 111, 114, 101])])) := by
          refine .lst upd_same la ?_
          rcases ov.ls _ rfl with e | e
          · subst e; cases hds; exact .cons (.str _) .nil
          · subst e
            cases hds with
            | cons h1 h2 => cases h1; cases h2; exact .cons (.int _) (.cons (.str _) .nil)
        have sm : Sd 6 1000 (lst2 [115, 105, 103, 110] (.list (ds ++ [.str (S [109, 111, 114, 101])]))) := lst2_sd (by decide) (by decide) (odd_more (ov.ls _ rfl)) (by omega) (by omega)
        have dt2 := lst2_de (by rw [upd_ne nta]; exact s812 _ _ et) lt dm
        have dq2 := lst2_de (by rw [upd_ne nqa]; exact eq) lq dm
        walk_at "rd"
        refine i_repE dt2 sm (by omega) (by omega) ?_
        walk_at "rd"
        refine i_repE dq2 sm (by omega) (by omega) ?_
        walk_at "rd"
        refine ⟨rfl, ?_⟩
        rw [decide_eq_true rfl]
        exact k _ (SB.set_new (s06.trans (SB.of s712)) (fy _ _ rfl rfl))
end
end Sw
namespace Sw
open PySem PySem.Spec PyProof.Rows L2
local macro_rules | `(tactic| walk_at "hp") => `(tactic| first
  | (with_reducible assumption) | (with_reducible exact upd_same)
  | ((with_reducible refine' upd_old ?q1 ?q2); (case q1 => (with_reducible assumption)); (case q2 => walk_at "hp"))
  | ((with_reducible refine' Same.at ?q1 ?q2); (case q1 => (with_reducible assumption)); (case q2 => walk_at "hp"))
  | ((with_reducible refine' upd_skip ?q1 ?q2); (case q1 => walk_at "ne"); (case q2 => walk_at "hp"))
  | fail)
local macro_rules | `(tactic| walk_at "ne") => `(tactic| first
  | (with_reducible assumption) | (with_reducible exact Ne.symm (by assumption))
  | ((with_reducible refine' ne_of_none ?q1 ?q2); (case q2 => (with_reducible assumption)); (case q1 => walk_at "hp"))
  | fail)
local macro_rules | `(tactic| walk_at "ci") => `(tactic| first | assumption | (show (0 : Int) < _; first | decide | (with_reducible omega)) | exact ⟨by decide, by decide⟩ | exact .inl ⟨by decide, by decide⟩ | exact .inr ⟨by decide, by decide⟩)
local macro_rules | `(tactic| walk_at "ln") => `(tactic| first | (with_reducible assumption) | (with_reducible omega) | (simp only [List.length_append, List.length_take, List.length_drop, List.length_reverse, List.length_cons, List.length_nil]; with_reducible omega))
local macro_rules | `(tactic| walk_at "rd1") => `(tactic| first
  | (with_reducible refine i_seq ?_) | (with_reducible refine i_asg ?_) | (with_reducible refine i_ret ?_) | (with_reducible refine i_name ?_) | ((with_reducible refine' i_var ?q1 ?_); (case q1 => exact rfl)) | (with_reducible refine i_c ?_) | (with_reducible refine i_op ?_) | (with_reducible refine i_un ?_)
  | (with_reducible refine i_rI0 ?_) | (with_reducible refine i_cb ?_) | (with_reducible refine i_cons ?_) | (with_reducible refine i_nil ?_) | (with_reducible refine i_call ?_) | (with_reducible refine i_if ?_) | (with_reducible refine i_ifE ?_) | (with_reducible refine i_test ?_) | (with_reducible refine i_bl ?_)
  | (with_reducible refine i_and ?_) | (with_reducible refine i_or ?_) | (with_reducible refine i_not ?_) | (with_reducible refine i_lstM ?_) | (with_reducible refine i_lstLM ?_) | (with_reducible refine i_tupM ?_) | (with_reducible refine i_next ?_) | (with_reducible refine i_drop ?_) | (with_reducible refine i_sub ?_)
  | (with_reducible refine i_bm ?_) | (with_reducible refine i_sl ?_) | (with_reducible refine i_part ?_) | (with_reducible refine i_nopart ?_) | (with_reducible refine i_exI ?_) | (with_reducible refine i_chain ?_) | ((with_reducible refine' i_aug ?q1 ?_); (case q1 => exact rfl)) | (with_reducible refine i_ip ?_)
  | (with_reducible refine i_par ?_) | (with_reducible refine i_pair ?_) | (with_reducible refine i_andV ?_) | (with_reducible refine i_orV ?_) | (with_reducible refine i_notV ?_) | (with_reducible refine i_m1 ?_) | (with_reducible refine i_str ?_)
  | (with_reducible refine iteF ?_) | (with_reducible refine iteT ?_) | (with_reducible refine iteNT ?_) | (with_reducible refine iteNF ?_) | (with_reducible refine i_tyS ?_) | (with_reducible refine i_tB ?_) | (with_reducible refine i_retN ?_) | (with_reducible refine i_par3 ?_) | (with_reducible refine i_trip ?_) | (with_reducible refine i_gCons ?_) | (with_reducible refine i_gNil ?_) | (with_reducible refine i_lstRg ?_) | (with_reducible refine i_rg1 ?_)
  | (with_reducible refine i_lc ?_) | (with_reducible refine i_for ?_) | (with_reducible refine i_iList ?_) | (with_reducible refine i_iTup ?_) | (with_reducible refine i_iStr ?_) | (with_reducible refine i_iRng1 ?_) | (with_reducible refine i_iEnS ?_)
  | ((with_reducible refine' i_ixTH ?q1 ?q2 ?_); (case q1 => walk_at "hp"); (case q2 => exact rfl))
  | ((with_reducible refine' i_ixLH ?q1 ?q2 ?_); (case q1 => walk_at "hp"); (case q2 => exact rfl))
  | ((with_reducible refine i_addS ?q1 ?_); (case q1 => walk_at "ln")) | ((with_reducible refine i_lenSS ?q1 ?_); (case q1 => walk_at "ln")) | ((with_reducible refine i_slFrom ?q1 ?q2 ?_); (case q1 => walk_at "ln"); (case q2 => walk_at "ln")) | ((with_reducible refine i_slTo ?q1 ?q2 ?_); (case q1 => walk_at "ln"); (case q2 => walk_at "ln"))
  | ((with_reducible refine' i_tyL ?q1 ?_); (case q1 => walk_at "hp"))
  | ((with_reducible refine' i_gTupH ?q1 ?q2 ?_); (case q1 => walk_at "hp"); (case q2 => exact rfl))
  | (with_reducible refine i_dnewM ?_) | (with_reducible refine i_init ?_) | (with_reducible refine i_fst ?_) | (with_reducible refine i_mk ?_) | (with_reducible refine i_raise ?_) | (with_reducible refine i_callS ?_) | (with_reducible refine i_kwS ?_)
  | (with_reducible refine i_revT ?_) | (with_reducible refine i_kw ?_) | ((with_reducible refine' ⟨_, _, rfl, sqT_of ?q1, ?_⟩); (case q1 => walk_at "hp"))
  | (with_reducible refine i_revS ?_) | ((with_reducible refine i_revSS ?q1 ?_); (case q1 => walk_at "ln"))
  | (with_reducible refine i_startS ?_) | (with_reducible refine i_inSg ?_) | (with_reducible refine i_absN ?_) | (with_reducible refine i_min2 ?_) | (with_reducible refine i_max2 ?_) | (with_reducible refine i_min3 ?_) | (with_reducible refine i_intN ?_) | (with_reducible refine i_intNB ?_)
  | ((with_reducible refine' i_lenL ?q1 ?_); (case q1 => walk_at "hp")) | ((with_reducible refine' i_lenT ?q1 ?_); (case q1 => walk_at "hp"))
  | (with_reducible refine i_eqI ?_) | (with_reducible refine i_neI ?_) | (with_reducible refine i_eqS ?_) | (with_reducible refine i_neS ?_) | (with_reducible refine i_isNoI ?_) | (with_reducible refine i_isNoN ?_) | (with_reducible refine i_isNoR ?_)
  | ((with_reducible refine i_pow ?q1 ?q2 ?q3 ?_); (case q1 => decide); (case q2 => decide); (case q3 => (with_reducible omega)))
  | ((with_reducible refine i_rI ?q1 ?_); (case q1 => walk_at "ci"))
  | (with_reducible refine Or.inl ⟨_, rfl, ?_⟩) | (with_reducible refine Or.inr ⟨_, rfl, ?_⟩) | (with_reducible refine ⟨_, rfl, ?_⟩) | (with_reducible refine ⟨_, _, rfl, ?_⟩) | (with_reducible refine ⟨_, _, rfl, rfl, ?_⟩)
  | ((with_reducible refine' ⟨_, _, rfl, Or.inl (sqL_of ?q1), ?_⟩); (case q1 => walk_at "hp")) | ((with_reducible refine' ⟨_, _, rfl, Or.inr (sqT_of ?q1), ?_⟩); (case q1 => walk_at "hp")) | (with_reducible refine i_dget ?_) | (with_reducible refine i_disp1T ?_) | (with_reducible refine i_dcT ?_) | (with_reducible refine i_dnewT ?_) | (with_reducible refine i_fld ?_) | (with_reducible refine i_sFld ?_) | (with_reducible refine i_make ?_) | (with_reducible refine i_meth ?_) | (with_reducible refine i_star ?_) | (with_reducible refine i_isNoS ?_) | (with_reducible refine i_lc2 ?_) | fail)
local macro_rules | `(tactic| walk_at "rd") => `(tactic| repeat' walk_at "rd1")

/-- law(script) -/
def spLaw (K : PySem.W.Frag) : Sp := fun vs H Q _ => ∃ (a : Addr) (ns : List Int), vs = [.ref a] ∧ SqL K H a (ns.map V.int) ∧ ∀ H', Same H H' → Q (.bl true) H'
section
variable {P : Program} {w : World} {K : PySem.W.Frag} {mg : Str → Option Value} {base : Heap} {f : Addr} {fd : FuncData}
theorem ok_law (F : Fun K "law" "law" s_law f fd) (z : Z mg) (q__law_one_right : CalG P w K mg base "_law_one_right" ["box"] 11 spOne)
    (c__law_box : Cal P w K mg base "_law_box" ["great"] 1 spBox) (c__law_cell : Cal P w K mg base "_law_cell" ["script", "k"] 1 (spCell K)) : FnG P w K mg base CX0 12 f fd ["script"] (spLaw K) := by
  refine Sw.Fun.okG0 F sc_law (fun vs H Q E h => ?_) (fun cdv A outer s H vs Q E hr quiet h => ?_)
  · obtain ⟨a, ns, rfl, _⟩ := h; rfl
  · obtain ⟨a, ns, rfl, L, k⟩ := h
    refine ⟨_, (pss_cons (ps_for PassesOwn.never rfl (pi_range1 (by rfl) z.range (pa_cons (pe_callB (call_max2N rfl) (by rfl) z.max_ (by decide +kernel) (pa_cons pe_int (pa_cons (pe_callB (call_min2N rfl) (by rfl) z.min_ (by decide +kernel) (pa_cons pe_int (pa_cons (pe_callB call_lenQ (by rfl) z.len PySem.boot_len (pa_cons (pv 0) pa_nil)) pa_nil))) pa_nil))) pa_nil)) (pg_name (i := 1) sc_law.nd rfl (.inl rfl))
        (pss_one (ps_if (pt_not (pt_val (pe_calG q__law_one_right hr quiet (pa_cons (pe_cal c__law_box hr (pa_cons (pe_cal c__law_cell hr (pa_cons (pv 0) (pa_cons (pv 1) pa_nil))) pa_nil)) pa_nil))))
          (pss_one (ps_ret pe_bl))
          pss_nil)))
      (pss_one (ps_ret pe_bl))), ?_⟩
    walk_at "rd"
    refine i_lenK L ?_
    walk_at "rd"
    rw [List.length_map]
    refine i_rng (by omega) (by omega) ?_
    refine go_for walk_rangeZ (fun i σ H2 => ∃ u1, σ = [some (.ref a), u1] ∧ Same H H2) ⟨none, rfl, Same.refl _⟩ (fun _ _ _ _ _ => trivial) (fun i v σ H2 H3 hi p y => ?_) (fun σ H2 p => ?_)
    · obtain ⟨u1, rfl, s2⟩ := p
      obtain ⟨rfl, rfl⟩ := y
      walk_at "rd"
      refine ⟨a, ns, i, rfl, Same.sqL s2 L, by omega, by omega, fun v H4 s4 => ?_⟩
      walk_at "rd"
      refine ⟨v, rfl, fun b H5 nb s5 B5 => ?_⟩
      walk_at "rd"
      refine ⟨b, 0, rfl, B5, by omega, fun H6 s6 => ?_⟩
      have keep : Same H H6 := fun x o e => by
        have e4 := s4 _ _ (s2 _ _ e)
        have nxb : x ≠ b := ne_of_none e4 nb
        exact s6 _ _ nxb (s5 _ _ e4)
      walk_at "rd"
      exact keep
    · obtain ⟨u1, rfl, s2⟩ := p
      walk_at "rd"
      exact k _ s2
end
end Sw
namespace Sw
open PySem PySem.Spec PyProof.Rows L2
theorem def_mk {K : PySem.W.Frag} {h : Heap} {mg : Str → Option Value} {x : Str} {st : Stmt} {f : Addr} {od an : Option Addr} {sl : Array (Option Value)} {oc kV dc pm cd ct : Value} (X : K.In h) (G : h.Ns mainGlobals mg)
    (a : PySem.W.nsIn K mainGlobals x = some (some (.ref f))) (l : K.lookup f = some ⟨oc, od, .func (PySem.W.fnOf x x (defArgs st) (defBody st) (defScope st) .none kV dc pm an cd ct), sl⟩) (c : PySem.W.codeIn K cd x = true) (k : PySem.W.keepIn K (.ref f) = true) : Def K mg x st :=
  ⟨f, _, fun_mk l c k, PySem.W.mg_of X G a⟩
theorem oex_mk {K : PySem.W.Frag} {C B N : Addr} {nm q : Str} {bs : List Value} {sn : List Str} {sub : List Value} {ab : Bool} {col : Option Bool} {dd : Option Addr} {k0 k1 k2 k3 k5 : Option Value}
    (h : K.lookup C = some (excClassObj nm q C N bs [.ref B, .type "Exception", .type "BaseException", .type "object"] true sn sub ab col dd k0 k1 k2 k3 k5 "Exception.__new__")) (sa : PySem.W.findIn K (.ref C) "__setattr__" = some (some (.builtin "object.__setattr__"))) (exC : PySem.W.subIn K (.ref C) (.type "BaseException") = some true)
    (tyC : PySem.W.typeIn K (.ref C) = some (.type "type")) (kC : PySem.W.keepIn K (.ref C) = true) : OexE K C := ⟨⟨nm, q, N, bs, [B], sn, sub, ab, col, dd, k0, k1, k2, k3, k5, h⟩, sa, exC, tyC, kC⟩
theorem exm_mk {K : PySem.W.Frag} {c : Value} (h1 : PySem.W.subIn K c (.type "BaseException") = some true) (h2 : PySem.W.kitCls K c c = some true) : PySem.W.exmOne K c c = some true := by
  unfold PySem.W.exmOne
  rw [h1]
  exact h2
theorem exn_mk {K : PySem.W.Frag} {d c : Value} (h1 : PySem.W.subIn K c (.type "BaseException") = some true) (h2 : PySem.W.kitCls K d c = some false) : PySem.W.exmOne K d c = some false := by
  unfold PySem.W.exmOne
  rw [h1]
  exact h2
/-- an own exception class, its __init__ apart -/
structure XI (x q : Str) (st : Stmt) (K : PySem.W.Frag) (mg : Str → Option Value) (C : Addr) : Prop where
  T : OexE K C
  xf : XfC K C
  no : PySem.W.findIn K (.ref C) "given" = some none
  hm : mg x = some (.ref C)
  me : PySem.W.exmOne K (.ref C) (.ref C) = some true
  ini : ∃ (fI : Addr) (fd : FuncData), PySem.W.findIn K (.ref C) "__init__" = some (some (.ref fI)) ∧ PySem.W.typeIn K (.ref fI) = some (.type "function") ∧ Fun K "__init__" q st fI fd
theorem iniq_mk {K : PySem.W.Frag} {q : Str} {st : Stmt} {C fI : Addr} {od an : Option Addr} {sl : Array (Option Value)} {oc kV dc pm cd ct : Value} (i : PySem.W.findIn K (.ref C) "__init__" = some (some (.ref fI))) (t : PySem.W.typeIn K (.ref fI) = some (.type "function"))
    (l : K.lookup fI = some ⟨oc, od, .func (PySem.W.fnOf "__init__" q (defArgs st) (defBody st) (defScope st) .none kV dc pm an cd ct), sl⟩) (c : PySem.W.codeIn K cd q = true) (k : PySem.W.keepIn K (.ref fI) = true) :
    ∃ (fI : Addr) (fd : FuncData), PySem.W.findIn K (.ref C) "__init__" = some (some (.ref fI)) ∧ PySem.W.typeIn K (.ref fI) = some (.type "function") ∧ Fun K "__init__" q st fI fd := ⟨fI, _, i, t, fun_mk l c k⟩
/-- the class Decoder -/
structure XD_Decoder (K : PySem.W.Frag) (mg : Str → Option Value) (C : Addr) : Prop where
  hm : mg "Decoder" = some (.ref C)
  dc : DcC K C
  ic : C8.InsC K C
  mks : PySem.W.makesIn K C = true
  kc : PySem.W.keepIn K (.ref C) = true
  m_ini : ∃ (f : Addr) (fd : FuncData), PySem.W.findIn K (.ref C) "__init__" = some (some (.ref f)) ∧ PySem.W.isFn K (.ref f) = true ∧ PySem.W.keepIn K (.ref f) = true ∧ Fun K "__init__" "Decoder.__init__" s_Decoder___init__ f fd
  m_eq : ∃ (f : Addr) (fd : FuncData), PySem.W.findIn K (.ref C) "__eq__" = some (some (.ref f)) ∧ PySem.W.isFn K (.ref f) = true ∧ PySem.W.keepIn K (.ref f) = true ∧ Fun K "__eq__" "Decoder.__eq__" s_Decoder___eq__ f fd
  m_written : ∃ (f : Addr) (fd : FuncData), PySem.W.findIn K (.ref C) "written" = some (some (.ref f)) ∧ PySem.W.isFn K (.ref f) = true ∧ PySem.W.keepIn K (.ref f) = true ∧ Fun K "written" "Decoder.written" s_Decoder_written f fd
  ne : PySem.W.findIn K (.ref C) "__ne__" = some (some (.builtin "object.__ne__"))
  sub : PySem.W.subIn K (.ref C) (.type "object") = some true
theorem mth_mk_Decoder {K : PySem.W.Frag} {m q : Str} {st : Stmt} {C f : Addr} {od an : Option Addr} {sl : Array (Option Value)} {oc kV dc pm cd ct : Value} (i : PySem.W.findIn K (.ref C) m = some (some (.ref f))) (t : PySem.W.isFn K (.ref f) = true)
    (l : K.lookup f = some ⟨oc, od, .func (PySem.W.fnOf m q (defArgs st) (defBody st) (defScope st) .none kV dc pm an cd ct), sl⟩) (c : PySem.W.codeIn K cd q = true) (k : PySem.W.keepIn K (.ref f) = true) :
    ∃ (f : Addr) (fd : FuncData), PySem.W.findIn K (.ref C) m = some (some (.ref f)) ∧ PySem.W.isFn K (.ref f) = true ∧ PySem.W.keepIn K (.ref f) = true ∧ Fun K m q st f fd := ⟨f, _, i, t, k, fun_mk l c k⟩
theorem dc_mk_Decoder {K : PySem.W.Frag} {C : Addr} (pg : PySem.W.plainGet K C Str.empty = true) (hd : PySem.W.hasDictIn K C = true) (po : PySem.W.plainOver K C = true) (sa : PySem.W.findIn K (.ref C) "__setattr__" = some (some (.builtin "object.__setattr__")))
    (a_signs : PySem.W.findIn K (.ref C) "signs" = some none) (a_states : PySem.W.findIn K (.ref C) "states" = some none) (a_steps : PySem.W.findIn K (.ref C) "steps" = some none) (a_ends : PySem.W.findIn K (.ref C) "ends" = some none) : DcC K C := ⟨⟨pg, hd, po, sa⟩, a_signs, a_states, a_steps, a_ends⟩
theorem ic_mk_Decoder {K : PySem.W.Frag} {C : Addr} (c : Cls K C) (ha : PySem.W.findIn K (.ref C) "__class__" = some (some (.builtin "object.__class__"))) (hn : PySem.W.specialIn K (.builtin "object.__class__") "__get__" = some (some (.builtin "getset_descriptor.__get__")))
    (htk : PySem.W.takesIn K (.builtin "object.__class__") = some true) (hm : PySem.W.mroIn K C (.type "object") = some true) (me : PySem.W.kitOne K (.ref C) (.ref C) = some true) : C8.InsC K C := ⟨c, ha, hn, htk, hm, me⟩
theorem all_mk {l : PySem.W.OpenLaw} {w : World} {K : PySem.W.Frag} {mg : Str → Option Value} {fa : Addr} (hfa : mg "law" = some (.ref fa)) (z : Z mg) {t_MOST_SIGNS : Tok} (g_MOST_SIGNS : mg "MOST_SIGNS" = some (.int 5 t_MOST_SIGNS)) {t_MOST_LETTERS : Tok} (g_MOST_LETTERS : mg "MOST_LETTERS" = some (.int 3 t_MOST_LETTERS)) {t_MOST_STATES : Tok} (g_MOST_STATES : mg "MOST_STATES" = some (.int 40 t_MOST_STATES)) {t_MOST_ROUNDS : Tok} (g_MOST_ROUNDS : mg "MOST_ROUNDS" = some (.int 2 t_MOST_ROUNDS)) {t_LETTERS : Tok} (g_LETTERS : mg "LETTERS" = some (.str (("abcdefghijklmnopqrstuvwxyz" : Str)) t_LETTERS)) {B : Addr} (ov : Over K mg B) {XS : Addr} (xi_XS : XI "InvalidSigns" "InvalidSigns.__init__" s_initS K mg XS) {XG : Addr} (xi_XG : XI "InvalidSign" "InvalidSign.__init__" s_initG K mg XG) {CD : Addr} (xd_CD : XD_Decoder K mg CD) (hDC : PySem.W.exmOne K (.ref XG) (.ref XS) = some false) 
    (d_is_list : Def K mg "is_list" s_is_list) (d_is_integer : Def K mg "is_integer" s_is_integer) (d_is_index : Def K mg "is_index" s_is_index) (d_is_signs : Def K mg "is_signs" s_is_signs) (d_is_sign : Def K mg "is_sign" s_is_sign) (d_is_line : Def K mg "is_line" s_is_line) (d_is_text : Def K mg "is_text" s_is_text) (d_is_word : Def K mg "is_word" s_is_word) (d_letter_of : Def K mg "letter_of" s_letter_of) (d_check_signs : Def K mg "check_signs" s_check_signs) (d_check_line : Def K mg "check_line" s_check_line) (d_is_entry : Def K mg "is_entry" s_is_entry) (d_are_steps : Def K mg "are_steps" s_are_steps) (d_are_ends : Def K mg "are_ends" s_are_ends) (d_copier : Def K mg "copier" s_copier) (d_escaped : Def K mg "escaped" s_escaped) (d_shifted : Def K mg "shifted" s_shifted) (d_run_lengths : Def K mg "run_lengths" s_run_lengths) (d__law_cell : Def K mg "_law_cell" s__law_cell) (d__law_box : Def K mg "_law_box" s__law_box) (d__law_take : Def K mg "_law_take" s__law_take) (d__law_whole : Def K mg "_law_whole" s__law_whole) (d__law_odd : Def K mg "_law_odd" s__law_odd) (d__law_copy : Def K mg "_law_copy" s__law_copy) (d__law_made : Def K mg "_law_made" s__law_made) (d__law_told : Def K mg "_law_told" s__law_told) (d__law_parts : Def K mg "_law_parts" s__law_parts) (d__law_read : Def K mg "_law_read" s__law_read) (d__law_made_right : Def K mg "_law_made_right" s__law_made_right) (d__law_one_right : Def K mg "_law_one_right" s__law_one_right) (d_law : Def K mg "law" s_law) :
    ∃ fd : FuncData, (∀ (s : Shared) (v : Value), BindsTo s fd ⟨[v], []⟩ [("script", v)]) ∧ ∀ base : Heap, K.In base → base.Ns mainGlobals mg → FnG l.prog w K mg base CX0 12 fa fd ["script"] (spLaw K) := by
  obtain ⟨f, fd, F, e⟩ := d_law
  cases hfa.symm.trans e
  have F0 := F
  obtain ⟨oc, od, kV, doc, pm, an, cdv, ct, osl, rfl, lk, hcd⟩ := F.ex
  refine ⟨PySem.W.fnOf "law" "law" (defArgs s_law) (defBody s_law) (defScope s_law) .none kV doc pm an cdv ct, fun s v => .of_eq rfl, fun base _ _ => ?_⟩
  have xq_XS : XQ "InvalidSigns" l.prog w K mg base XS := by
    obtain ⟨fI, fdI, i1, i2, FI⟩ := xi_XS.ini
    exact ⟨xi_XS.T, xi_XS.xf, xi_XS.no, xi_XS.hm, xi_XS.me, fI, fdI, i1, i2, ok_initS FI ov, FI.binds fun _ _ _ _ _ _ us hl => match us, hl with | [_, _], _ => rfl⟩
  have xq_XG : XQ "InvalidSign" l.prog w K mg base XG := by
    obtain ⟨fI, fdI, i1, i2, FI⟩ := xi_XG.ini
    exact ⟨xi_XG.T, xi_XG.xf, xi_XG.no, xi_XG.hm, xi_XG.me, fI, fdI, i1, i2, ok_initG FI ov, FI.binds fun _ _ _ _ _ _ us hl => match us, hl with | [_, _], _ => rfl⟩
  obtain ⟨f_ini, fd_ini, m1_ini, m2_ini, m3_ini, F_ini⟩ := xd_CD.m_ini
  obtain ⟨f_eq, fd_eq, m1_eq, m2_eq, m3_eq, F_eq⟩ := xd_CD.m_eq
  obtain ⟨f_written, fd_written, m1_written, m2_written, m3_written, F_written⟩ := xd_CD.m_written
  have c_int := Sw.Def.cal (P := l.prog) (w := w) (base := base) d_is_integer (ps := ["value"]) (k := 1) (sp := (spInt K)) (fun _ _ _ _ _ _ us hl => match us, hl with | [_], _ => rfl) fun f fd F => ok_integer F z
  have c_idx := Sw.Def.cal (P := l.prog) (w := w) (base := base) d_is_index (ps := ["value", "many"]) (k := 2) (sp := (spIdx K)) (fun _ _ _ _ _ _ us hl => match us, hl with | [_, _], _ => rfl) fun f fd F => ok_index F c_int
  have c_sgs := Sw.Def.cal (P := l.prog) (w := w) (base := base) d_is_signs (ps := ["value"]) (k := 2) (sp := (spSg K)) (fun _ _ _ _ _ _ us hl => match us, hl with | [_], _ => rfl) fun f fd F => ok_signs F c_int g_MOST_SIGNS
  have c_sg := Sw.Def.cal (P := l.prog) (w := w) (base := base) d_is_sign (ps := ["value", "signs"]) (k := 3) (sp := (spIdx K)) (fun _ _ _ _ _ _ us hl => match us, hl with | [_, _], _ => rfl) fun f fd F => ok_sign F c_idx
  have c_list := Sw.Def.cal (P := l.prog) (w := w) (base := base) d_is_list (ps := ["value"]) (k := 1) (sp := (spSeq K)) (fun _ _ _ _ _ _ us hl => match us, hl with | [_], _ => rfl) fun f fd F => ok_list F z
  have c_line := Sw.Def.cal (P := l.prog) (w := w) (base := base) d_is_line (ps := ["value", "signs"]) (k := 3) (sp := (spLine K)) (fun _ _ _ _ _ _ us hl => match us, hl with | [_, _], _ => rfl) fun f fd F => ok_line F z c_idx
  have c_ckl := Sw.Def.cal (P := l.prog) (w := w) (base := base) d_check_line (ps := ["line", "signs"]) (k := 4) (sp := (spCkL K)) (fun _ _ _ _ _ _ us hl => match us, hl with | [_, _], _ => rfl) fun f fd F => ok_ckL F c_line
  have x_cks := Sw.Def.calX (P := l.prog) (w := w) (base := base) d_check_signs (ps := ["signs"]) (k := 3) (sp := (spCkS K XS)) (fun _ _ _ _ _ _ us hl => match us, hl with | [_], _ => rfl) fun f fd F => ok_ckS F xq_XS c_sgs
  have c_ck0 := Sw.Def.cal (P := l.prog) (w := w) (base := base) d_check_signs (ps := ["signs"]) (k := 3) (sp := spCkS0) (fun _ _ _ _ _ _ us hl => match us, hl with | [_], _ => rfl) fun f fd F => ok_ckS0 F c_sgs
  have c_txt := Sw.Def.cal (P := l.prog) (w := w) (base := base) d_is_text (ps := ["value"]) (k := 1) (sp := spTxt) (fun _ _ _ _ _ _ us hl => match us, hl with | [_], _ => rfl) fun f fd F => ok_text F z g_LETTERS
  have c_wd := Sw.Def.cal (P := l.prog) (w := w) (base := base) d_is_word (ps := ["value"]) (k := 2) (sp := spWd) (fun _ _ _ _ _ _ us hl => match us, hl with | [_], _ => rfl) fun f fd F => ok_word F z g_MOST_LETTERS c_txt
  have c_let := Sw.Def.cal (P := l.prog) (w := w) (base := base) d_letter_of (ps := ["place"]) (k := 1) (sp := spLet) (fun _ _ _ _ _ _ us hl => match us, hl with | [_], _ => rfl) fun f fd F => ok_letter F g_LETTERS
  have c_ent := Sw.Def.cal (P := l.prog) (w := w) (base := base) d_is_entry (ps := ["value", "states"]) (k := 3) (sp := spEnt) (fun _ _ _ _ _ _ us hl => match us, hl with | [_, _], _ => rfl) fun f fd F => ok_entry F z c_idx c_wd
  have c_stp := Sw.Def.cal (P := l.prog) (w := w) (base := base) d_are_steps (ps := ["value", "signs"]) (k := 4) (sp := spStp) (fun _ _ _ _ _ _ us hl => match us, hl with | [_, _], _ => rfl) fun f fd F => ok_steps F z g_MOST_STATES c_list c_ent
  have c_ens := Sw.Def.cal (P := l.prog) (w := w) (base := base) d_are_ends (ps := ["value", "states"]) (k := 3) (sp := spEns) (fun _ _ _ _ _ _ us hl => match us, hl with | [_, _], _ => rfl) fun f fd F => ok_ends F z c_list c_wd
  have m_Dec : C8.Mak l.prog w K mg base 5 "Decoder" CD (spIni CD) [] := ⟨f_ini, fd_ini, ["self", "signs", "steps", "ends"], [], ⟨xd_CD.mks, m1_ini, m2_ini, xd_CD.kc⟩, ok_ini F_ini z xd_CD.dc c_ck0 c_stp c_ens, xd_CD.hm, F_ini.binds (fun _ _ _ _ _ _ us hl => match us, hl with | [_, _, _, _], _ => rfl), .nil⟩
  have eqD : EqI l.prog w K mg base 1 CD (spEqD CD) := ⟨⟨f_eq, fd_eq, ["self", "other"], m1_eq, m2_eq, ok_eq F_eq z xd_CD.hm xd_CD.dc xd_CD.ic, F_eq.binds (fun _ _ _ _ _ _ us hl => match us, hl with | [_, _], _ => rfl)⟩, xd_CD.ne, xd_CD.sub⟩
  have mt_wr : C8.Met l.prog w K mg base 5 CD "written" (spWr K CD) [] := ⟨f_written, fd_written, ["self", "line"], [], xd_CD.dc.cl, ⟨m1_written, m2_written, m3_written⟩, ok_wr F_written z xd_CD.dc c_ckl, F_written.binds (fun _ _ _ _ _ _ us hl => match us, hl with | [_, _], _ => rfl), .nil⟩
  have x_cop := Sw.Def.calX (P := l.prog) (w := w) (base := base) d_copier (ps := ["signs"]) (k := 7) (sp := (spMk K CD XS 0)) (fun _ _ _ _ _ _ us hl => match us, hl with | [_], _ => rfl) fun f fd F => ok_cop F z x_cks c_let m_Dec
  have kx_cop := Sw.Def.calKX (P := l.prog) (w := w) (base := base) d_copier (ps := ["signs"]) (ks := sgKs) (k := 7) (sp := (spMk K CD XS 0)) (g := one1) (gV := one1)
    (fun kV doc pm an cdv ct us ws hl => by obtain ⟨rfl, a, rfl⟩ := one1_inv hl; rfl) one1_rel fun f fd F => ok_cop F z x_cks c_let m_Dec
  have x_esc := Sw.Def.calX (P := l.prog) (w := w) (base := base) d_escaped (ps := ["signs", "mark"]) (k := 7) (sp := (spMk2 K CD XS XG)) (fun _ _ _ _ _ _ us hl => match us, hl with | [_, _], _ => rfl) fun f fd F => ok_esc F z xq_XG x_cks c_sg c_let m_Dec
  have kx_esc := Sw.Def.calKX (P := l.prog) (w := w) (base := base) d_escaped (ps := ["signs", "mark"]) (ks := mkKs) (k := 7) (sp := (spMk2 K CD XS XG)) (g := rev2) (gV := rev2)
    (fun kV doc pm an cdv ct us ws hl => by obtain ⟨rfl, b, a, rfl⟩ := rev2_inv hl; rfl) rev2_rel fun f fd F => ok_esc F z xq_XG x_cks c_sg c_let m_Dec
  have x_shi := Sw.Def.calX (P := l.prog) (w := w) (base := base) d_shifted (ps := ["signs"]) (k := 7) (sp := (spMk K CD XS 2)) (fun _ _ _ _ _ _ us hl => match us, hl with | [_], _ => rfl) fun f fd F => ok_shi F z xq_XS c_sgs c_let m_Dec
  have kx_shi := Sw.Def.calKX (P := l.prog) (w := w) (base := base) d_shifted (ps := ["signs"]) (ks := sgKs) (k := 7) (sp := (spMk K CD XS 2)) (g := one1) (gV := one1)
    (fun kV doc pm an cdv ct us ws hl => by obtain ⟨rfl, a, rfl⟩ := one1_inv hl; rfl) one1_rel fun f fd F => ok_shi F z xq_XS c_sgs c_let m_Dec
  have x_rl := Sw.Def.calX (P := l.prog) (w := w) (base := base) d_run_lengths (ps := ["signs"]) (k := 7) (sp := (spMk K CD XS 3)) (fun _ _ _ _ _ _ us hl => match us, hl with | [_], _ => rfl) fun f fd F => ok_rl F z x_cks c_let g_MOST_ROUNDS m_Dec
  have kx_rl := Sw.Def.calKX (P := l.prog) (w := w) (base := base) d_run_lengths (ps := ["signs"]) (ks := sgKs) (k := 7) (sp := (spMk K CD XS 3)) (g := one1) (gV := one1)
    (fun kV doc pm an cdv ct us ws hl => by obtain ⟨rfl, a, rfl⟩ := one1_inv hl; rfl) one1_rel fun f fd F => ok_rl F z x_cks c_let g_MOST_ROUNDS m_Dec
  have x_made := Sw.Def.calX (P := l.prog) (w := w) (base := base) d__law_made (ps := ["way", "named", "many", "special"]) (k := 8) (sp := (spMade K CD XS XG)) (fun _ _ _ _ _ _ us hl => match us, hl with | [_, _, _, _], _ => rfl) fun f fd F => ok_made F x_cop kx_cop x_esc kx_esc x_shi kx_shi x_rl kx_rl
  have c_told := Sw.Def.cal (P := l.prog) (w := w) (base := base) d__law_told (ps := ["way", "named", "many", "special"]) (k := 9) (sp := (spTold K CD)) (fun _ _ _ _ _ _ us hl => match us, hl with | [_, _, _, _], _ => rfl) fun f fd F => ok_told F xq_XS xq_XG hDC x_made
  have c_cell := Sw.Def.cal (P := l.prog) (w := w) (base := base) d__law_cell (ps := ["script", "k"]) (k := 1) (sp := (spCell K)) (fun _ _ _ _ _ _ us hl => match us, hl with | [_, _], _ => rfl) fun f fd F => ok__law_cell F z
  have c_box := Sw.Def.cal (P := l.prog) (w := w) (base := base) d__law_box (ps := ["great"]) (k := 1) (sp := spBox) (fun _ _ _ _ _ _ us hl => match us, hl with | [_], _ => rfl) fun f fd F => ok__law_box F z
  have c_take := Sw.Def.cal (P := l.prog) (w := w) (base := base) d__law_take (ps := ["box", "many"]) (k := 1) (sp := spTake) (fun _ _ _ _ _ _ us hl => match us, hl with | [_, _], _ => rfl) fun f fd F => ok__law_take F z
  have c_wh := Sw.Def.cal (P := l.prog) (w := w) (base := base) d__law_whole (ps := ["thing", "least", "most"]) (k := 1) (sp := (spWh K)) (fun _ _ _ _ _ _ us hl => match us, hl with | [_, _, _], _ => rfl) fun f fd F => ok_whole F z
  have c_odd := Sw.Def.cal (P := l.prog) (w := w) (base := base) d__law_odd (ps := ["box", "most"]) (k := 2) (sp := (spOdd K)) (fun _ _ _ _ _ _ us hl => match us, hl with | [_, _], _ => rfl) fun f fd F => ok_odd F z c_take
  have c_copy := Sw.Def.cal (P := l.prog) (w := w) (base := base) d__law_copy (ps := ["thing"]) (k := 1) (sp := (spCopy K)) (fun _ _ _ _ _ _ us hl => match us, hl with | [_], _ => rfl) fun f fd F => ok_copy F z
  have c_parts := Sw.Def.cal (P := l.prog) (w := w) (base := base) d__law_parts (ps := ["way", "many", "special"]) (k := 1) (sp := spParts) (fun _ _ _ _ _ _ us hl => match us, hl with | [_, _, _], _ => rfl) fun f fd F => ok_parts F z
  have c_read := Sw.Def.cal (P := l.prog) (w := w) (base := base) d__law_read (ps := ["way", "many", "special", "line"]) (k := 1) (sp := (spRead K)) (fun _ _ _ _ _ _ us hl => match us, hl with | [_, _, _, _], _ => rfl) fun f fd F => ok_read F z
  have q_mr := Sw.Def.calG (P := l.prog) (w := w) (base := base) d__law_made_right (ps := ["box", "way", "many", "special", "made"]) (k := 10) (sp := (spMR CD)) (fun _ _ _ _ _ _ us hl => match us, hl with | [_, _, _, _, _], _ => rfl) fun f fd F => ok_mr F z xd_CD.hm xd_CD.dc xd_CD.ic eqD m_Dec mt_wr c_take c_parts c_read
  have q_one := Sw.Def.calG (P := l.prog) (w := w) (base := base) d__law_one_right (ps := ["box"]) (k := 11) (sp := spOne) (fun _ _ _ _ _ _ us hl => match us, hl with | [_], _ => rfl) fun f fd F => ok_one F z eqD c_take c_odd c_wh c_copy c_told q_mr
  exact ok_law F0 z q_one c_box c_cell
end Sw
open PySem PySem.W PyProof.Rows
set_option maxHeartbeats 0 in
theorem PySem.Challenge.cw_spoiltways_k53_codecs_of_usual_kinds_holds : PySem.Challenge.rw_spoiltways_k53_codecs_of_usual_kinds.Holds := by
  w_on; o_law; k_head; (case hw => w_witness2)
  k_fill
  refine Sw.walk_G (l := PySem.Challenge.rw_spoiltways_k53_codecs_of_usual_kinds) (n := 63) (k := 12) (x := "script") (sp := Sw.spLaw) rfl (by decide) rfl ⟨rfl, by decide, by decide⟩ (fun w h Y => PySem.W.kIn_of Y) ?F (fun _ _ a ns hl _ hS => ⟨a, ns, rfl, hS, fun _ _ => rfl⟩)
  case F =>
    intro w mg fa h KX G hmg
    have z : Sw.Z mg := by
      refine' ⟨PySem.W.mg_none_of KX G ?z0, PySem.W.mg_none_of KX G ?z1, PySem.W.mg_none_of KX G ?z2, PySem.W.mg_none_of KX G ?z3, PySem.W.mg_none_of KX G ?z4, PySem.W.mg_none_of KX G ?z5, PySem.W.mg_none_of KX G ?z6, PySem.W.mg_none_of KX G ?z7, PySem.W.mg_none_of KX G ?z8, PySem.W.mg_none_of KX G ?z9, PySem.W.mg_none_of KX G ?z10, PySem.W.mg_none_of KX G ?z11, PySem.W.mg_none_of KX G ?z12, PySem.W.mg_none_of KX G ?z13, PySem.W.mg_none_of KX G ?z14, PySem.W.mg_none_of KX G ?z15⟩
      (case z0 => k_is)
      (case z1 => k_is)
      (case z2 => k_is)
      (case z3 => k_is)
      (case z4 => k_is)
      (case z5 => k_is)
      (case z6 => k_is)
      (case z7 => k_is)
      (case z8 => k_is)
      (case z9 => k_is)
      (case z10 => k_is)
      (case z11 => k_is)
      (case z12 => k_is)
      (case z13 => k_is)
      (case z14 => k_is)
      (case z15 => k_is)
    obtain ⟨v_MOST_SIGNS, gv_MOST_SIGNS, t_MOST_SIGNS, rfl⟩ : ∃ v, mg "MOST_SIGNS" = some v ∧ ∃ t, v = .int 5 t := by
      refine' ⟨_, PySem.W.mg_of KX G ?a, ?b⟩
      (case a => k_is)
      (case b => exact ⟨_, rfl⟩)
    obtain ⟨v_MOST_LETTERS, gv_MOST_LETTERS, t_MOST_LETTERS, rfl⟩ : ∃ v, mg "MOST_LETTERS" = some v ∧ ∃ t, v = .int 3 t := by
      refine' ⟨_, PySem.W.mg_of KX G ?a, ?b⟩
      (case a => k_is)
      (case b => exact ⟨_, rfl⟩)
    obtain ⟨v_MOST_STATES, gv_MOST_STATES, t_MOST_STATES, rfl⟩ : ∃ v, mg "MOST_STATES" = some v ∧ ∃ t, v = .int 40 t := by
      refine' ⟨_, PySem.W.mg_of KX G ?a, ?b⟩
      (case a => k_is)
      (case b => exact ⟨_, rfl⟩)
    obtain ⟨v_MOST_ROUNDS, gv_MOST_ROUNDS, t_MOST_ROUNDS, rfl⟩ : ∃ v, mg "MOST_ROUNDS" = some v ∧ ∃ t, v = .int 2 t := by
      refine' ⟨_, PySem.W.mg_of KX G ?a, ?b⟩
      (case a => k_is)
      (case b => exact ⟨_, rfl⟩)
    obtain ⟨v_LETTERS, gv_LETTERS, t_LETTERS, rfl⟩ : ∃ v, mg "LETTERS" = some v ∧ ∃ t, v = .str (("abcdefghijklmnopqrstuvwxyz" : Str)) t := by
      refine' ⟨_, PySem.W.mg_of KX G ?a, ?b⟩
      (case a => k_is)
      (case b => first | exact ⟨_, rfl⟩ | exact ⟨_, congrArg (fun y => PySem.Value.str y _) (by decide +kernel)⟩)
    refine' Sw.all_mk hmg z gv_MOST_SIGNS gv_MOST_LETTERS gv_MOST_STATES gv_MOST_ROUNDS gv_LETTERS ?ov ?xi_XS ?xi_XG ?xd_CD ?hDC ?d_is_list ?d_is_integer ?d_is_index ?d_is_signs ?d_is_sign ?d_is_line ?d_is_text ?d_is_word ?d_letter_of ?d_check_signs ?d_check_line ?d_is_entry ?d_are_steps ?d_are_ends ?d_copier ?d_escaped ?d_shifted ?d_run_lengths ?d__law_cell ?d__law_box ?d__law_take ?d__law_whole ?d__law_odd ?d__law_copy ?d__law_made ?d__law_told ?d__law_parts ?d__law_read ?d__law_made_right ?d__law_one_right ?d_law
    case xi_XS =>
      refine' ⟨Sw.oex_mk ?h1 ?h2 ?h3 ?h4 ?h5, ⟨?f1, ?f2, ?f3, ?f4⟩, ?no, PySem.W.mg_of KX G ?hm, Sw.exm_mk ?me1 ?me2, Sw.iniq_mk ?i1 ?i2 ?i3 ?i4 ?i5⟩
      (case hm => k_is)
      (case h1 => k_is)
      (case h2 => k_is)
      (case h3 => k_is)
      (case h4 => k_is)
      (case h5 => k_is)
      (case f1 => k_is)
      (case f2 => k_is)
      (case f3 => k_is)
      (case f4 => k_is)
      (case no => k_is)
      (case me1 => k_is)
      (case me2 => first | k_is | rfl | decide +kernel)
      (case i1 => k_is)
      (case i2 => k_is)
      (case i3 => k_is)
      (case i4 => k_is)
      (case i5 => k_is)
    case xi_XG =>
      refine' ⟨Sw.oex_mk ?h1 ?h2 ?h3 ?h4 ?h5, ⟨?f1, ?f2, ?f3, ?f4⟩, ?no, PySem.W.mg_of KX G ?hm, Sw.exm_mk ?me1 ?me2, Sw.iniq_mk ?i1 ?i2 ?i3 ?i4 ?i5⟩
      (case hm => k_is)
      (case h1 => k_is)
      (case h2 => k_is)
      (case h3 => k_is)
      (case h4 => k_is)
      (case h5 => k_is)
      (case f1 => k_is)
      (case f2 => k_is)
      (case f3 => k_is)
      (case f4 => k_is)
      (case no => k_is)
      (case me1 => k_is)
      (case me2 => first | k_is | rfl | decide +kernel)
      (case i1 => k_is)
      (case i2 => k_is)
      (case i3 => k_is)
      (case i4 => k_is)
      (case i5 => k_is)
    case xd_CD =>
      refine' ⟨PySem.W.mg_of KX G ?hm, Sw.dc_mk_Decoder ?pg ?hd ?po ?sa ?a_signs ?a_states ?a_steps ?a_ends, Sw.ic_mk_Decoder ⟨?pg2, ?hd2, ?po2, ?sa2⟩ ?ha ?hn ?htk ?hmo ?me, ?mk, ?kc, Sw.mth_mk_Decoder ?i_ini ?t_ini ?l_ini ?c_ini ?k_ini, Sw.mth_mk_Decoder ?i_eq ?t_eq ?l_eq ?c_eq ?k_eq, Sw.mth_mk_Decoder ?i_written ?t_written ?l_written ?c_written ?k_written, ?ne, ?sub⟩
      (case hm => k_is)
      (case pg => k_is)
      (case hd => k_is)
      (case po => k_is)
      (case sa => k_is)
      (case a_signs => k_is)
      (case a_states => k_is)
      (case a_steps => k_is)
      (case a_ends => k_is)
      (case pg2 => k_is)
      (case hd2 => k_is)
      (case po2 => k_is)
      (case sa2 => k_is)
      (case ha => k_is)
      (case hn => k_is)
      (case htk => k_is)
      (case hmo => k_is)
      (case me => first | k_is | rfl | decide +kernel)
      (case mk => k_is)
      (case kc => k_is)
      (case i_ini => k_is)
      (case t_ini => k_is)
      (case l_ini => k_is)
      (case c_ini => k_is)
      (case k_ini => k_is)
      (case i_eq => k_is)
      (case t_eq => k_is)
      (case l_eq => k_is)
      (case c_eq => k_is)
      (case k_eq => k_is)
      (case i_written => k_is)
      (case t_written => k_is)
      (case l_written => k_is)
      (case c_written => k_is)
      (case k_written => k_is)
      (case ne => k_is)
      (case sub => k_is)
    case ov =>
      refine' ⟨PySem.W.mg_of KX G ?b1, ?b2, ?b3, ?b4, ?b5⟩
      (case b1 => k_is)
      (case b2 => k_is)
      (case b3 => k_is)
      (case b4 => k_is)
      (case b5 => k_is)
    case hDC =>
      refine' Sw.exn_mk ?n1 ?n2
      (case n1 => k_is)
      (case n2 => first | k_is | rfl | decide +kernel)
    case d_is_list =>
      refine' Sw.def_mk KX G ?a ?l ?c ?k
      (case a => k_is)
      (case l => k_is)
      (case c => k_is)
      (case k => k_is)
    case d_is_integer =>
      refine' Sw.def_mk KX G ?a ?l ?c ?k
      (case a => k_is)
      (case l => k_is)
      (case c => k_is)
      (case k => k_is)
    case d_is_index =>
      refine' Sw.def_mk KX G ?a ?l ?c ?k
      (case a => k_is)
      (case l => k_is)
      (case c => k_is)
      (case k => k_is)
    case d_is_signs =>
      refine' Sw.def_mk KX G ?a ?l ?c ?k
      (case a => k_is)
      (case l => k_is)
      (case c => k_is)
      (case k => k_is)
    case d_is_sign =>
      refine' Sw.def_mk KX G ?a ?l ?c ?k
      (case a => k_is)
      (case l => k_is)
      (case c => k_is)
      (case k => k_is)
    case d_is_line =>
      refine' Sw.def_mk KX G ?a ?l ?c ?k
      (case a => k_is)
      (case l => k_is)
      (case c => k_is)
      (case k => k_is)
    case d_is_text =>
      refine' Sw.def_mk KX G ?a ?l ?c ?k
      (case a => k_is)
      (case l => k_is)
      (case c => k_is)
      (case k => k_is)
    case d_is_word =>
      refine' Sw.def_mk KX G ?a ?l ?c ?k
      (case a => k_is)
      (case l => k_is)
      (case c => k_is)
      (case k => k_is)
    case d_letter_of =>
      refine' Sw.def_mk KX G ?a ?l ?c ?k
      (case a => k_is)
      (case l => k_is)
      (case c => k_is)
      (case k => k_is)
    case d_check_signs =>
      refine' Sw.def_mk KX G ?a ?l ?c ?k
      (case a => k_is)
      (case l => k_is)
      (case c => k_is)
      (case k => k_is)
    case d_check_line =>
      refine' Sw.def_mk KX G ?a ?l ?c ?k
      (case a => k_is)
      (case l => k_is)
      (case c => k_is)
      (case k => k_is)
    case d_is_entry =>
      refine' Sw.def_mk KX G ?a ?l ?c ?k
      (case a => k_is)
      (case l => k_is)
      (case c => k_is)
      (case k => k_is)
    case d_are_steps =>
      refine' Sw.def_mk KX G ?a ?l ?c ?k
      (case a => k_is)
      (case l => k_is)
      (case c => k_is)
      (case k => k_is)
    case d_are_ends =>
      refine' Sw.def_mk KX G ?a ?l ?c ?k
      (case a => k_is)
      (case l => k_is)
      (case c => k_is)
      (case k => k_is)
    case d_copier =>
      refine' Sw.def_mk KX G ?a ?l ?c ?k
      (case a => k_is)
      (case l => k_is)
      (case c => k_is)
      (case k => k_is)
    case d_escaped =>
      refine' Sw.def_mk KX G ?a ?l ?c ?k
      (case a => k_is)
      (case l => k_is)
      (case c => k_is)
      (case k => k_is)
    case d_shifted =>
      refine' Sw.def_mk KX G ?a ?l ?c ?k
      (case a => k_is)
      (case l => k_is)
      (case c => k_is)
      (case k => k_is)
    case d_run_lengths =>
      refine' Sw.def_mk KX G ?a ?l ?c ?k
      (case a => k_is)
      (case l => k_is)
      (case c => k_is)
      (case k => k_is)
    case d__law_cell =>
      refine' Sw.def_mk KX G ?a ?l ?c ?k
      (case a => k_is)
      (case l => k_is)
      (case c => k_is)
      (case k => k_is)
    case d__law_box =>
      refine' Sw.def_mk KX G ?a ?l ?c ?k
      (case a => k_is)
      (case l => k_is)
      (case c => k_is)
      (case k => k_is)
    case d__law_take =>
      refine' Sw.def_mk KX G ?a ?l ?c ?k
      (case a => k_is)
      (case l => k_is)
      (case c => k_is)
      (case k => k_is)
    case d__law_whole =>
      refine' Sw.def_mk KX G ?a ?l ?c ?k
      (case a => k_is)
      (case l => k_is)
      (case c => k_is)
      (case k => k_is)
    case d__law_odd =>
      refine' Sw.def_mk KX G ?a ?l ?c ?k
      (case a => k_is)
      (case l => k_is)
      (case c => k_is)
      (case k => k_is)
    case d__law_copy =>
      refine' Sw.def_mk KX G ?a ?l ?c ?k
      (case a => k_is)
      (case l => k_is)
      (case c => k_is)
      (case k => k_is)
    case d__law_made =>
      refine' Sw.def_mk KX G ?a ?l ?c ?k
      (case a => k_is)
      (case l => k_is)
      (case c => k_is)
      (case k => k_is)
    case d__law_told =>
      refine' Sw.def_mk KX G ?a ?l ?c ?k
      (case a => k_is)
      (case l => k_is)
      (case c => k_is)
      (case k => k_is)
    case d__law_parts =>
      refine' Sw.def_mk KX G ?a ?l ?c ?k
      (case a => k_is)
      (case l => k_is)
      (case c => k_is)
      (case k => k_is)
    case d__law_read =>
      refine' Sw.def_mk KX G ?a ?l ?c ?k
      (case a => k_is)
      (case l => k_is)
      (case c => k_is)
      (case k => k_is)
    case d__law_made_right =>
      refine' Sw.def_mk KX G ?a ?l ?c ?k
      (case a => k_is)
      (case l => k_is)
      (case c => k_is)
      (case k => k_is)
    case d__law_one_right =>
      refine' Sw.def_mk KX G ?a ?l ?c ?k
      (case a => k_is)
      (case l => k_is)
      (case c => k_is)
      (case k => k_is)
    case d_law =>
      refine' Sw.def_mk KX G ?a ?l ?c ?k
      (case a => k_is)
      (case l => k_is)
      (case c => k_is)
      (case k => k_is)
