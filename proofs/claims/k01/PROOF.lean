import PyProof.Rows.All
import Wide.All
import OpenK.AllK
import Wide.FinOn
import HandS.ForMost
import HandS.Wide
import HandS.Style
import HandS.IsInst
import HandS.Conv
import HandS.Walk
import HandS.Codes
import HandS.TupAny
import HandS.RaiseMore
import HandS.Flt
import HandS.Flow
import KE.GoesMore
import HandS.Ends
import HandS.ExcInit
import HandS.ExcField
import HandS.ExcOwn
import HandS.TryMany
import HandS.ExcIs
import KE.KExcIs
import HandS.Deep
import KE.KEqDict
import HandS.ListEq
import PyProof.NeKinds
import HandS.DictComp
import HandS.Small
import HandS.OwnEq
import HandS.SlotsOwn
import PyProof.InstNe
import HandS.Star
import HandS.TupMul
import HandS.TryOnly
import HandS.MakeKwOnly
import PySem.Challenge.RW_spoiltways_k01_decoders_and_their_parts
set_option Elab.async false
set_option linter.all false
set_option maxRecDepth 100000
set_option maxHeartbeats 4000000
set_option pp.maxSteps 400
namespace Sw
open PySem PySem.Spec PyProof.Rows L2

/-! ### texts as lists of signs -/
def S (l : List Nat) : Str := ⟨l.toArray⟩
theorem S_len (l : List Nat) : (S l).length = l.length := by simp [S, Str.length]
theorem S_size (l : List Nat) : (S l).cps.size = l.length := by simp [S]
theorem S_list (l : List Nat) : (S l).cps.toList = l := by simp [S]
theorem S_app (a b : List Nat) : S a ++ S b = S (a ++ b) := by
  show Str.append _ _ = _
  simp [S, Str.append]
theorem S_get (l : List Nat) (i : Nat) : (S l).cps[i]? = l[i]? := by simp [S]
theorem S_inj {a b : List Nat} : S a = S b ↔ a = b := by
  constructor
  · intro h
    have e : (S a).cps.toList = (S b).cps.toList := by rw [h]
    rwa [S_list, S_list] at e
  · rintro rfl; rfl
theorem S_dec (a b : List Nat) : decide (V.str (S a) = V.str (S b)) = decide (a = b) := by
  by_cases h : a = b
  · subst h; simp
  · rw [decide_eq_false h, decide_eq_false]
    intro e
    exact h (S_inj.mp (V.str.inj e))

/-! ### calls of own defs -/
section
variable (P : Program) (w : World) (K : PySem.W.Frag) (mg : Str → Option Value) (base : Heap)
/-- the def x of the text st stands -/
def Def (x : Str) (st : Stmt) : Prop := ∃ (f : Addr) (fd : FuncData), Fun K x x st f fd ∧ mg x = some (.ref f)
/-- the def x keeps its promise -/
def Cal (x : Str) (ps : List Str) (k : Nat) (sp : Sp) : Prop := ∃ (f : Addr) (fd : FuncData), FnOk P w K mg base CX0 k f fd ps sp ∧ mg x = some (.ref f) ∧ PySem.W.keepIn K (.ref f) = true ∧ Binds K fd ps []
end
section
variable {P : Program} {w : World} {K : PySem.W.Frag} {mg : Str → Option Value} {base : Heap}
theorem Def.cal {x : Str} {st : Stmt} {ps : List Str} {k : Nat} {sp : Sp} (d : Def K mg x st)
    (b : ∀ (kV doc pm : Value) (an : Option Addr) (cdv ct : Value) (us : List Value), us.length = ps.length → bindArgs (PySem.W.fnOf x x (defArgs st) (defBody st) (defScope st) .none kV doc pm an cdv ct) ⟨us, []⟩ = pure (ps.zip us))
    (ok : ∀ (f : Addr) (fd : FuncData), Fun K x x st f fd → FnOk P w K mg base CX0 k f fd ps sp) : Cal P w K mg base x ps k sp := by
  obtain ⟨f, fd, F, m⟩ := d
  exact ⟨f, fd, ok f fd F, m, F.kp, F.binds b⟩
end
section
variable {X : Cx} {x : Str} {ps : List Str} {k n : Nat} {sp : Sp} {e : Expr} {es : List Expr} {t : TA} {p pos : Pos}
theorem pe_cal (c : Cal X.prog X.w X.K X.mg X.base x ps k sp) (hr : Room n X.A) (ha : PA X (e :: es) t) (hg : Gl X x := by rfl) (hk : k ≤ n := by decide)
    (hdb : (x == ("__debug__" : Str)) = false := by decide) (he : starEach (e :: es) X.env = (false, eval e X.env) :: starEach es X.env := by rfl) (hpl : (backTo pos (starEach es X.env)).any (·.1) = false := by rfl) :
    PE X (.Call (.Name x p) (e :: es) [] pos) (tCall sp [] E0 t) := by
  obtain ⟨f, fd, F, m, kp, b⟩ := c
  exact pe_call F (hr.mono hk) hg m kp b .nil pass0 ha hdb he hpl
end

/-! ### answers to readings -/
section
variable {σ : L2.St} {H : Hp} {Q : VK} {D : Ends}
theorem i_seq {t u : TS} (h : t { D with nx := u D } σ H) : tSeq t u D σ H := h
theorem i_asg {te : TE} {g : TG} (h : te σ H fun x H1 => g x σ H1 D.nx) : tAsg te g D σ H := h
theorem i_name {i : Nat} {v : V} {R : L2.St → Hp → Prop} (h : R (σ.set i (some v)) H) : gName i v σ H R := h
theorem i_ret {te : TE} (h : te σ H D.rt) : tRet te D σ H := h
theorem i_var {i : Nat} {v : V} (e : σ[i]? = some (some v)) (h : Q v H) : tVar i σ H Q := ⟨v, e, h⟩
theorem i_c {v : V} (h : Q v H) : tC v σ H Q := h
theorem i_op {r : R2} {ta tb : TE} (h : ta σ H fun x H1 => tb σ H1 fun y H2 => r x y H2 Q) : tOp r ta tb σ H Q := h
theorem i_un {r : V → Hp → VK → Prop} {ta : TE} (h : ta σ H fun x H1 => r x H1 Q) : tUn r ta σ H Q := h
theorem i_rI {C : Int → Int → Prop} {g : Int → Int → V} {a b : Int} (c : C a b) (h : Q (g a b) H) : rI C g (.int a) (.int b) H Q := ⟨a, b, rfl, rfl, c, h⟩
theorem i_rI0 {g : Int → Int → V} {a b : Int} (h : Q (g a b) H) : rI0 g (.int a) (.int b) H Q := ⟨a, b, rfl, rfl, h⟩
theorem i_cb {r : List V → Hp → VK → Prop} {t : TA} (h : t σ H fun vs H1 => r vs H1 Q) : tCB r t σ H Q := h
theorem i_cons {ta : TE} {tr : TA} {R : List V → Hp → Prop} (h : ta σ H fun x H1 => tr σ H1 fun xs H2 => R (x :: xs) H2) : tCons ta tr σ H R := h
theorem i_nil {R : List V → Hp → Prop} (h : R [] H) : tNil σ H R := h
theorem i_call {sp : Sp} {dvs : List V} {E : XK} {t : TA} (h : t σ H fun vs H1 => sp (vs ++ dvs) H1 Q E) : tCall sp dvs E t σ H Q := h
theorem i_if {c : TT} {t u : TS} (h : c σ H fun b H1 => if b = true then t D σ H1 else u D σ H1) : tIfS c t u D σ H := h
theorem i_ifE {c : TT} {t u : TE} (h : c σ H fun b H1 => if b = true then t σ H1 Q else u σ H1 Q) : tIf c t u σ H Q := h
theorem i_test {t : TE} {R : Bool → Hp → Prop} (h : t σ H fun x H1 => ∃ k, x = .bl k ∧ R k H1) : tTest t σ H R := h
theorem i_bl {k : Bool} {R : Bool → Prop} (h : R k) : ∃ k', V.bl k = .bl k' ∧ R k' := ⟨k, rfl, h⟩
theorem i_and {t u : TT} {R : Bool → Hp → Prop} (h : t σ H fun c H1 => if c = true then u σ H1 R else R false H1) : tAnd t u σ H R := h
theorem i_or {t u : TT} {R : Bool → Hp → Prop} (h : t σ H fun c H1 => if c = true then R true H1 else u σ H1 R) : tOr t u σ H R := h
theorem i_not {t : TT} {R : Bool → Hp → Prop} (h : t σ H fun c H1 => R (!c) H1) : tNot t σ H R := h
theorem i_lst {t : TA} (h : t σ H fun xs H1 => xs.length ≤ sizeLine ∧ ∀ p, H1 p = none → Q (.ref p) (upd H1 p (.lst xs))) : tLst t σ H Q := h
theorem i_tup {t : TA} (h : t σ H fun xs H1 => xs.length ≤ sizeLine ∧ ∀ p, H1 p = none → Q (.ref p) (upd H1 p (.tup xs))) : tTup t σ H Q := h
theorem iteB {p : Prop} [Decidable p] {A B : Prop} (h1 : p → A) (h2 : ¬ p → B) : if decide p = true then A else B := by
  by_cases h : p
  · rw [decide_eq_true h]; exact iteT (h1 h)
  · rw [decide_eq_false h]; exact iteF (h2 h)
theorem iteC {c : Bool} {A B : Prop} (h1 : c = true → A) (h2 : c = false → B) : if c = true then A else B := by
  cases c with
  | true => exact iteT (h1 rfl)
  | false => exact iteF (h2 rfl)
/-- xs[i], xs a list of which the item is known -/
theorem i_ixL {K : PySem.W.Frag} {p : Addr} {xs : List V} {i : Int} {v : V} (h1 : SqL K H p xs) (h2 : atI xs i = some v) (h : Q v H) : rIxL K (.ref p) (.int i) H Q := ⟨p, xs, i, v, rfl, rfl, h1, h2, h⟩
theorem i_ixT {K : PySem.W.Frag} {p : Addr} {xs : List V} {i : Int} {v : V} (h1 : SqT K H p xs) (h2 : atI xs i = some v) (h : Q v H) : rIxT K (.ref p) (.int i) H Q := ⟨p, xs, i, v, rfl, rfl, h1, h2, h⟩
end

/-! ### the box of draws -/
/-- the box at b: the rest n of a great cell, whether it is one, the seed c, the draws d so far -/
structure BoxAt (H : Hp) (b : Addr) (d : Int) : Prop where
  ex : ∃ (n : Int) (g : Bool) (c e : Int), H b = some (.lst [.int n, .bl g, .int c, .int e]) ∧ 0 ≤ n ∧ 0 ≤ c ∧ c < 2147483629 ∧ 0 ≤ e ∧ e ≤ d
/-- all but the object at b is as it was -/
def SB (b : Addr) (H H' : Hp) : Prop := ∀ a o, a ≠ b → H a = some o → H' a = some o
theorem SB.refl {b : Addr} (H : Hp) : SB b H H := fun _ _ _ h => h
theorem SB.trans {b : Addr} {H H1 H2 : Hp} (x : SB b H H1) (y : SB b H1 H2) : SB b H H2 := fun a o n h => y a o n (x a o n h)
theorem SB.of {b : Addr} {H H' : Hp} (s : Same H H') : SB b H H' := fun a o _ h => s a o h
theorem SB.upd {b : Addr} {H : Hp} {o : HO} : SB b H (upd H b o) := fun a u n h => by rw [upd_ne n]; exact h
theorem BoxAt.mono {H : Hp} {b : Addr} {d d' : Int} (x : BoxAt H b d) (h : d ≤ d') : BoxAt H b d' := by
  obtain ⟨n, g, c, e, h1, h2, h3, h4, h5, h6⟩ := x.ex
  exact ⟨n, g, c, e, h1, h2, h3, h4, h5, by omega⟩
theorem BoxAt.same {H H' : Hp} {b : Addr} {d : Int} (x : BoxAt H b d) (s : Same H H') : BoxAt H' b d := by
  obtain ⟨n, g, c, e, h1, h⟩ := x.ex
  exact ⟨n, g, c, e, s _ _ h1, h⟩
theorem same_upd {H : Hp} {p : Addr} {o : HO} (h : H p = none) : Same H (upd H p o) := fun b x e => by
  rw [upd_ne (ne_of_none e h)]
  exact e
/-- _law_take(box, many): a number below many; the box is one draw further at most -/
def spTake : Sp := fun vs H Q _ => ∃ (b : Addr) (m d : Int), vs = [.ref b, .int m] ∧ BoxAt H b d ∧ d ≤ 1000000 ∧ 0 < m ∧ m < 2 ^ 64 ∧
  ∀ (r : Int) (H' : Hp), 0 ≤ r → r < m → BoxAt H' b (d + 1) → SB b H H' → Q (.int r) H'
/-- _law_box(great) -/
def spBox : Sp := fun vs H Q _ => ∃ n : Int, vs = [.int n] ∧ ∀ (b : Addr) (H' : Hp), H b = none → Same H H' → BoxAt H' b 0 → Q (.ref b) H'
/-- _law_cell(script, k) -/
def spCell (K : PySem.W.Frag) : Sp := fun vs H Q _ => ∃ (a : Addr) (ns : List Int) (k : Int), vs = [.ref a, .int k] ∧ SqL K H a (ns.map V.int) ∧ 0 ≤ k ∧ k < 1000 ∧
  ∀ (n : Int) (H' : Hp), Same H H' → Q (.int n) H'
/-! ### more answers -/
section
variable {σ : L2.St} {H : Hp} {Q : VK} {D : Ends} {K : PySem.W.Frag}
theorem i_next (h : D.nx σ H) : tNext D σ H := h
theorem i_drop {te : TE} (h : te σ H fun _ H1 => D.nx σ H1) : tDrop te D σ H := h
theorem i_sub {to ti : TE} {t : TSet} {v : V} {R : L2.St → Hp → Prop} (h : to σ H fun o H1 => ti σ H1 fun i H2 => t o i v H2 fun H3 => R σ H3) : gSub to ti t v σ H R := h
theorem i_setL {p : Addr} {xs : List V} {k : Int} {j : Nat} {v : V} {R : Hp → Prop} (h1 : H p = some (.lst xs)) (h2 : ixN xs.length k = some j) (h : R (upd H p (.lst (xs.set j v)))) : rSetL (.ref p) (.int k) v H R := ⟨p, xs, k, j, rfl, rfl, h1, h2, h⟩
theorem i_int {i : Int} (h : Q (.int i) H) : (∃ j, [V.int i] = [.int j] ∧ Q (.int j) H) ∨ ∃ k, [V.int i] = [.bl k] ∧ Q (.int (if k = true then 1 else 0)) H := .inl ⟨i, rfl, h⟩
theorem i_intB {b : Bool} (h : Q (.int (if b = true then 1 else 0)) H) : (∃ j, [V.bl b] = [.int j] ∧ Q (.int j) H) ∨ ∃ k, [V.bl b] = [.bl k] ∧ Q (.int (if k = true then 1 else 0)) H := .inr ⟨b, rfl, h⟩
theorem i_ix1 {α : Type} {P : α → Prop} {x : α} {R : α → Prop} (h : R x) : ∃ y, x = y ∧ R y := ⟨x, rfl, h⟩
theorem i_abs {i : Int} (h : Q (.int (if i < 0 then -i else i)) H) : ∃ j, [V.int i] = [.int j] ∧ Q (.int (if j < 0 then -j else j)) H := ⟨i, rfl, h⟩
theorem i_two {R : Int → Int → Prop} {i j : Int} (h : R i j) : ∃ a b, [V.int i, V.int j] = [.int a, .int b] ∧ R a b := ⟨i, j, rfl, h⟩
theorem i_one {R : Int → Prop} {i : Int} (h : R i) : ∃ a, [V.int i] = [.int a] ∧ R a := ⟨i, rfl, h⟩
theorem i_cmod {i m : Int} (h : 0 < m) : (fun (_ j : Int) => 0 < j) i m := h
theorem i_bm {T : String} {r : V → List V → Hp → VK → Prop} {to : TE} {t : TA} (h : to σ H fun x H1 => tyV K T x H1 ∧ t σ H1 fun xs H2 => r x xs H2 Q) : tBM K T r to t σ H Q := h
theorem i_tyL {p : Addr} {xs : List V} {R : Prop} (h1 : H p = some (.lst xs)) (h : R) : tyV K "list" (.ref p) H ∧ R := ⟨.inl ⟨rfl, xs, .inl (.inl h1)⟩, h⟩
theorem i_tyS {z : Str} {R : Prop} (h : R) : tyV K "str" (.str z) H ∧ R := ⟨rfl, h⟩
theorem i_append {p : Addr} {xs : List V} {y : V} (h1 : H p = some (.lst xs)) (h2 : xs.length < sizeLine) (h : Q .non (upd H p (.lst (xs ++ [y])))) : rAppend (.ref p) [y] H Q := ⟨p, xs, y, rfl, rfl, h1, h2, h⟩
theorem i_sl {r : V → Option Int → Option Int → Hp → VK → Prop} {te : TE} {tl th : TO} (h : te σ H fun x H1 => tl σ H1 fun l H2 => th σ H2 fun u H3 => r x l u H3 Q) : L2.tSl r te tl th σ H Q := h
theorem i_part {t : TE} {R : Option Int → Hp → Prop} (h : t σ H fun x H1 => ∃ i, x = .int i ∧ R (some i) H1) : tPart t σ H R := h
theorem i_nopart {R : Option Int → Hp → Prop} (h : R none H) : tNoPart σ H R := h
theorem i_exI {R : Int → Prop} {i : Int} (h : R i) : ∃ j, V.int i = .int j ∧ R j := ⟨i, rfl, h⟩
theorem i_chain {r r' : R2} {ta tb tc : TE} (h : ta σ H fun x H1 => tb σ H1 fun y H2 => r x y H2 fun z H3 => ∃ k, z = .bl k ∧ (if k = true then tc σ H3 fun w' H4 => r' y w' H4 Q else Q (.bl false) H3)) : tChain r r' ta tb tc σ H Q := h
theorem i_aug {i : Nat} {te : TE} {ti : TIp} {x : V} (e : σ[i]? = some (some x)) (h : te σ H fun y H1 => ti x y H1 fun z H2 => D.nx (σ.set i (some z)) H2) : tAug i te ti D σ H := ⟨x, e, h⟩
theorem i_ip {g : Int → Int → Int} {a b : Int} (h : Q (.int (g a b)) H) : ipI g (.int a) (.int b) H Q := ⟨a, b, rfl, rfl, h⟩
theorem i_par {i j : Nat} {ta : TA} (h : ta σ H fun vs H1 => ∃ v w, vs = [v, w] ∧ D.nx ((σ.set i (some v)).set j (some w)) H1) : tPar i j ta D σ H := h
theorem i_pair {R : V → V → Prop} {a b : V} (h : R a b) : ∃ v w, [a, b] = [v, w] ∧ R v w := ⟨a, b, rfl, h⟩
theorem i_andV {ta tb : TE} (h : ta σ H fun x H1 => ∃ c, x = .bl c ∧ if c = true then tb σ H1 Q else Q (.bl false) H1) : tAndV ta tb σ H Q := h
theorem i_orV {ta tb : TE} (h : ta σ H fun x H1 => ∃ c, x = .bl c ∧ if c = true then Q (.bl true) H1 else tb σ H1 Q) : tOrV ta tb σ H Q := h
theorem i_notV {ta : TE} (h : ta σ H fun x H1 => ∃ c, x = .bl c ∧ Q (.bl (!c)) H1) : tNotV ta σ H Q := h
theorem i_m1 {r : V → List V → Hp → VK → Prop} {to te : TE} (h : to σ H fun x H1 => (∃ a, x = .str a) ∧ te σ H1 fun y H2 => r x [y] H2 Q) : tM1 r to te σ H Q := h
theorem i_str {z : Str} {R : Prop} (h : R) : (∃ a, V.str z = .str a) ∧ R := ⟨⟨z, rfl⟩, h⟩
theorem i_len {p : Addr} {ys : List V} (h1 : SqL K H p ys ∨ SqT K H p ys) (h : Q (.int ys.length) H) : ∃ q zs, [V.ref p] = [.ref q] ∧ (SqL K H q zs ∨ SqT K H q zs) ∧ Q (.int zs.length) H := ⟨p, ys, rfl, h1, h⟩
theorem i_lenS {l : List Nat} (h1 : l.length ≤ sizeLine) (h : Q (.int (l.length : Int)) H) : ∃ z, [V.str (S l)] = [.str z] ∧ z.length ≤ sizeLine ∧ Q (.int z.length) H := ⟨S l, rfl, by rw [S_len]; exact h1, by rw [S_len]; exact h⟩
end
theorem sqL_of {K : PySem.W.Frag} {H : Hp} {a : Addr} {xs : List V} (h : H a = some (.lst xs)) : SqL K H a xs := .inl (.inl h)
theorem sqT_of {K : PySem.W.Frag} {H : Hp} {a : Addr} {xs : List V} (h : H a = some (.tup xs)) : SqT K H a xs := .inl (.inl h)
/-- the part of a text between two places -/
def cut (l : List Nat) (lo hi : Option Int) : List Nat := (l.drop (HT.sIx l.length 0 lo)).take (HT.sIx l.length l.length hi - HT.sIx l.length 0 lo)
theorem cutS_S (l : List Nat) (lo hi : Option Int) : cutS (S l) lo hi = S (cut l lo hi) := by
  unfold cutS cut
  rw [S_list, S_len]; rfl
theorem cut_from (l : List Nat) (k : Nat) : cut l (some (k : Int)) none = l.drop k := by
  unfold cut
  rw [HT.sIx_nat, HT.sIx_none]
  rcases Nat.le_total k l.length with h | h
  · rw [Nat.min_eq_left h, List.take_of_length_le (by rw [List.length_drop]; omega)]
  · rw [Nat.min_eq_right h, List.drop_length, List.drop_of_length_le h, List.take_nil]
theorem cut_to (l : List Nat) (k : Nat) : cut l none (some (k : Int)) = l.take k := by
  unfold cut
  rw [HT.sIx_nat, HT.sIx_none, List.drop_zero, Nat.sub_zero]
  rcases Nat.le_total k l.length with h | h
  · rw [Nat.min_eq_left h]
  · rw [Nat.min_eq_right h, List.take_length, List.take_of_length_le h]
theorem i_slS {l : List Nat} {lo hi : Option Int} {H : Hp} {Q : VK} (h1 : l.length ≤ sizeLine) (h : Q (.str (S (cut l lo hi))) H) : rSlS (.str (S l)) lo hi H Q := ⟨S l, rfl, by rw [S_len]; exact h1, by rw [cutS_S]; exact h⟩
theorem i_tB {t : TE} {R : Bool → Hp → Prop} {σ : L2.St} {H : Hp} (h : t σ H fun x H1 => ∃ c, x = .bl c ∧ R c H1) : tB t σ H R := h
theorem i_retN {σ : L2.St} {H : Hp} {D : Ends} (h : D.rt .non H) : tRetN D σ H := h
theorem i_par3 {i j l : Nat} {ta : TA} {σ : L2.St} {H : Hp} {D : Ends} (h : ta σ H fun vs H1 => ∃ u v w, vs = [u, v, w] ∧ D.nx (((σ.set i (some u)).set j (some v)).set l (some w)) H1) : tPar3 i j l ta D σ H := h
theorem i_trip {R : V → V → V → Prop} {a b c : V} (h : R a b c) : ∃ u v w, [a, b, c] = [u, v, w] ∧ R u v w := ⟨a, b, c, rfl, h⟩
theorem i_gTup {K : PySem.W.Frag} {n : Nat} {t : TGs} {a : Addr} {xs : List V} {σ : L2.St} {H : Hp} {R : L2.St → Hp → Prop} (h1 : SqT K H a xs) (h2 : xs.length = n) (h : t xs σ H R) : gTup K n t (.ref a) σ H R := ⟨a, xs, rfl, h1, h2, h⟩
theorem i_gCons {t : TG} {u : TGs} {v : V} {r : List V} {σ : L2.St} {H : Hp} {R : L2.St → Hp → Prop} (h : t v σ H fun σ' H' => u r σ' H' R) : gCons t u (v :: r) σ H R := ⟨v, r, rfl, h⟩
theorem i_gNil {σ : L2.St} {H : Hp} {R : L2.St → Hp → Prop} (h : R σ H) : gNil [] σ H R := ⟨rfl, h⟩
theorem i_lstRg {te : L2.St → Hp → (Int → Int → Hp → Prop) → Prop} {σ : L2.St} {H : Hp} {Q : VK} (h : te σ H fun a b H1 => RgOk a b ∧ ∀ q, H1 q = none → Q (.ref q) (upd H1 q (.lst (rgV a b)))) : tLstRg te σ H Q := h
theorem i_rg1 {ta : TE} {σ : L2.St} {H : Hp} {R : Int → Int → Hp → Prop} (h : ta σ H fun x H1 => ∃ n, x = .int n ∧ R 0 n H1) : tRg1 ta σ H R := h
theorem i_pow {g : Int → Int → V} {a b : Int} {H : Hp} {Q : VK} (h1 : 0 ≤ b) (h2 : b ≤ 1000000) (h3 : a.natAbs < 2 ^ 64) (h : Q (g a b) H) : rI CPow g (.int a) (.int b) H Q := ⟨a, b, rfl, rfl, ⟨h1, h2, h3⟩, h⟩
theorem S_le {l : List Nat} (h : l.length ≤ 100000) : (S l).length ≤ sizeLine := Nat.le_trans h (by decide)
theorem ints_get {ns : List Int} {j : Nat} {v : V} (h : (ns.map V.int)[j]? = some v) : ∃ i, ns[j]? = some i ∧ v = .int i := by
  rw [List.getElem?_map] at h
  cases e : ns[j]? with
  | none => rw [e] at h; cases h
  | some i => rw [e] at h; exact ⟨i, rfl, (Option.some.inj h).symm⟩
theorem ints_at {ns : List Int} {j : Nat} (h : j < ns.length) : (ns.map V.int)[j]? = some (.int ns[j]) := by
  rw [List.getElem?_map, List.getElem?_eq_getElem h]; rfl
theorem atI_ints {ns : List Int} {i : Int} (h0 : 0 ≤ i) (h1 : i < ns.length) : atI (ns.map V.int) i = some (.int (ns[i.toNat]'(by omega))) := by
  have h := atI_nat (xs := ns.map V.int) (ints_at (ns := ns) (show i.toNat < ns.length by omega))
  rwa [show ((i.toNat : Nat) : Int) = i by omega] at h
end Sw
namespace Sw
open PySem PySem.Spec PyProof.Rows L2
/-! ### x[::-1] of a text -/
def tRevS (te : TE) : TE := fun σ H Q => te σ H fun x H1 => ∃ l, x = .str (S l) ∧ l.length ≤ sizeLine ∧ Q (.str (S l.reverse)) H1
theorem fmap_map {α β : Type} {f : α → Option β} {g : α → β} : ∀ {l : List α}, (∀ a ∈ l, f a = some (g a)) → l.filterMap f = l.map g
  | [], _ => rfl
  | a :: l, h => by
    rw [List.filterMap_cons, h a List.mem_cons_self, List.map_cons, fmap_map fun b hb => h b (List.mem_cons_of_mem _ hb)]
theorem rev_list (l : List Nat) : ((Builtin.Str.strSliceIndices none none (-1) l.length).filterMap (l.toArray[·]?)) = l.reverse := by
  rw [PyProof.Rows.picked_rev, List.filterMap_map]
  apply List.ext_getElem?
  intro k
  have hf : List.filterMap ((fun x => l.toArray[x]?) ∘ fun k => l.length - 1 - k) (List.range l.length) = (List.range l.length).map fun k => l.getD (l.length - 1 - k) 0 := by
    refine fmap_map fun a ha => ?_
    have ha' : a < l.length := List.mem_range.mp ha
    have hb : l.length - 1 - a < l.length := by omega
    show l.toArray[l.length - 1 - a]? = some (l.getD (l.length - 1 - a) 0)
    rw [List.getElem?_toArray, List.getD_eq_getElem?_getD, List.getElem?_eq_getElem hb]
    rfl
  rw [hf, List.getElem?_map]
  by_cases hk : k < l.length
  · have hb : l.length - 1 - k < l.length := by omega
    rw [List.getElem?_range hk, List.getElem?_reverse hk]
    show some (l.getD (l.length - 1 - k) 0) = _
    rw [List.getD_eq_getElem?_getD, List.getElem?_eq_getElem hb]
    rfl
  · rw [List.getElem?_eq_none (by rw [List.length_range]; omega), List.getElem?_eq_none (by rw [List.length_reverse]; omega)]
    rfl
theorem pe_revS {X : Cx} {e : Expr} {te : TE} {k : Nat} {p1 p2 p3 pos : Pos} (he : PE X e te) :
    PE X (.Subscript e (.Slice none none (some (.UnaryOp .USub (.Constant (.int 1) k p1) p2)) p3) pos) (tRevS te) := by
  constructor
  intro pins s σ H Q I h
  refine Subscript_ (thn (he.run pins s σ H _ I h) fun v s1 ⟨x, H1, I1, r1, l, ex, hl, q⟩ => ?_)
  subst ex
  obtain ⟨tk, rfl⟩ := r1
  have st : PO X (some (.UnaryOp .USub (.Constant (.int 1) k p1) p2)) (tPart (tUn (rU fun i => .int (-i)) (tC (.int 1)))) := po_some (pe_un un_neg pe_int)
  refine wpAny_Slice (thn (po_none.run pins s1 σ H1 (fun o G => o = none ∧ G = H1) I1 ⟨rfl, rfl⟩) fun w1 s2 ⟨o1, G1, J1, z1, a1, b1⟩ => ?_)
  subst a1 b1
  refine thn (po_none.run pins s2 σ G1 (fun o G => o = none ∧ G = G1) J1 ⟨rfl, rfl⟩) fun w2 s3 ⟨o2, G2, J2, z2, a2, b2⟩ => ?_
  subst a2 b2
  refine thn (st.run pins s3 σ G2 (fun o G => o = some (-1) ∧ G = G2) J2 ⟨1, rfl, -1, rfl, rfl, rfl⟩) fun w3 s4 ⟨o3, G3, J3, z3, a3, b3⟩ => ?_
  subst a3 b3
  have J4 : Inv X pins σ G3 { s4 with heap := s4.heap.push { cls := .type "slice", data := .fields #[w1, w2, w3] } } := J3.kept (t' := s4.toks) fun b ob q => Heap.get?_push_of_some _ q
  obtain ⟨y1, rfl, f1⟩ := IsPart.raw z1
  obtain ⟨y2, rfl, f2⟩ := IsPart.raw z2
  obtain ⟨y3, rfl, f3⟩ := IsPart.raw z3
  cases y1 with
  | some y => cases f1
  | none =>
  cases y2 with
  | some y => cases f2
  | none =>
  cases y3 with
  | none => cases f3
  | some y =>
  obtain ⟨m, u⟩ := y
  have em : m = -1 := Option.some.inj f3
  subst em
  refine tail_any (T := "str") (id := _) (ops := [.str (S l) tk, .ref s4.heap.objs.size]) (typeIs_str _ _ _) F.slot_str_getitem.lookup ?_ (by with_unfolding_all rfl)
  refine wpAny_getItem_str_slice (l := none) (u := none) (st := some (-1, u)) ⟨_, Heap.get?_push_size _ rfl, rfl, rfl⟩ rfl ?_
  show Made.post (if ((-1 : Int) == 1 && (Builtin.Str.strSliceIndices none none (-1) (S l).length).length == (S l).length) = true then Made.val (.str (S l) tk)
    else Made.str ⟨((Builtin.Str.strSliceIndices none none (-1) (S l).length).filterMap ((S l).cps[·]?)).toArray⟩) (EP X pins σ Q) _
  rw [if_neg (by rw [show ((-1 : Int) == 1) = false from rfl, Bool.false_and]; exact Bool.false_ne_true)]
  have e : ((Builtin.Str.strSliceIndices none none (-1) (S l).length).filterMap ((S l).cps[·]?)) = l.reverse := by
    rw [S_len]
    exact rev_list l
  rw [e]
  refine ⟨by show (S l.reverse).length ≤ sizeLine; rw [S_len, List.length_reverse]; exact hl, .str (S l.reverse), G3, J4.tok _, ⟨_, rfl⟩, q⟩
/-! ### enumerate(text) -/
/-- a text's signs, each in a new pair with its number -/
def ItE (x : Str) : It := ⟨fun i _ => i < x.cps.size, fun i H v H' => ∃ T c, v = .ref T ∧ H T = none ∧ x.cps[i]? = some c ∧ H' = upd H T (.tup [.int (i : Nat), .str ⟨#[c]⟩]), fun i _ => i = x.cps.size⟩
theorem turn_enumS {P : Program} {w : World} {K : PySem.W.Frag} {elts : List Expr} {kk : Nat} {tpos : Pos} (x : Str) (t : Tok) (e it : Addr) (hne : e ≠ it) :
    Turn P w K (.Tuple elts kk tpos) (ItE x) [e, it] e (fun i h => (∃ old, IsEnum h e it ((i : Nat) : Int) old) ∧ h.IsStrIter it (strIterType x) x t i) := by
  refine ⟨by simp, fun i h st b hb => ?_, fun i h h' st k => ?_, ?_, ?_, fun A i s Q E st h => ?_⟩
  · obtain ⟨⟨old, he⟩, o, ho, hc, hd⟩ := st
    have e' : b = e ∨ b = it := by simpa using hb
    rcases e' with rfl | rfl
    · exact ⟨_, he, fun v q => nomatch q⟩
    · exact ⟨o, ho, fun v q => by rw [hd] at q; cases q⟩
  · obtain ⟨⟨old, he⟩, o, ho, z⟩ := st
    exact ⟨⟨old, k e (by simp) _ he⟩, o, k it (by simp) o ho, z⟩
  · rintro X rfl rfl rfl hc i pins s σ H E I hf ⟨⟨old, he⟩, hit⟩ hg
    have hh : X.A.in1.handled = none := I.ok.hd hc
    have DD := Draws.text (prog := X.prog) (w := X.w) (A := X.A.in1) hh it x t
    have l1 : e < s.heap.objs.size := Heap.lt_size he
    have l2 : it < s.heap.objs.size := by obtain ⟨_, q, _⟩ := hit; exact Heap.lt_size q
    refine wpAny_pyNext_enum_itemD DD he hit hg hne (by simpa using hne) fun v h1 tk hv ho hit' hT hsz hk => ?_
    obtain ⟨c, u, hc', rfl⟩ := hv
    refine ⟨_, rfl, wpAny_letOwnedTupleGo_enum (s := { s with heap := h1, toks := tk + 1 }) ho fun h2 he' sb => ?_⟩
    have nT := Nat.ne_of_gt l1
    have gT : h2.get? s.heap.objs.size = some { cls := .type "tuple", data := .seq #[.int i tk, .str ⟨#[c]⟩ u] } := (sb.2 _ nT).trans hT
    have fresh : H s.heap.objs.size = none := I.hok.fresh (Nat.le_refl _)
    have new : ObjOk X.prog X.w (upd H s.heap.objs.size (.tup [.int (i : Nat), .str ⟨#[c]⟩])) h2 s.heap.objs.size (.tup [.int (i : Nat), .str ⟨#[c]⟩]) :=
      ⟨Nat.le_of_ble_eq_true rfl, [.int i tk, .str ⟨#[c]⟩ u], .cons ⟨_, rfl⟩ (.cons ⟨_, rfl⟩ .nil), _, gT, rfl, _, rfl⟩
    have J : Inv X pins σ (upd H s.heap.objs.size (.tup [.int (i : Nat), .str ⟨#[c]⟩])) { s with heap := h2, toks := tk + 1 } := by
      refine I.turnedNew (ch := [e, it]) (fun b ob hb q => ?_) hf (Nat.le_refl _) new
      have n1 : b ≠ e := fun z => hb (by simp [z])
      have n2 : b ≠ it := fun z => hb (by simp [z])
      exact (sb.2 b n1).trans (hk b ob n1 n2 q)
    refine ⟨.ref s.heap.objs.size, _, J, rfl, ⟨_, c, rfl, fresh, hc', rfl⟩, ⟨⟨.str ⟨#[c]⟩ u, ?_⟩, ?_⟩, fun b hb => ?_⟩
    · rw [show ((i + 1 : Nat) : Int) = (i : Int) + 1 by omega]
      exact he'
    · obtain ⟨o, g1, g2⟩ := hit'
      exact ⟨o, (sb.2 it (Ne.symm hne)).trans g1, g2⟩
    · have lb : b < s.heap.objs.size := by
        have e' : b = e ∨ b = it := by simpa using hb
        rcases e' with rfl | rfl <;> assumption
      rw [upd_ne (Nat.ne_of_lt lb)]
      exact (hf b hb).1
  · rintro X rfl rfl rfl hc i pins s σ H E I hf ⟨⟨old, he⟩, hit⟩ hg
    have hh : X.A.in1.handled = none := I.ok.hd hc
    have DD := Draws.text (prog := X.prog) (w := X.w) (A := X.A.in1) hh it x t
    have hi : i = x.cps.size := hg
    subst hi
    obtain ⟨f0, f1, f2, f3, f4, f5⟩ := hf it (by simp)
    exact wpAny_pyNext_enum_endD DD he hit fun h1 eb => ⟨rfl, I.turned (t' := s.toks) (fun b o hb q => eb b o hb q) f0 f1 f3 f4 f5⟩
  · obtain ⟨⟨old, he⟩, _⟩ := st
    exact wpAny_pyIter_enum he h
def iEnS (ta : TA) : TI := fun σ H R => ta σ H fun vs H1 => ∃ x, vs = [.str x] ∧ R (ItE x) H1
theorem pi_enumS {X : Cx} {e : Expr} {ta : TA} {p pos tpos : Pos} {elts : List Expr} {kk : Nat} (hg : Gl X "enumerate") (hm : X.mg "enumerate" = none) (ha : PA X [e] ta) (hs : starEach [e] X.env = [(false, eval e X.env)] := by rfl) :
    PI X (.Tuple elts kk tpos) (.Call (.Name "enumerate" p) [e] [] pos) (iEnS ta) := by
  constructor
  intro pins s σ H R I h
  refine Call_ (ld_blt I hg hm boot_enumerate (PyProof.Rows.callWith_type1 (thn (ha.run pos pins s σ H _ I h) fun us s1 q1 => ?_) hs rfl))
  obtain ⟨vs, H1, I1, r1, x, rfl, q⟩ := q1
  cases r1 with
  | cons r rr =>
    cases rr
    obtain ⟨t, rfl⟩ := r
    refine call_enumerate_str fun h1 he hit hsz hk => wpAny_pyIter_enum he ?_
    have J : Inv X pins σ H1 { s1 with heap := h1 } := I1.kept (t' := s1.toks) hk
    refine ⟨s1.heap.objs.size + 1, [s1.heap.objs.size + 1, s1.heap.objs.size], _, ItE x, H1, rfl, J, turn_enumS x t _ _ (Nat.succ_ne_self _), ⟨⟨.none, he⟩, hit⟩, fun b hb => ?_, q⟩
    have lb : s1.heap.objs.size ≤ b := by
      have e' : b = s1.heap.objs.size + 1 ∨ b = s1.heap.objs.size := by simpa using hb
      rcases e' with rfl | rfl
      · exact Nat.le_succ _
      · exact Nat.le_refl _
    exact I1.fpOk lb (I1.hok.fresh lb)
theorem walk_enumS {x : Str} : Walk (ItE x) x.cps.size (fun _ => True) (fun i H v H' => ∃ T c, v = .ref T ∧ H T = none ∧ x.cps[i]? = some c ∧ H' = upd H T (.tup [.int (i : Nat), .str ⟨#[c]⟩])) :=
  ⟨fun _ _ hi _ => hi, fun _ _ => rfl, fun _ _ _ _ _ _ y => y⟩
end Sw
namespace Sw
open PySem PySem.Spec PyProof.Rows L2
/-! ### comprehensions that leave all as it was -/
theorem lc_map {J : It} {n : Nat} {G : Hp → Prop} {Y : Nat → Hp → V → Hp → Prop} {g : TG} {te : TE} {vs : List Nat} {σ : L2.St} {H1 : Hp} {D : Addr} {Qd : Hp → Prop} (w : Walk J n G Y) (f : Nat → V)
    (hn : n ≤ 1000000) (nD : H1 D = none) (hG : ∀ H, Same H1 H → G H)
    (hs : ∀ i x H H', i < n → Same H1 H → Y i H x H' → ∀ R : V → Hp → Prop, (∀ H4, Same H H4 → R (f i) H4) → g x (wipe σ vs) H' fun σ2 H2 => wipe σ2 vs = wipe σ vs ∧ te σ2 H2 R)
    (hd : ∀ H, Same H1 H → H D = some (.lst ((List.range n).map f)) → Qd H)
    (hmono : ∀ x σ H (R R' : L2.St → Hp → Prop), (∀ σ' H', R σ' H' → R' σ' H') → g x σ H R → g x σ H R') :
    ∃ W : Nat → Nat → Hp → Prop, (∃ m, W 0 m (upd H1 D (.lst []))) ∧ ∀ i m H, W i m H →
      (J.stop i H ∧ Qd H) ∨ (J.go i H ∧ ∃ Nx : Hp → Prop, (∀ H', Nx H' → ∃ m', m' < m ∧ W (i + 1) m' H') ∧ ∀ x H', J.yld i H x H' → g x (wipe σ vs) H' fun σ2 H2 => wipe σ2 vs = wipe σ vs ∧ tYes σ2 H2 fun b H3 =>
        if b = true then te σ2 H3 fun y H4 => ∃ acc, H4 D = some (.lst acc) ∧ acc.length < sizeLine ∧ Nx (upd H4 D (.lst (acc ++ [y]))) else Nx H3) := by
  refine lc_it w (fun i H => Same H1 H ∧ H D = some (.lst ((List.range i).map f))) ⟨same_upd nD, upd_same⟩ (fun i H _ p => hG H p.1) (fun i x H H' hi p y => ?_) (fun H p => hd H p.1 p.2)
  refine hmono _ _ _ _ _ (fun σ2 H2 q => ?_) (hs i x H H' hi p.1 y (fun y H4 => ∃ acc, H4 D = some (.lst acc) ∧ acc.length < sizeLine ∧ (Same H1 (upd H4 D (.lst (acc ++ [y]))) ∧ (upd H4 D (.lst (acc ++ [y]))) D = some (.lst ((List.range (i + 1)).map f)))) (fun H4 s4 => ?_))
  · refine ⟨q.1, ?_⟩
    unfold tYes
    dsimp only
    rw [if_pos rfl]
    exact q.2
  · refine ⟨_, s4 _ _ p.2, ?_, fun b o e => ?_, ?_⟩
    · rw [List.length_map, List.length_range]
      exact Nat.lt_of_lt_of_le hi (Nat.le_trans hn (by decide))
    · rw [upd_ne (ne_of_none e nD)]
      exact s4 _ _ (p.1 _ _ e)
    · rw [upd_same, List.range_succ, List.map_append]
      rfl
theorem mono_name {i : Nat} (x : V) (σ : L2.St) (H : Hp) (R R' : L2.St → Hp → Prop) (h : ∀ σ' H', R σ' H' → R' σ' H') (q : gName i x σ H R) : gName i x σ H R' := h _ _ q
theorem range_map_get {α β : Type} (l : List α) (F : Nat → β) (g : α → β) (h : ∀ i x, l[i]? = some x → F i = g x) : (List.range l.length).map F = l.map g := by
  apply List.ext_getElem?
  intro i
  rw [List.getElem?_map, List.getElem?_map]
  by_cases hi : i < l.length
  · rw [List.getElem?_range hi, List.getElem?_eq_getElem hi]
    show some (F i) = some (g l[i])
    rw [h i _ (List.getElem?_eq_getElem hi)]
  · rw [List.getElem?_eq_none (by rw [List.length_range]; omega), List.getElem?_eq_none (by omega)]; rfl
/-! ### isinstance -/
theorem i_isi {K : PySem.W.Frag} {H : Hp} {Q : VK} {x : V} {t : Value} {n : String} (b : Bool) (h1 : TyX K H x t) (h2 : PySem.W.kitOne K t (.type n) = some b) (h : Q (.bl b) H) : rIsi K [x, .ty n] H Q := ⟨x, .ty n, t, .type n, b, rfl, .ty n, h1, h2, h⟩
/-! ### texts of letters -/
def azB (l : List Nat) : Bool := l.all fun c => decide (97 ≤ c ∧ c ≤ 122)
theorem azB_app (a b : List Nat) : azB (a ++ b) = (azB a && azB b) := by simp [azB, List.all_append]
theorem azB_take {l : List Nat} (h : azB l = true) (n : Nat) : azB (l.take n) = true := by
  unfold azB at *
  rw [List.all_eq_true] at *
  exact fun x hx => h x (List.mem_of_mem_take hx)
theorem azB_drop {l : List Nat} (h : azB l = true) (n : Nat) : azB (l.drop n) = true := by
  unfold azB at *
  rw [List.all_eq_true] at *
  exact fun x hx => h x (List.mem_of_mem_drop hx)
theorem az_letters : (("abcdefghijklmnopqrstuvwxyz" : Str)).cps.toList = List.range' 97 26 := by decide +kernel
theorem az_in (c : Nat) : decide (c ∈ (("abcdefghijklmnopqrstuvwxyz" : Str)).cps.toList) = decide (97 ≤ c ∧ c ≤ 122) := by
  rw [az_letters]
  by_cases h : 97 ≤ c ∧ c ≤ 122
  · rw [decide_eq_true h, decide_eq_true]
    exact List.mem_range'_1.mpr ⟨h.1, by omega⟩
  · rw [decide_eq_false h, decide_eq_false]
    intro q
    have := List.mem_range'_1.mp q
    omega
theorem e_empty : (("" : Str)) = S [] := by decide +kernel
theorem starts_S (a b : List Nat) : Txt.startswith (S a) (S b) = decide (a.take b.length = b) := by
  unfold Txt.startswith Builtin.Str.subAt
  rw [S_len, S_len]
  show (decide (0 + b.length ≤ a.length) && ((a.toArray.extract 0 (0 + b.length)) == b.toArray)) = _
  rw [Nat.zero_add]
  have e : (a.toArray.extract 0 b.length) = (a.take b.length).toArray := by
    rw [List.extract_toArray, List.extract_eq_take_drop]
    simp
  rw [e]
  by_cases h : a.take b.length = b
  · rw [h, decide_eq_true rfl, beq_self_eq_true, Bool.and_true, decide_eq_true]
    have := congrArg List.length h
    rw [List.length_take] at this
    omega
  · rw [decide_eq_false h]
    have : ((a.take b.length).toArray == b.toArray) = false := by
      rw [beq_eq_false_iff_ne]
      intro q
      exact h (by simpa using q)
    rw [this, Bool.and_false]
/-! ### what is known of a heap stays -/
theorem Same.at {H H' : Hp} {a : Addr} {o : HO} (s : Same H H') (h : H a = some o) : H' a = some o := s a o h
theorem Same.sqT {K : PySem.W.Frag} {H H' : Hp} {a : Addr} {xs : List V} (e : Same H H') (h : SqT K H a xs) : SqT K H' a xs := by
  rcases h with (h | ⟨o, h⟩) | h
  · exact .inl (.inl (e _ _ h))
  · exact .inl (.inr ⟨o, e _ _ h⟩)
  · exact .inr h
theorem Same.sqL {K : PySem.W.Frag} {H H' : Hp} {a : Addr} {xs : List V} (e : Same H H') (h : SqL K H a xs) : SqL K H' a xs := e.seq h
theorem Same.upd_new {H H1 : Hp} {p : Addr} {o : HO} (s : Same H H1) (n : H1 p = none) : Same H (upd H1 p o) := s.trans (same_upd n)
/-- an object that is new since H is written: what was tracked at H stays -/
theorem Same.set_new {H H1 : Hp} {p : Addr} {o : HO} (s : Same H H1) (n : H p = none) : Same H (upd H1 p o) := fun b x e => by
  rw [upd_ne (ne_of_none e n)]
  exact s _ _ e
/-! ### loops and comprehensions, their source apart -/
def LcGo (J : It) (g : TG) (tt : TT) (te : TE) (vs : List Nat) (σ : L2.St) (H : Hp) (Q : VK) : Prop := tLc (fun _ H R => R J H) g tt te vs σ H Q
def ForGo (J : It) (g : TG) (tb : TS) (D : Ends) (σ : L2.St) (H : Hp) : Prop := tFor (fun _ H R => R J H) g tb D σ H
theorem i_lc {wi : TI} {g : TG} {tt : TT} {te : TE} {vs : List Nat} {σ : L2.St} {H : Hp} {Q : VK} (h : wi σ H fun J H1 => LcGo J g tt te vs σ H1 Q) : tLc wi g tt te vs σ H Q := h
theorem i_for {wi : TI} {g : TG} {tb : TS} {D : Ends} {σ : L2.St} {H : Hp} (h : wi σ H fun J H1 => ForGo J g tb D σ H1) : tFor wi g tb D σ H := h
theorem i_iList {K : PySem.W.Frag} {tl : TE} {R : It → Hp → Prop} {σ : L2.St} {H : Hp} (h : tl σ H fun x H1 => ∃ a, x = .ref a ∧ (∃ xs, SqL K H1 a xs) ∧ R (Itl K a) H1) : iList K tl σ H R := h
theorem i_iTup {K : PySem.W.Frag} {tl : TE} {R : It → Hp → Prop} {σ : L2.St} {H : Hp} (h : tl σ H fun x H1 => ∃ a, x = .ref a ∧ (∃ xs, SqT K H1 a xs) ∧ R (Itt K a) H1) : iTup K tl σ H R := h
theorem i_iStr {te : TE} {R : It → Hp → Prop} {σ : L2.St} {H : Hp} (h : te σ H fun v H1 => ∃ x, v = .str x ∧ R (Its x) H1) : iStr te σ H R := h
theorem i_iRng1 {ta : TA} {R : It → Hp → Prop} {σ : L2.St} {H : Hp} (h : ta σ H fun vs H1 => ∃ j : Int, vs = [.int j] ∧ -(2 ^ 62) ≤ j ∧ j < 2 ^ 62 ∧ R (Itr 0 j.toNat) H1) : iRng1 ta σ H R := h
theorem i_iEnS {ta : TA} {R : It → Hp → Prop} {σ : L2.St} {H : Hp} (h : ta σ H fun vs H1 => ∃ x, vs = [.str x] ∧ R (ItE x) H1) : iEnS ta σ H R := h
theorem i_rng {j : Int} {A : Prop} (h0 : 0 ≤ j) (h1 : j ≤ 1000000) (h : A) : -(2 ^ 62) ≤ j ∧ j < 2 ^ 62 ∧ A := ⟨by omega, by omega, h⟩
theorem i_sqL {K : PySem.W.Frag} {H : Hp} {a : Addr} {xs : List V} {A : Prop} (h1 : SqL K H a xs) (h : A) : (∃ xs, SqL K H a xs) ∧ A := ⟨⟨xs, h1⟩, h⟩
section
variable {J : It} {n : Nat} {G : Hp → Prop} {Y : Nat → Hp → V → Hp → Prop} {g : TG} {tt : TT} {te : TE} {tb : TS} {vs : List Nat} {σ : L2.St} {H1 : Hp} {D : Ends} {Q : VK}
theorem go_map (w : Walk J n G Y) (f : Nat → V) (hn : n ≤ 1000000) (hG : ∀ H, Same H1 H → G H)
    (hs : ∀ i x H H', i < n → Same H1 H → Y i H x H' → ∀ R : V → Hp → Prop, (∀ H4, Same H H4 → R (f i) H4) → g x (wipe σ vs) H' fun σ2 H2 => wipe σ2 vs = wipe σ vs ∧ te σ2 H2 R)
    (hmono : ∀ x σ H (R R' : L2.St → Hp → Prop), (∀ σ' H', R σ' H' → R' σ' H') → g x σ H R → g x σ H R')
    (hd : ∀ p H, H1 p = none → Same H1 H → H p = some (.lst ((List.range n).map f)) → Q (.ref p) H) : LcGo J g tYes te vs σ H1 Q :=
  fun p np => lc_map w f hn np hG hs (fun H s e => hd p H np s e) hmono
theorem go_lc (w : Walk J n G Y) (Pv : Addr → Nat → Hp → Prop) (h0 : ∀ p, H1 p = none → Pv p 0 (upd H1 p (.lst []))) (hG : ∀ p i H, i ≤ n → Pv p i H → G H)
    (hs : ∀ p, H1 p = none → ∀ i x H H', i < n → Pv p i H → Y i H x H' → g x (wipe σ vs) H' fun σ2 H2 => wipe σ2 vs = wipe σ vs ∧ tt σ2 H2 fun b H3 =>
      if b = true then te σ2 H3 fun y H4 => ∃ acc, H4 p = some (.lst acc) ∧ acc.length < sizeLine ∧ Pv p (i + 1) (upd H4 p (.lst (acc ++ [y]))) else Pv p (i + 1) H3)
    (hd : ∀ p H, H1 p = none → Pv p n H → Q (.ref p) H) : LcGo J g tt te vs σ H1 Q :=
  fun p np => lc_it w (Pv p) (h0 p np) (hG p) (hs p np) fun H q => hd p H np q
theorem go_for (w : Walk J n G Y) (Pv : Nat → L2.St → Hp → Prop) (h0 : Pv 0 σ H1) (hG : ∀ i σ H, i ≤ n → Pv i σ H → G H)
    (hs : ∀ i x σ H H', i < n → Pv i σ H → Y i H x H' → g x σ H' fun σ2 H2 => tb { D with nx := Pv (i + 1), ct := Pv (i + 1), bk := D.nx } σ2 H2) (hd : ∀ σ H, Pv n σ H → D.nx σ H) : ForGo J g tb D σ H1 :=
  for_it w Pv h0 hG hs hd
end
theorem i_all {K : PySem.W.Frag} {p : Addr} {bs : List Bool} {H : Hp} {Q : VK} (h1 : H p = some (.lst (bs.map V.bl))) (h : Q (.bl (bs.all id)) H) : rAll K [.ref p] H Q := ⟨p, bs, rfl, sqL_of h1, h⟩
theorem i_inSeq {K : PySem.W.Frag} {p : Addr} {xs : List V} {x : V} {H : Hp} {Q : VK} (h1 : SqL K H p xs ∨ SqT K H p xs) (h2 : flatV x = true) (h3 : xs.all flatV = true) (h : Q (.bl (inV x xs)) H) : rIn K false x (.ref p) H Q := ⟨p, xs, rfl, h1, h2, h3, h⟩
theorem i_ixLH {K : PySem.W.Frag} {p : Addr} {xs : List V} {i : Int} {v : V} {H : Hp} {Q : VK} (h1 : H p = some (.lst xs)) (h2 : atI xs i = some v) (h : Q v H) : rIxL K (.ref p) (.int i) H Q := i_ixL (sqL_of h1) h2 h
theorem i_ixTH {K : PySem.W.Frag} {p : Addr} {xs : List V} {i : Int} {v : V} {H : Hp} {Q : VK} (h1 : H p = some (.tup xs)) (h2 : atI xs i = some v) (h : Q v H) : rIxT K (.ref p) (.int i) H Q := i_ixT (sqT_of h1) h2 h
theorem upd_old {H : Hp} {p a : Addr} {o u : HO} (n : H p = none) (h : H a = some u) : upd H p o a = some u := by rw [upd_ne (ne_of_none h n)]; exact h
theorem upd_skip {H : Hp} {p a : Addr} {o u : HO} (n : a ≠ p) (h : H a = some u) : upd H p o a = some u := by rw [upd_ne n]; exact h
theorem iteNT {A B : Prop} (h : B) : if (!true) = true then A else B := iteF h
theorem iteNF {A B : Prop} (h : A) : if (!false) = true then A else B := iteT h
theorem iteNB {p : Prop} [Decidable p] {A B : Prop} (h1 : ¬ p → A) (h2 : p → B) : if (!decide p) = true then A else B := by
  by_cases h : p
  · rw [decide_eq_true h]; exact iteF (h2 h)
  · rw [decide_eq_false h]; exact iteT (h1 h)
theorem iteNC {c : Bool} {A B : Prop} (h1 : c = false → A) (h2 : c = true → B) : if (!c) = true then A else B := by
  cases c with
  | true => exact iteF (h2 rfl)
  | false => exact iteT (h1 rfl)
/-! ### rules whose readings have names, over texts S l -/
section
variable {X : Cx} {H : Hp} {Q : VK} {K : PySem.W.Frag}
theorem pe_strS {x : Str} {j pos} {l : List Nat} (e : x = S l) : PE X (.Constant (.str x) j pos) (tC (.str (S l))) := by rw [e]; exact pe_str
def rAddS : R2 := fun x y H Q => ∃ a b, x = .str (S a) ∧ y = .str (S b) ∧ a.length + b.length ≤ 1000000 ∧ Q (.str (S (a ++ b))) H
theorem op_addS : OpR X (binaryOp .Add) rAddS := fun pins s σ H x y v u Q I rx ry h => by
  obtain ⟨a, b, e1, e2, hz, q⟩ := h
  exact op_add_str pins s σ H x y v u Q I rx ry ⟨S a, S b, e1, e2, by rw [S_len, S_len]; exact Nat.le_trans hz (by decide), by rw [S_app]; exact q⟩
theorem i_addS {a b : List Nat} (h1 : a.length + b.length ≤ 1000000) (h : Q (.str (S (a ++ b))) H) : rAddS (.str (S a)) (.str (S b)) H Q := ⟨a, b, rfl, rfl, h1, h⟩
def rIxSS : V → V → Hp → VK → Prop := fun x y H Q => ∃ l i c, x = .str (S l) ∧ y = .int i ∧ l.length ≤ 1000000 ∧ atI l i = some c ∧ Q (.str (S [c])) H
theorem ix_S : IxR X rIxSS := fun pins s σ H x y v u b Q I rx ry hb h => by
  obtain ⟨l, i, c, e1, e2, hz, hc, q⟩ := h
  exact ix_str pins s σ H x y v u b Q I rx ry hb ⟨S l, i, c, e1, e2, by rw [S_len]; exact Nat.le_trans hz (by decide), by rw [S_list]; exact hc, q⟩
theorem i_ixSS {l : List Nat} {i : Int} {c : Nat} (h1 : l.length ≤ 1000000) (h2 : atI l i = some c) (h : Q (.str (S [c])) H) : rIxSS (.str (S l)) (.int i) H Q := ⟨l, i, c, rfl, rfl, h1, h2, h⟩
def rSlSS : V → Option Int → Option Int → Hp → VK → Prop := fun x lo hi H Q => ∃ l, x = .str (S l) ∧ l.length ≤ 1000000 ∧ Q (.str (S (cut l lo hi))) H
theorem sl_S : SlR X rSlSS := fun pins s σ H x v vl vu lo hi sl Q I rx hs pl pu h => by
  obtain ⟨l, e1, hz, q⟩ := h
  exact sl_str pins s σ H x v vl vu lo hi sl Q I rx hs pl pu ⟨S l, e1, by rw [S_len]; exact Nat.le_trans hz (by decide), by rw [cutS_S]; exact q⟩
theorem i_slFrom {l : List Nat} {k : Int} (h0 : 0 ≤ k) (h1 : l.length ≤ 1000000) (h : Q (.str (S (l.drop k.toNat))) H) : rSlSS (.str (S l)) (some k) none H Q :=
  ⟨l, rfl, h1, by rw [show k = ((k.toNat : Nat) : Int) by omega, cut_from]; exact h⟩
theorem i_slTo {l : List Nat} {k : Int} (h0 : 0 ≤ k) (h1 : l.length ≤ 1000000) (h : Q (.str (S (l.take k.toNat))) H) : rSlSS (.str (S l)) none (some k) H Q :=
  ⟨l, rfl, h1, by rw [show k = ((k.toNat : Nat) : Int) by omega, cut_to]; exact h⟩
def rLenSS : List V → Hp → VK → Prop := fun xs H Q => ∃ l, xs = [.str (S l)] ∧ l.length ≤ 1000000 ∧ Q (.int (l.length : Int)) H
theorem call_lenS : CallR X (.builtin "len") rLenSS := fun pins s σ H xs us Q I r h => by
  obtain ⟨l, e1, hz, q⟩ := h
  exact call_len_str pins s σ H xs us Q I r ⟨S l, e1, by rw [S_len]; exact Nat.le_trans hz (by decide), by rw [S_len]; exact q⟩
theorem i_lenSS {l : List Nat} (h1 : l.length ≤ 1000000) (h : Q (.int (l.length : Int)) H) : rLenSS [.str (S l)] H Q := ⟨l, rfl, h1, h⟩
def rStartS : V → List V → Hp → VK → Prop := fun x xs H Q => ∃ a b, x = .str (S a) ∧ xs = [.str (S b)] ∧ Q (.bl (decide (a.take b.length = b))) H
theorem mt_startsS : MtR X "str.startswith" rStartS := fun pins s σ H x xs v us Q I rx rv h => by
  obtain ⟨a, b, e1, e2, q⟩ := h
  exact mt_startswith pins s σ H x xs v us Q I rx rv ⟨S a, S b, e1, e2, by rw [starts_S]; exact q⟩
theorem i_startS {a b : List Nat} (h : Q (.bl (decide (a.take b.length = b))) H) : rStartS (.str (S a)) [.str (S b)] H Q := ⟨a, b, rfl, rfl, h⟩
def rInSg : R2 := fun x y H Q => ∃ (c : Nat) (z : Str), x = .str (S [c]) ∧ y = .str z ∧ Q (.bl (decide (c ∈ z.cps.toList))) H
theorem op_inSg : OpR X (compareOp .In) rInSg := op_in_sign
theorem i_inSg {c : Nat} {z : Str} (h : Q (.bl (decide (c ∈ z.cps.toList))) H) : rInSg (.str (S [c])) (.str z) H Q := ⟨c, z, rfl, rfl, h⟩
def rAbs : List V → Hp → VK → Prop := fun xs H Q => ∃ i, xs = [.int i] ∧ Q (.int (if i < 0 then -i else i)) H
theorem call_absN : CallR X (.builtin "abs") rAbs := call_abs
theorem i_absN {i : Int} (h : Q (.int (if i < 0 then -i else i)) H) : rAbs [.int i] H Q := ⟨i, rfl, h⟩
def rMin2 : List V → Hp → VK → Prop := fun xs H Q => ∃ i j, xs = [.int i, .int j] ∧ Q (.int (if j < i then j else i)) H
theorem call_min2N (hc : X.calm = true) : CallR X (.builtin "min") rMin2 := call_min2 hc
theorem i_min2 {i j : Int} (h : Q (.int (min i j)) H) : rMin2 [.int i, .int j] H Q := ⟨i, j, rfl, by
  by_cases c : j < i
  · rw [if_pos c]; rw [show min i j = j by omega] at h; exact h
  · rw [if_neg c]; rw [show min i j = i by omega] at h; exact h⟩
def rMax2 : List V → Hp → VK → Prop := fun xs H Q => ∃ i j, xs = [.int i, .int j] ∧ Q (.int (if j > i then j else i)) H
theorem call_max2N (hc : X.calm = true) : CallR X (.builtin "max") rMax2 := call_max2 hc
theorem i_max2 {i j : Int} (h : Q (.int (max i j)) H) : rMax2 [.int i, .int j] H Q := ⟨i, j, rfl, by
  by_cases c : j > i
  · rw [if_pos c]; rw [show max i j = j by omega] at h; exact h
  · rw [if_neg c]; rw [show max i j = i by omega] at h; exact h⟩
def rMin3 : List V → Hp → VK → Prop := fun xs H Q => ∃ i j k, xs = [.int i, .int j, .int k] ∧ Q (.int (min (min i j) k)) H
theorem nuMin2_int (i j : Int) : nuMin2 (.int i) (.int j) = some (.int (min i j)) := by
  show some (if decide (j < i) = true then V.int j else V.int i) = some (.int (min i j))
  by_cases c : j < i
  · rw [decide_eq_true c, if_pos rfl, show min i j = j by omega]
  · rw [decide_eq_false c, if_neg Bool.false_ne_true, show min i j = i by omega]
theorem call_min3N (hc : X.calm = true) : CallR X (.builtin "min") rMin3 := fun pins s σ H xs us Q I r h => by
  obtain ⟨i, j, k, e1, q⟩ := h
  exact call_min3Nu hc pins s σ H xs us Q I r ⟨_, _, _, _, e1, by unfold nuMin3; rw [nuMin2_int]; show nuMin2 (.int (min i j)) (.int k) = _; rw [nuMin2_int], q⟩
theorem i_min3 {i j k : Int} (h : Q (.int (min (min i j) k)) H) : rMin3 [.int i, .int j, .int k] H Q := ⟨i, j, k, rfl, h⟩
def rInt : List V → Hp → VK → Prop := fun xs H Q => (∃ i, xs = [.int i] ∧ Q (.int i) H) ∨ ∃ k, xs = [.bl k] ∧ Q (.int (if k then 1 else 0)) H
theorem call_intN : CallR X (.type "int") rInt := call_int1
theorem i_intN {i : Int} (h : Q (.int i) H) : rInt [.int i] H Q := .inl ⟨i, rfl, h⟩
theorem i_intNB {k : Bool} (h : Q (.int (if k then 1 else 0)) H) : rInt [.bl k] H Q := .inr ⟨k, rfl, h⟩
def rLenQ (K : PySem.W.Frag) : List V → Hp → VK → Prop := fun xs H Q => ∃ p ys, xs = [.ref p] ∧ (SqL K H p ys ∨ SqT K H p ys) ∧ Q (.int ys.length) H
theorem call_lenQ : CallR X (.builtin "len") (rLenQ X.K) := call_len_seq
theorem i_lenL {p : Addr} {ys : List V} (h1 : H p = some (.lst ys)) (h : Q (.int ys.length) H) : rLenQ K [.ref p] H Q := ⟨p, ys, rfl, .inl (sqL_of h1), h⟩
theorem i_lenT {p : Addr} {ys : List V} (h1 : H p = some (.tup ys)) (h : Q (.int ys.length) H) : rLenQ K [.ref p] H Q := ⟨p, ys, rfl, .inr (sqT_of h1), h⟩
theorem i_lenK {p : Addr} {ys : List V} (h1 : SqL K H p ys) (h : Q (.int ys.length) H) : rLenQ K [.ref p] H Q := ⟨p, ys, rfl, .inl h1, h⟩
theorem dec_inj {α β : Type} [DecidableEq α] [DecidableEq β] {f : α → β} (hf : ∀ a b, f a = f b → a = b) (a b : α) : decide (f a = f b) = decide (a = b) := by
  by_cases h : a = b
  · subst h; simp
  · rw [decide_eq_false h, decide_eq_false (fun e => h (hf a b e))]
theorem dec_I (a b : Int) : decide (V.int a = V.int b) = decide (a = b) := dec_inj (fun _ _ e => V.int.inj e) a b
theorem i_eqI {a b : Int} (h : Q (.bl (decide (a = b))) H) : rEq (.int a) (.int b) H Q := ⟨rfl, by rw [dec_I]; exact h⟩
theorem i_neI {a b : Int} (h : Q (.bl (!decide (a = b))) H) : rNe (.int a) (.int b) H Q := ⟨rfl, by rw [dec_I]; exact h⟩
theorem i_eqS {a b : List Nat} (h : Q (.bl (decide (a = b))) H) : rEq (.str (S a)) (.str (S b)) H Q := ⟨rfl, by rw [S_dec]; exact h⟩
theorem i_neS {a b : List Nat} (h : Q (.bl (!decide (a = b))) H) : rNe (.str (S a)) (.str (S b)) H Q := ⟨rfl, by rw [S_dec]; exact h⟩
def rIsNo : R2 := fun x y H Q => y = .non ∧ Q (.bl (decide (x = .non))) H
theorem op_isNo : OpR X (compareOp .Is) rIsNo := op_isN
theorem i_isNoI {i : Int} (h : Q (.bl false) H) : rIsNo (.int i) .non H Q := ⟨rfl, h⟩
theorem i_isNoN (h : Q (.bl true) H) : rIsNo .non .non H Q := ⟨rfl, h⟩
theorem i_isNoR {a : Addr} (h : Q (.bl false) H) : rIsNo (.ref a) .non H Q := ⟨rfl, h⟩
def rRepI : List V → Hp → VK → Prop := fun xs H Q => ∃ i, xs = [.int i] ∧ i.natAbs.log2 < 1920 ∧ Q (.str (toString i)) H
theorem call_repI : CallR X (.builtin "repr") rRepI := SkE.call_repr_int
end
theorem walk_S {l : List Nat} : Walk (Its (S l)) l.length (fun _ => True) (fun i H v H' => H' = H ∧ ∃ c, l[i]? = some c ∧ v = .str (S [c])) := by
  have w := walk_str (z := S l)
  rw [S_size] at w
  exact w.mono (fun _ _ => trivial) fun i H x H' _ _ y => by
    obtain ⟨e, c, hc, ev⟩ := y
    rw [S_get] at hc
    exact ⟨e, c, hc, ev⟩
theorem walk_eS {l : List Nat} : Walk (ItE (S l)) l.length (fun _ => True) (fun i H v H' => ∃ T c, v = .ref T ∧ H T = none ∧ l[i]? = some c ∧ H' = upd H T (.tup [.int (i : Nat), .str (S [c])])) := by
  have w := walk_enumS (x := S l)
  rw [S_size] at w
  exact w.mono (fun _ _ => trivial) fun i H x H' _ _ y => by
    obtain ⟨T, c, e, n, hc, eh⟩ := y
    rw [S_get] at hc
    exact ⟨T, c, e, n, hc, eh⟩
theorem go_while {c : TT} {tb : TS} {D : Ends} {σ : L2.St} {H : Hp} (Pv : Nat → L2.St → Hp → Prop) (m0 : Nat) (h0 : Pv m0 σ H)
    (hs : ∀ m σ H, Pv m σ H → c σ H fun b H1 => if b = true then ∃ N : L2.St → Hp → Prop, (∀ σ' H', N σ' H' → ∃ m', m' < m ∧ Pv m' σ' H') ∧ tb { D with nx := N, ct := N, bk := D.nx } σ H1 else D.nx σ H1) : tWhile c tb D σ H :=
  ⟨Pv, ⟨m0, h0⟩, hs⟩
theorem next_turn {m : Nat} {Pv : Nat → L2.St → Hp → Prop} {A : (L2.St → Hp → Prop) → Prop} (h : A fun σ' H' => ∃ m', m' < m ∧ Pv m' σ' H') : ∃ N : L2.St → Hp → Prop, (∀ σ' H', N σ' H' → ∃ m', m' < m ∧ Pv m' σ' H') ∧ A N := ⟨_, fun _ _ q => q, h⟩
def rRevS : V → Hp → VK → Prop := fun x H Q => ∃ l, x = .str (S l) ∧ l.length ≤ sizeLine ∧ Q (.str (S l.reverse)) H
theorem i_revS {te : TE} {σ : L2.St} {H : Hp} {Q : VK} (h : te σ H fun x H1 => rRevS x H1 Q) : tRevS te σ H Q := h
theorem i_revSS {l : List Nat} {H : Hp} {Q : VK} (h1 : l.length ≤ 1000000) (h : Q (.str (S l.reverse)) H) : rRevS (.str (S l)) H Q := ⟨l, rfl, Nat.le_trans h1 (by decide), h⟩
theorem i_cut {t u : TS} {D : Ends} {σ : L2.St} {H : Hp} (Mid : L2.St → Hp → Prop) (h1 : t { D with nx := Mid } σ H) (h2 : ∀ σ' H', Mid σ' H' → u D σ' H') : C8.tCut t u D σ H := ⟨Mid, h1, h2⟩
theorem i_minL {K : PySem.W.Frag} {p : Addr} {ns : List Int} {H : Hp} {Q : VK} (h1 : H p = some (.lst (ns.map V.int))) (h2 : 0 < ns.length) (h : ∀ m, m ∈ ns → (∀ y, y ∈ ns → m ≤ y) → Q (.int m) H) : rMin K [.ref p] H Q := ⟨p, ns, rfl, sqL_of h1, h2, h⟩
/-- one half of an if: what is appended, or nothing -/
theorem i_chainLL {g : Int → Int → Bool} {g' : Int → Int → Bool} {σ : L2.St} {H : Hp} {R : Bool → Hp → Prop} {i j k : Int}
    (h : R (g i j && g' j k) H) : rI0 (fun a b => .bl (g a b)) (.int i) (.int j) H fun z H3 => ∃ c, z = .bl c ∧ (if c = true then rI0 (fun a b => .bl (g' a b)) (.int j) (.int k) H3 fun x H4 => ∃ d, x = .bl d ∧ R d H4 else ∃ d, V.bl false = .bl d ∧ R d H3) := by
  refine ⟨i, j, rfl, rfl, g i j, rfl, ?_⟩
  cases e : g i j with
  | true => rw [e] at h; exact iteT ⟨j, k, rfl, rfl, g' j k, rfl, h⟩
  | false => rw [e] at h; exact iteF ⟨false, rfl, h⟩
theorem walk_rangeZ {n : Nat} : Walk (Itr 0 n) n (fun _ => True) (YFn fun i => .int (i : Int)) :=
  (walk_range (lo := 0) (n := n)).mono (fun _ h => h) fun i H x H' _ _ y => ⟨y.1, by rw [y.2]; show V.int (0 + (i : Int)) = V.int (i : Int); rw [Int.zero_add]⟩
theorem i_ixLI {K : PySem.W.Frag} {p : Addr} {ns : List Int} {i v : Int} {H : Hp} {Q : VK} (h1 : H p = some (.lst (ns.map V.int))) (h0 : 0 ≤ i) (h2 : ns[i.toNat]? = some v) (h : Q (.int v) H) : rIxL K (.ref p) (.int i) H Q := by
  refine i_ixLH h1 ?_ h
  have e := atI_nat (xs := ns.map V.int) (j := i.toNat) (v := .int v) (by rw [List.getElem?_map, h2]; rfl)
  rwa [show ((i.toNat : Nat) : Int) = i by omega] at e
theorem i_ixSI {l : List Nat} {i : Int} {c : Nat} {H : Hp} {Q : VK} (h0 : 0 ≤ i) (h2 : l[i.toNat]? = some c) (h1 : l.length ≤ 1000000) (h : Q (.str (S [c])) H) : rIxSS (.str (S l)) (.int i) H Q := by
  refine i_ixSS h1 ?_ h
  have e := atI_nat (xs := l) (j := i.toNat) (v := c) h2
  rwa [show ((i.toNat : Nat) : Int) = i by omega] at e
theorem i_appI {p : Addr} {ns : List Int} {v : Int} {H : Hp} {Q : VK} (h1 : H p = some (.lst (ns.map V.int))) (h2 : ns.length ≤ 1000000) (h : Q .non (upd H p (.lst ((ns ++ [v]).map V.int)))) : rAppend (.ref p) [.int v] H Q := by
  refine i_append h1 (by rw [List.length_map]; exact Nat.lt_of_le_of_lt h2 (by decide)) ?_
  rw [List.map_append] at h
  exact h
theorem i_gTupH {K : PySem.W.Frag} {n : Nat} {t : TGs} {a : Addr} {xs : List V} {σ : L2.St} {H : Hp} {R : L2.St → Hp → Prop} (h1 : H a = some (.tup xs)) (h2 : xs.length = n) (h : t xs σ H R) : gTup K n t (.ref a) σ H R := ⟨a, xs, rfl, sqT_of h1, h2, h⟩
theorem join_S (ws : List (List Nat)) : Txt.join (S []) (ws.map S) = S ws.flatten := by
  unfold Txt.join
  rw [StrLaws.glued_eq_join]
  induction ws with
  | nil => rfl
  | cons w ws ih =>
    cases ws with
    | nil => simp [Str.join]
    | cons v ws =>
      show S w ++ S [] ++ Str.join (S []) ((v :: ws).map S) = _
      rw [ih, S_app, S_app, List.append_nil]
      rfl
theorem sum_lens (ws : List (List Nat)) : ((ws.map S).map (·.length)).sum = ws.flatten.length := by
  induction ws with
  | nil => rfl
  | cons w ws ih =>
    rw [List.map_cons, List.map_cons, List.sum_cons, ih, List.flatten_cons, List.length_append, S_len]
def rJoinS (K : PySem.W.Frag) : V → List V → Hp → VK → Prop := fun x xs H Q => ∃ p, ∃ ws : List (List Nat), x = .str (S []) ∧ xs = [.ref p] ∧ (SqL K H p (ws.map fun l => .str (S l)) ∨ SqT K H p (ws.map fun l => .str (S l))) ∧ ws.flatten.length ≤ 1000000 ∧ Q (.str (S ws.flatten)) H
theorem mt_joinS {X : Cx} : MtR X "str.join" (rJoinS X.K) := fun pins s σ H x xs v us Q I rx rv h => by
  obtain ⟨p, ws, e1, e2, hp, hl, q⟩ := h
  have e3 : (ws.map fun l => V.str (S l)) = (ws.map S).map V.str := by rw [List.map_map]; rfl
  rw [e3] at hp
  refine mt_join pins s σ H x xs v us Q I rx rv ⟨S [], p, ws.map S, e1, e2, hp, ?_, by rw [join_S]; exact q⟩
  rw [sum_lens, show (S []).length = 0 from rfl, Nat.mul_zero, Nat.add_zero]
  omega
theorem i_joinS {K : PySem.W.Frag} {p : Addr} {ws : List (List Nat)} {H : Hp} {Q : VK} (h1 : H p = some (.lst (ws.map fun l => .str (S l)))) (h2 : ws.flatten.length ≤ 1000000) (h : Q (.str (S ws.flatten)) H) : rJoinS K (.str (S [])) [.ref p] H Q :=
  ⟨p, ws, rfl, rfl, .inl (sqL_of h1), h2, h⟩
theorem atI_neg1 {α : Type} {xs : List α} {v : α} {n : Nat} (h : xs.length = n + 1) (h2 : xs[n]? = some v) : atI xs (-1) = some v := by
  have e : xs = xs.dropLast ++ [v] := by
    have hne : xs ≠ [] := by intro z; rw [z] at h; cases h
    have := List.dropLast_concat_getLast hne
    have e2 : xs.getLast hne = v := by
      rw [List.getLast_eq_getElem]
      have := List.getElem?_eq_some_iff.mp h2
      obtain ⟨_, q⟩ := this
      simpa [h] using q
    rw [e2] at this
    exact this.symm
  rw [e]
  exact atI_last _ _
theorem i_ixLv {K : PySem.W.Frag} {p : Addr} {xs : List V} {i : Int} {v : V} {H : Hp} {Q : VK} (h1 : H p = some (.lst xs)) (h0 : 0 ≤ i) (h2 : xs[i.toNat]? = some v) (h : Q v H) : rIxL K (.ref p) (.int i) H Q := by
  refine i_ixLH h1 ?_ h
  have e := atI_nat (xs := xs) (j := i.toNat) (v := v) h2
  rwa [show ((i.toNat : Nat) : Int) = i by omega] at e
theorem i_rU {g : Int → V} {i : Int} {H : Hp} {Q : VK} (h : Q (g i) H) : rU g (.int i) H Q := ⟨i, rfl, h⟩
end Sw
namespace Sw
open PySem PySem.Spec PyProof.Rows L2
/-! ### t[::-1] of a tuple -/
theorem back_adjust (n : Nat) : Builtin.Slice.sliceAdjust none none (-1) (n : Int) = ((n : Int) - 1, -1) := by
  unfold Builtin.Slice.sliceAdjust
  simp
theorem back_places (n : Nat) : Builtin.Slice.slicePlaces ((n : Int) - 1) (-1) (-1) = n := by
  unfold Builtin.Slice.slicePlaces
  simp only [show ¬ ((-1 : Int) > 0) by decide, if_false]
  split <;> simp <;> omega
theorem fm_congr {α β : Type} {f g : α → Option β} : ∀ {l : List α}, (∀ a ∈ l, f a = g a) → l.filterMap f = l.filterMap g
  | [], _ => rfl
  | a :: l, h => by
    rw [List.filterMap_cons, List.filterMap_cons, h a List.mem_cons_self, fm_congr fun b hb => h b (List.mem_cons_of_mem _ hb)]
theorem back_pick {α : Type} (l : List α) : ((List.range l.length).filterMap fun (k : Nat) => l.toArray[(((l.length : Int) - 1) + (k : Int) * (-1)).toNat]?) = l.reverse := by
  have e : ∀ k ∈ List.range l.length, l.toArray[(((l.length : Int) - 1) + (k : Int) * (-1)).toNat]? = l.reverse[k]? := by
    intro k hk
    have hk := List.mem_range.mp hk
    rw [List.getElem?_reverse hk, List.getElem?_toArray]
    congr 1
    omega
  rw [fm_congr e]
  have h2 : ∀ m : List α, (List.range m.length).filterMap (fun k => m[k]?) = m := by
    intro m
    induction m with
    | nil => rfl
    | cons a m ih =>
      rw [List.length_cons, List.range_succ_eq_map, List.filterMap_cons, List.filterMap_map]
      show a :: List.filterMap ((fun k => (a :: m)[k]?) ∘ Nat.succ) (List.range m.length) = a :: m
      congr 1
  have := h2 l.reverse
  rwa [List.length_reverse] at this
theorem getItem_tuple_back {prog : Program} {w : World} {A : Around} {E : Value → Shared → Prop} {s : Shared} {t sl : Addr} {ys : List Value} {u : Tok} {Q : Value → Shared → Prop} (ht : IsTup s.heap t ys.toArray)
    (hs : ∃ os, s.heap.get? sl = some os ∧ os.cls = .type "slice" ∧ os.data = .fields #[.none, .none, .int (-1) u])
    (h : Q (.ref s.heap.objs.size) { s with heap := s.heap.push { cls := .type "tuple", data := .seq ys.reverse.toArray } }) (hz : ys.length ≤ sizeLine) : wpAny (model prog w) A (getItem (.ref t) (.ref sl)) Q E s := by
  have hno' : sizeOk (.seq ys.reverse.toArray) := by
    show ys.reverse.toArray.size ≤ sizeLine
    rw [List.size_toArray, List.length_reverse]
    exact hz
  obtain ⟨os, hos, hcs, hds⟩ := hs
  have hTs : s.TypeIs (.ref sl) "slice" := ⟨os, hos, hcs⟩
  unfold getItem
  try with_reducible refine wpAny_holding ?_
  first | refine wpAny_bind (wpAny_pure ?_) | skip
  refine wpAny_bind (wpAny_sequenceKey ht.typeIs (by decide) ?_)
  refine wpAny_bind (wpAny_callSpecial?_slot (name := Str.ofString "__getitem__") ht.typeIs PyProof.Rows.slot_tuple_getitem (wpAny_call_entry PyProof.Rows.slot_tuple_getitem ht.typeIs entry_tuple_getitem ?_ (args_tuple_getitem _ _)))
  show wpAny _ _ (Builtin.Tuple.tupleItemsOf (.ref t) >>= _) _ _ s
  refine wpAny_bind (tupleItemsOf_ ht ?_)
  refine wpAny_bind (wpAny_typeOf hTs ?_)
  rw [if_pos (by decide)]
  have ap : ∀ {R : Int × Int × Nat → Shared → Prop}, R (((ys.toArray.size : Nat) : Int) - 1, -1, ys.toArray.size) s → wpAny (model prog w) A.in1 (Builtin.Slice.sliceApplied (.ref sl) (pure ((ys.toArray.size : Nat) : Int))) R E s := by
    intro R hR
    unfold Builtin.Slice.sliceApplied Builtin.Slice.sliceFields
    refine wpAny_bind (wpAny_bind (wpAny_field hos hds (x := .none) rfl (wpAny_bind (wpAny_field hos hds (x := .none) rfl (wpAny_bind (wpAny_field hos hds (x := .int (-1) u) rfl (wpAny_pure ?_)))))))
    refine wpAny_bind (slicePart_int ?_)
    show wpAny _ _ (if ((-1 : Int) == 0) = true then _ else _) _ _ s
    rw [if_neg (by decide)]
    refine wpAny_bind (slicePart_none (wpAny_bind (slicePart_none (wpAny_bind (wpAny_pure ?_)))))
    show wpAny _ _ (match Builtin.Slice.sliceAdjust none none (-1) ((ys.toArray.size : Nat) : Int) with | (lo, hi) => pure (lo, (-1 : Int), Builtin.Slice.slicePlaces lo hi (-1))) _ _ s
    rw [back_adjust]
    show wpAny _ _ (pure (((ys.toArray.size : Nat) : Int) - 1, (-1 : Int), Builtin.Slice.slicePlaces (((ys.toArray.size : Nat) : Int) - 1) (-1) (-1))) _ _ s
    rw [back_places]
    exact wpAny_pure hR
  refine wpAny_bind (ap ?_)
  show wpAny _ _ (if (((ys.toArray.size : Nat) : Int) - 1 == 0 && (-1 : Int) == 1 && ys.toArray.size == ys.toArray.size) = true then _ else _) _ _ s
  rw [if_neg (by simp)]
  have e := back_pick ys
  rw [show ys.length = ys.toArray.size from List.size_toArray.symm] at e
  rw [e]
  first
    | exact wpAny_bind (m := Builtin.Tuple.tupleExact _) (wpAny_newObj_type (wpAny_pure ⟨_, rfl, wpAny_pure h⟩) hno')
    | exact wpAny_bind (m := Builtin.Tuple.tupleExact _) (wpAny_newObj_type (wpAny_bind (wpAny_pure (wpAny_pure ⟨_, rfl, wpAny_pure h⟩))) hno')
    | exact wpAny_bind (wpAny_bind (m := Builtin.Tuple.tupleExact _) (wpAny_newObj_type (wpAny_pure (wpAny_pure ⟨_, rfl, wpAny_pure h⟩)) hno'))
def tRevT (K : PySem.W.Frag) (te : TE) : TE := fun σ H Q => te σ H fun x H1 => ∃ a xs, x = .ref a ∧ SqT K H1 a xs ∧ ∀ p, H1 p = none → Q (.ref p) (upd H1 p (.tup xs.reverse))
theorem Vals.back {xs : List V} {us : List Value} (r : Vals xs us) : Vals xs.reverse us.reverse := by
  induction r with
  | nil => exact .nil
  | cons r1 _ ih =>
    rw [List.reverse_cons, List.reverse_cons]
    exact ih.append (.cons r1 .nil)
theorem pe_revT {X : Cx} {e : Expr} {te : TE} {k : Nat} {p1 p2 p3 pos : Pos} (he : PE X e te) :
    PE X (.Subscript e (.Slice none none (some (.UnaryOp .USub (.Constant (.int 1) k p1) p2)) p3) pos) (tRevT X.K te) := by
  constructor
  intro pins s σ H Q I h
  refine Subscript_ (thn (he.run pins s σ H _ I h) fun v s1 ⟨x, H1, I1, r1, a, xs, ex, hx, q⟩ => ?_)
  subst ex
  cases r1
  have st : PO X (some (.UnaryOp .USub (.Constant (.int 1) k p1) p2)) (tPart (tUn (rU fun i => .int (-i)) (tC (.int 1)))) := po_some (pe_un un_neg pe_int)
  refine wpAny_Slice (thn (po_none.run pins s1 σ H1 (fun o G => o = none ∧ G = H1) I1 ⟨rfl, rfl⟩) fun w1 s2 ⟨o1, G1, J1, z1, a1, b1⟩ => ?_)
  subst a1 b1
  refine thn (po_none.run pins s2 σ G1 (fun o G => o = none ∧ G = G1) J1 ⟨rfl, rfl⟩) fun w2 s3 ⟨o2, G2, J2, z2, a2, b2⟩ => ?_
  subst a2 b2
  refine thn (st.run pins s3 σ G2 (fun o G => o = some (-1) ∧ G = G2) J2 ⟨1, rfl, -1, rfl, rfl, rfl⟩) fun w3 s4 ⟨o3, G3, J3, z3, a3, b3⟩ => ?_
  subst a3 b3
  have J4 : Inv X pins σ G3 { s4 with heap := s4.heap.push { cls := .type "slice", data := .fields #[w1, w2, w3] } } := J3.kept (t' := s4.toks) fun b ob q => Heap.get?_push_of_some _ q
  obtain ⟨y1, rfl, f1⟩ := IsPart.raw z1
  obtain ⟨y2, rfl, f2⟩ := IsPart.raw z2
  obtain ⟨y3, rfl, f3⟩ := IsPart.raw z3
  cases y1 with
  | some y => cases f1
  | none =>
  cases y2 with
  | some y => cases f2
  | none =>
  cases y3 with
  | none => cases f3
  | some y =>
  obtain ⟨m, u⟩ := y
  have em : m = -1 := Option.some.inj f3
  subst em
  obtain ⟨its, r, ht, hz⟩ := J4.tuple hx
  refine tail_any (T := "tuple") (id := _) (ops := [.ref a, .ref s4.heap.objs.size]) ht.typeIs PyProof.Rows.slot_tuple_getitem.lookup ?_ (by with_unfolding_all rfl)
  have hz' : its.length ≤ sizeLine := by rw [← r.length]; exact hz
  refine getItem_tuple_back (u := u) ht ⟨_, Heap.get?_push_size _ rfl, rfl, rfl⟩ ?_ hz'
  refine ⟨.ref _, _, J4.laid (t' := s4.toks) (o := .tup xs.reverse) (fun b ob q => Heap.get?_push_of_some _ q) (Nat.le_refl _) ?_, rfl, q _ (J4.hok.fresh (Nat.le_refl _))⟩
  exact ⟨by rw [List.length_reverse]; exact hz, _, Vals.back r, IsTup.new _ _⟩
theorem i_revT {K : PySem.W.Frag} {te : TE} {σ : L2.St} {H : Hp} {Q : VK} (h : te σ H fun x H1 => ∃ a xs, x = .ref a ∧ SqT K H1 a xs ∧ ∀ p, H1 p = none → Q (.ref p) (upd H1 p (.tup xs.reverse))) : tRevT K te σ H Q := h
/-! ### text * int -/
def rMulS : R2 := fun x y H Q => ∃ (l : List Nat) (n : Nat), x = .str (S l) ∧ y = .int (n : Int) ∧ l.length ≤ 1000 ∧ n ≤ 1000 ∧ Q (.str (S (List.replicate n l).flatten)) H
theorem mul_S (l : List Nat) (n : Nat) : Txt.mul (S l) (n : Int) = S (List.replicate n l).flatten := by
  unfold Txt.mul
  by_cases h0 : n = 0
  · subst h0; simp [S, Str.empty]
  · rw [if_neg (by omega)]
    by_cases h1 : (((n : Int) == 1 || (S l).length == 0) = true)
    · rw [if_pos h1]
      rcases Bool.or_eq_true_iff.mp h1 with h1 | h1
      · have : n = 1 := by have := eq_of_beq h1; omega
        subst this; simp
      · have e : l = [] := by have := eq_of_beq h1; rw [S_len] at this; exact List.length_eq_zero_iff.mp this
        subst e
        simp
    · rw [if_neg h1]
      show (⟨(List.replicate n l.toArray).foldl (· ++ ·) #[]⟩ : Str) = ⟨(List.replicate n l).flatten.toArray⟩
      congr 1
      have : ∀ (m : Nat) (b : Array Nat), (List.replicate m l.toArray).foldl (· ++ ·) b = b ++ (List.replicate m l).flatten.toArray := by
        intro m
        induction m with
        | zero => intro b; simp
        | succ m ih =>
          intro b
          rw [List.replicate_succ, List.foldl_cons, ih, List.replicate_succ, List.flatten_cons]
          simp
      rw [this]
      simp
theorem op_mulS {X : Cx} : OpR X (binaryOp .Mult) rMulS := fun pins s σ H x y v u Q I rx ry h => by
  obtain ⟨l, n, rfl, rfl, h1, h2, q⟩ := h
  obtain ⟨t, rfl⟩ := rx
  obtain ⟨t', rfl⟩ := ry
  refine SB.mul ⟨?_, ?_, ?_⟩ fun t' tk => ⟨.str (S (List.replicate n l).flatten), H, I.tok _, ⟨_, by rw [mul_S]⟩, q⟩
  · rw [Bool.or_eq_false_iff]; exact ⟨decide_eq_false (by omega), decide_eq_false (by omega)⟩
  · intro hn _
    rw [S_len]
    have : (n : Int) * (l.length : Int) ≤ 2 ^ 63 - 1 := by
      have := Nat.mul_le_mul h2 h1
      have e : (n : Int) * (l.length : Int) = ((n * l.length : Nat) : Int) := by simp
      rw [e]; omega
    have := (Int.le_ediv_iff_mul_le (a := (l.length : Int)) (b := 2 ^ 63 - 1) (c := (n : Int)) (by omega)).mpr (by rw [Int.mul_comm]; exact this)
    omega
  · intro _ _
    rw [S_len, Int.toNat_natCast]
    have := Nat.mul_le_mul h1 h2
    unfold Builtin.Str.tooLong
    exact decide_eq_false (by rw [show sizeLine = 16777216 from rfl]; omega)
theorem i_mulS {l : List Nat} {n : Nat} {H : Hp} {Q : VK} (h1 : l.length ≤ 1000) (h2 : n ≤ 1000) (h : Q (.str (S (List.replicate n l).flatten)) H) : rMulS (.str (S l)) (.int (n : Int)) H Q := ⟨l, n, rfl, rfl, h1, h2, h⟩
/-! ### a def called by names alone -/
def tKw (sp : Sp) (gV : List V → List V → List V) (tk : TA) : TE := fun σ H Q => tk σ H fun zs H1 => sp (gV [] zs) H1 Q E0
section
variable (P : Program) (w : World) (K : PySem.W.Frag) (mg : Str → Option Value) (base : Heap)
def CalK (x : Str) (ps : List Str) (k : Nat) (sp : Sp) (ks : List Str) (g : List Value → List Value → List Value) (gV : List V → List V → List V) : Prop := ∃ (f : Addr) (fd : FuncData), FnOk P w K mg base CX0 k f fd ps sp ∧ mg x = some (.ref f) ∧ PySem.W.keepIn K (.ref f) = true ∧ KBinds K fd ps ks g gV
end
theorem Def.calK {P : Program} {w : World} {K : PySem.W.Frag} {mg : Str → Option Value} {base : Heap} {x : Str} {st : Stmt} {ps ks : List Str} {k : Nat} {sp : Sp} {g : List Value → List Value → List Value} {gV : List V → List V → List V} (d : Def K mg x st)
    (b : ∀ (kV doc pm : Value) (an : Option Addr) (cdv ct : Value) (us ws : List Value), (g us ws).length = ps.length → bindArgs (PySem.W.fnOf x x (defArgs st) (defBody st) (defScope st) .none kV doc pm an cdv ct) ⟨us, ks.zip ws⟩ = pure (ps.zip (g us ws)))
    (rel : ∀ {vs : List V} {us : List Value} {zs : List V} {ws : List Value}, Vals vs us → Vals zs ws → Vals (gV vs zs) (g us ws))
    (ok : ∀ (f : Addr) (fd : FuncData), Fun K x x st f fd → FnOk P w K mg base CX0 k f fd ps sp) : CalK P w K mg base x ps k sp ks g gV := by
  obtain ⟨f, fd, F, m⟩ := d
  have O := ok f fd F
  have kp := F.kp
  obtain ⟨oc, od, kV, doc, pm, an, cdv, ct, osl, rfl, lk, hcd⟩ := F.ex
  exact ⟨f, _, O, m, kp, fun s us ws _ hl => .of_eq (b kV doc pm an cdv ct us ws hl), rel⟩
section
variable {X : Cx} {x : Str} {ps ks : List Str} {k n : Nat} {sp : Sp} {g : List Value → List Value → List Value} {gV : List V → List V → List V} {kws : List Keyword} {tk : TA} {p pos : Pos}
theorem pe_calK (c : CalK X.prog X.w X.K X.mg X.base x ps k sp ks g gV) (hr : Room n X.A) (hkw : PK X kws tk) (hg : Gl X x := by rfl) (hk : k ≤ n := by decide)
    (hall : (backToKw pos (keywordEach kws X.env)).all (·.1.isSome) = true := by rfl) (hks : (backToKw pos (keywordEach kws X.env)).filterMap (·.1) = ks := by rfl) (hdb : (x == ("__debug__" : Str)) = false := by decide)
    (hpl : ((backTo pos (starEach [] X.env)).any (·.1) || (backToKw pos (keywordEach kws X.env)).any (·.1.isNone)) = false := by rfl) :
    PE X (.Call (.Name x p) [] kws pos) (tKw sp gV tk) := by
  obtain ⟨f, fd, F, m, kp, b⟩ := c
  refine ⟨fun pins s σ H Q I h => ?_⟩
  refine wpAny_Call_Name_kw (ld_glob I hg m ?_ hdb)
  refine PySem.W.callWith_KW0 (h₀ := X.base) I.ok.mod.kin kp hall (thn (hkw.run pos pins s σ H _ I h) fun ws s2 ⟨zs, H2, I2, rz, q2⟩ => ⟨I2.kIn, ?_⟩) hpl
  rw [hks]
  exact run_fnk F (hr.mono hk) b pass0 I2 .nil rz q2
theorem i_kw {σ : L2.St} {H : Hp} {Q : VK} (h : tk σ H fun zs H1 => sp (gV [] zs) H1 Q E0) : tKw sp gV tk σ H Q := h
end
end Sw
namespace Sw
open PySem PySem.Spec PyProof.Rows L2
/-! ### promises of defs that are called where nothing is being shown (repr) -/
structure FnG (P : Program) (w : World) (K : PySem.W.Frag) (mg : Str → Option Value) (base : Heap) (CX : CXT) (k : Nat) (f : Addr) (fd : FuncData) (ps : List Str) (sp : Sp) : Prop where
  len : ∀ xs M R X, sp xs M R X → xs.length = ps.length
  go : ∀ (A : Around) (out : List Env) (t : Shared) (M : Hp) (args : Args) (us : List Value) (xs : List V) (R : VK) (X : XK), Room k A → A.guards = some [] → Env0 P w K mg base A out t M → BindsTo t fd args (ps.zip us) → Vals xs us → sp xs M R X →
    codeAny (model P w) A (.call (.ref f) args) (CR CX out P w M t R X) t
section
variable {P : Program} {w : World} {K : PySem.W.Frag} {mg : Str → Option Value} {base : Heap} {CX : CXT} {k : Nat} {f : Addr} {fd : FuncData} {ps : List Str} {sp : Sp}
theorem FnG.of (F : FnOk P w K mg base CX k f fd ps sp) : FnG P w K mg base CX k f fd ps sp := ⟨F.len, fun A out t M args us xs R X room _ => F.run A out t M args us xs R X room⟩
theorem FnG.low {j : Nat} (F : FnG P w K mg base CX j f fd ps sp) (h : j ≤ k) : FnG P w K mg base CX k f fd ps sp := ⟨F.len, fun A out t M args us xs R X room => F.go A out t M args us xs R X (room.mono h)⟩
theorem Fun.okG {x qual : Str} {st : Stmt} {N : List Str} (F : Fun K x qual st f fd) (S : FnScope N ps (defScope st)) (len : ∀ xs M R X, sp xs M R X → xs.length = ps.length)
    (body : ∀ (cdv : Value) (A : Around) (out : List Env) (t : Shared) (M : Hp) (xs : List V) (R : VK) (X : XK), Room k (A.deeper (envOfC qual (defScope st) t.heap.objs.size f cdv)) → A.guards = some [] → sp xs M R X →
      ∃ r, PSs (cxOf CX P w K mg base N qual (defScope st) f cdv A out t M X) (defBody st) r ∧ r { nx := fun _ M' => R .non M', rt := R } (start N xs) M) : FnG P w K mg base CX (k + 1) f fd ps sp := by
  obtain ⟨oc, od, kV, doc, pm, an, cdv, ct, osl, rfl, found, coded⟩ := F.ex
  constructor
  · exact len
  intro A out t M args us xs R X room quiet env bind rel prom
  have count := len xs M R X prom
  have inHeap := env.mod.kin.keeps fun b o e => (env.bs b o e).1
  have quota := env.mod.nolimit.keeps fun b o e => (env.bs b o e).1
  have kinds : ∀ z ∈ ps.zip us, (defScope st).names.lookup z.1 = some .local ∨ ((defScope st).names.lookup z.1 = some .cell ∧ ((cellsFrom (t.heap.objs.size + 1) (defScope st).names []).lookup z.1).isSome = true) := by
    rintro ⟨n, v⟩ hz
    have hn := (List.of_mem_zip hz).1
    rcases S.par n hn with l | c
    · left; exact l
    · right; exact ⟨c, PySem.W.cellsFrom_some _ _ _ (.inl c)⟩
  apply codeAny_call_function room.depth (inHeap _ _ found) rfl S.co S.gen rfl (PySem.W.codeRec_of inHeap coded) (bind _ _ _ _ ?_)
  apply wpAny_newFunctionEnv_cells S.kind kinds
  intro env2 e2 t1 entry
  subst e2
  refine ⟨quota.keeps entry.toInCall.keep, codeAny_func ?_⟩
  obtain ⟨r, hr, runs⟩ := body cdv A out t M xs R X (room.deeper _) quiet prom
  have I := inv_start (CX := CX) (E := X) S room.hd env count rel entry
  apply wpAny_mono (hr.run [] t1 (start N xs) M _ I runs)
  · intro fl t' leaves
    cases fl with
    | ret u =>
      obtain ⟨v, σ', M', J, rv, q⟩ := leaves
      exact ⟨v, M', J.os, J.bare, J.base, J.hok, rv, q⟩
    | next =>
      obtain ⟨σ', M', J, q⟩ := leaves
      exact ⟨V.non, M', J.os, J.bare, J.base, J.hok, rfl, q⟩
    | brk => obtain ⟨_, _, _, q⟩ := leaves; exact q.elim
    | cont => obtain ⟨_, _, _, q⟩ := leaves; exact q.elim
  · exact fun _ _ z => z
end
section
variable {X : Cx} {ps : List Str} {k : Nat} {f : Addr} {fd : FuncData} {sp : Sp} {ds : List Value} {dvs : List V} {CX : CXT} {E : XK}
theorem run_G {pins : List (Addr × Obj)} {σ : L2.St} {M : Hp} {t : Shared} {R : VK} {us : List Value} {xs : List V} (F : FnG X.prog X.w X.K X.mg X.base CX k f fd ps sp) (room : Room k X.A) (quiet : X.A.guards = some []) (b : Binds X.K fd ps ds) (hd : Vals dvs ds) (px : Passes CX X E)
    (I : Inv X pins σ M t) (r : Vals xs us) (h : sp (xs ++ dvs) M R E) : wpAny (model X.prog X.w) X.A (call (.ref f) us) (EP X pins σ R) X.xe t := by
  have both := r.append hd
  have count : (us ++ ds).length = ps.length := both.length.symm.trans (F.len _ _ _ _ h)
  apply wpAny_call
  apply codeAny_mono (F.go X.A X.stack t M ⟨us, []⟩ (us ++ ds) (xs ++ dvs) R E room quiet I.env0 (b t us I.kIn count) both h)
  intro o t' q
  rcases o with e | fl
  · exact px pins σ M t e t' I q
  · cases fl with
    | ret u => exact I.after q
    | next => exact q.elim
    | brk => exact q.elim
    | cont => exact q.elim
end
section
variable (P : Program) (w : World) (K : PySem.W.Frag) (mg : Str → Option Value) (base : Heap)
def CalG (x : Str) (ps : List Str) (k : Nat) (sp : Sp) : Prop := ∃ (f : Addr) (fd : FuncData), FnG P w K mg base CX0 k f fd ps sp ∧ mg x = some (.ref f) ∧ PySem.W.keepIn K (.ref f) = true ∧ Binds K fd ps []
end
theorem Def.calG {P : Program} {w : World} {K : PySem.W.Frag} {mg : Str → Option Value} {base : Heap} {x : Str} {st : Stmt} {ps : List Str} {k : Nat} {sp : Sp} (d : Def K mg x st)
    (b : ∀ (kV doc pm : Value) (an : Option Addr) (cdv ct : Value) (us : List Value), us.length = ps.length → bindArgs (PySem.W.fnOf x x (defArgs st) (defBody st) (defScope st) .none kV doc pm an cdv ct) ⟨us, []⟩ = pure (ps.zip us))
    (ok : ∀ (f : Addr) (fd : FuncData), Fun K x x st f fd → FnG P w K mg base CX0 k f fd ps sp) : CalG P w K mg base x ps k sp := by
  obtain ⟨f, fd, F, m⟩ := d
  exact ⟨f, fd, ok f fd F, m, F.kp, F.binds b⟩
theorem pe_calG {X : Cx} {x : Str} {ps : List Str} {k n : Nat} {sp : Sp} {e : Expr} {es : List Expr} {t : TA} {p pos : Pos} (c : CalG X.prog X.w X.K X.mg X.base x ps k sp) (hr : Room n X.A) (quiet : X.A.guards = some []) (ha : PA X (e :: es) t) (hg : Gl X x := by rfl) (hk : k ≤ n := by decide)
    (hdb : (x == ("__debug__" : Str)) = false := by decide) (he : starEach (e :: es) X.env = (false, eval e X.env) :: starEach es X.env := by rfl) (hpl : (backTo pos (starEach es X.env)).any (·.1) = false := by rfl) :
    PE X (.Call (.Name x p) (e :: es) [] pos) (tCall sp [] E0 t) := by
  obtain ⟨f, fd, F, m, kp, b⟩ := c
  constructor
  intro pins s σ M R I h
  apply wpAny_Call_Name_kw (ld_glob I hg m ?_ hdb)
  exact PySem.W.callWith_K (h₀ := X.base) I.ok.mod.kin kp (thn (ha.run pos pins s σ M _ I h) fun us s1 ⟨xs, M1, I1, r, q⟩ => ⟨I1.kIn, run_G F (hr.mono hk) quiet b .nil pass0 I1 r q⟩) he hpl
/-! ### repr of data -/
def rRepD (K : PySem.W.Frag) : List V → Hp → VK → Prop := fun xs M R => ∃ x d, xs = [x] ∧ Dp K M x d ∧ d.showable = true ∧ d.hasDict = false ∧ d.depth ≤ 60 ∧ d.shown.length ≤ sizeLine ∧ R (.str d.shown) M
theorem call_repD {X : Cx} (quiet : X.A.guards = some []) (hu : X.A.units + 64 < cLine) : CallR X (.builtin "repr") (rRepD X.K) := by
  intro pins s σ M xs us R I r h
  obtain ⟨x, d, rfl, hd, sh, nd, dp, sz, q⟩ := h
  obtain ⟨u, rfl, ru⟩ := vals1 r
  obtain ⟨as, rd⟩ := Dp.reads I d x u hd ru
  cases hd with
  | non =>
    cases ru
    exact PySem.P.repr_of_none ⟨.str (PyData.shown .none), M, I.tok _, ⟨_, by simp only [PyData.shown]; rfl⟩, q⟩
  | bl b =>
    cases ru
    exact PySem.P.repr_of_bool ⟨.str (PyData.shown (.bool b)), M, I.tok _, ⟨_, by simp only [PyData.shown]; rfl⟩, q⟩
  | int i =>
    obtain ⟨t, rfl⟩ := ru
    exact PySem.P.repr_of_int (of_decide_eq_true (by simpa only [PyData.showable] using sh)) ⟨.str (PyData.shown (.int i)), M, I.tok _, ⟨_, by simp only [PyData.shown]; rfl⟩, q⟩
  | str z =>
    obtain ⟨t, rfl⟩ := ru
    exact PySem.P.repr_of_str ⟨.str (PyData.shown (.str z)), M, I.tok _, ⟨_, by simp only [PyData.shown]; rfl⟩, q⟩ (by simpa only [PyData.shown] using sz)
  | lst h1 h2 =>
    cases ru
    exact repr_of_reads' rd sh (PyData.noDict_hsm nd) quiet (by omega) (fun _ _ e => e) (fun h' t tk keep => ⟨.str _, M, I.kept (t' := tk) keep, ⟨t, rfl⟩, q⟩) sz
  | tup h1 h2 =>
    cases ru
    exact repr_of_reads' rd sh (PyData.noDict_hsm nd) quiet (by omega) (fun _ _ e => e) (fun h' t tk keep => ⟨.str _, M, I.kept (t' := tk) keep, ⟨t, rfl⟩, q⟩) sz
end Sw
namespace Sw
open PySem PySem.Spec PyProof.Rows L2
/-! ### the end of a law whose def is called where nothing is being shown -/
theorem law_G {P : Program} {w : World} {K : PySem.W.Frag} {mg mb : Str → Option Value} {k : Nat} {fa a : Addr} {fd : FuncData} {x : Str} {sp : Sp} {t : Shared} {vs : List Value} {ns : List Int}
    (inK : K.In t.heap) (gl : t.heap.Ns mainGlobals mg) (bl : t.heap.Ns builtinsNs mb) (bb : ∀ y : Str, y ≠ "__name__" → mb y = bootBuiltins y) (lim : t.heap.NoLimit) (quietGens : t.gens = #[])
    (script : t.heap.get? a = some { cls := .type "list", data := .seq vs.toArray }) (nums : IntsAre vs ns) (short : ns.length ≤ sizeLine) (room : Room k callerA)
    (F : ∀ base : Heap, K.In base → base.Ns mainGlobals mg → FnG P w K mg base CX0 k fa fd [x] sp) (bind : ∀ (s : Shared) (u : Value), BindsTo s fd ⟨[u], []⟩ [(x, u)])
    (prom : ∀ M : Hp, Only M → SqL K M a (ns.map V.int) → sp [.ref a] M (fun v _ => v = .bl true) E0) :
    codeAny (model P w) callerA (.call (.ref fa) ⟨[.ref a], []⟩) (fun r s' => r = .ok (.ret (.bool true)) ∧ OldK t.heap s'.heap ∧ s'.os = t.os ∧ AllBare s'.gens) t := by
  have vals := vals_ints nums
  have sameLen := nums.length
  -- tracked: the script alone, and only if the module does not hold it already
  let M : Hp := fun b => if b = a ∧ K.lookup a = none then some (.frz { cls := .type "list", data := .seq vs.toArray } (.lst (ns.map V.int))) else none
  have at_a : ∀ {b : Addr} {o : HO}, M b = some o → b = a ∧ K.lookup a = none ∧ o = .frz { cls := .type "list", data := .seq vs.toArray } (.lst (ns.map V.int)) := by
    intro b o q
    by_cases c : b = a ∧ K.lookup a = none
    · have q' := (if_pos c).symm.trans q
      exact ⟨c.1, c.2, (Option.some.inj q').symm⟩
    · have q' := (if_neg c).symm.trans q
      cases q'
  have only : Only M := by
    intro b
    by_cases c : b = a ∧ K.lookup a = none
    · right; exact ⟨_, _, if_pos c⟩
    · left; exact if_neg c
  have ok : HOk P w M t.heap := by
    intro b o q
    obtain ⟨rfl, _, rfl⟩ := at_a q
    exact ⟨script, by rw [List.length_map]; exact short, vs, _, vals, script⟩
  have known : SqL K M a (ns.map V.int) := by
    cases hk : K.lookup a with
    | none => exact .inl (.inr ⟨_, if_pos ⟨rfl, hk⟩⟩)
    | some o =>
      have e := inK a o hk
      rw [script] at e
      cases e
      exact .inr ⟨_, vs.toArray, _, hk, rfl, rfl, rfl, by rw [List.size_toArray, sameLen]; exact short, by simpa using vals⟩
  have under : ∀ {b : Addr} {o : Obj}, t.heap.get? b = some o → M b = none → (hidT t.heap M).get? b = some o := fun e n => hidT_get e n
  have dictFree : ∀ {b : Addr} {o : Obj} {es : Array DictEntry} {n : Nat}, t.heap.get? b = some o → o.data = .dict es n → M b = none := by
    intro b o es n e hd
    rcases q : M b with _ | u
    · rfl
    · obtain ⟨rfl, _, _⟩ := at_a q
      rw [script] at e
      cases e
      cases hd
  have names : ∀ {b : Addr} {m : Str → Option Value}, t.heap.Ns b m → (hidT t.heap M).Ns b m := by
    rintro b m ⟨o, es, n, e, hd, r⟩
    exact ⟨o, es, n, under e (dictFree e hd), hd, r⟩
  have baseIn : K.In (hidT t.heap M) := by
    intro b o e
    apply under (inK b o e)
    rcases q : M b with _ | u
    · rfl
    · obtain ⟨rfl, no, _⟩ := at_a q
      rw [no] at e
      cases e
  obtain ⟨mc, lim1, lim2⟩ := lim
  have env : Env0 P w K mg (hidT t.heap M) callerA [] t M :=
    ⟨rfl, ⟨baseIn, names gl, ⟨mb, names bl, bb⟩, ⟨mc, names lim1, lim2⟩⟩, fun b o e => of_hidT e, Nat.le_of_eq (hidT_size _ _), trivial, (fun b z => by have y : b ∈ ([] : List Addr) := z; simp at y), ok, .of_eq quietGens⟩
  apply codeAny_mono ((F _ baseIn (names gl)).go callerA [] t M ⟨[.ref a], []⟩ [.ref a] [.ref a] _ _ room rfl env (bind t (.ref a)) (.cons rfl .nil) (prom M only known))
  intro r s' q
  rcases r with e | fl
  · exact q.elim
  · cases fl with
    | next => exact q.elim
    | brk => exact q.elim
    | cont => exact q.elim
    | ret u =>
      obtain ⟨v, M', os, bare, un, ok', rel, said⟩ := q
      have said' : v = .bl true := said
      subst said'
      have isTrue : u = Value.bool true := rel
      subst isTrue
      refine ⟨rfl, OldK.of_keep ?_, os, bare⟩
      intro b o e
      rcases q : M b with _ | u
      · exact un.keep b o e q (fun z => by have y : b ∈ ([] : List Addr) := z; simp at y) (by simp)
      · obtain ⟨rfl, _, rfl⟩ := at_a q
        obtain ⟨e1, _⟩ := ok _ _ q
        obtain ⟨e2, _⟩ := ok' _ _ (un.frzs _ _ _ q)
        rw [e] at e1
        cases e1
        exact e2
theorem walk_G {l : PySem.W.OpenLaw} {n k : Nat} {q : Program} {loose : List Str} {XP : (Str → Option Value) → Heap → Prop} {YP : World → Heap → Prop} {d : DefRec} {K : Params → PySem.W.Frag} {sp : PySem.W.Frag → Sp} {x : Str}
    (many : l.most = some n) (few : n ≤ sizeLine) (plain : d.params.defaults = []) (room : Room k callerA) (inK : ∀ (w : World) (h : Heap), YP w h → (K w.params).In h)
    (F : ∀ (w : World) (mg : Str → Option Value) (fa : Addr) (h : Heap), (K w.params).In h → h.Ns mainGlobals mg → mg d.name = some (.ref fa) →
      ∃ fd : FuncData, (∀ (s : Shared) (u : Value), BindsTo s fd ⟨[u], []⟩ [(x, u)]) ∧ ∀ base : Heap, (K w.params).In base → base.Ns mainGlobals mg → FnG l.prog w (K w.params) mg base CX0 k fa fd [x] (sp (K w.params)))
    (prom : ∀ (K : PySem.W.Frag) (M : Hp) (a : Addr) (ns : List Int), ns.length ≤ n → Only M → SqL K M a (ns.map V.int) → sp K [.ref a] M (fun v _ => v = .bl true) E0) :
    PySem.W.WalkO q loose XP YP l.row.toRowW d [] (fun f vs => PySem.call f vs) := by
  apply Att.attach_call many plain
  intro w s₀ t mg mb fa o pm cd doc a vs ns G Y _ _ _ named script nums short gens
  have kin := inK w _ Y
  obtain ⟨fd, bind, hF⟩ := F w mg fa _ kin G.T.g named
  exact law_G kin G.T.g G.T.b G.T.builtins G.T.nolimit gens script nums (Nat.le_trans short few) room hF bind fun M o s => prom _ M a ns short o s
end Sw
/-! own exceptions over Exception, by own classes between, with own fields -/
namespace PySem
namespace SwE
open PySem.W PySem.Calls PyProof.Rows PySem.HandSPX
abbrev exT : List Value := [.type "Exception", .type "BaseException", .type "object"]
def over (rs : List Addr) : List Value := rs.map Value.ref ++ exT
theorem over_pass (self : Value) : ∀ rs : List Addr, refuseLoop self "__setattr__" (over rs) = pure ()
  | [] => F.store_Exception.passes self
  | r :: rs => by
    show refuseLoop self "__setattr__" (.ref r :: over rs) = pure ()
    rw [refuseLoop_ref]
    exact over_pass self rs
theorem over_has (T : String) : ∀ rs : List Addr, (over rs).contains (.type T) = exT.contains (.type T)
  | [] => rfl
  | r :: rs => by
    show (Value.ref r :: over rs).contains (.type T) = exT.contains (.type T)
    rw [List.contains_cons, over_has T rs]
    rfl
theorem over_cons (r : Addr) (rs : List Addr) : Value.ref r :: over rs = over (r :: rs) := rfl
section
open Builtin Builtin.ObjectAttr
variable {prog : Program} {w : World} {A : Around} {E : Value → Shared → Prop} {R : Result → Shared → Prop} {hp : Heap} {g : Array GenState} {d : Drawn} {t : Nat} {os : OsState}
/-- the first field of such an exception -/
theorem first_field {K : W.Frag} {name : Str} {tk : Tok} {v : Value} {x C : Addr} {fv : Array Value} {cd : ClassData} {rs : List Addr}
    (inK : K.In hp) (here : hp.get? x = some { cls := .ref C, data := .fields fv }) (cls : W.clsIn K C = some cd) (mro : cd.mro = over rs) (dict : cd.hasDict = true) (none' : W.findIn K (.ref C) name = some none)
    (hq : ∀ h' tk' dx, (∀ b o, b ≠ x → hp.get? b = some o → h'.get? b = some o) → hp.objs.size ≤ dx → dx ≠ x → h'.get? x = some { cls := .ref C, dict := some dx, data := .fields fv } →
      h'.Ns1 dx (fun y => if y = name then some v else none) → R (.ok (.ret .none)) ⟨h', g, d, tk', os⟩) :
    codeAny (model prog w) A (.call (.builtin "object.__setattr__") ⟨[.ref x, .str name tk, v], []⟩) R ⟨hp, g, d, t, os⟩ := by
  have inst : W.InstAt hp x { cls := .ref C, data := .fields fv } C none := ⟨here, rfl, rfl, trivial⟩
  have facts := F.store_object
  have isObj : cd.mro.contains (.type "object") = true := by rw [mro, over_has]; decide +kernel
  have notEmpty : cd.mro.isEmpty = false := by rw [mro]; cases rs <;> rfl
  have apart : x ≠ hp.objs.size := Nat.ne_of_lt (Heap.lt_size here)
  have sub : W.Looks (model prog w) hp (isInstance (.ref x) (.type "object")) true := inst.type.andThen (W.looks_mroIn inK (by unfold W.mroIn; rw [cls, Option.bind_some, if_neg (by rw [notEmpty]; decide), isObj]))
  apply codeAny_call_builtin facts.slot.plain facts.entry (@W.check_slot (model prog w) _ _ ⟨hp, g, d, t, os⟩ "object.__setattr__" "object" "__setattr__" (.ref x) [.str name tk, v] [] _ facts.kind facts.split sub (facts.args (.ref x) (.str name tk) v) ?_)
  have looksMro : W.Looks (model prog w) hp (mroOf (.ref C)) cd.mro := (W.looks_clsIn inK cls).andThen .now
  have noTaker : W.Looks (model prog w) hp (storeTaker? none) none := .now
  have looksCls : W.Looks (model prog w) hp (classData C) cd := W.looks_clsIn inK cls
  rw [W.osa_eq, refuse_eq]
  refine wpAny_bind (wpAny_bind (inst.type.at (wpAny_bind (looksMro.at ?_))))
  rw [mro, over_pass]
  refine wpAny_pure (wpAny_bind (inst.type.at (wpAny_bind ((W.looks_findIn inK none').at (wpAny_bind (noTaker.at ?_))))))
  show wpAny _ _ (storeInOwnDict (.ref x) (.ref C) (.str name tk) name v false) _ _ _
  obtain ⟨nm, bs, mr, ns, qn, hd, sn, sb, ab, col, del⟩ := cd
  dsimp only at dict
  subst dict
  unfold storeInOwnDict ownDictForStores
  repeat (first | with_reducible refine store_in_new ?_ ?_ | with_reducible refine wpAny_loadPart_at here ?_ | with_reducible refine looksCls.at ?_ | wp_step)
  · exact ⟨_, #[], _, (Heap.get?_update_ne _ _ _ _ apart.symm).trans (Heap.get?_push_at rfl rfl), rfl, fun e he => absurd he (by simp), fun _ => rfl⟩
  · intro h' tk' named same
    have still : (hp.push { cls := .type "dict", data := .dict #[] }).get? x = some { cls := .ref C, data := .fields fv } := Heap.get?_push_of_some _ here
    apply hq h' tk' hp.objs.size ?_ (Nat.le_refl _) apart.symm ?_ named
    · intro b o hb ho
      exact (same.2 b (Nat.ne_of_lt (Heap.lt_size ho))).trans ((Heap.get?_update_ne _ _ _ _ hb).trans (Heap.get?_push_of_some _ ho))
    · exact (same.2 x apart).trans (Heap.get?_update_self _ still rfl)
end
end SwE
end PySem
namespace Sw
open PySem PySem.Spec PyProof.Rows L2 PySem.SwE
/-- what the written part says of an own exception class over Exception -/
structure OexE (K : PySem.W.Frag) (C : Addr) : Prop where
  cls : ∃ nm q N bs rs sn sub ab col dd k0 k1 k2 k3 k5, K.lookup C = some (excClassObj nm q C N bs (over rs) true sn sub ab col dd k0 k1 k2 k3 k5 "Exception.__new__")
  sa : PySem.W.findIn K (.ref C) "__setattr__" = some (some (.builtin "object.__setattr__"))
  exC : PySem.W.subIn K (.ref C) (.type "BaseException") = some true
  tyC : PySem.W.typeIn K (.ref C) = some (.type "type")
  kC : PySem.W.keepIn K (.ref C) = true
section
variable {X : Cx} {pins : List (Addr × Obj)} {σ : L2.St} {H : Hp} {s : Shared} {a C dx : Addr} {f : Str} {y : V} {u : Value} {fs : List (Str × V)} {Q : Unit → Shared → Prop} {E : Value → Shared → Prop} {A : Around}
theorem field_new (T : OexE X.K C) (I : Inv X pins σ H s) (e : H a = some (exo a C none)) (no : PySem.W.findIn X.K (.ref C) f = some none) (ry : RelV y u)
    (h : ∀ dx s', H dx = none → dx ≠ a → Inv X pins σ (upd (upd H dx (exd dx [(f, y)])) a (exo a C (some dx))) s' → Q () s') : wpAny (model X.prog X.w) A (setAttr (.ref a) f u) Q E s := by
  obtain ⟨nm, q, N, bs, rs, sn, sub, ab, col, dd, k0, k1, k2, k3, k5, hC⟩ := T.cls
  have data : PySem.W.clsIn X.K C = some { name := nm, bases := bs, mro := .ref C :: over rs, ns := N, qualname := q, hasDict := true, slotNames := sn, subclasses := sub, abstract := ab, collection := col, hasDel := false } := by
    unfold PySem.W.clsIn
    rw [hC] <;> rfl
  obtain ⟨t1, there⟩ := exo_at I.hok e
  obtain ⟨hp, g, d, t, os⟩ := s
  apply PySem.W.set_plain I.kIn (ox := { cls := .ref C, dict := none, data := .fields #[.ref t1, .none, .none, .none, .bool false, .none] }) (od := none) ⟨there, rfl, rfl, trivial⟩ T.sa
  apply first_field I.kIn there data (over_cons C rs) rfl no
  intro h' tk' dx keep new apart now named
  have free : H dx = none := I.hok.fresh new
  have notNew : ∀ {b : Addr} {o : Obj}, hp.get? b = some o → b ≠ dx := fun z => Nat.ne_of_lt (Nat.lt_of_lt_of_le (Heap.lt_size z) new)
  have notIt : ∀ {b : Addr}, H b = none → b ≠ a := by
    rintro b n rfl
    rw [e] at n
    cases n
  have un : Un X.fs [] H (upd (upd H dx (exd dx [(f, y)])) a (exo a C (some dx))) hp h' := by
    constructor
    · exact fun b o z n _ _ => keep b o (notIt n) z
    · exact fun b o z n _ _ => ⟨o.slots, keep b o (notIt n) z⟩
    · intro b o z n _
      rw [upd_ne (notIt n), upd_ne (notNew z)]
      exact n
    · intro b o z _
      by_cases c : b = a
      · exact ⟨_, by rw [c]; exact now⟩
      · exact ⟨o, keep b o c z⟩
    · intro b xs z
      rw [upd_ne (at_ne e z exo_tup), upd_ne (ne_of_none z free)]
      exact z
    · intro b o v z
      rw [upd_ne (at_ne e z exo_frz), upd_ne (ne_of_none z free)]
      exact z
    · exact fun b ps z => ⟨#[], by rw [upd_ne (at_ne e z exo_tbl), upd_ne (ne_of_none z free), z]; simp⟩
  apply h dx _ free apart
  apply I.un (t' := tk') un
  intro b o z
  by_cases c : b = a
  · subst c
    rw [upd_same] at z
    cases z
    exact exo_ok now
  · rw [upd_ne c] at z
    by_cases c2 : b = dx
    · subst c2
      rw [upd_same] at z
      cases z
      exact exd_ok named (relO_put (fs := []) ry fun g => True.intro)
    · rw [upd_ne c2] at z
      apply (I.hok b o z).stay
      · intro cc v hc zz
        apply keep cc v _ zz
        rcases hc with hc | hc
        · rw [hc]; exact c
        · exact at_ne e hc exo_own
      · intro cc hc
        rw [upd_ne (at_ne e hc exo_own), upd_ne (ne_of_none hc free)]
        exact hc
      · intro cc xs hc
        rw [upd_ne (at_ne e hc exo_tup), upd_ne (ne_of_none hc free)]
        exact hc
/-- Exception.__init__(self, ..): nothing of it is told -/
theorem init_plain {us : List Value} {R : Value → Shared → Prop} (T : OexE X.K C) (I : Inv X pins σ H s) (e : H a = some (exo a C none)) (few : us.length ≤ sizeLine) (h : ∀ s', Inv X pins σ H s' → R .none s') :
    wpAny (model X.prog X.w) A (call (.builtin "Exception.__init__") (.ref a :: us)) R E s := by
  obtain ⟨nm, q, N, bs, rs, sn, sub, ab, col, dd, k0, k1, k2, k3, k5, hC⟩ := T.cls
  obtain ⟨t1, there⟩ := exo_at I.hok e
  obtain ⟨hp, g, d, t, os⟩ := s
  apply wpAny_call (PySem.HandSPX.init_base F.excBase_Exception (fun Y => over_has Y rs) (I.kIn _ _ hC) there few ?_)
  intro h' t2 keep now
  have J := I.write (t' := t) (x := a) (e := a) (o := exo a C none) (by rw [e]; exact True.intro) (.inl rfl) keep ⟨_, now⟩ (exo_ok now)
  have same : upd H a (exo a C none) = H := by
    funext b
    by_cases c : b = a
    · rw [c, upd_same, e]
    · rw [upd_ne c]
  rw [same] at J
  exact h _ J
end
/-- B.__init__(self, ..), B's own one being Exception's -/
def tInit (K : PySem.W.Frag) (ta : TA) : TE := fun σ H Q => ta σ H fun vs H1 => ∃ (a C : Addr) (ws : List V), vs = .ref a :: ws ∧ ws.length ≤ 1000 ∧ OexE K C ∧ H1 a = some (exo a C none) ∧ Q .non H1
/-- self.f = e, the first field -/
def tFst (K : PySem.W.Frag) (f : Str) (to te : TE) : TS := fun D σ H => te σ H fun y H1 => to σ H1 fun x H2 => ∃ a C : Addr, x = .ref a ∧ OexE K C ∧ PySem.W.findIn K (.ref C) f = some none ∧
  H2 a = some (exo a C none) ∧ ∀ dx, H2 dx = none → dx ≠ a → D.nx σ (upd (upd H2 dx (exd dx [(f, y)])) a (exo a C (some dx)))
section
variable {X : Cx} {o e : Expr} {es : List Expr} {to te : TE} {ta : TA} {f : Str} {p p' p1 p2 pos : Pos}
theorem ps_fst (ho : PE X o to) (he : PE X e te) (hs : swapsWith e (some (.Attribute o f p')) pos.line X.env = pure false := by rfl) : PS X (.Assign [.Attribute o f p'] e pos) (tFst X.K f to te) := by
  constructor
  intro pins s σ H D I h
  apply plainObj_wpAny_Assign_Attribute (thn (he.run pins s σ H _ I h) fun v s1 ⟨y, H1, I1, r1, q1⟩ => thn (ho.run pins s1 σ H1 _ I1 q1) fun u s2 ⟨x, H2, I2, r2, a, C, ex, T, no, ea, q⟩ => ?_) hs
  subst ex
  obtain rfl : u = Value.ref a := r2
  exact field_new T I2 ea no r1 fun dx s' n ne J => ⟨σ, _, J, q dx n ne⟩
theorem ps_init {x : Str} {B : Addr} {pl : Sem Bool} (hg : Gl X x) (hm : X.mg x = some (.ref B)) (ga : PySem.W.specialIn X.K (.ref B) "__getattribute__" = some (some (.builtin "type.__getattribute__"))) (tyB : PySem.W.typeIn X.K (.ref B) = some (.type "type"))
    (rd : PySem.W.readsIn X.K B (.type "type") = true) (fi : PySem.W.findCls X.K (.ref B) (.type "type") "__init__" = some (.val (.builtin "Exception.__init__"))) (ha : PA X (e :: es) ta)
    (hc : eval (.Call (.Attribute (.Name x p1) "__init__" p2) (e :: es) [] pos) X.env = (do
      let ov ← eval (.Name x p1) X.env
      standAt p2.atName
      let (f, first) ← holding [ov] (getMethod ov "__init__" pl)
      callWith pos f first (backTo pos (starEach (e :: es) X.env)) (backToKw pos (keywordEach [] X.env))) := by rfl)
    (hdb : (x == ("__debug__" : Str)) = false := by decide)
    (he : starEach (e :: es) X.env = (false, eval e X.env) :: starEach es X.env := by rfl) (hpl : (backTo pos (starEach es X.env)).any (·.1) = false := by rfl) :
    PE X (.Call (.Attribute (.Name x p1) "__init__" p2) (e :: es) [] pos) (tInit X.K ta) := by
  constructor
  intro pins s σ H Q I h
  apply PySem.W.methodCall_KW (ld_glob I hg hm ?_ hdb) hc
  apply PySem.W.method_cls I.kIn ga
  apply PySem.W.cls_value I.kIn rd fi (by decide +kernel)
  show wpAny _ _ (callWith pos (Value.builtin "Exception.__init__") [] (backTo pos (starEach (e :: es) X.env)) []) _ _ _
  apply PyProof.Rows.callWith_method1 (thn (ha.run pos pins _ σ H _ (I.tok _) h) fun us s1 ⟨vs, H1, I1, r1, a, C, ws, ev, hl, T, ea, q⟩ => ?_) he hpl
  subst ev
  cases r1 with
  | @cons _ u0 _ ur ra rest =>
    obtain rfl : u0 = Value.ref a := ra
    have few : ur.length ≤ sizeLine := by
      rw [← Paired.length rest, sizeLine_eq]
      omega
    exact init_plain T I1 ea few fun s' J => ⟨.non, H1, J, rfl, q⟩
end
end Sw
namespace Sw
open PySem PySem.Spec PyProof.Rows L2 PySem.SwE
section
variable {X : Cx} {e : Expr} {es : List Expr} {ta : TA} {p pos : Pos} {CX : CXT} {x : Str} {C fI : Addr} {k : Nat} {fd : FuncData} {ps : List Str} {sp : Sp}
/-- C(e, ..), C an own exception class over Exception whose __init__ keeps sp -/
theorem pmk_E (T : OexE X.K C) (iC : PySem.W.findIn X.K (.ref C) "__init__" = some (some (.ref fI))) (tI : PySem.W.typeIn X.K (.ref fI) = some (.type "function")) (F1 : FnOk X.prog X.w X.K X.mg X.base CX k fI fd ps sp) (room : Room (k + 1) X.A) (bd : Binds X.K fd ps [])
    (px : Passes CX X E0) (hm : X.mg x = some (.ref C)) (ha : PA X (e :: es) ta) (hg : Gl X x := by rfl)
    (hdb : (x == ("__debug__" : Str)) = false := by decide) (he : starEach (e :: es) X.env = (false, eval e X.env) :: starEach es X.env := by rfl) (hpl : (backTo pos (starEach es X.env)).any (·.1) = false := by rfl) :
    PMk X (.Call (.Name x p) (e :: es) [] pos) (tMkO C sp [] ta) := by
  intro pins s σ H Q I h
  obtain ⟨nm, q, N, bs, rs, sn, sub, ab, col, dd, k0, k1, k2, k3, k5, hC⟩ := T.cls
  refine wpAny_Call_Name_kw (ld_glob I hg hm ?_ hdb)
  refine PySem.W.callWith_K (h₀ := X.base) I.ok.mod.kin T.kC (thn (ha.run pos pins s σ H _ I h) fun us s1 ⟨vs, H1, I1, r1, few, q1⟩ => ⟨I1.kIn, ?_⟩) he hpl
  show wpAny _ _ (call (.ref C) us) _ _ _
  obtain ⟨hp, g, dr, tk, os⟩ := s1
  have le : hp.objs.size ≤ hp.objs.size + 1 := Nat.le_succ _
  have free : H1 (hp.objs.size + 1) = none := I1.hok.fresh le
  have said := q1 (hp.objs.size + 1) free
  have keep : ∀ b o, hp.get? b = some o → ((hp.push (PySem.W.kdv_tup us)).push (PySem.HandSPX.excO C hp.objs.size)).get? b = some o := fun b o z => Heap.get?_push_of_some _ (Heap.get?_push_of_some _ z)
  have made : ((hp.push (PySem.W.kdv_tup us)).push (PySem.HandSPX.excO C hp.objs.size)).get? (hp.objs.size + 1) = some (PySem.HandSPX.excO C hp.objs.size) := by heap_get
  have I2 : Inv X pins σ (upd H1 (hp.objs.size + 1) (exo (hp.objs.size + 1) C none)) ⟨(hp.push (PySem.W.kdv_tup us)).push (PySem.HandSPX.excO C hp.objs.size), g, dr, tk, os⟩ :=
    I1.laid (t' := tk) (a := hp.objs.size + 1) (o := exo (hp.objs.size + 1) C none) (h' := (hp.push (PySem.W.kdv_tup us)).push (PySem.HandSPX.excO C hp.objs.size)) keep le (exo_ok made)
  have both : Vals (V.ref (hp.objs.size + 1) :: (vs ++ [])) (Value.ref (hp.objs.size + 1) :: (us ++ [])) := .cons rfl (r1.append .nil)
  have count : (Value.ref (hp.objs.size + 1) :: us ++ []).length = ps.length := by
    have z := both.length
    rw [F1.len _ _ _ _ said] at z
    exact z.symm
  have bound := bd _ (Value.ref (hp.objs.size + 1) :: us) I2.kIn count
  rw [List.cons_append] at bound
  have few' : us.length ≤ sizeLine := by
    rw [← Paired.length r1, sizeLine_eq]
    omega
  refine wpAny_call (PySem.HandSPX.call_own F.excBase_Exception (fun Y => over_has Y rs) (I1.kIn _ _ hC) (PySem.W.looks_findIn I1.kIn iC) (fun self => PySem.W.bind_fn I1.kIn self tI) few' (codeAny_mono (F1.run _ X.stack _ _ ⟨Value.ref (hp.objs.size + 1) :: us, []⟩ (Value.ref (hp.objs.size + 1) :: (us ++ [])) _ _ E0
    (room.make C us []) (I2.env0.make C us []) bound both said) fun r s' z => ?_))
  rcases r with er | fl
  · exact px pins σ _ _ er s' I2 z
  · cases fl with
    | next => exact z.elim
    | brk => exact z.elim
    | cont => exact z.elim
    | ret u =>
      obtain ⟨v, H2, os2, bare, un, ok, rv, ev, d, fs, ea, ed, hd1, q2⟩ := z
      subst ev
      obtain ⟨h2, g2, d2, t2, os'⟩ := s'
      exact ⟨rv, mk_end (raises_own T.exC T.tyC) I1 le keep un ok os2 bare ea ed hd1 q2⟩
end
end Sw
namespace Sw
open PySem PySem.Spec PyProof.Rows L2 PySem.SwE
/-! ### defs that may let out an exception -/
theorem Fun.okX {P : Program} {w : World} {K : PySem.W.Frag} {mg : Str → Option Value} {base : Heap} {k : Nat} {f : Addr} {fd : FuncData} {ps : List Str} {sp : Sp} {x qual : Str} {st : Stmt} {N : List Str} (F : Fun K x qual st f fd) (S : FnScope N ps (defScope st)) (len : ∀ xs M R X, sp xs M R X → xs.length = ps.length)
    (body : ∀ (cdv : Value) (A : Around) (out : List Env) (t : Shared) (M : Hp) (xs : List V) (R : VK) (E : XK), Room k (A.deeper (envOfC qual (defScope st) t.heap.objs.size f cdv)) → sp xs M R E →
      Takes (cxOf (L2.CX P w) P w K mg base N qual (defScope st) f cdv A out t M E) (fun cls d _ M' => E cls d M') →
      ∃ r, PSs (cxOf (L2.CX P w) P w K mg base N qual (defScope st) f cdv A out t M E) (defBody st) r ∧ r { nx := fun _ M' => R .non M', rt := R } (start N xs) M) : FnOk P w K mg base (L2.CX P w) (k + 1) f fd ps sp := by
  obtain ⟨oc, od, kV, doc, pm, an, cdv, ct, osl, rfl, found, coded⟩ := F.ex
  exact fn_of found coded S len fun A out t M xs R E room prom => body cdv A out t M xs R E room prom (takes_of rfl rfl rfl rfl)
section
variable (P : Program) (w : World) (K : PySem.W.Frag) (mg : Str → Option Value) (base : Heap)
def CalX (x : Str) (ps : List Str) (k : Nat) (sp : Sp) : Prop := ∃ (f : Addr) (fd : FuncData), FnOk P w K mg base (L2.CX P w) k f fd ps sp ∧ mg x = some (.ref f) ∧ PySem.W.keepIn K (.ref f) = true ∧ Binds K fd ps []
def CalKX (x : Str) (ps : List Str) (k : Nat) (sp : Sp) (ks : List Str) (g : List Value → List Value → List Value) (gV : List V → List V → List V) : Prop := ∃ (f : Addr) (fd : FuncData), FnOk P w K mg base (L2.CX P w) k f fd ps sp ∧ mg x = some (.ref f) ∧ PySem.W.keepIn K (.ref f) = true ∧ KBinds K fd ps ks g gV
end
section
variable {P : Program} {w : World} {K : PySem.W.Frag} {mg : Str → Option Value} {base : Heap} {x : Str} {st : Stmt} {ps ks : List Str} {k : Nat} {sp : Sp}
theorem Def.calX (d : Def K mg x st)
    (b : ∀ (kV doc pm : Value) (an : Option Addr) (cdv ct : Value) (us : List Value), us.length = ps.length → bindArgs (PySem.W.fnOf x x (defArgs st) (defBody st) (defScope st) .none kV doc pm an cdv ct) ⟨us, []⟩ = pure (ps.zip us))
    (ok : ∀ (f : Addr) (fd : FuncData), Fun K x x st f fd → FnOk P w K mg base (L2.CX P w) k f fd ps sp) : CalX P w K mg base x ps k sp := by
  obtain ⟨f, fd, F, m⟩ := d
  exact ⟨f, fd, ok f fd F, m, F.kp, F.binds b⟩
theorem Def.calKX {g : List Value → List Value → List Value} {gV : List V → List V → List V} (d : Def K mg x st)
    (b : ∀ (kV doc pm : Value) (an : Option Addr) (cdv ct : Value) (us ws : List Value), (g us ws).length = ps.length → bindArgs (PySem.W.fnOf x x (defArgs st) (defBody st) (defScope st) .none kV doc pm an cdv ct) ⟨us, ks.zip ws⟩ = pure (ps.zip (g us ws)))
    (rel : ∀ {vs : List V} {us : List Value} {zs : List V} {ws : List Value}, Vals vs us → Vals zs ws → Vals (gV vs zs) (g us ws))
    (ok : ∀ (f : Addr) (fd : FuncData), Fun K x x st f fd → FnOk P w K mg base (L2.CX P w) k f fd ps sp) : CalKX P w K mg base x ps k sp ks g gV := by
  obtain ⟨f, fd, F, m⟩ := d
  have O := ok f fd F
  have kp := F.kp
  obtain ⟨oc, od, kV, doc, pm, an, cdv, ct, osl, rfl, lk, hcd⟩ := F.ex
  exact ⟨f, _, O, m, kp, fun s us ws _ hl => .of_eq (b kV doc pm an cdv ct us ws hl), rel⟩
end
def tKwS (sp : Sp) (gV : List V → List V → List V) (E : L2.St → XK) (tk : TA) : TE := fun σ H Q => tk σ H fun zs H1 => sp (gV [] zs) H1 Q (E σ)
section
variable {X : Cx} {x : Str} {ps ks : List Str} {k n : Nat} {sp : Sp} {e : Expr} {es : List Expr} {t : TA} {p pos : Pos} {W : WX} {g : List Value → List Value → List Value} {gV : List V → List V → List V} {kws : List Keyword}
theorem pe_calX (c : CalX X.prog X.w X.K X.mg X.base x ps k sp) (hr : Room n X.A) (tk : Takes X W) (ha : PA X (e :: es) t) (hg : Gl X x := by rfl) (hk : k ≤ n := by decide)
    (hdb : (x == ("__debug__" : Str)) = false := by decide) (he : starEach (e :: es) X.env = (false, eval e X.env) :: starEach es X.env := by rfl) (hpl : (backTo pos (starEach es X.env)).any (·.1) = false := by rfl) :
    PE X (.Call (.Name x p) (e :: es) [] pos) (tCallS sp (WE W) t) := by
  obtain ⟨f, fd, F, m, kp, b⟩ := c
  exact pe_callS F (hr.mono hk) hg m kp b (passAt tk) ha hdb he hpl
theorem i_callS {σ : L2.St} {H : Hp} {Q : VK} {E : L2.St → XK} (h : t σ H fun vs H1 => sp vs H1 Q (E σ)) : tCallS sp E t σ H Q := h
theorem pe_calKX (c : CalKX X.prog X.w X.K X.mg X.base x ps k sp ks g gV) (hr : Room n X.A) (tk : Takes X W) (hkw : PK X kws t) (hg : Gl X x := by rfl) (hk : k ≤ n := by decide)
    (hall : (backToKw pos (keywordEach kws X.env)).all (·.1.isSome) = true := by rfl) (hks : (backToKw pos (keywordEach kws X.env)).filterMap (·.1) = ks := by rfl) (hdb : (x == ("__debug__" : Str)) = false := by decide)
    (hpl : ((backTo pos (starEach [] X.env)).any (·.1) || (backToKw pos (keywordEach kws X.env)).any (·.1.isNone)) = false := by rfl) :
    PE X (.Call (.Name x p) [] kws pos) (tKwS sp gV (WE W) t) := by
  obtain ⟨f, fd, F, m, kp, b⟩ := c
  constructor
  intro pins s σ H Q I h
  apply wpAny_Call_Name_kw (ld_glob I hg m ?_ hdb)
  refine PySem.W.callWith_KW0 (h₀ := X.base) I.ok.mod.kin kp hall (thn (hkw.run pos pins s σ H _ I h) fun ws s2 ⟨zs, H2, I2, rz, q⟩ => ⟨I2.kIn, ?_⟩) hpl
  rw [hks]
  have rel := b.rel (vs := []) (us := []) .nil rz
  have count : (g [] ws).length = ps.length := by rw [← rel.length]; exact F.len _ _ _ _ q
  apply wpAny_call
  apply codeAny_mono (F.run X.A X.stack s2 H2 ⟨[], ks.zip ws⟩ (g [] ws) (gV [] zs) Q (WE W σ) (hr.mono hk) I2.env0 (b.to s2 [] ws I2.kIn count) rel q)
  intro o s' z
  rcases o with er | fl
  · exact passAt tk σ pins H2 s2 er s' I2 z
  · cases fl with
    | ret u => exact I2.after z
    | next => exact z.elim
    | brk => exact z.elim
    | cont => exact z.elim
theorem i_kwS {σ : L2.St} {H : Hp} {Q : VK} {E : L2.St → XK} (h : t σ H fun zs H1 => sp (gV [] zs) H1 Q (E σ)) : tKwS sp gV E t σ H Q := h
end
theorem takes_none {X : Cx} : Takes X (fun _ _ _ _ => False) := fun u s' z => by
  obtain ⟨a, B, sI, pins, σ, H, cls, d, e, I, nb, up, sky, na, os, ag, w⟩ := z
  exact w.elim
end Sw
namespace Sw
open PySem PySem.Spec PyProof.Rows L2 PySem.SwE
/-- InvalidText.__init__(self, given) -/
def spInit (K : PySem.W.Frag) : Sp := fun vs H Q _ => ∃ (a C : Addr) (v : V), vs = [.ref a, v] ∧ H a = some (exo a C none) ∧ OexE K C ∧ PySem.W.findIn K (.ref C) "given" = some none ∧
  ∀ dx, H dx = none → dx ≠ a → Q .non (upd (upd H dx (exd dx [("given", v)])) a (exo a C (some dx)))
/-- what the written part says of the class that is called over -/
structure Over (K : PySem.W.Frag) (mg : Str → Option Value) (B : Addr) : Prop where
  hm : mg "CodecError" = some (.ref B)
  ga : PySem.W.specialIn K (.ref B) "__getattribute__" = some (some (.builtin "type.__getattribute__"))
  ty : PySem.W.typeIn K (.ref B) = some (.type "type")
  rd : PySem.W.readsIn K B (.type "type") = true
  fi : PySem.W.findCls K (.ref B) (.type "type") "__init__" = some (.val (.builtin "Exception.__init__"))
theorem i_init {K : PySem.W.Frag} {ta : TA} {σ : L2.St} {H : Hp} {Q : VK} (h : ta σ H fun vs H1 => ∃ (a C : Addr) (ws : List V), vs = .ref a :: ws ∧ ws.length ≤ 1000 ∧ OexE K C ∧ H1 a = some (exo a C none) ∧ Q .non H1) : tInit K ta σ H Q := h
theorem i_fst {K : PySem.W.Frag} {f : Str} {to te : TE} {D : Ends} {σ : L2.St} {H : Hp} (h : te σ H fun y H1 => to σ H1 fun x H2 => ∃ a C : Addr, x = .ref a ∧ OexE K C ∧ PySem.W.findIn K (.ref C) f = some none ∧
  H2 a = some (exo a C none) ∧ ∀ dx, H2 dx = none → dx ≠ a → D.nx σ (upd (upd H2 dx (exd dx [(f, y)])) a (exo a C (some dx)))) : tFst K f to te D σ H := h
/-- the class InvalidText, as it stands behind the top -/
structure XT (P : Program) (w : World) (K : PySem.W.Frag) (mg : Str → Option Value) (base : Heap) (C : Addr) : Prop where
  T : OexE K C
  xf : XfC K C
  no : PySem.W.findIn K (.ref C) "given" = some none
  hm : mg "InvalidText" = some (.ref C)
  me : PySem.W.exmOne K (.ref C) (.ref C) = some true
  ini : ∃ (fI : Addr) (fd : FuncData), PySem.W.findIn K (.ref C) "__init__" = some (some (.ref fI)) ∧ PySem.W.typeIn K (.ref fI) = some (.type "function") ∧ FnOk P w K mg base CX0 1 fI fd ["self", "given"] (spInit K) ∧ Binds K fd ["self", "given"] []
theorem pmk_T {X : Cx} {C : Addr} {n : Nat} {e : Expr} {te : TE} {p pos : Pos} (xt : XT X.prog X.w X.K X.mg X.base C) (hr : Room n X.A) (he : PE X e te) (hn : 2 ≤ n := by decide) (hg : Gl X "InvalidText" := by rfl)
    (he2 : starEach [e] X.env = (false, eval e X.env) :: starEach [] X.env := by rfl) : PMk X (.Call (.Name "InvalidText" p) [e] [] pos) (tMkO C (spInit X.K) [] (tCons te tNil)) := by
  obtain ⟨fI, fd, h1, h2, h3, h4⟩ := xt.ini
  exact pmk_E xt.T h1 h2 h3 (hr.mono hn) h4 pass0 xt.hm (pa_cons he pa_nil he2) hg (by decide) he2 (by rfl)
def Thrown (K : PySem.W.Frag) (C : Addr) (vs : List V) (H1 : Hp) (Q : XK) : Prop := vs.length ≤ 1000 ∧ ∀ a, H1 a = none → spInit K (.ref a :: (vs ++ [])) (upd H1 a (exo a C none))
  (fun v H2 => v = .non ∧ ∃ (d : Addr) (fs : List (Str × V)), H2 a = some (exo a C (some d)) ∧ H2 d = some (exd d fs) ∧ H1 d = none ∧ Q (.ref C) (some d) (upd (del H2 a) d (.xd fs))) (fun _ _ _ => False)
theorem i_mk {K : PySem.W.Frag} {C : Addr} {ta : TA} {σ : L2.St} {H : Hp} {Q : XK} (h : ta σ H fun vs H1 => Thrown K C vs H1 Q) : tMkO C (spInit K) [] ta σ H Q := h
def tRs (t : L2.St → Hp → XK → Prop) (W : WX) : TS := fun _ σ H => t σ H fun cls d H' => W cls d σ H'
theorem ps_rs {X : Cx} {W : WX} {e : Expr} {t : L2.St → Hp → XK → Prop} {pos : Pos} (hc : X.calm = true) (tk : Takes X W) (he : PMk X e t) : PS X (.Raise (some e) none pos) (tRs t W) := L2.ps_raise hc tk he
theorem i_raise {t : L2.St → Hp → XK → Prop} {W : WX} {D : Ends} {σ : L2.St} {H : Hp} (h : t σ H fun cls d H' => W cls d σ H') : tRs t W D σ H := h
theorem i_thrown {K : PySem.W.Frag} {C : Addr} {v : V} {H1 : Hp} {Q : XK} (T : OexE K C) (no : PySem.W.findIn K (.ref C) "given" = some none) (h : ∀ dx, H1 dx = none → Q (.ref C) (some dx) (upd H1 dx (.xd [("given", v)]))) : Thrown K C [v] H1 Q := by
  refine ⟨by simp, fun a na => ⟨a, C, v, rfl, upd_same, T, no, fun dx nx ne => ⟨rfl, dx, [("given", v)], upd_same, ?_, ?_, ?_⟩⟩⟩
  · rw [upd_ne ne, upd_same]
  · rw [upd_ne ne] at nx; exact nx
  · rw [upd_ne ne] at nx
    have e : upd (del (upd (upd (upd H1 a (exo a C none)) dx (exd dx [("given", v)])) a (exo a C (some dx))) a) dx (.xd [("given", v)]) = upd H1 dx (.xd [("given", v)]) := by
      funext b
      by_cases c : b = dx
      · rw [c, upd_same, upd_same]
      · rw [upd_ne c, upd_ne c]
        by_cases c2 : b = a
        · rw [c2, del_same, na]
        · rw [del_ne c2, upd_ne c2, upd_ne c, upd_ne c2]
    rw [e]
    exact h dx nx
theorem i_dnew {σ : L2.St} {H : Hp} {Q : VK} (h : ∀ p, H p = none → Q (.ref p) (upd H p (.dK []))) : tDNewK σ H Q := h
end Sw
namespace Sw
open PySem PySem.Spec PyProof.Rows L2
/-! ### try with several clauses that name the error -/
inductive AsOk (X : Cx) (Wo : WX) : List ExceptHandler → (Ends → WX) → Prop
  | nil : AsOk X Wo [] fun _ => Wo
  | cons {x n : Str} {c : Value} {i : Nat} {ts : Addr → Value → Option Addr → TS} {st : Stmt} {more : List Stmt} {p1 p2 : Pos} {hds : List ExceptHandler} {W : Ends → WX}
      (hi : X.N[i]? = some n) (hl : X.env.kindOf n = some .local) (hc : Names X x c)
      (su : ∀ (a : Addr) (o : Obj) (cls : Value) (d : Option Addr) (pn : List (Addr × Obj)), Zc cls d o → (∃ vs, o.data = .fields vs) → PSs (X.suite a ((a, o) :: pn)) (st :: more) (ts a cls d))
      (rest : AsOk X Wo hds W) : AsOk X Wo (.ExceptHandler (some (.Name x p1)) (some n) (st :: more) p2 :: hds) fun D => wAs X.K c i ts (W D) D
theorem ps_tries {X : Cx} {Wo : WX} {W : Ends → WX} {body : List Stmt} {h₀ : ExceptHandler} {hds : List ExceptHandler} {pos : Pos} {tb : WX → TS} (hs : X.stack = X.env :: X.outer) (hf : X.env.frame = some X.env.locals) (nd : X.N.Nodup) (tk : Takes X Wo)
    (hb : ∀ (V : WX) (pn : List (Addr × Obj)) (xe : Value → Shared → Prop), Takes (X.tr pn xe) V → PassesOwn (model X.prog X.w) X.A X.env xe → PSs (X.tr pn xe) body (tb V))
    (hh : AsOk X Wo (h₀ :: hds) W) : PS X (.Try body (h₀ :: hds) [] [] pos) fun D σ H => tb (W D) D σ H := by
  constructor
  intro pins s σ H D I h
  have ok := I.ok
  have fr : X.A.frames = some (X.env :: X.outer) := by rw [← hs]; exact ok.frames
  let after : Value → Shared → Prop := fun e s₁ => wpAny (model X.prog X.w) X.A (noteFrame e X.env) (fun _ s₂ => wpAny (model X.prog X.w) X.A (setFlight e none) (fun _ s₃ => wpAny (model X.prog X.w) X.A (handleBy e X.env (h₀ :: hds)) (SP X pins D) X.xe s₃) X.xe s₂) X.xe s₁
  have run := (hb (W D) (X.pn ++ pins) after (fun u s' air => ?_) PassesOwn.looking).run [] s σ H D (I.toTry _) h
  · refine wpAny_Try_except (wpAny_mono run (fun f s1 z => ?_) fun _ _ z => z)
    cases f <;> obtain ⟨_, _, z⟩ := z
    · exact wpAny_execs_nil ⟨_, _, z.1.ofTry ok, z.2⟩
    · exact ⟨_, _, z.1.ofTry ok, z.2⟩
    · exact ⟨_, _, z.1.ofTry ok, z.2⟩
    · obtain ⟨H', J, r, q⟩ := z
      exact ⟨_, _, _, J.ofTry ok, r, q⟩
  · obtain ⟨a, B, sI, pins', σ', H', cls, d, rfl, J0, nb, up, sky, na, os, ag, w⟩ := air
    have J := J0.ofTry ok
    show wpAny (model X.prog X.w) X.A (noteFrame (.ref a) X.env) _ _ _
    refine Sky.land Zc.steady fr hf (by rw [← hs]; exact sky) fun h3 fl3 up3 => ?_
    have J3 : Inv X pins σ' H' { s' with heap := h3 } := J.landed nb fl3.1 (up.trans up3) os ag
    obtain ⟨o3, vs3, ho3, z3, d3⟩ := fl3.there
    have out : a ∉ frs (X.env :: X.outer) := fun hm => by
      obtain ⟨_, o', e', hn⟩ := fl3.2.2.1.mem hm
      cases ho3.symm.trans e'
      exact hn _ d3
    have nL : a ≠ X.env.locals := fun z => out (List.mem_filterMap.mpr ⟨_, List.mem_cons_self, by rw [hf, z]⟩)
    have nF : a ∉ X.fs := fun hm => by
      obtain ⟨e, he, q⟩ := List.mem_filterMap.mp hm
      exact out (List.mem_filterMap.mpr ⟨e, List.mem_cons_of_mem _ he, q⟩)
    have S3 := J3.suite ho3 d3 na nL nF
    clear h
    revert w
    generalize h₀ :: hds = all at hh
    intro w
    induction hh with
    | nil =>
      refine wpAny_handleBy_nil ?_
      obtain ⟨_, _, _, o, vs, T, _, _, g1, _, g2, g3, _⟩ := id fl3
      unfold PySem.passOn
      refine wpAny_bind (wpAny_field g1 g2 g3 ?_)
      rw [if_neg (by simp : ¬ (Value.ref T == Value.none) = true)]
      have away : wpAny (model X.prog X.w) X.A (setFlight (.ref a) X.env.frame) (fun _ s4 => wpAny (model X.prog X.w) X.A (throw (.ref a) : Sem Flow) (SP X pins D) X.xe s4) X.xe { s' with heap := h3 } := by
        rw [hf]
        exact HandSPX.setFlight_upZ fl3 fun h4 hh4 up4 => wpAny_throw (tk _ _ ⟨a, B, sI, pins, σ', H', cls, d, rfl, J, nb, (up.trans up3).trans up4, .inr (.inr (by rw [hs]; exact hh4)), na, os, ag, w⟩)
      first | exact wpAny_bind (wpAny_pure (wpAny_bind away)) | exact wpAny_bind away
    | @cons x n c i ts st more p1 p2 hds W hi hl hc su rest ih =>
      obtain ⟨b, hb1, yes, no⟩ := w
      refine wpAny_handleBy_cons (codeAny_handlers_test ?_) (by intro q; cases q)
      have ty : PySem.W.Looks (model X.prog X.w) h3 (typeOf (.ref a)) cls := fun _ _ _ s k q => wpAny_typeOf_ref (k _ _ ho3) (by rw [z3.1]; exact q)
      have hit := PySem.W.exm_one (M := model X.prog X.w) J3.kIn ty hb1
      have name : ∀ {Q E : Value → Shared → Prop}, Q c { s' with heap := h3 } → wpAny (model X.prog X.w) (X.A.mark (some (.ref a))) (eval (.Name x p1) X.env) Q E { s' with heap := h3 } := fun q => by
        obtain ⟨hg, hd, ⟨hm⟩ | ⟨hm, hv, hn⟩⟩ := hc
        · exact ld_glob (X := X.suite a ((a, o3) :: (X.pn ++ pins))) S3 hg (by assumption) q hd
        · exact ld_blt (X := X.suite a ((a, o3) :: (X.pn ++ pins))) S3 hg hm hv q hn hd
      refine name (hit.here ?_)
      cases b with
      | false => exact ih (no rfl)
      | true =>
        refine codeAny_handlers_suite_as (HandSPX.lands_againZ fl3 fun h4 fl4 up4 => ?_)
        obtain ⟨o4, vs4, ho4, z4, d4⟩ := fl4.there
        have J4 : Inv X pins σ' H' { s' with heap := h4 } := J.landed nb fl4.1 ((up.trans up3).trans up4) os ag
        refine store_ok (X := X.suite a ((a, o4) :: (X.pn ++ pins))) (v := .ref a) (J4.suite ho4 d4 na nL nF) nd hi (.inl hl) rfl (fun s5 S5 => ?_) (.inr hl)
        refine wpAny_mono ((su a o4 cls d (X.pn ++ pins) z4 ⟨_, d4⟩).run [] s5 _ H' _ S5 (yes rfl a na)) (fun f s6 z => ?_) fun _ _ z => z.elim
        have bye : ∀ {σ6 : L2.St} {H6 : Hp} {Q : Shared → Prop}, Inv (X.suite a ((a, o4) :: (X.pn ++ pins))) [] σ6 H6 s6 → (∀ s7, Inv X pins (σ6.set i none) H6 s7 → Q s7) →
            wpAny (model X.prog X.w) X.A (do bindName X.env n .none; unbindBehindTheSuite X.env n p2) (fun _ s7 => Q s7) X.xe s6 := fun S6 hq => gone_ok (S6.unsuite ok) nd hi hl hq
        cases f <;> obtain ⟨_, _, z⟩ := z
        · exact bye z.1 fun s7 J7 => ⟨_, _, J7, z.2⟩
        · exact bye z.1 fun s7 J7 => ⟨_, _, J7, z.2⟩
        · exact bye z.1 fun s7 J7 => ⟨_, _, J7, z.2⟩
        · obtain ⟨H6, S6, r6, q6⟩ := z
          exact bye S6 fun s7 J7 => ⟨_, _, _, J7, r6, q6⟩
end Sw
namespace Sw
open PySem PySem.Spec PyProof.Rows L2
/-- isinstance(e, c), e the caught error, its fields at d -/
def rIsEd (K : PySem.W.Frag) (a : Addr) (cls : Value) (d : Option Addr) : List V → Hp → VK → Prop := fun xs H Q => ∃ (D c dd : Addr) (fs : List (Str × V)) (b : Bool), xs = [.ref a, .ref c] ∧ cls = .ref D ∧ ExcC K D ∧ d = some dd ∧ H dd = some (.xd fs) ∧ PySem.W.kitOne K (.ref D) (.ref c) = some b ∧ Q (.bl b) H
theorem call_isEd {X : Cx} {a : Addr} {oe : Obj} {cls : Value} {d : Option Addr} {pn : List (Addr × Obj)} (hz : Zc cls d oe) (hf : ∃ vs, oe.data = .fields vs) : CallR (X.suite a ((a, oe) :: pn)) (.builtin "isinstance") (rIsEd X.K a cls d) := by
  intro pins s σ H xs us Q I r h
  obtain ⟨D, c, dd, fs, b, rfl, rfl, C, rfl, ea, e, q⟩ := h
  cases r with
  | cons rx rr =>
    cases rr with
    | cons rt rr =>
      cases rr
      cases rx
      cases rt
      obtain ⟨hget, _⟩ := I.pin (a, oe) (List.mem_append.mpr (.inl List.mem_cons_self))
      obtain ⟨vs, hv⟩ := hf
      have hx : ObjOk X.prog X.w H s.heap dd (.xd fs) := I.hok dd _ ea
      obtain ⟨mA, hns, hr⟩ := hx
      obtain ⟨od, ho, hl⟩ := lookIn_ns hns
      have J : PySem.W.InstAt s.heap a oe D (some od) := ⟨hget, hz.1, by unfold PySem.W.notCls; rw [hv] <;> rfl, by rw [hz.2]; exact ho⟩
      exact PySem.W.kia_one (PySem.W.kitx_exc (by obtain ⟨cd, hc, _⟩ := PySem.W.any_some C.hd; rw [hc]; rfl) C.hg C.hk C.hs C.ha C.hn C.ht C.hm) I.kIn J e (fun z => nomatch z) fun tk => ⟨.bl b, H, I.kept (t' := tk) fun _ _ z => z, rfl, q⟩
end Sw
namespace Sw
open PySem PySem.Spec PyProof.Rows L2
/-! ### data with dicts in it -/
def keyD : Key → PyData
  | .inl i => .int i
  | .inr x => .str x
mutual
inductive De (K : PySem.W.Frag) (H : Hp) : V → PyData → Prop
  | non : De K H .non .none
  | bl (b : Bool) : De K H (.bl b) (.bool b)
  | int (i : Int) : De K H (.int i) (.int i)
  | str (x : Str) : De K H (.str x) (.str x)
  | lst {a : Addr} {xs : List V} {ds : List PyData} : H a = some (.lst xs) → sysModules < a → DeAll K H xs ds → De K H (.ref a) (.list ds)
  | tup {a : Addr} {xs : List V} {ds : List PyData} : SqT K H a xs → DeAll K H xs ds → De K H (.ref a) (.tuple ds)
  | dict {a : Addr} {kvs : List (Key × V)} {ds : List (PyData × PyData)} : H a = some (.dK kvs) → DeKv K H kvs ds → De K H (.ref a) (.dict ds)
inductive DeAll (K : PySem.W.Frag) (H : Hp) : List V → List PyData → Prop
  | nil : DeAll K H [] []
  | cons {v : V} {vs : List V} {d : PyData} {ds : List PyData} : De K H v d → DeAll K H vs ds → DeAll K H (v :: vs) (d :: ds)
inductive DeKv (K : PySem.W.Frag) (H : Hp) : List (Key × V) → List (PyData × PyData) → Prop
  | nil : DeKv K H [] []
  | cons {k : Key} {v : V} {vs : List (Key × V)} {d : PyData} {ds : List (PyData × PyData)} : De K H v d → DeKv K H vs ds → DeKv K H ((k, v) :: vs) ((keyD k, d) :: ds)
end
theorem key_reads {h : Heap} {k : Key} {u : Value} (e : keyIs k u = true) : Reads h u (keyD k) [] := by
  rcases keyIs_shape e with ⟨i, t, rfl, rfl⟩ | ⟨x, t, rfl, rfl⟩
  · exact .int i t
  · exact .str x t
section
variable {X : Cx} {pins : List (Addr × Obj)} {σ : L2.St} {H : Hp} {s : Shared}
mutual
theorem De.reads (I : Inv X pins σ H s) : ∀ (d : PyData) (v : V) (u : Value), De X.K H v d → RelV v u → ∃ as, Reads s.heap u d as ∧ sysModules ∉ as
  | .none, _, _, h, r => by
    cases h
    cases r
    exact ⟨_, Reads.none, by simp⟩
  | .bool b, _, _, h, r => by
    cases h
    cases r
    exact ⟨_, Reads.bool b, by simp⟩
  | .int i, _, _, h, r => by
    cases h
    obtain ⟨t, rfl⟩ := r
    exact ⟨_, Reads.int i t, by simp⟩
  | .str x, _, _, h, r => by
    cases h
    obtain ⟨t, rfl⟩ := r
    exact ⟨_, Reads.str x t, by simp⟩
  | .list ds, _, _, h, r => by
    cases h with
    | lst hs hlt ha =>
      cases r
      obtain ⟨its, rv, ⟨o, n, ho, hc, _, hd⟩, _⟩ := I.list (.inl (.inl hs))
      obtain ⟨as, hr, hn⟩ := De.readsAll I ds _ its ha rv
      exact ⟨_, Reads.list ho hc hd hr, by
        intro z
        rcases List.mem_cons.mp z with z | z
        · exact Nat.lt_irrefl _ (z ▸ hlt)
        · exact hn z⟩
  | .tuple ds, _, _, h, r => by
    cases h with
    | tup hs ha =>
      cases r
      obtain ⟨its, rv, ⟨o, ho, hc, n, hd⟩, _⟩ := I.tuple hs
      obtain ⟨as, hr, hn⟩ := De.readsAll I ds _ its ha rv
      exact ⟨_, Reads.tuple ho hc hd hr, hn⟩
  | .dict ds, _, _, h, r => by
    cases h with
    | dict hs ha =>
      cases r
      obtain ⟨_, notSys, vs, kv, o, es, ep, ho, ex, hd, _, pr, _⟩ : ObjOk X.prog X.w H s.heap _ (.dK _) := I.hok _ _ hs
      obtain ⟨as, bs, hr1, hr2, hn1, hn2⟩ := De.readsKv I ds _ vs es.toList ha kv pr
      exact ⟨_, Reads.dict ho ex.1 hd hr1 hr2, by
        intro z
        rcases List.mem_append.mp z with z | z
        · rcases List.mem_cons.mp z with z | z
          · rw [← z] at notSys
            exact absurd notSys (by decide)
          · exact hn1 z
        · exact hn2 z⟩
theorem De.readsAll (I : Inv X pins σ H s) : ∀ (ds : List PyData) (vs : List V) (us : List Value), DeAll X.K H vs ds → Vals vs us → ∃ as, ReadsAll s.heap us ds as ∧ sysModules ∉ as
  | [], _, _, h, r => by
    cases h
    cases r
    exact ⟨_, ReadsAll.nil, by simp⟩
  | d :: ds, _, _, h, r => by
    cases h with
    | cons h1 h2 =>
      cases r with
      | cons r1 r2 =>
        obtain ⟨as, q1, n1⟩ := De.reads I d _ _ h1 r1
        obtain ⟨bs, q2, n2⟩ := De.readsAll I ds _ _ h2 r2
        exact ⟨_, ReadsAll.cons q1 q2, fun z => (List.mem_append.mp z).elim n1 n2⟩
theorem De.readsKv (I : Inv X pins σ H s) : ∀ (ds : List (PyData × PyData)) (kvs : List (Key × V)) (vs : List (Key × Value)) (es : List DictEntry), DeKv X.K H kvs ds → KV kvs vs → Pairs (mixKind X.prog X.w) es vs →
    ∃ as bs, ReadsAll s.heap (es.map (·.key)) (ds.map (·.1)) as ∧ ReadsAll s.heap (es.map (·.val)) (ds.map (·.2)) bs ∧ sysModules ∉ as ∧ sysModules ∉ bs
  | [], _, _, _, h, r, p => by
    cases h
    cases r
    cases p
    exact ⟨_, _, ReadsAll.nil, ReadsAll.nil, by simp, by simp⟩
  | d :: ds, _, _, _, h, r, p => by
    cases h with
    | cons h1 h2 =>
      cases r with
      | cons r1 r2 =>
        cases p with
        | cons p1 p2 p3 =>
          obtain ⟨as, q1, n1⟩ := De.reads I _ _ _ h1 r1.2
          obtain ⟨bs, cs, q2, q3, n2, n3⟩ := De.readsKv I _ _ _ _ h2 r2 p3
          refine ⟨[] ++ bs, as ++ cs, ?_, ?_, by simpa using n2, fun z => (List.mem_append.mp z).elim n1 n3⟩
          · rw [List.map_cons, List.map_cons]
            refine .cons (key_reads ?_) q2
            have e := r1.1
            dsimp only at e
            rw [e]
            exact p1
          · rw [List.map_cons, List.map_cons]
            refine .cons ?_ q3
            rw [p2]
            exact q1
end
/-! ### small data -/
mutual
def sok : PyData → Bool
  | .str z => PyData.strOk z
  | .list xs => sokAll xs
  | .tuple xs => sokAll xs
  | _ => true
def sokAll : List PyData → Bool
  | [] => true
  | x :: xs => sok x && sokAll xs
end
mutual
theorem sok_lay : ∀ {d : PyData}, sok d = true → d.hasDict = false → d.canLay0 = true
  | .none, _, _ => by simp only [PyData.canLay0]
  | .bool _, _, _ => by simp only [PyData.canLay0]
  | .int _, _, _ => by simp only [PyData.canLay0]
  | .str z, h, _ => by simp only [PyData.canLay0]; simpa only [sok] using h
  | .list xs, h, z => by
    simp only [PyData.canLay0]
    exact sokAll_lay (by simpa only [sok] using h) (by simpa only [PyData.hasDict] using z)
  | .tuple xs, h, z => by
    simp only [PyData.canLay0]
    exact sokAll_lay (by simpa only [sok] using h) (by simpa only [PyData.hasDict] using z)
  | .dict _, _, z => by simp only [PyData.hasDict] at z; cases z
theorem sokAll_lay : ∀ {ds : List PyData}, sokAll ds = true → PyData.hasDictAll ds = false → PyData.canLayAll0 ds = true
  | [], _, _ => by simp only [PyData.canLayAll0]
  | d :: ds, h, z => by
    simp only [sokAll, Bool.and_eq_true] at h
    simp only [PyData.hasDictAll, Bool.or_eq_false_iff] at z
    simp only [PyData.canLayAll0, sok_lay h.1 z.1, sokAll_lay h.2 z.2, Bool.and_self]
end
structure Sd (n w : Nat) (d : PyData) : Prop where
  dep : d.depth ≤ n
  wei : d.weight ≤ w
  sh : d.showable = true
  ls : d.leavesShort 60 = true
  ok : sok d = true
structure SdAll (n w : Nat) (ds : List PyData) : Prop where
  dep : PyData.depthAll ds ≤ n
  wei : PyData.weightAll ds ≤ w
  sh : PyData.showableAll ds = true
  ls : PyData.leavesShortAll 60 ds = true
  ok : sokAll ds = true
theorem Sd.mono {n w n' w' : Nat} {d : PyData} (s : Sd n w d) (h1 : n ≤ n') (h2 : w ≤ w') : Sd n' w' d := ⟨Nat.le_trans s.dep h1, Nat.le_trans s.wei h2, s.sh, s.ls, s.ok⟩
theorem SdAll.mono {n w n' w' : Nat} {d : List PyData} (s : SdAll n w d) (h1 : n ≤ n') (h2 : w ≤ w') : SdAll n' w' d := ⟨Nat.le_trans s.dep h1, Nat.le_trans s.wei h2, s.sh, s.ls, s.ok⟩
theorem SdAll.nil {n : Nat} : SdAll n 0 [] := ⟨by simp only [PyData.depthAll]; omega, by simp only [PyData.weightAll]; omega, by simp only [PyData.showableAll], by simp only [PyData.leavesShortAll], by simp only [sokAll]⟩
theorem SdAll.cons {n w v : Nat} {d : PyData} {ds : List PyData} (h : Sd n w d) (k : SdAll n v ds) : SdAll n (w + 1 + v) (d :: ds) := by
  obtain ⟨a1, a2, a3, a4, a5⟩ := h
  obtain ⟨b1, b2, b3, b4, b5⟩ := k
  exact ⟨by simp only [PyData.depthAll]; omega, by simp only [PyData.weightAll]; omega, by simp only [PyData.showableAll, a3, b3, Bool.and_self], by simp only [PyData.leavesShortAll, a4, b4, Bool.and_self], by simp only [sokAll, a5, b5, Bool.and_self]⟩
theorem SdAll.inv {n w : Nat} {d : PyData} {ds : List PyData} (h : SdAll n w (d :: ds)) : ∃ u v, u + 1 + v ≤ w ∧ Sd n u d ∧ SdAll n v ds := by
  obtain ⟨a1, a2, a3, a4, a5⟩ := h
  simp only [PyData.depthAll] at a1
  simp only [PyData.weightAll] at a2
  simp only [PyData.showableAll, Bool.and_eq_true] at a3
  simp only [PyData.leavesShortAll, Bool.and_eq_true] at a4
  simp only [sokAll, Bool.and_eq_true] at a5
  exact ⟨d.weight, PyData.weightAll ds, by omega, ⟨by omega, Nat.le_refl _, a3.1, a4.1, a5.1⟩, ⟨by omega, Nat.le_refl _, a3.2, a4.2, a5.2⟩⟩
theorem SdAll.app {n : Nat} : ∀ {w v : Nat} {ds es : List PyData}, SdAll n w ds → SdAll n v es → SdAll n (w + v) (ds ++ es)
  | _, _, [], _, _, k => k.mono (Nat.le_refl _) (by omega)
  | _, _, d :: ds, es, h, k => by
    obtain ⟨a, b, hab, h1, h2⟩ := h.inv
    exact (SdAll.cons h1 (h2.app k)).mono (Nat.le_refl _) (by omega)
theorem SdAll.take {n : Nat} : ∀ {w : Nat} {ds : List PyData} (k : Nat), SdAll n w ds → SdAll n w (ds.take k)
  | _, ds, 0, _ => by rw [List.take_zero]; exact SdAll.nil.mono (Nat.le_refl _) (by omega)
  | _, [], k + 1, h => by rw [List.take_nil]; exact h
  | _, d :: ds, k + 1, h => by
    obtain ⟨a, b, hab, h1, h2⟩ := h.inv
    rw [List.take_succ_cons]
    exact (SdAll.cons h1 (h2.take k)).mono (Nat.le_refl _) (by omega)
theorem SdAll.drop {n : Nat} : ∀ {w : Nat} {ds : List PyData} (k : Nat), SdAll n w ds → SdAll n w (ds.drop k)
  | _, ds, 0, h => h
  | _, [], k + 1, h => by rw [List.drop_nil]; exact h
  | _, d :: ds, k + 1, h => by
    obtain ⟨a, b, hab, h1, h2⟩ := h.inv
    rw [List.drop_succ_cons]
    exact (h2.drop k).mono (Nat.le_refl _) (by omega)
theorem SdAll.get {n : Nat} : ∀ {w : Nat} {ds : List PyData} {d : PyData}, SdAll n w ds → d ∈ ds → Sd n w d
  | _, d :: ds, e, h, hm => by
    obtain ⟨a, b, hab, h1, h2⟩ := h.inv
    rcases List.mem_cons.mp hm with rfl | hm
    · exact h1.mono (Nat.le_refl _) (by omega)
    · exact (h2.get hm).mono (Nat.le_refl _) (by omega)
theorem sd_all {n w : Nat} : ∀ {ds : List PyData}, (∀ d ∈ ds, Sd n w d) → SdAll n (ds.length * (w + 1)) ds
  | [], _ => SdAll.nil.mono (Nat.le_refl _) (by omega)
  | d :: ds, h => (SdAll.cons (h d List.mem_cons_self) (sd_all (ds := ds) fun x hx => h x (List.mem_cons_of_mem _ hx))).mono (Nat.le_refl _) (by rw [List.length_cons, Nat.succ_mul]; omega)
theorem sd_lst' {n w : Nat} {ds : List PyData} (h : SdAll n w ds) : Sd (n + 1) w (.list ds) := by
  obtain ⟨b1, b2, b3, b4, b5⟩ := h
  exact ⟨by simp only [PyData.depth]; omega, by simp only [PyData.weight]; exact b2, by simp only [PyData.showable, b3], by simp only [PyData.leavesShort, b4], by simp only [sok, b5]⟩
theorem sd_tup' {n w : Nat} {ds : List PyData} (h : SdAll n w ds) : Sd (n + 1) w (.tuple ds) := by
  obtain ⟨b1, b2, b3, b4, b5⟩ := h
  exact ⟨by simp only [PyData.depth]; omega, by simp only [PyData.weight]; exact b2, by simp only [PyData.showable, b3], by simp only [PyData.leavesShort, b4], by simp only [sok, b5]⟩
theorem sd_lst {n w : Nat} {ds : List PyData} (h : ∀ d ∈ ds, Sd n w d) : Sd (n + 1) (ds.length * (w + 1)) (.list ds) := sd_lst' (sd_all h)
theorem sd_tup {n w : Nat} {ds : List PyData} (h : ∀ d ∈ ds, Sd n w d) : Sd (n + 1) (ds.length * (w + 1)) (.tuple ds) := sd_tup' (sd_all h)
theorem Sd.tupI {n w : Nat} {ds : List PyData} (s : Sd (n + 1) w (.tuple ds)) : SdAll n w ds := by
  obtain ⟨b1, b2, b3, b4, b5⟩ := s
  simp only [PyData.depth] at b1
  exact ⟨by omega, by simpa only [PyData.weight] using b2, by simpa only [PyData.showable] using b3, by simpa only [PyData.leavesShort] using b4, by simpa only [sok] using b5⟩
theorem Sd.lstI {n w : Nat} {ds : List PyData} (s : Sd (n + 1) w (.list ds)) : SdAll n w ds := by
  obtain ⟨b1, b2, b3, b4, b5⟩ := s
  simp only [PyData.depth] at b1
  exact ⟨by omega, by simpa only [PyData.weight] using b2, by simpa only [PyData.showable] using b3, by simpa only [PyData.leavesShort] using b4, by simpa only [sok] using b5⟩
theorem sd_non : Sd 0 0 .none := ⟨by simp only [PyData.depth]; omega, by simp only [PyData.weight]; omega, by simp only [PyData.showable], by simp only [PyData.leavesShort], by simp only [sok]⟩
theorem sd_bl (b : Bool) : Sd 0 0 (.bool b) := ⟨by simp only [PyData.depth]; omega, by simp only [PyData.weight]; omega, by simp only [PyData.showable], by simp only [PyData.leavesShort], by simp only [sok]⟩
theorem sd_emp : Sd 1 0 (.dict []) := ⟨by simp only [PyData.depth, PyData.depthKv]; omega, by simp only [PyData.weight, PyData.weightKv]; omega, by simp only [PyData.showable, PyData.showableKv], by simp only [PyData.leavesShort, PyData.leavesShortKv], by simp only [sok]⟩
theorem strOk_lt' {l : List Nat} (h : ∀ c ∈ l, c ≤ 1000) : PyData.strOk (S l) = true := by
  unfold PyData.strOk
  rw [Array.all_eq_true]
  intro i hi
  have q := h (l[i]'(by simpa [S] using hi)) (List.getElem_mem _)
  have e : (S l).cps[i] = l[i]'(by simpa [S] using hi) := by simp [S]
  rw [e]
  exact decide_eq_true (by omega)
theorem sd_str {l : List Nat} (h : ∀ c ∈ l, c ≤ 1000) : Sd 0 l.length (.str (S l)) := by
  refine ⟨by simp only [PyData.depth]; omega, by simp only [PyData.weight, S_size]; omega, by simp only [PyData.showable], ?_, by simp only [sok]; exact strOk_lt' h⟩
  simp only [PyData.leavesShort]
  rw [List.all_eq_true]
  intro c hc
  have : c ∈ l := by simpa [S] using hc
  exact decide_eq_true (by have := h c this; omega)
theorem sd_intW {i : Int} {n k : Nat} (h : i.natAbs < 10 ^ 40) (h2 : i.natAbs < 2 ^ k) : Sd 0 k (.int i) := by
  refine ⟨by simp only [PyData.depth]; omega, ?_, ?_, ?_, by simp only [sok]⟩
  · simp only [PyData.weight]
    split
    · omega
    · rename_i z
      have z' : i.natAbs ≠ 0 := by
        intro e
        have : i = 0 := by omega
        rw [this] at z
        exact z rfl
      have := (Nat.log2_lt z' (k := k)).mpr h2
      omega
  · simp only [PyData.showable]
    refine decide_eq_true ?_
    by_cases z : i.natAbs = 0
    · rw [z]; decide
    · have := (Nat.log2_lt z (k := 139)).mpr (Nat.lt_of_lt_of_le h (by decide))
      omega
  · simp only [PyData.leavesShort]
    have e := int_text_length_le10 (k := 40) (by decide) h
    refine decide_eq_true ?_
    show (Str.ofString (toString i)).length ≤ 60
    rw [PySem.ofString_length]
    omega
theorem sd_int {i : Int} (h : i.natAbs < 10 ^ 40) : Sd 0 140 (.int i) := sd_intW (n := 0) h (Nat.lt_of_lt_of_le h (by decide))
/-- an int of a few digits -/
theorem sd_int9 {i : Int} (h : i.natAbs < 512) : Sd 0 9 (.int i) := sd_intW (n := 0) (Nat.lt_of_lt_of_le h (by decide)) (by omega)
theorem Sd.len {n w : Nat} {d : PyData} (s : Sd n w d) (hw : w ≤ 270000) : d.shown.length ≤ sizeLine := by
  have := PyData.shown_le 60 (by omega) d s.ls
  have h2 := s.wei
  have : d.shown.length ≤ 62 * 270000 + 60 := Nat.le_trans this (by omega)
  exact Nat.le_trans this (by decide)
end
def rRepE (K : PySem.W.Frag) : List V → Hp → VK → Prop := fun xs M R => ∃ x d n w, xs = [x] ∧ (De K M x d ∨ (Dp K M x d ∧ d.hasDict = false)) ∧ Sd n w d ∧ n ≤ 60 ∧ w ≤ 270000 ∧ R (.str d.shown) M
theorem call_repE {X : Cx} (quiet : X.A.guards = some []) (hu : X.A.units + 64 < cLine) : CallR X (.builtin "repr") (rRepE X.K) := by
  intro pins s σ M xs us R I r h
  obtain ⟨x, d, n, w, rfl, hd, sd, hn, hw, q⟩ := h
  obtain ⟨u, rfl, ru⟩ := vals1 r
  have sz := sd.len hw
  have dp := sd.dep
  rcases hd with hd | ⟨hd, nd⟩
  rotate_left
  · obtain ⟨as, rd⟩ := Dp.reads I d x u hd ru
    cases hd with
    | non =>
      cases ru
      exact PySem.P.repr_of_none ⟨.str (PyData.shown .none), M, I.tok _, ⟨_, by simp only [PyData.shown]; rfl⟩, q⟩
    | bl b =>
      cases ru
      exact PySem.P.repr_of_bool ⟨.str (PyData.shown (.bool b)), M, I.tok _, ⟨_, by simp only [PyData.shown]; rfl⟩, q⟩
    | int i =>
      obtain ⟨t, rfl⟩ := ru
      exact PySem.P.repr_of_int (of_decide_eq_true (by simpa only [PyData.showable] using sd.sh)) ⟨.str (PyData.shown (.int i)), M, I.tok _, ⟨_, by simp only [PyData.shown]; rfl⟩, q⟩
    | str z =>
      obtain ⟨t, rfl⟩ := ru
      exact PySem.P.repr_of_str ⟨.str (PyData.shown (.str z)), M, I.tok _, ⟨_, by simp only [PyData.shown]; rfl⟩, q⟩ (by simpa only [PyData.shown] using sz)
    | lst h1 h2 =>
      cases ru
      exact repr_of_reads' rd sd.sh (PyData.noDict_hsm nd) quiet (by omega) (fun _ _ e => e) (fun h' t tk keep => ⟨.str _, M, I.kept (t' := tk) keep, ⟨t, rfl⟩, q⟩) sz
    | tup h1 h2 =>
      cases ru
      exact repr_of_reads' rd sd.sh (PyData.noDict_hsm nd) quiet (by omega) (fun _ _ e => e) (fun h' t tk keep => ⟨.str _, M, I.kept (t' := tk) keep, ⟨t, rfl⟩, q⟩) sz
  obtain ⟨as, rd, nn⟩ := De.reads I d x u hd ru
  cases hd with
  | non =>
    cases ru
    exact PySem.P.repr_of_none ⟨.str (PyData.shown .none), M, I.tok _, ⟨_, by simp only [PyData.shown]; rfl⟩, q⟩
  | bl b =>
    cases ru
    exact PySem.P.repr_of_bool ⟨.str (PyData.shown (.bool b)), M, I.tok _, ⟨_, by simp only [PyData.shown]; rfl⟩, q⟩
  | int i =>
    obtain ⟨t, rfl⟩ := ru
    exact PySem.P.repr_of_int (of_decide_eq_true (by simpa only [PyData.showable] using sd.sh)) ⟨.str (PyData.shown (.int i)), M, I.tok _, ⟨_, by simp only [PyData.shown]; rfl⟩, q⟩
  | str z =>
    obtain ⟨t, rfl⟩ := ru
    exact PySem.P.repr_of_str ⟨.str (PyData.shown (.str z)), M, I.tok _, ⟨_, by simp only [PyData.shown]; rfl⟩, q⟩ (by simpa only [PyData.shown] using sz)
  | lst h1 h0 h2 =>
    cases ru
    exact repr_of_reads' rd sd.sh (fun _ => nn) quiet (by omega) (fun _ _ e => e) (fun h' t tk keep => ⟨.str _, M, I.kept (t' := tk) keep, ⟨t, rfl⟩, q⟩) sz
  | tup h1 h2 =>
    cases ru
    exact repr_of_reads' rd sd.sh (fun _ => nn) quiet (by omega) (fun _ _ e => e) (fun h' t tk keep => ⟨.str _, M, I.kept (t' := tk) keep, ⟨t, rfl⟩, q⟩) sz
  | dict h1 h2 =>
    cases ru
    exact repr_of_reads' rd sd.sh (fun _ => nn) quiet (by omega) (fun _ _ e => e) (fun h' t tk keep => ⟨.str _, M, I.kept (t' := tk) keep, ⟨t, rfl⟩, q⟩) sz
theorem i_repE {K : PySem.W.Frag} {M : Hp} {x : V} {d : PyData} {n w : Nat} {R : VK} (h : De K M x d) (s : Sd n w d) (hn : n ≤ 60 := by omega) (hw : w ≤ 270000 := by omega) (k : R (.str d.shown) M) : rRepE K [x] M R := ⟨x, d, n, w, rfl, .inl h, s, hn, hw, k⟩
theorem i_repP {K : PySem.W.Frag} {M : Hp} {x : V} {d : PyData} {n w : Nat} {R : VK} (h : Dp K M x d) (z : d.hasDict = false) (s : Sd n w d) (hn : n ≤ 60 := by omega) (hw : w ≤ 270000 := by omega) (k : R (.str d.shown) M) : rRepE K [x] M R := ⟨x, d, n, w, rfl, .inr ⟨h, z⟩, s, hn, hw, k⟩
/-! ### what is kept -/
mutual
theorem De.same {K : PySem.W.Frag} {H H' : Hp} (s : Same H H') : ∀ {v : V} {d : PyData}, De K H v d → De K H' v d
  | _, _, .non => .non
  | _, _, .bl b => .bl b
  | _, _, .int i => .int i
  | _, _, .str x => .str x
  | _, _, .lst h1 h0 h2 => .lst (s _ _ h1) h0 (DeAll.same s h2)
  | _, _, .tup h1 h2 => .tup (Same.sqT s h1) (DeAll.same s h2)
  | _, _, .dict h1 h2 => .dict (s _ _ h1) (DeKv.same s h2)
theorem DeAll.same {K : PySem.W.Frag} {H H' : Hp} (s : Same H H') : ∀ {vs : List V} {ds : List PyData}, DeAll K H vs ds → DeAll K H' vs ds
  | _, _, .nil => .nil
  | _, _, .cons h1 h2 => .cons (De.same s h1) (DeAll.same s h2)
theorem DeKv.same {K : PySem.W.Frag} {H H' : Hp} (s : Same H H') : ∀ {vs : List (Key × V)} {ds : List (PyData × PyData)}, DeKv K H vs ds → DeKv K H' vs ds
  | _, _, .nil => .nil
  | _, _, .cons h1 h2 => .cons (De.same s h1) (DeKv.same s h2)
end
theorem DeAll.len {K : PySem.W.Frag} {H : Hp} : ∀ {vs : List V} {ds : List PyData}, DeAll K H vs ds → vs.length = ds.length
  | _, _, .nil => rfl
  | _, _, .cons _ h2 => by rw [List.length_cons, List.length_cons, h2.len]
theorem DeAll.get {K : PySem.W.Frag} {H : Hp} : ∀ {vs : List V} {ds : List PyData} {i : Nat} {v : V}, DeAll K H vs ds → vs[i]? = some v → ∃ d, ds[i]? = some d ∧ De K H v d
  | _, _, _, _, .nil, e => by simp at e
  | _, _, 0, _, .cons h1 _, e => by simp at e; subst e; exact ⟨_, rfl, h1⟩
  | _, _, i + 1, v, .cons _ h2, e => by
    obtain ⟨d, h1, h3⟩ := h2.get (i := i) (v := v) (by simpa using e)
    exact ⟨d, by simpa using h1, h3⟩
theorem DeAll.app {K : PySem.W.Frag} {H : Hp} : ∀ {vs ws : List V} {ds es : List PyData}, DeAll K H vs ds → DeAll K H ws es → DeAll K H (vs ++ ws) (ds ++ es)
  | _, _, _, _, .nil, h => h
  | _, _, _, _, .cons h1 h2, h => .cons h1 (h2.app h)
theorem DeAll.take {K : PySem.W.Frag} {H : Hp} : ∀ {vs : List V} {ds : List PyData} (n : Nat), DeAll K H vs ds → DeAll K H (vs.take n) (ds.take n)
  | _, _, 0, _ => by rw [List.take_zero, List.take_zero]; exact .nil
  | _, _, n + 1, .nil => by rw [List.take_nil, List.take_nil]; exact .nil
  | _, _, n + 1, .cons h1 h2 => .cons h1 (h2.take n)
theorem DeAll.drop {K : PySem.W.Frag} {H : Hp} : ∀ {vs : List V} {ds : List PyData} (n : Nat), DeAll K H vs ds → DeAll K H (vs.drop n) (ds.drop n)
  | _, _, 0, h => h
  | _, _, n + 1, .nil => by rw [List.drop_nil, List.drop_nil]; exact .nil
  | _, _, n + 1, .cons _ h2 => h2.drop n
mutual
theorem De.dp {K : PySem.W.Frag} {H : Hp} : ∀ {v : V} {d : PyData}, De K H v d → d.hasDict = false → Dp K H v d
  | _, _, .non, _ => .non
  | _, _, .bl b, _ => .bl b
  | _, _, .int i, _ => .int i
  | _, _, .str x, _ => .str x
  | _, _, .lst h1 _ h2, z => .lst (.inl (.inl h1)) (h2.dp (by simpa only [PyData.hasDict] using z))
  | _, _, .tup h1 h2, z => .tup h1 (h2.dp (by simpa only [PyData.hasDict] using z))
  | _, _, .dict _ _, z => by simp only [PyData.hasDict] at z; cases z
theorem DeAll.dp {K : PySem.W.Frag} {H : Hp} : ∀ {vs : List V} {ds : List PyData}, DeAll K H vs ds → PyData.hasDictAll ds = false → DpAll K H vs ds
  | _, _, .nil, _ => .nil
  | _, _, .cons h1 h2, z => by
    simp only [PyData.hasDictAll, Bool.or_eq_false_iff] at z
    exact .cons (h1.dp z.1) (h2.dp z.2)
end
theorem Sd.shaped {n w : Nat} {d : PyData} (s : Sd n w d) (h : n ≤ 60) (z : d.hasDict = false) : SeqAt.shaped d = true := by
  show (PyData.canLay0 d && decide (PyData.depth d ≤ 64)) = true
  rw [sok_lay s.ok z, Bool.true_and]
  exact decide_eq_true (Nat.le_trans s.dep (by omega))
theorem i_eqE {K : PySem.W.Frag} {H : Hp} {x y : V} {d e : PyData} {Q : VK} {n w m u : Nat} (h1 : De K H x d) (h2 : De K H y e) (s1 : Sd n w d) (s2 : Sd m u e) (z1 : d.hasDict = false) (z2 : e.hasDict = false) (k : Q (.bl (PyData.eqv d e)) H) (hn : n ≤ 60 := by omega) (hm : m ≤ 60 := by omega) : rEqD K x y H Q :=
  ⟨d, e, h1.dp z1, h2.dp z2, s1.shaped hn z1, s2.shaped hm z2, k⟩
theorem i_neE {K : PySem.W.Frag} {H : Hp} {x y : V} {d e : PyData} {Q : VK} {n w m u : Nat} (h1 : De K H x d) (h2 : De K H y e) (s1 : Sd n w d) (s2 : Sd m u e) (z1 : d.hasDict = false) (z2 : e.hasDict = false) (k : Q (.bl (!PyData.eqv d e)) H) (hn : n ≤ 60 := by omega) (hm : m ≤ 60 := by omega) : rNeD K x y H Q :=
  ⟨d, e, h1.dp z1, h2.dp z2, s1.shaped hn z1, s2.shaped hm z2, k⟩
/-! ### isinstance of data -/
def tyB : String → PyData → Bool
  | "int", .int _ => true
  | "int", .bool _ => true
  | "bool", .bool _ => true
  | "str", .str _ => true
  | "list", .list _ => true
  | "tuple", .tuple _ => true
  | _, _ => false
theorem tyx_tup {K : PySem.W.Frag} {H : Hp} {a : Addr} {xs : List V} (h : SqT K H a xs) : TyX K H (.ref a) (.type "tuple") := by
  rcases h with (h | ⟨o, h⟩) | ⟨o, its, n, h, c, _⟩
  · exact .base (.tup h)
  · exact .fTuple h
  · exact .kTuple h c
theorem De.isi {K : PySem.W.Frag} {H : Hp} {v : V} {d : PyData} {Q : VK} {n : String} (h : De K H v d) (hn : n = "int" ∨ n = "bool" ∨ n = "str" ∨ n = "list" ∨ n = "tuple") (k : Q (.bl (tyB n d)) H) : rIsi K [v, .ty n] H Q := by
  cases h with
  | non => rcases hn with rfl | rfl | rfl | rfl | rfl <;> exact i_isi _ (.base .non) (kit_ty (by first | (show _ = some true; decide +kernel) | (show _ = some false; decide +kernel))) k
  | bl b => rcases hn with rfl | rfl | rfl | rfl | rfl <;> exact i_isi _ (.base (.bl _)) (kit_ty (by first | (show _ = some true; decide +kernel) | (show _ = some false; decide +kernel))) k
  | int i => rcases hn with rfl | rfl | rfl | rfl | rfl <;> exact i_isi _ (.base (.int _)) (kit_ty (by first | (show _ = some true; decide +kernel) | (show _ = some false; decide +kernel))) k
  | str x => rcases hn with rfl | rfl | rfl | rfl | rfl <;> exact i_isi _ (.base (.str _)) (kit_ty (by first | (show _ = some true; decide +kernel) | (show _ = some false; decide +kernel))) k
  | lst h1 _ h2 => rcases hn with rfl | rfl | rfl | rfl | rfl <;> exact i_isi _ (.base (.lst h1)) (kit_ty (by first | (show _ = some true; decide +kernel) | (show _ = some false; decide +kernel))) k
  | tup h1 h2 => rcases hn with rfl | rfl | rfl | rfl | rfl <;> exact i_isi _ (tyx_tup h1) (kit_ty (by first | (show _ = some true; decide +kernel) | (show _ = some false; decide +kernel))) k
  | dict h1 h2 => rcases hn with rfl | rfl | rfl | rfl | rfl <;> exact i_isi _ (.base (.dK h1)) (kit_ty (by first | (show _ = some true; decide +kernel) | (show _ = some false; decide +kernel))) k
theorem De.tupI {K : PySem.W.Frag} {H : Hp} {v : V} {ds : List PyData} (h : De K H v (.tuple ds)) : ∃ a xs, v = .ref a ∧ SqT K H a xs ∧ DeAll K H xs ds := by
  cases h with | tup h1 h2 => exact ⟨_, _, rfl, h1, h2⟩
theorem De.lstI {K : PySem.W.Frag} {H : Hp} {v : V} {ds : List PyData} (h : De K H v (.list ds)) : ∃ a xs, v = .ref a ∧ H a = some (.lst xs) ∧ sysModules < a ∧ DeAll K H xs ds := by
  cases h with | lst h1 h0 h2 => exact ⟨_, _, rfl, h1, h0, h2⟩
theorem De.intI {K : PySem.W.Frag} {H : Hp} {v : V} {i : Int} (h : De K H v (.int i)) : v = .int i := by cases h; rfl
section
variable {X : Cx} {es : List Expr} {t : TA} {pos : Pos}
def tLstL (t : TA) : TE := fun σ H Q => t σ H fun xs H1 => xs.length ≤ sizeLine ∧ ∀ p, H1 p = none → sysModules < p → Q (.ref p) (upd H1 p (.lst xs))
theorem pe_lstL (h : PA X es t) : PE X (.List es pos) (tLstL t) := by
  refine ⟨fun pins s σ H Q I hq => ?_⟩
  refine wpAny_List_spliced (thn (h.run pos pins s σ H _ I hq) fun us s1 ⟨xs, H1, I1, r, z, q⟩ => ⟨by rw [← r.length]; exact z, ?_⟩)
  have hf : H1 s1.heap.objs.size = none := I1.hok.fresh (Nat.le_refl _)
  refine ⟨.ref s1.heap.objs.size, upd H1 s1.heap.objs.size (.lst xs), I1.laid (t' := s1.toks) (fun b u e => Heap.get?_push_of_some _ e) (Nat.le_refl _) ?_, rfl, q _ hf I1.big⟩
  exact ⟨z, us, 0, r, Heap.get?_push_size _ rfl⟩
theorem i_lstL {σ : L2.St} {H : Hp} {Q : VK} (h : t σ H fun xs H1 => xs.length ≤ sizeLine ∧ ∀ p, H1 p = none → sysModules < p → Q (.ref p) (upd H1 p (.lst xs))) : tLstL t σ H Q := h
def rListL (K : PySem.W.Frag) : List V → Hp → VK → Prop := fun xs H Q => ∃ p ys, xs = [.ref p] ∧ (SqL K H p ys ∨ SqT K H p ys) ∧ ∀ l, H l = none → sysModules < l → Q (.ref l) (upd H l (.lst ys))
theorem call_listL : CallR X (.type "list") (rListL X.K) := by
  intro pins s σ H xs us Q I r h
  obtain ⟨p, ys, rfl, hq, q⟩ := h
  obtain ⟨u, rfl, rx⟩ := vals1 r
  cases rx
  have fin : ∀ (its : List Value), Vals ys its → ys.length ≤ sizeLine → ∀ (h' : Heap) (c' : Nat), (∀ b o', s.heap.get? b = some o' → h'.get? b = some o') →
      h'.get? s.heap.objs.size = some { cls := .type "list", dict := none, data := .seq its.toArray c', slots := #[] } → EP X pins σ Q (.ref s.heap.objs.size) { s with heap := h' } := fun its r' hz h' c' kp e =>
    ⟨.ref s.heap.objs.size, _, I.laid (t' := s.toks) kp (Nat.le_refl _) (show ObjOk X.prog X.w _ h' _ (.lst ys) from ⟨hz, its, c', r', e⟩), rfl, q _ (I.hok.fresh (Nat.le_refl _)) I.big⟩
  rcases hq with hq | hq
  · obtain ⟨its, r', pl, hz⟩ := I.list hq
    have hlen := r'.length
    obtain ⟨o, ho, hc, n, hd⟩ := pl.isList
    exact call_list_seq p (.inl rfl) ho hc hd (fun h' c' kp e => fin its r' hz h' c' kp e) (by simp only [List.size_toArray] <;> omega)
  · obtain ⟨its, r', pl, hz⟩ := I.tuple hq
    have hlen := r'.length
    obtain ⟨o, ho, hc, n, hd⟩ := pl
    exact call_list_seq p (.inr rfl) ho hc hd (fun h' c' kp e => fin its r' hz h' c' kp e) (by simp only [List.size_toArray] <;> omega)
theorem i_listL {K : PySem.W.Frag} {p : Addr} {ys : List V} {H : Hp} {Q : VK} (h : SqL K H p ys ∨ SqT K H p ys) (k : ∀ l, H l = none → sysModules < l → Q (.ref l) (upd H l (.lst ys))) : rListL K [.ref p] H Q := ⟨p, ys, rfl, h, k⟩
end
end Sw
namespace PySem.SeqAt
open MeetsSeq PySem
theorem dict_eq_declines_str (l : Addr) (es : Array DictEntry) (n : Nat) (dd : Option Addr) (sl : Array (Option Value)) (b : Str) (u : Tok) :
    Meets (Builtin.«dict.__eq__» ⟨[.ref l, .str b u], []⟩) (fun _ R s => s.heap.get? l = some { cls := .type "dict", dict := dd, data := .dict es n, slots := sl } ∧ R (.ok (.ret .notImplemented)) s) :=
  .of_wp fun prog w A R s h => by obtain ⟨hp, g, d, tk, os⟩ := s; obtain ⟨hl, h⟩ := h; have f1 := F.sub_str_dict; wp_walk using wpAny_loadPart' hl, wpAny_load hl; exact ⟨_, rfl, h⟩
theorem str_eq_declines_dict (b : Str) (u : Tok) (l : Addr) (c : Value) (es : Array DictEntry) (n : Nat) (dd : Option Addr) (sl : Array (Option Value)) :
    Meets (Builtin.«str.__eq__» ⟨[.str b u, .ref l], []⟩) (fun _ R s => s.heap.get? l = some { cls := c, dict := dd, data := .dict es n, slots := sl } ∧ R (.ok (.ret .notImplemented)) s) :=
  .of_wp fun prog w A R s h => by obtain ⟨hp, g, d, tk, os⟩ := s; obtain ⟨hl, h⟩ := h; wp_walk using wpAny_loadPart' hl, wpAny_load hl; exact ⟨_, rfl, h⟩
theorem dict_ne_declines_str (l : Addr) (es : Array DictEntry) (n : Nat) (dd : Option Addr) (sl : Array (Option Value)) (b : Str) (u : Tok) :
    Meets (Builtin.«dict.__ne__» ⟨[.ref l, .str b u], []⟩) (fun _ R s => s.heap.get? l = some { cls := .type "dict", dict := dd, data := .dict es n, slots := sl } ∧ R (.ok (.ret .notImplemented)) s) :=
  .of_wp fun prog w A R s h => by obtain ⟨hp, g, d, tk, os⟩ := s; obtain ⟨hl, h⟩ := h; have f1 := F.sub_str_dict; wp_walk using wpAny_loadPart' hl, wpAny_load hl; exact ⟨_, rfl, h⟩
theorem str_ne_declines_dict (b : Str) (u : Tok) (l : Addr) (c : Value) (es : Array DictEntry) (n : Nat) (dd : Option Addr) (sl : Array (Option Value)) :
    Meets (Builtin.«str.__ne__» ⟨[.str b u, .ref l], []⟩) (fun _ R s => s.heap.get? l = some { cls := c, dict := dd, data := .dict es n, slots := sl } ∧ R (.ok (.ret .notImplemented)) s) :=
  .of_wp fun prog w A R s h => by obtain ⟨hp, g, d, tk, os⟩ := s; obtain ⟨hl, h⟩ := h; wp_walk using wpAny_loadPart' hl, wpAny_load hl; exact ⟨_, rfl, h⟩
section
variable {A : Around} {s : Shared}
theorem RcAt.dict_str {l : Addr} {es : Array DictEntry} {n : Nat} {o : Obj} (b : Str) (u : Tok) (ho : s.heap.get? l = some o) (hc : o.cls = .type "dict") (hd : o.data = .dict es n) (hu : A.units < cLine) : RcAt A s (.ref l) (.str b u) false := fun prog w E Q h => by
  obtain ⟨cls, dd, data, sl⟩ := o
  simp only at hc hd
  subst hc hd
  exact rc_eq_decline_or (k := false) ⟨_, ho, rfl⟩ (typeIs_str s b u) (by decide) F.sub_str_dict F.slot_dict_eq F.slot_str_eq_refl
    (fun _ hq => call_meets F.slot_dict_eq ⟨_, ho, rfl⟩ F.entry_dict_eq (F.args_dict_eq_2 _ _) (dict_eq_declines_str l es n dd sl b u) ⟨ho, hq⟩)
    (fun _ hq => call_meets F.slot_str_eq_refl (typeIs_str s b u) F.entry_str_eq (F.args_str_eq_2 _ _) (str_eq_declines_dict b u l (.type "dict") es n dd sl) ⟨ho, hq⟩)
    (fun _ hq => wpAny_of_eq (rfl : isSame (.ref l) (.str b u) = pure false) hq) (.inr hu) h
theorem RcNeAt.dict_str {l : Addr} {es : Array DictEntry} {n : Nat} {o : Obj} (b : Str) (u : Tok) (ho : s.heap.get? l = some o) (hc : o.cls = .type "dict") (hd : o.data = .dict es n) (hu : A.units < cLine) : RcNeAt A s (.ref l) (.str b u) true := fun prog w E Q h => by
  obtain ⟨cls, dd, data, sl⟩ := o
  simp only at hc hd
  subst hc hd
  exact rc_ne_decline_or (k := false) ⟨_, ho, rfl⟩ (typeIs_str s b u) (by decide) F.sub_str_dict F.slot_dict_ne F.slot_str_ne_refl
    (fun _ hq => call_meets F.slot_dict_ne ⟨_, ho, rfl⟩ F.entry_dict_ne (F.args_dict_ne_2 _ _) (dict_ne_declines_str l es n dd sl b u) ⟨ho, hq⟩)
    (fun _ hq => call_meets F.slot_str_ne_refl (typeIs_str s b u) F.entry_str_ne (F.args_str_ne_2 _ _) (str_ne_declines_dict b u l (.type "dict") es n dd sl) ⟨ho, hq⟩)
    (fun _ hq => wpAny_of_eq (rfl : isSame (.ref l) (.str b u) = pure false) hq) (.inr hu) h
end
end PySem.SeqAt
namespace Sw
open PySem PySem.Spec PyProof.Rows L2
section
variable {X : Cx}
/-- x == y, x data, y data; a dict and a text are unlike -/
def rEqX (K : PySem.W.Frag) : R2 := fun x y H Q => rEqD K x y H Q ∨ ∃ a kvs z, x = .ref a ∧ H a = some (.dK kvs) ∧ y = .str z ∧ Q (.bl false) H
def rNeX (K : PySem.W.Frag) : R2 := fun x y H Q => rNeD K x y H Q ∨ ∃ a kvs z, x = .ref a ∧ H a = some (.dK kvs) ∧ y = .str z ∧ Q (.bl true) H
theorem op_eqX (hu : X.A.units + 64 < cLine) : OpR X (compareOp .Eq) (rEqX X.K) := by
  intro pins s σ H x y v u Q I rx ry h
  rcases h with h | ⟨a, kvs, z, rfl, ha, rfl, q⟩
  · exact op_eqD hu pins s σ H x y v u Q I rx ry h
  · cases rx
    obtain ⟨t, rfl⟩ := ry
    obtain ⟨_, notSys, vs, kv, o, es, ep, ho, ex, hd, _, pr, _⟩ : ObjOk X.prog X.w H s.heap _ (.dK _) := I.hok _ _ ha
    exact SeqAt.RcAt.dict_str z t ho ex.1 hd (by omega) _ _ _ _ ⟨.bl _, H, I, rfl, q⟩
theorem op_neX (hu : X.A.units + 64 < cLine) : OpR X (compareOp .NotEq) (rNeX X.K) := by
  intro pins s σ H x y v u Q I rx ry h
  rcases h with h | ⟨a, kvs, z, rfl, ha, rfl, q⟩
  · exact op_neD hu pins s σ H x y v u Q I rx ry h
  · cases rx
    obtain ⟨t, rfl⟩ := ry
    obtain ⟨_, notSys, vs, kv, o, es, ep, ho, ex, hd, _, pr, _⟩ : ObjOk X.prog X.w H s.heap _ (.dK _) := I.hok _ _ ha
    exact SeqAt.RcNeAt.dict_str z t ho ex.1 hd (by omega) _ _ _ _ ⟨.bl _, H, I, rfl, q⟩
/-- x in y, y a tuple of data -/
def rInT (K : PySem.W.Frag) : R2 := fun x y H Q => ∃ d ds, Dp K H x d ∧ Dp K H y (.tuple ds) ∧ SeqAt.shaped d = true ∧ SeqAt.shaped (.tuple ds) = true ∧ PyData.depthAll ds ≤ 10 ∧ Q (.bl (ds.any fun z => PyData.eqv z d)) H
theorem op_inT (hu : X.A.units + 64 < cLine) : OpR X (compareOp .In) (rInT X.K) := by
  intro pins s σ H x y v u Q I rx ry h
  obtain ⟨d, ds, hd, he, sd, se, dp, q⟩ := h
  obtain ⟨as, r1⟩ := Dp.reads I d x v hd rx
  obtain ⟨bs, r2⟩ := Dp.reads I (.tuple ds) y u he ry
  exact SeqAt.in_tuple_reads r2 r1 (SeqAt.canLay_of_shaped se) (SeqAt.canLay_of_shaped sd) (by have := Nat.min_le_left (PyData.depthAll ds) d.depth; omega) ⟨.bl _, H, I, rfl, q⟩
end
/-- whether data is the text l -/
def isS (l : List Nat) : PyData → Bool
  | .str z => decide (z = S l)
  | _ => false
theorem eqv_str_r (d : PyData) (l : List Nat) : PyData.eqv d (.str (S l)) = isS l d := by
  cases d <;> simp [PyData.eqv, isS] <;> rfl
theorem eqv_str_l (d : PyData) (l : List Nat) : PyData.eqv (.str (S l)) d = isS l d := by
  cases d with
  | str z =>
    simp only [PyData.eqv, isS]
    by_cases h : z = S l
    · rw [h, decide_eq_true rfl]; exact beq_self_eq_true _
    · rw [decide_eq_false h]; exact beq_eq_false_iff_ne.mpr (Ne.symm h)
  | _ => simp [PyData.eqv, isS]
theorem dp_strs' {K : PySem.W.Frag} {H : Hp} : ∀ ws : List (List Nat), DpAll K H (ws.map fun l => V.str (S l)) (ws.map fun l => PyData.str (S l))
  | [] => .nil
  | l :: ws => .cons (.str _) (dp_strs' ws)
/-- data without a dict inside, or an empty dict -/
def Ok1 (d : PyData) : Prop := d = .dict [] ∨ d.hasDict = false
theorem i_eqS1 {K : PySem.W.Frag} {H : Hp} {x : V} {d : PyData} {l : List Nat} {Q : VK} {n w : Nat} (h : De K H x d) (s : Sd n w d) (o : Ok1 d) (hl : ∀ c ∈ l, c ≤ 1000) (k : Q (.bl (isS l d)) H) (hn : n ≤ 60 := by omega) : rEqX K x (.str (S l)) H Q := by
  rcases o with rfl | z
  · cases h with | dict h1 h2 => exact .inr ⟨_, _, _, rfl, h1, rfl, k⟩
  · refine .inl (i_eqE h (.str _) s (sd_str hl) z (by simp only [PyData.hasDict]) ?_ hn)
    rw [eqv_str_r]
    exact k
theorem i_neS1 {K : PySem.W.Frag} {H : Hp} {x : V} {d : PyData} {l : List Nat} {Q : VK} {n w : Nat} (h : De K H x d) (s : Sd n w d) (o : Ok1 d) (hl : ∀ c ∈ l, c ≤ 1000) (k : Q (.bl (!isS l d)) H) (hn : n ≤ 60 := by omega) : rNeX K x (.str (S l)) H Q := by
  rcases o with rfl | z
  · cases h with | dict h1 h2 => exact .inr ⟨_, _, _, rfl, h1, rfl, k⟩
  · refine .inl (i_neE h (.str _) s (sd_str hl) z (by simp only [PyData.hasDict]) ?_ hn)
    rw [eqv_str_r]
    exact k
theorem i_inT {K : PySem.W.Frag} {H : Hp} {x : V} {d : PyData} {Q : VK} {n w : Nat} {a : Addr} (ls : List (List Nat)) (h : De K H x d) (s : Sd n w d) (z : d.hasDict = false) (hl : ∀ l ∈ ls, ∀ c ∈ l, c ≤ 1000) (ha : H a = some (.tup (ls.map fun l => .str (S l)))) (k : Q (.bl (ls.any fun l => isS l d)) H) (hn : n ≤ 60 := by omega) : rInT K x (.ref a) H Q := by
  refine ⟨d, ls.map fun l => .str (S l), h.dp z, .tup (sqT_of ha) (dp_strs' ls), s.shaped hn z, ?_, ?_, ?_⟩
  · have s2 : Sd 1 _ (.tuple (ls.map fun l => .str (S l))) := sd_tup (n := 0) (w := (ls.map List.length).foldr max 0) fun d hd => by
      obtain ⟨l, hl2, rfl⟩ := List.mem_map.mp hd
      refine (sd_str (hl l hl2)).mono (by omega) ?_
      clear hd hl k ha
      induction ls with
      | nil => cases hl2
      | cons y ys ih =>
        rw [List.map_cons, List.foldr_cons]
        rcases List.mem_cons.mp hl2 with rfl | hl2
        · exact Nat.le_max_left _ _
        · exact Nat.le_trans (ih hl2) (Nat.le_max_right _ _)
    refine s2.shaped (by omega) ?_
    simp only [PyData.hasDict]
    clear s2 hl k ha
    induction ls with
    | nil => rfl
    | cons y ys ih => simp only [List.map_cons, PyData.hasDictAll, PyData.hasDict, ih, Bool.or_self]
  · have : ∀ ks : List (List Nat), PyData.depthAll (ks.map fun l => PyData.str (S l)) = 0 := by
      intro ks
      induction ks with
      | nil => simp only [List.map_nil, PyData.depthAll]
      | cons y ys ih => simp only [List.map_cons, PyData.depthAll, PyData.depth, ih]; omega
    rw [this]; omega
  · rw [List.any_map]
    simp only [Function.comp_def, eqv_str_l]
    exact k
end Sw
namespace Sw
open PySem PySem.Spec PyProof.Rows L2
/-! ### kinds and passings as data -/
abbrev tLost : List Nat := [108, 111, 115, 116]
abbrev tPut : List Nat := [112, 117, 116]
abbrev tTurned : List Nat := [116, 117, 114, 110, 101, 100]
abbrev tSame : List Nat := [115, 97, 109, 101]
def isI : PyData → Bool
  | .int _ => true
  | _ => false
def isX (m : Int) : PyData → Bool
  | .int i => decide (0 ≤ i) && decide (i < m)
  | _ => false
def isG : PyData → Bool
  | .int i => decide (1 ≤ i) && decide (i ≤ 5)
  | _ => false
def kindB (m : Int) : PyData → Bool
  | .tuple [a, b] => isX m b && (isS tLost a || isS tPut a)
  | .tuple [a, b, c] => isX m b && isX m c && (isS tTurned a && !PyData.eqv b c)
  | _ => false
def sameB (m : Int) : PyData → Bool
  | .tuple [a, b] => isS tSame a && isX m b
  | _ => false
def passB (m : Int) : PyData → Bool
  | .tuple ds => ds.all fun s => sameB m s || kindB m s
  | _ => false
/-- the number of signs, if the data is one -/
def sgn (e : PyData) : Option Int := match e with
  | .int m => if 1 ≤ m ∧ m ≤ 5 then some m else none
  | _ => none
def onG (e : PyData) (b : Int → Bool) : Bool := match sgn e with
  | some m => b m
  | none => false
theorem sgn_some {e : PyData} {m : Int} (h : sgn e = some m) : e = .int m ∧ 1 ≤ m ∧ m ≤ 5 := by
  unfold sgn at h
  split at h
  · split at h
    · cases h; exact ⟨rfl, by assumption⟩
    · cases h
  · cases h
theorem isG_sgn (e : PyData) : isG e = (sgn e).isSome := by
  cases e <;> simp only [isG, sgn, Option.isSome]
  rename_i i
  by_cases h : 1 ≤ i ∧ i ≤ 5
  · rw [if_pos h, decide_eq_true h.1, decide_eq_true h.2]; rfl
  · rw [if_neg h, Bool.and_eq_false_iff]
    by_cases h1 : 1 ≤ i
    · exact .inr (decide_eq_false fun q => h ⟨h1, q⟩)
    · exact .inl (decide_eq_false h1)
/-- a step or what is told in its place: each part is without a dict, or is an empty one; a word ahead of one number has no dict -/
structure StOk (d : PyData) : Prop where
  parts : ∀ ds, d = .tuple ds → ∀ y ∈ ds, Ok1 y
  two : ∀ a b, d = .tuple [a, b] → isI b = true → a.hasDict = false
structure PsOk (d : PyData) : Prop where
  st : StOk d
  all : ∀ ds, d = .tuple ds → ∀ y ∈ ds, StOk y
theorem StOk.flat {d : PyData} (h : d.hasDict = false) : StOk d := by
  have p : ∀ ds, d = .tuple ds → ∀ y ∈ ds, y.hasDict = false := by
    rintro ds rfl y hy
    simp only [PyData.hasDict] at h
    induction ds with
    | nil => cases hy
    | cons z zs ih =>
      simp only [PyData.hasDictAll, Bool.or_eq_false_iff] at h
      rcases List.mem_cons.mp hy with rfl | hy
      · exact h.1
      · exact ih h.2 hy
  exact ⟨fun ds e y hy => .inr (p ds e y hy), fun a b e _ => p _ e _ List.mem_cons_self⟩
theorem hasDict_tup {ds : List PyData} : (PyData.tuple ds).hasDict = false ↔ ∀ y ∈ ds, y.hasDict = false := by
  simp only [PyData.hasDict]
  induction ds with
  | nil => simp [PyData.hasDictAll]
  | cons z zs ih => simp only [PyData.hasDictAll, Bool.or_eq_false_iff, ih, List.mem_cons, forall_eq_or_imp]
theorem PsOk.flat {d : PyData} (h : d.hasDict = false) : PsOk d := by
  refine ⟨.flat h, ?_⟩
  rintro ds rfl y hy
  exact .flat (hasDict_tup.mp h y hy)
theorem StOk.emp : StOk (.dict []) := ⟨fun ds e => by (cases e), fun a b e => by (cases e)⟩
theorem PsOk.emp : PsOk (.dict []) := ⟨.emp, fun ds e => by (cases e)⟩
end Sw
namespace Sw
open PySem PySem.Spec PyProof.Rows L2
theorem Sd.tupI' {n w : Nat} {ds : List PyData} (s : Sd n w (.tuple ds)) : SdAll n w ds := (Sd.tupI (n := n) (s.mono (by omega) (Nat.le_refl _)))
theorem Sd.lstI' {n w : Nat} {ds : List PyData} (s : Sd n w (.list ds)) : SdAll n w ds := (Sd.lstI (n := n) (s.mono (by omega) (Nat.le_refl _)))
theorem i_yes {σ : L2.St} {H : Hp} {R : Bool → Hp → Prop} (h : R true H) : tYes σ H R := h
/-! ### parts of tuples -/
theorem i_slTF {K : PySem.W.Frag} {a : Addr} {xs : List V} {k : Nat} {H : Hp} {Q : VK} (h : SqT K H a xs) (q : ∀ b H', Same H H' → SqT K H' b (xs.drop k) → Q (.ref b) H') : rSlA K (.ref a) (some (k : Int)) none H Q := by
  refine ⟨a, xs, rfl, h, fun e => ?_, fun e p np => ?_⟩
  · rw [HT.sIx_nat] at e
    refine q _ _ (Same.refl _) ?_
    by_cases hk : k = 0
    · rw [hk, List.drop_zero]; exact h
    · have : xs = [] := List.eq_nil_of_length_eq_zero (by omega)
      rw [this, List.drop_nil]; rw [this] at h; exact h
  · have : cutV xs (some (k : Int)) none = xs.drop k := by
      unfold cutV
      rw [HT.sIx_nat, HT.sIx_none]
      by_cases hk : k ≤ xs.length
      · rw [Nat.min_eq_left hk, List.take_of_length_le (by rw [List.length_drop]; omega)]
      · rw [Nat.min_eq_right (by omega), List.drop_of_length_le (by omega), List.drop_of_length_le (by omega), List.take_nil]
    rw [this]
    exact q _ _ (same_upd np) (sqT_of upd_same)
theorem i_slTT {K : PySem.W.Frag} {a : Addr} {xs : List V} {k : Nat} {H : Hp} {Q : VK} (h : SqT K H a xs) (q : ∀ b H', Same H H' → SqT K H' b (xs.take k) → Q (.ref b) H') : rSlA K (.ref a) none (some (k : Int)) H Q := by
  refine ⟨a, xs, rfl, h, fun e => ?_, fun e p np => ?_⟩
  · rw [HT.sIx_nat, HT.sIx_none] at e
    refine q _ _ (Same.refl _) ?_
    rw [List.take_of_length_le (by omega)]; exact h
  · have : cutV xs none (some (k : Int)) = xs.take k := by
      unfold cutV
      rw [HT.sIx_nat, HT.sIx_none, List.drop_zero, Nat.sub_zero]
      by_cases hk : k ≤ xs.length
      · rw [Nat.min_eq_left hk]
      · rw [Nat.min_eq_right (by omega), List.take_length, List.take_of_length_le (by omega)]
    rw [this]
    exact q _ _ (same_upd np) (sqT_of upd_same)
theorem i_catT {K : PySem.W.Frag} {a b : Addr} {xs ys : List V} {H : Hp} {Q : VK} (h : SqT K H a xs) (h2 : SqT K H b ys) (l : xs.length + ys.length ≤ sizeLine) (q : ∀ c H', Same H H' → SqT K H' c (xs ++ ys) → Q (.ref c) H') : rCatA K (.ref a) (.ref b) H Q := by
  refine ⟨a, b, xs, ys, rfl, rfl, h, h2, l, fun e => ?_, fun e1 e2 => ?_, fun e1 e2 p np => ?_⟩
  · rw [e] at q; exact q _ _ (Same.refl _) h2
  · rw [e2, List.append_nil] at q; exact q _ _ (Same.refl _) h
  · exact q _ _ (same_upd np) (sqT_of upd_same)
theorem inV_two (n i j : Int) : inV (.int n) [.int i, .int j] = (decide (n = i) || decide (n = j)) := by
  show (i == n || (j == n || false)) = _
  rw [Bool.or_false]
  congr 1
  · by_cases h : n = i
    · rw [h, decide_eq_true rfl]; exact beq_self_eq_true _
    · rw [decide_eq_false h]; exact beq_eq_false_iff_ne.mpr (Ne.symm h)
  · by_cases h : n = j
    · rw [h, decide_eq_true rfl]; exact beq_self_eq_true _
    · rw [decide_eq_false h]; exact beq_eq_false_iff_ne.mpr (Ne.symm h)
theorem i_ixTn {K : PySem.W.Frag} {p : Addr} {xs : List V} {k : Nat} {v : V} {H : Hp} {Q : VK} (h1 : SqT K H p xs) (h2 : xs[k]? = some v) (h : Q v H) : rIxT K (.ref p) (.int (k : Int)) H Q := by
  refine i_ixT h1 ?_ h
  have : k < xs.length := by
    rcases Nat.lt_or_ge k xs.length with q | q
    · exact q
    · rw [List.getElem?_eq_none q] at h2; cases h2
  unfold atI ixN
  rw [if_pos (by omega), if_pos (by omega), Int.toNat_natCast]
  exact h2
theorem i_lenSqT {K : PySem.W.Frag} {p : Addr} {xs : List V} {H : Hp} {Q : VK} (h1 : SqT K H p xs) (h : Q (.int xs.length) H) : rLenQ K [.ref p] H Q := ⟨p, xs, rfl, .inr h1, h⟩
theorem DeAll.getD {K : PySem.W.Frag} {H : Hp} {vs : List V} {ds : List PyData} {i : Nat} {v : V} (h : DeAll K H vs ds) (e : vs[i]? = some v) : De K H v (ds.getD i .none) := by
  obtain ⟨d, h1, h2⟩ := h.get e
  rw [List.getD_eq_getElem?_getD, h1]; exact h2
theorem map_getD {α : Type} (ds : List PyData) (g : PyData → α) : (List.range ds.length).map (fun i => g (ds.getD i .none)) = ds.map g := range_map_get ds _ g fun i x hx => by rw [List.getD_eq_getElem?_getD, hx]; rfl
end Sw
namespace Sw
open PySem PySem.Spec PyProof.Rows L2 PySem.SwE
/-- an own exception class with the one attribute given, named x, as it stands behind the top -/
structure XQ (x : Str) (P : Program) (w : World) (K : PySem.W.Frag) (mg : Str → Option Value) (base : Heap) (C : Addr) : Prop where
  T : OexE K C
  xf : XfC K C
  no : PySem.W.findIn K (.ref C) "given" = some none
  hm : mg x = some (.ref C)
  me : PySem.W.exmOne K (.ref C) (.ref C) = some true
  ini : ∃ (fI : Addr) (fd : FuncData), PySem.W.findIn K (.ref C) "__init__" = some (some (.ref fI)) ∧ PySem.W.typeIn K (.ref fI) = some (.type "function") ∧ FnOk P w K mg base CX0 1 fI fd ["self", "given"] (spInit K) ∧ Binds K fd ["self", "given"] []
theorem pmk_Q {X : Cx} {x : Str} {C : Addr} {n : Nat} {e : Expr} {te : TE} {p pos : Pos} (xt : XQ x X.prog X.w X.K X.mg X.base C) (hr : Room n X.A) (he : PE X e te) (hn : 2 ≤ n := by decide) (hg : Gl X x := by rfl)
    (hdb : (x == ("__debug__" : Str)) = false := by decide) (he2 : starEach [e] X.env = (false, eval e X.env) :: starEach [] X.env := by rfl) : PMk X (.Call (.Name x p) [e] [] pos) (tMkO C (spInit X.K) [] (tCons te tNil)) := by
  obtain ⟨fI, fd, h1, h2, h3, h4⟩ := xt.ini
  exact pmk_E xt.T h1 h2 h3 (hr.mono hn) h4 pass0 xt.hm (pa_cons he pa_nil he2) hg hdb he2 (by rfl)
theorem names_Q {x : Str} {P : Program} {w : World} {K : PySem.W.Frag} {mg : Str → Option Value} {base : Heap} {X : Cx} {C : Addr} (xt : XQ x P w K mg base C) (hm : X.mg = mg := by rfl) (hg : Gl X x := by rfl) (hd : (x == ("__debug__" : Str)) = false := by decide) : Names X x (.ref C) := ⟨hg, hd, .inl (by rw [hm]; exact xt.hm)⟩
end Sw
namespace Sw
open PySem PySem.Spec PyProof.Rows L2
/-! ### dicts whose keys are tuples: a store, a display of one pair, a comprehension -/
section
variable {X : Cx}
/-- the store of a display and of a comprehension -/
theorem put_tup {pins : List (Addr × Obj)} {σ : L2.St} {H : Hp} {s : Shared} {E : Value → Shared → Prop} {d b : Addr} {kvs : List (List Key × V)} {ks : List Key} {z : V} {r : Value} {Q : Unit → Shared → Prop}
    (room : X.A.units + 1 < cLine) (I : Inv X pins σ H s) (ed : H d = some (.dT kvs)) (eb : H b = some (.tup (ks.map kV))) (few : kvs.length < sizeLine) (rz : RelV z r)
    (go : ∀ s', Inv X pins σ (upd H d (.dT (putK kvs ks z))) s' → Q () s') : wpAny (model X.prog X.w) X.A (dictSet d (.ref b) r) Q E s := by
  have facts := dt_of I.hok ed
  obtain ⟨small, plain, xs, paired, laid⟩ := facts
  have lx : xs.length ≤ sizeLine := Nat.le_trans (Nat.le_of_eq (Paired.length paired).symm) small
  have lp : (putK kvs ks z).length ≤ sizeLine := Nat.le_trans (length_putK kvs ks z) few
  apply wpAny_dictSet_heap (knd := tupleKind (mixKind X.prog X.w)) (hsz := lx) (show X.A.units < cLine from Nat.lt_of_succ_lt room) (key_of I.hok eb) laid
  rintro h2 ⟨o, es, ep, ho, g1, g2, g3, _, g4⟩ only
  have stays : ∀ c ys, H c = some (.tup ys) → upd H d (.dT (putK kvs ks z)) c = some (.tup ys) := by
    intro c ys ec
    have : c ≠ d := fun q => by rw [q, ed] at ec; cases ec
    rw [upd_ne this]; exact ec
  apply go
  exact d_write I (by rw [ed]; trivial) only ⟨o, ho⟩ ⟨lp, plain, _, (paired.put ks eb rz).keeps stays, o, es, ep, ho, g1, g2, g3, g4⟩
/-- {k: v}, k a tuple of ints and texts -/
def tDisp1T (tk tv : TE) : TE := fun σ H Q => ∀ p, H p = none → tk σ (upd H p (.dT [])) fun x H1 => tv σ H1 fun y H2 => ∃ b ks, x = .ref b ∧ H2 p = some (.dT []) ∧ H2 b = some (.tup (ks.map kV)) ∧ Q (.ref p) (upd H2 p (.dT [(ks, y)]))
theorem pe_disp1T {k v : Expr} {pos : Pos} {tk tv : TE} (room : X.A.units + 1 < cLine) (hk : PE X k tk) (hv : PE X v tv) : PE X (.Dict [some k] [v] pos) (tDisp1T tk tv) := by
  constructor
  intro pins s σ H Q I h
  have new := I.hok.fresh (Nat.le_refl s.heap.objs.size)
  have I1 := I.laid (a := s.heap.objs.size) (o := .dT []) (t' := s.toks) (h' := s.heap.push { cls := .type "dict", data := .dict #[] }) (fun _ _ q => Heap.get?_push_of_some _ q) (Nat.le_refl _) (dt_empty s.heap I.big)
  apply wpAny_Dict_any rfl rfl (by simp) (by simp)
  let R : List (V × V) → Hp → Prop := fun ps H2 => match ps with
    | [(x, y)] => ∃ b ks, x = .ref b ∧ H2 s.heap.objs.size = some (.dT []) ∧ H2 b = some (.tup (ks.map kV)) ∧ Q (.ref s.heap.objs.size) (upd H2 s.heap.objs.size (.dT [(ks, y)]))
    | _ => False
  apply thn ((pps_cons (pos := pos) hk hv pps_nil).run pins _ σ _ R I1 (h _ new))
  rintro vs s1 ⟨ps, H2, I2, rel, q⟩
  obtain ⟨x, y, rfl⟩ : ∃ x y, ps = [(x, y)] := by
    rcases ps with _ | ⟨⟨x, y⟩, _ | ⟨_, _⟩⟩
    · exact q.elim
    · exact ⟨x, y, rfl⟩
    · exact q.elim
  obtain ⟨b, ks, rfl, ed, eb, q⟩ : ∃ b ks, x = .ref b ∧ H2 s.heap.objs.size = some (.dT []) ∧ H2 b = some (.tup (ks.map kV)) ∧ Q (.ref s.heap.objs.size) (upd H2 s.heap.objs.size (.dT [(ks, y)])) := q
  obtain ⟨u, r, rfl, ru, rr⟩ : ∃ u r, vs = [(u, r)] ∧ RelV (.ref b) u ∧ RelV y r := by
    cases rel with
    | cons h t =>
      cases t
      exact ⟨_, _, rfl, h.1, h.2⟩
  cases (show u = Value.ref b from ru)
  show wpAny _ _ (forIn [(Value.ref b, r)] PUnit.unit _) _ _ _
  rw [List.forIn_cons]
  refine wpAny_bind (wpAny_bind (put_tup room I2 ed eb (Nat.lt_of_lt_of_le (by decide : 0 < 100000) (Nat.le_of_ble_eq_true rfl)) rr fun s2 I3 => wpAny_pure ?_))
  show wpAny _ _ (forIn [] PUnit.unit _) _ _ _
  rw [List.forIn_nil]
  exact wpAny_pure ⟨.ref s.heap.objs.size, _, I3, rfl, q⟩
/-- {k: v for target in iter}, the keys tuples; D the new dict -/
def tDcT (wi : TI) (g : TG) (tk tv : TE) (vs : List Nat) : TE := fun σ H Q => wi σ H fun J H1 => ∀ D, H1 D = none → ∃ W : Nat → Nat → Hp → Prop, (∃ m, W 0 m (upd H1 D (.dT []))) ∧ ∀ i m H, W i m H →
  (J.stop i H ∧ Q (.ref D) H) ∨ (J.go i H ∧ ∃ Nx : Hp → Prop, (∀ H', Nx H' → ∃ m', m' < m ∧ W (i + 1) m' H') ∧ ∀ x H', J.yld i H x H' → g x (wipe σ vs) H' fun σ2 H2 => wipe σ2 vs = wipe σ vs ∧
    tk σ2 H2 fun y H4 => tv σ2 H4 fun z H5 => ∃ kvs ks b, y = .ref b ∧ H5 b = some (.tup (ks.map kV)) ∧ H5 D = some (.dT kvs) ∧ kvs.length < sizeLine ∧ Nx (upd H5 D (.dT (putK kvs ks z))))
theorem pe_dcT {kx vx tg iter : Expr} {scope : Scope} {own : List (Str × Nat)} {pos : Pos} {wi : TI} {g : TG} {tk tv : TE} (room : X.A.units + 1 < cLine) (calm : X.calm = true) (nd : X.N.Nodup) (src : PI X tg iter wi) (ok : BlkOk X.N X.env.scope scope own)
    (pg : ∀ (s : Shared) (H : Hp) (C : Addr) (cl : List (Str × Addr)) (fp : List Addr), PG (X.blk s H scope (compEnvC scope cl C X.env) fp) tg g)
    (pk : ∀ (s : Shared) (H : Hp) (C : Addr) (cl : List (Str × Addr)) (fp : List Addr), PE (X.blk s H scope (compEnvC scope cl C X.env) fp) kx tk)
    (pv : ∀ (s : Shared) (H : Hp) (C : Addr) (cl : List (Str × Addr)) (fp : List Addr), PE (X.blk s H scope (compEnvC scope cl C X.env) fp) vx tv) (plain : ∀ x, foldedSetIterable iter X.env x = pure x := by intro _; rfl) :
    PE X (.DictComp kx vx [⟨tg, iter, [], 0⟩] scope pos) (tDcT wi g tk tv (own.map (·.2))) := by
  constructor
  intro pins s σ H Q I h
  rw [arm_eval_DictComp]
  have cells : ∀ y ∈ scope.names, y.2 = .free → ∃ c, X.env.cells.lookup y.1 = some c := by
    intro y hy e
    apply I.ok.has
    rcases ok.free y hy e with q | q
    · exact .inl q
    · exact .inr q
  apply wpAny_comprehension_free rfl plain (closure_ok cells) ok.kind (fun y hy e => by rw [ok.uniq y hy, e])
  apply thn (src.run pins s σ H _ I h)
  intro xv s1 hx
  apply thn hx
  rintro itv s2 ⟨it, fp, tn, J, H2, rfl, I2, T, st2, f2, q⟩
  refine wpAny_newObj_type (newEnv_comp ?_)
  obtain ⟨D, eD⟩ : ∃ D, D = s2.heap.objs.size := ⟨_, rfl⟩
  rw [← eD]
  have noD : H2 D = none := I2.hok.fresh (Nat.le_of_eq eD.symm)
  obtain ⟨W, ⟨m0, w0⟩, turn⟩ := q D noD
  obtain ⟨H3, eH3⟩ : ∃ H3, H3 = upd H2 D (.dT []) := ⟨_, rfl⟩
  obtain ⟨s3, e3⟩ : ∃ s3 : Shared, s3 = { s2 with heap := s2.heap.push { cls := .type "dict", data := .dict #[] } } := ⟨_, rfl⟩
  rw [← eH3] at w0
  have heap3 : s3.heap = s2.heap.push { cls := .type "dict", data := .dict #[] } := by rw [e3]
  have I3 : Inv X pins σ H3 s3 := by
    rw [e3, eH3, eD]
    exact I2.laid (t' := s2.toks) (fun b o e => Heap.get?_push_of_some _ e) (Nat.le_refl _) (dt_empty s2.heap I2.big)
  have fp3 : ∀ b ∈ fp, FpOk X pins H3 b ∧ b < s3.heap.objs.size := by
    intro b hb
    obtain ⟨o, e, _⟩ := T.obj _ _ st2 b hb
    have lt := Heap.lt_size e
    constructor
    · refine ⟨?_, (f2 b hb).2⟩
      rw [eH3, upd_ne (by rw [eD]; exact Nat.ne_of_lt lt)]
      exact (f2 b hb).1
    · rw [heap3, Heap.size_push]; exact Nat.lt_succ_of_lt lt
  have out3 : ∀ b ∈ fp, H3 b = none := fun b hb => (fp3 b hb).1.1
  have I4 := block_start I3 ok nd fp3
  have pg := pg s3 H3 s3.heap.objs.size (cellsFrom (s3.heap.objs.size + 1) scope.names (cloFrom X.env.cells scope.names [])) fp
  have pk := pk s3 H3 s3.heap.objs.size (cellsFrom (s3.heap.objs.size + 1) scope.names (cloFrom X.env.cells scope.names [])) fp
  have pv := pv s3 H3 s3.heap.objs.size (cellsFrom (s3.heap.objs.size + 1) scope.names (cloFrom X.env.cells scope.names [])) fp
  obtain ⟨ce, ece⟩ : ∃ ce, ce = compEnvC scope (cellsFrom (s3.heap.objs.size + 1) scope.names (cloFrom X.env.cells scope.names [])) s3.heap.objs.size X.env := ⟨_, rfl⟩
  obtain ⟨s4, e4⟩ : ∃ s4 : Shared, s4 = { s3 with heap := pushCells (s3.heap.push { cls := .type "dict", data := .dict #[] }) scope.names } := ⟨_, rfl⟩
  rw [← ece] at I4 pg pk pv
  rw [← e4] at I4
  have ceL : ce.locals = s3.heap.objs.size := by rw [ece]; rfl
  have st4 : tn 0 s4.heap := by
    apply T.keep _ _ _ st2
    intro b _ o e
    rw [e4]
    refine pushCells_keeps _ _ _ _ (Heap.get?_push_of_some _ ?_)
    rw [heap3]
    exact Heap.get?_push_of_some _ e
  have gate : ∀ {σ' : L2.St} {H' : Hp} {s' : Shared}, Inv (X.blk s3 H3 scope ce fp) [] σ' H' s' → (∀ b ∈ fp, H' b = none) → ∀ b ∈ fp, FpOk (X.blk s3 H3 scope ce fp) [] H' b := by
    intro σ' H' s' I' out b hb
    have z := I'.ok.exf b hb
    exact ⟨out b hb, z.1, I'.ok.exfs b hb, .inl hb, fun x c e => z.2 x c e, fun p hp => absurd (show p ∈ ([] : List (Addr × Obj)) ++ [] from hp) (by simp)⟩
  have key : codeAny (model X.prog X.w) X.A (.compLoop (.DictComp kx vx [⟨tg, iter, [], 0⟩] scope pos) 0 (.ref it) (.ref D) ce) (compPost (model X.prog X.w) X.A X.xe none (EP X pins σ Q) (.ref D) s3.heap.objs.size) s4 := by
    apply compLoop_anyD (fun n s' => ∃ i H', Inv (X.blk s3 H3 scope ce fp) [] (wipe σ (own.map (·.2))) H' s' ∧ tn i s'.heap ∧ (∀ b ∈ fp, H' b = none) ∧ W i n H') ?_ m0 ⟨0, H3, I4, st4, out3, w0⟩
    rintro n s5 ⟨i, H5, I5, st5, out5, w5⟩
    rcases turn i n H5 w5 with ⟨stop, done⟩ | ⟨go, Nx, nxt, step⟩
    · apply thnF (T.done (X.blk s3 H3 scope ce fp) rfl rfl rfl calm i [] s5 _ H5 (fun _ _ => False) I5 (gate I5 out5) st5 stop)
      rintro r s6 ⟨rfl, I6⟩
      have I7 : Inv X pins σ H5 s6 := by
        apply I3.call' (ch := fp) I6.os I6.base I6.hok I6.bare
        intro b hb
        have z := (fp3 b hb).1.2
        exact ⟨z.2.2.1, z.1, z.2.2.2.1, z.2.2.2.2⟩
      have noC : H5 s3.heap.objs.size = none := by
        have z : H5 ce.locals = none := I6.free
        rwa [ceL] at z
      obtain ⟨m, ns, _⟩ := I6.loc
      have ns : s6.heap.Ns ce.locals m := ns
      rw [ceL] at ns
      refine ⟨m, ns, fun h'' sb => ?_⟩
      obtain ⟨f0, f1, _, f3, f4, f5⟩ := I3.fpOk (Nat.le_refl _) noC
      exact ⟨.ref D, H5, I7.turned (t' := s6.toks) (fun b o hb e => (sb.2 b hb).trans e) f0 f1 f3 f4 f5, rfl, done⟩
    · apply thnF (T.item (X.blk s3 H3 scope ce fp) rfl rfl rfl calm i [] s5 _ H5 (fun _ _ => False) I5 (gate I5 out5) st5 go)
      rintro r s6 ⟨u, rfl, h6⟩
      apply thnF h6
      rintro _ s7 ⟨x, H7, I7, r7, y7, st7, out7⟩
      have I7p := I7.pinned (gate I7 out7) (T.obj _ _ st7)
      apply thnF (pg.run _ s7 _ H7 x u _ I7p r7 (step x H7 y7))
      rintro _ s8 ⟨σ8, H8, I8, same8, q8⟩
      refine wpAny_pure ?_
      rw [if_pos rfl]
      apply thnF (pk.run _ s8 σ8 H8 _ I8 q8)
      rintro z s10 ⟨yk, H10, I10, r10, q10⟩
      apply thnF (pv.run _ s10 σ8 H10 _ I10 q10)
      rintro z2 s11 ⟨yv, H11, I11, r11, kvs, ks, b, rfl, eb, eD11, few, nx⟩
      cases (show z = Value.ref b from r10)
      apply put_tup (X := X.blk s3 H3 scope ce fp) room I11 eD11 eb few r11
      intro s12 I12
      obtain ⟨m', lt, w'⟩ := nxt _ nx
      have pin : ∀ c ∈ fp, ∀ o, s7.heap.get? c = some o → s12.heap.get? c = some o ∧ upd H11 D (.dT (putK kvs ks yv)) c = none := by
        intro c hc o e
        have z := I12.pin (c, o) (List.mem_append_right _ (List.mem_append_right _ (mem_pinsAt hc e)))
        exact ⟨z.1, z.2.1⟩
      have len8 : (wipe σ (own.map (·.2))).length = σ8.length := by rw [← same8, wipe_length]
      refine ⟨m', lt, i + 1, _, (I12.unpinned (pins := [])).weak len8 ?_, T.keep _ _ _ st7 fun c hc o e => (pin c hc o e).1, ?_, w'⟩
      · intro j v e
        rw [← same8] at e
        exact (wipe_some e).1
      · intro c hc
        obtain ⟨o, e, _⟩ := T.obj _ _ st7 c hc
        exact (pin c hc o e).2
  have all := codeAny_compStart_dict key (T.self X.A 0 _ _ _ st4 key)
  rw [e4, ece, e3, eD] at all
  rw [eD]
  exact all
end
end Sw
namespace Sw
open PySem PySem.Spec PyProof.Rows L2
/-! ### data without lists stays while a list changes -/
mutual
def noL : PyData → Bool
  | .list _ => false
  | .tuple xs => noLAll xs
  | .dict [] => true
  | .dict _ => false
  | _ => true
def noLAll : List PyData → Bool
  | [] => true
  | x :: xs => noL x && noLAll xs
end
/-- all is kept but the list at p -/
def KeepP (p : Addr) (H H' : Hp) : Prop := ∀ a o, (a ≠ p ∨ ∀ xs, o ≠ .lst xs) → H a = some o → H' a = some o
theorem keepP_upd {H : Hp} {p : Addr} {xs ys : List V} (h : H p = some (.lst xs)) : KeepP p H (upd H p (.lst ys)) := fun a o q e => by
  by_cases c : a = p
  · subst c
    rw [h] at e
    cases e
    exact (q.elim (fun q => q rfl) fun q => q _ rfl).elim
  · rw [L2.upd_ne c]; exact e
theorem Same.keepP {H H' : Hp} {p : Addr} (s : Same H H') : KeepP p H H' := fun a o _ e => s a o e
theorem KeepP.trans {H1 H2 H3 : Hp} {p : Addr} (s : KeepP p H1 H2) (t : KeepP p H2 H3) : KeepP p H1 H3 := fun a o q e => t a o q (s a o q e)
theorem KeepP.sqT {K : PySem.W.Frag} {H H' : Hp} {p a : Addr} {xs : List V} (k : KeepP p H H') (h : SqT K H a xs) : SqT K H' a xs := by
  rcases h with (h | ⟨o, h⟩) | h
  · exact .inl (.inl (k _ _ (.inr fun _ => HO.noConfusion) h))
  · exact .inl (.inr ⟨o, k _ _ (.inr fun _ => HO.noConfusion) h⟩)
  · exact .inr h
mutual
theorem De.keep {K : PySem.W.Frag} {H H' : Hp} {p : Addr} (s : KeepP p H H') : ∀ {v : V} {d : PyData}, De K H v d → noL d = true → De K H' v d
  | _, _, .non, _ => .non
  | _, _, .bl b, _ => .bl b
  | _, _, .int i, _ => .int i
  | _, _, .str x, _ => .str x
  | _, _, .lst h1 h0 h2, n => by simp [noL] at n
  | _, _, .tup h1 h2, n => .tup (s.sqT h1) (DeAll.keep s h2 (by simpa only [noL] using n))
  | _, _, .dict h1 (.nil), n => .dict (s _ _ (.inr fun _ => HO.noConfusion) h1) .nil
  | _, _, .dict h1 (.cons _ _), n => by simp [noL] at n
theorem DeAll.keep {K : PySem.W.Frag} {H H' : Hp} {p : Addr} (s : KeepP p H H') : ∀ {vs : List V} {ds : List PyData}, DeAll K H vs ds → noLAll ds = true → DeAll K H' vs ds
  | _, _, .nil, _ => .nil
  | _, _, .cons h1 h2, n => by
    simp only [noLAll, Bool.and_eq_true] at n
    exact .cons (De.keep s h1 n.1) (DeAll.keep s h2 n.2)
end
theorem noLAll_iff {ds : List PyData} : noLAll ds = true ↔ ∀ d ∈ ds, noL d = true := by
  induction ds with
  | nil => simp [noLAll]
  | cons d ds ih => simp only [noLAll, Bool.and_eq_true, ih, List.mem_cons, forall_eq_or_imp]
theorem push_de {K : PySem.W.Frag} {H : Hp} {t p : Addr} {vs : List V} {ds : List PyData} {o : HO} {d : PyData} (hp : H p = some (.lst vs)) (hd : DeAll K H vs ds) (nl : noLAll ds = true) (nt : H t = none) (new : De K (upd H t o) (.ref t) d) (nd : noL d = true) :
    DeAll K (upd (upd H t o) p (.lst (vs ++ [.ref t]))) (vs ++ [.ref t]) (ds ++ [d]) := by
  have hp2 := upd_old (o := o) nt hp
  have k := keepP_upd (ys := vs ++ [.ref t]) hp2
  exact ((hd.same (same_upd nt)).keep k nl).app (.cons (new.keep k nd) .nil)
theorem push_val {K : PySem.W.Frag} {H : Hp} {p : Addr} {vs : List V} {ds : List PyData} {v : V} {d : PyData} (hp : H p = some (.lst vs)) (hd : DeAll K H vs ds) (nl : noLAll ds = true) (new : De K H v d) (nd : noL d = true) :
    DeAll K (upd H p (.lst (vs ++ [v]))) (vs ++ [v]) (ds ++ [d]) := by
  have k := keepP_upd (ys := vs ++ [v]) hp
  exact (hd.keep k nl).app (.cons (new.keep k nd) .nil)
end Sw
namespace Sw
open PySem PySem.Spec PyProof.Rows L2
/-! ### answers for dicts keyed by tuples, for a list or a tuple walked by its name -/
theorem room1 {u c : Nat} (h : u + 64 < c) : u + 1 < c := by omega
def rDGet : V → V → Hp → VK → Prop := fun x y H Q => ∃ a v, x = .ref a ∧ DGet H a y (some v) ∧ Q v H
theorem i_dget {td ty : TE} {σ : L2.St} {H : Hp} {Q : VK} (h : td σ H fun x H1 => ty σ H1 fun y H2 => rDGet x y H2 Q) : tDGet td ty σ H Q := h
theorem i_dgetT {a b : Addr} {kvs : List (List Key × V)} {ks : List Key} {v : V} {H : Hp} {Q : VK} (e : H a = some (.dT kvs)) (eb : H b = some (.tup (ks.map kV))) (ev : valV kvs ks = some v) (q : Q v H) : rDGet (.ref a) (.ref b) H Q :=
  ⟨a, v, rfl, by rw [← ev]; exact DGet.t e eb, q⟩
def rInDt : R2 := fun x y H Q => ∃ a o, y = .ref a ∧ DGet H a x o ∧ Q (.bl o.isSome) H
theorem op_inDt {X : Cx} (hu : X.A.units + 64 < cLine) : OpR X (compareOp .In) rInDt := by
  intro pins s σ H x y v u Q I rx ry h
  obtain ⟨a, o, rfl, g, q⟩ := h
  cases (show u = Value.ref a from ry)
  exact d_in (room1 hu) I g rx fun s' I' => ⟨.bl o.isSome, H, I', rfl, q⟩
theorem i_inDt {a b : Addr} {kvs : List (List Key × V)} {ks : List Key} {H : Hp} {Q : VK} (e : H a = some (.dT kvs)) (eb : H b = some (.tup (ks.map kV))) (q : Q (.bl (valV kvs ks).isSome) H) : rInDt (.ref b) (.ref a) H Q := ⟨a, _, rfl, DGet.t e eb, q⟩
theorem i_setD {a b : Addr} {kvs : List (List Key × V)} {ks : List Key} {v : V} {H : Hp} {Q : Hp → Prop} (e : H a = some (.dT kvs)) (eb : H b = some (.tup (ks.map kV))) (l : kvs.length < sizeLine) (q : Q (upd H a (.dT (putK kvs ks v)))) : rSetD (.ref a) (.ref b) v H Q :=
  ⟨a, _, rfl, DPut.t e eb l, q⟩
def NewE (H : Hp) (R : Addr → Hp → Prop) : Prop := ∀ p, H p = none → R p (upd H p (.dT []))
theorem i_dnewT {σ : L2.St} {H : Hp} {Q : VK} (h : NewE H fun p H1 => Q (.ref p) H1) : tDNewT σ H Q := h
theorem i_disp1T {tk tv : TE} {σ : L2.St} {H : Hp} {Q : VK} (h : NewE H fun p H0 => tk σ H0 fun x H1 => tv σ H1 fun y H2 => ∃ b ks, x = .ref b ∧ H2 p = some (.dT []) ∧ H2 b = some (.tup (ks.map kV)) ∧ Q (.ref p) (upd H2 p (.dT [(ks, y)]))) : tDisp1T tk tv σ H Q := h
/-! a list or a tuple, by its name -/
def iSeqV (K : PySem.W.Frag) (i : Nat) : TI := fun σ H R => ∃ a xs J, σ[i]? = some (some (.ref a)) ∧ ((SqL K H a xs ∧ J = Itl K a) ∨ (SqT K H a xs ∧ J = Itt K a)) ∧ R J H
theorem pi_seqV {X : Cx} {tg l : Expr} {i : Nat} (h : PE X l (tVar i)) : PI X tg l (iSeqV X.K i) := by
  refine ⟨fun pins s σ H R I q => ?_⟩
  obtain ⟨a, xs, J, e, ⟨hs, rfl⟩ | ⟨hs, rfl⟩, r⟩ := q
  · exact (pi_list (tg := tg) h).run pins s σ H R I ⟨_, e, a, rfl, ⟨xs, hs⟩, r⟩
  · exact (pi_tup (tg := tg) h).run pins s σ H R I ⟨_, e, a, rfl, ⟨xs, hs⟩, r⟩
theorem walk_seqV {K : PySem.W.Frag} {a : Addr} {xs : List V} {J : It} {H : Hp} (h : (SqL K H a xs ∧ J = Itl K a) ∨ (SqT K H a xs ∧ J = Itt K a)) : Walk J xs.length (fun H' => Same H H') (YAt xs) := by
  rcases h with ⟨h, rfl⟩ | ⟨h, rfl⟩
  · exact walk_list.mono (fun H' s => Same.sqL s h) fun _ _ _ _ _ _ y => y
  · exact walk_tup.mono (fun H' s => Same.sqT s h) fun _ _ _ _ _ _ y => y
theorem i_seqV {K : PySem.W.Frag} {a : Addr} {xs : List V} {i : Nat} {σ : L2.St} {H : Hp} {R : It → Hp → Prop} (e : σ[i]? = some (some (.ref a))) (h : SqL K H a xs ∨ SqT K H a xs) (r : ∀ J, Walk J xs.length (fun H' => Same H H') (YAt xs) → R J H) : iSeqV K i σ H R := by
  rcases h with h | h
  · exact ⟨a, xs, _, e, .inl ⟨h, rfl⟩, r _ (walk_seqV (.inl ⟨h, rfl⟩))⟩
  · exact ⟨a, xs, _, e, .inr ⟨h, rfl⟩, r _ (walk_seqV (.inr ⟨h, rfl⟩))⟩
def DcGo (J : It) (g : TG) (tk tv : TE) (vs : List Nat) (σ : L2.St) (H1 : Hp) (Q : VK) : Prop := ∀ D, H1 D = none → ∃ W : Nat → Nat → Hp → Prop, (∃ m, W 0 m (upd H1 D (.dT []))) ∧ ∀ i m H, W i m H →
  (J.stop i H ∧ Q (.ref D) H) ∨ (J.go i H ∧ ∃ Nx : Hp → Prop, (∀ H', Nx H' → ∃ m', m' < m ∧ W (i + 1) m' H') ∧ ∀ x H', J.yld i H x H' → g x (wipe σ vs) H' fun σ2 H2 => wipe σ2 vs = wipe σ vs ∧
    tk σ2 H2 fun y H4 => tv σ2 H4 fun z H5 => ∃ kvs ks b, y = .ref b ∧ H5 b = some (.tup (ks.map kV)) ∧ H5 D = some (.dT kvs) ∧ kvs.length < sizeLine ∧ Nx (upd H5 D (.dT (putK kvs ks z))))
theorem i_dcT {wi : TI} {g : TG} {tk tv : TE} {vs : List Nat} {σ : L2.St} {H : Hp} {Q : VK} (h : wi σ H fun J H1 => DcGo J g tk tv vs σ H1 Q) : tDcT wi g tk tv vs σ H Q := h
theorem go_dcT {J : It} {n : Nat} {G : Hp → Prop} {Y : Nat → Hp → V → Hp → Prop} {g : TG} {tk tv : TE} {vs : List Nat} {σ : L2.St} {H1 : Hp} {Q : VK} (w : Walk J n G Y) (Pv : Addr → Nat → Hp → Prop) (h0 : ∀ p, H1 p = none → Pv p 0 (upd H1 p (.dT []))) (hG : ∀ p i H, H1 p = none → i ≤ n → Pv p i H → G H)
    (hs : ∀ p, H1 p = none → ∀ i x H H', i < n → Pv p i H → Y i H x H' → g x (wipe σ vs) H' fun σ2 H2 => wipe σ2 vs = wipe σ vs ∧
      tk σ2 H2 fun y H4 => tv σ2 H4 fun z H5 => ∃ kvs ks b, y = .ref b ∧ H5 b = some (.tup (ks.map kV)) ∧ H5 p = some (.dT kvs) ∧ kvs.length < sizeLine ∧ Pv p (i + 1) (upd H5 p (.dT (putK kvs ks z))))
    (hd : ∀ p H, H1 p = none → Pv p n H → Q (.ref p) H) : DcGo J g tk tv vs σ H1 Q := by
  intro p np
  refine ⟨fun i m H => i + m = n ∧ Pv p i H, ⟨n, by omega, h0 p np⟩, ?_⟩
  rintro i m H ⟨le, pv⟩
  have ok := hG p i H np (by omega) pv
  rcases m with _ | m
  · obtain rfl : i = n := by omega
    exact .inl ⟨w.stops H ok, hd p H np pv⟩
  · exact .inr ⟨w.goes i H (by omega) ok, Pv p (i + 1), fun H' q => ⟨m, Nat.lt_succ_self m, by omega, q⟩, fun x H' y => hs p np i x H H' (by omega) pv (w.yields i H x H' (by omega) ok y)⟩
/-- isinstance(x, (list, tuple)) -/
theorem kit_two {K : PySem.W.Frag} {t u1 u2 : Value} {b1 b2 : Bool} (h1 : PySem.W.kitOne K t u1 = some b1) (h2 : PySem.W.kitOne K t u2 = some b2) : PySem.W.kitAny K t [u1, u2] = some (b1 || b2) := by
  cases b1 <;> cases b2 <;> simp [PySem.W.kitAny, h1, h2]
theorem isiLT {K : PySem.W.Frag} {H : Hp} {v : V} {t : Value} {b1 b2 : Bool} {Q : VK} {p : Addr} (ty : TyX K H v t) (e : H p = some (.tup [.ty "list", .ty "tuple"])) (h1 : PySem.W.kitOne K t (.type "list") = some b1) (h2 : PySem.W.kitOne K t (.type "tuple") = some b2) (k : Q (.bl (b1 || b2)) H) : rIsiT K [v, .ref p] H Q :=
  ⟨v, p, _, t, _, _, rfl, e, .cons (.ty _) (.cons (.ty _) .nil), ty, kit_two h1 h2, k⟩
theorem De.isiLT {K : PySem.W.Frag} {H : Hp} {v : V} {d : PyData} {Q : VK} {p : Addr} (h : De K H v d) (e : H p = some (.tup [.ty "list", .ty "tuple"])) (k : Q (.bl (tyB "list" d || tyB "tuple" d)) H) : rIsiT K [v, .ref p] H Q := by
  have a : ∀ {n m : String} {b : Bool}, PySem.W.kitOne K (.type n) (.type m) = some b → PySem.W.kitOne K (.type n) (.type m) = some b := fun q => q
  cases h with
  | non => exact Sw.isiLT (.base .non) e (kit_ty (show _ = some false by decide +kernel)) (kit_ty (show _ = some false by decide +kernel)) k
  | bl b => exact Sw.isiLT (.base (.bl _)) e (kit_ty (show _ = some false by decide +kernel)) (kit_ty (show _ = some false by decide +kernel)) k
  | int i => exact Sw.isiLT (.base (.int _)) e (kit_ty (show _ = some false by decide +kernel)) (kit_ty (show _ = some false by decide +kernel)) k
  | str x => exact Sw.isiLT (.base (.str _)) e (kit_ty (show _ = some false by decide +kernel)) (kit_ty (show _ = some false by decide +kernel)) k
  | lst h1 _ h2 => exact Sw.isiLT (.base (.lst h1)) e (kit_ty (show _ = some true by decide +kernel)) (kit_ty (show _ = some false by decide +kernel)) k
  | tup h1 h2 => exact Sw.isiLT (tyx_tup h1) e (kit_ty (show _ = some false by decide +kernel)) (kit_ty (show _ = some true by decide +kernel)) k
  | dict h1 h2 => exact Sw.isiLT (.base (.dK h1)) e (kit_ty (show _ = some false by decide +kernel)) (kit_ty (show _ = some false by decide +kernel)) k
end Sw
namespace Sw.Oi
open PySem PySem.Calls PySem.W
open Sem (wp)
/-! ### != of two instances whose class tells == alone -/
section
variable {prog : Program} {w : World} {A : Around} {E : Value → Shared → Prop} {s : Shared} {h₀ : Heap} {L : Addr} {m : Str → Option Value} {K : Frag} {x C f : Addr} {ox : Obj} {od : Option Obj} {b tb : Value}
theorem slot_found {M : Model} {name : Str} {id B : String} {args : List Value} {Q : Option Value → Shared → Prop} (kin : K.In s.heap) (inst : InstAt s.heap x ox C od) (found : findIn K (.ref C) name = some (some (.builtin id))) (S : Slot B name id)
    (go : wpAny M A (call (.builtin id) (.ref x :: args)) (fun v => Q (some v)) E s) : wpAny M A (callSpecialIfBound? (.ref x) name args) Q E s := by
  simp only [callSpecialIfBound?, bindSpecialIfBound?]
  refine wpAny_holding (wpAny_bind (wpAny_bind (wpAny_bind (inst.type.here ((looks_findIn kin found).here ?_)))))
  simp only [S.bind]
  refine wpAny_bind (wpAny_askSetting (wpAny_ite ?_))
  have last : wpAny M A (call (.builtin id) ([.ref x] ++ args) >>= fun v => pure (some v)) Q E s := wpAny_bind (wpAny_mono go (fun v s' q => wpAny_pure q) fun _ _ q => q)
  split
  · exact wpAny_bind (wpAny_pure (wpAny_pure last))
  · exact wpAny_tryCatch (wpAny_bind (wpAny_pure (wpAny_pure last)))
theorem ne_body {Q : Fin → Shared → Prop} (room : A.units < cLine) (kin : K.In s.heap) (inst : InstAt s.heap x ox C od) (hs : findIn K (.ref C) "__eq__" = some (some (.ref f))) (hf : isFn K (.ref f) = true)
    (go : wpAny (model prog w) A (call (.ref f) [.ref x, b]) (fun v s' => ∃ c, v = .bool c ∧ Q (.done (.ret (.bool (!c)))) s') E s) : wpAny (model prog w) A (Builtin.«object.__ne__» ⟨[.ref x, b], []⟩) Q E s := by
  unfold Builtin.«object.__ne__»
  repeat (first
    | with_reducible refine wpAny_cRoomFor room ?_
    | (refine wpAny_bind (m := callSpecialIfBound? (.ref x) (Str.ofString "__eq__") [b])
        (ifBound_K kin inst hs hf (wpAny_mono go (fun r s' hr => by
          obtain ⟨c, rfl, hq⟩ := hr
          repeat (first | exact hq | exact wpAny_pure hq | exact wpAny_truthy_bool hq | (refine wpAny_bind (m := truthy (.bool _)) (wpAny_truthy_bool ?_)) | wp_step)) fun _ _ e => e)))
    | wp_step)
theorem ne_K {Q : Value → Shared → Prop} (room : A.units + 1 < cLine) (F : PyProof.Rows.Fr h₀ L s.heap m) (kin₀ : K.In h₀) (inst : InstAt s.heap x ox C od) (hb : Looks (model prog w) s.heap (typeOf b) tb) (nf : notFirst K C tb = true)
    (hne : findIn K (.ref C) "__ne__" = some (some (.builtin "object.__ne__"))) (sub : subIn K (.ref C) (.type "object") = some true) (hs : findIn K (.ref C) "__eq__" = some (some (.ref f))) (hf : isFn K (.ref f) = true)
    (go : wpAny (model prog w) A.in1 (call (.ref f) [.ref x, b]) (fun v s' => ∃ c, v = .bool c ∧ Q (.bool (!c)) s') E s) : wpAny (model prog w) A (richCompare .NotEq (.ref x) b) Q E s := by
  have kin := kin₀.keeps F.keep
  have obj : Looks (model prog w) s.heap (isInstance (.ref x) (.type "object")) true := inst.type.andThen (looks_subIn kin sub)
  have one : wpAny (model prog w) A (tryCompare (.ref x) "__ne__" b) (fun r s' => ∃ v, r = some v ∧ Q v s') E s := by
    simp only [tryCompare]
    refine wpAny_bind (slot_found kin inst hne PySem.F.cmp_object.ne (wpAny_call (codeAny_call_builtin PySem.F.cmp_object.ne.plain PySem.F.cmpEntry_ne
      (check_slot PySem.F.cmpKind_ne PySem.F.cmpSplit_ne obj (PySem.F.cmpArgs_ne _ _) (ne_body (A := A.in1) room kin inst hs hf (wpAny_mono go (fun v s' hv => ?_) fun _ _ e => e))))))
    obtain ⟨c, rfl, hq⟩ := hv
    first | exact ⟨c, rfl, wpAny_pure ⟨_, rfl, hq⟩⟩ | exact ⟨c, rfl, wpAny_pure (wpAny_pure ⟨_, rfl, hq⟩)⟩ | exact ⟨c, rfl, ⟨_, rfl, hq⟩⟩
  unfold richCompare
  simp only [oneThing_ref]
  refine wpAny_holding (wpAny_bind (wpAny_cRoomFor (Nat.lt_of_succ_lt room) ?_))
  refine wpAny_bind (inst.type.here (wpAny_bind (hb.here ?_)))
  rw [cmpInfo_NotEq]
  dsimp only
  split
  · rename_i q
    have no : subIn K tb (.ref C) = some false := by
      rcases Bool.or_eq_true_iff.mp nf with e | e
      · rw [beq_iff_eq.mp e] at q; simp at q
      · exact beq_iff_eq.mp e
    refine wpAny_bind ((looks_subIn kin no).here ?_)
    simp only [Bool.false_eq_true, if_false]
    refine wpAny_bind (wpAny_mono one (fun r s' z => ?_) fun _ _ e => e)
    obtain ⟨v, rfl, hq⟩ := z
    exact wpAny_pure hq
  · refine wpAny_bind (wpAny_pure ?_)
    simp only [Bool.false_eq_true, if_false]
    refine wpAny_bind (wpAny_mono one (fun r s' z => ?_) fun _ _ e => e)
    obtain ⟨v, rfl, hq⟩ := z
    exact wpAny_pure hq
end
end Sw.Oi
namespace Sw
open PySem PySem.Spec PyProof.Rows L2
/-- the class at C tells == by a def of the program, != not -/
structure EqI (P : Program) (w : World) (K : PySem.W.Frag) (mg : Str → Option Value) (base : Heap) (k : Nat) (C : Addr) (sp : Sp) : Prop where
  ex : ∃ (f : Addr) (fd : FuncData) (ps : List Str), PySem.W.findIn K (.ref C) "__eq__" = some (some (.ref f)) ∧ PySem.W.isFn K (.ref f) = true ∧ FnOk P w K mg base CX0 k f fd ps sp ∧ Binds K fd ps []
  ne : PySem.W.findIn K (.ref C) "__ne__" = some (some (.builtin "object.__ne__"))
  sub : PySem.W.subIn K (.ref C) (.type "object") = some true
def rOwnR (C : Addr) (sp : Sp) (neg : Bool) : R2 := fun x y H Q => ∃ a b dx dy fs gs, x = .ref a ∧ y = .ref b ∧ H a = some (.ins C dx fs) ∧ H b = some (.ins C dy gs) ∧ sp [.ref a, .ref b] H (fun v H' => ∃ r, v = .bl r ∧ Q (.bl (neg ^^ r)) H') L2.E0
section
variable {X : Cx} {k n : Nat} {C : Addr} {sp : Sp}
theorem op_eqO (e : EqI X.prog X.w X.K X.mg X.base k C sp) (hr : Room n X.A) (hk : k + 1 ≤ n := by decide) : OpR X (compareOp .Eq) (rOwnR C sp false) := by
  intro pins s σ H x y v u Q I rx ry h
  obtain ⟨a, b, dx, dy, fs, gs, rfl, rfl, ha, hb, q⟩ := h
  cases (show v = Value.ref a from rx)
  cases (show u = Value.ref b from ry)
  obtain ⟨f, fd, ps, hs, hf, F, bi⟩ := e.ex
  obtain ⟨mA, J, _⟩ := ins_get I.hok ha
  obtain ⟨mB, J', _⟩ := ins_get I.hok hb
  obtain ⟨od, J, _⟩ := J.look
  obtain ⟨od', J', _⟩ := J'.look
  obtain ⟨m, hF⟩ := I.fr
  show wpAny _ _ (richCompare .Eq (.ref a) (.ref b)) _ _ _
  have R := F.raw bi (dvs := []) .nil
  refine PySem.W.cmp_K (op := .Eq) (tb := .ref C) hr.units0 hF I.ok.mod.kin J J'.type (by simp [PySem.W.notFirst]) hs hf ?_
  refine wpAny_mono (wpAny_call (run_fnR (us := [.ref a, .ref b]) (vs := [.ref a, .ref b]) R (hr.mono (by omega)) pass0 I (.cons rfl (.cons rfl .nil)) q)) (fun w' s' z => ?_) fun _ _ x => x
  obtain ⟨z', H', I', rz, r, rfl, qz⟩ := z
  cases rz
  exact ⟨.bl r, H', I', rfl, by simpa using qz⟩
theorem op_neO (e : EqI X.prog X.w X.K X.mg X.base k C sp) (hr : Room n X.A) (hk : k + 1 ≤ n := by decide) : OpR X (compareOp .NotEq) (rOwnR C sp true) := by
  intro pins s σ H x y v u Q I rx ry h
  obtain ⟨a, b, dx, dy, fs, gs, rfl, rfl, ha, hb, q⟩ := h
  cases (show v = Value.ref a from rx)
  cases (show u = Value.ref b from ry)
  obtain ⟨f, fd, ps, hs, hf, F, bi⟩ := e.ex
  obtain ⟨mA, J, _⟩ := ins_get I.hok ha
  obtain ⟨mB, J', _⟩ := ins_get I.hok hb
  obtain ⟨od, J, _⟩ := J.look
  obtain ⟨od', J', _⟩ := J'.look
  obtain ⟨m, hF⟩ := I.fr
  show wpAny _ _ (richCompare .NotEq (.ref a) (.ref b)) _ _ _
  have R := F.raw bi (dvs := []) .nil
  refine Oi.ne_K (tb := .ref C) (Nat.lt_of_le_of_lt (by omega) hr.units) hF I.ok.mod.kin J J'.type (by simp [PySem.W.notFirst]) e.ne e.sub hs hf ?_
  have hr1 : Room k X.A.in1 := (hr.mono hk).in1
  refine wpAny_mono (wpAny_call (SlX.run_at (us := [.ref a, .ref b]) (ws := [.ref a, .ref b]) R hr1 I.env0.in1 pass0 I (.cons rfl (.cons rfl .nil)) q)) (fun w' s' z => ?_) fun _ _ x => x
  obtain ⟨z', H', I', rz, r, rfl, qz⟩ := z
  cases rz
  exact ⟨r, rfl, .bl (!r), H', I', rfl, by simpa using qz⟩
end
end Sw
namespace Sw
open PySem PySem.Spec PyProof.Rows L2
/-! ### heaps beside the box of draws -/
theorem del_sb {b : Addr} {H H' : Hp} (s : SB b H H') : Same (L2.del H b) (L2.del H' b) := fun a o e => by
  by_cases c : a = b
  · subst c; rw [L2.del_same] at e; cases e
  · rw [L2.del_ne c] at e ⊢; exact s a o c e
theorem del_sub {b : Addr} {H : Hp} : Same (L2.del H b) H := fun a o e => by
  by_cases c : a = b
  · subst c; rw [L2.del_same] at e; cases e
  · rw [L2.del_ne c] at e; exact e
theorem box_some {H : Hp} {b : Addr} {d : Int} (B : BoxAt H b d) : ∃ o, H b = some o := by obtain ⟨_, _, _, _, e, _⟩ := B.ex; exact ⟨_, e⟩
theorem box_ne {H : Hp} {b p : Addr} {d : Int} (B : BoxAt H b d) (n : H p = none) : p ≠ b := by
  rintro rfl
  obtain ⟨o, e⟩ := box_some B
  rw [n] at e; cases e
theorem del_new {H : Hp} {b p : Addr} {d : Int} {o : HO} (B : BoxAt H b d) (n : H p = none) : L2.del (upd H p o) b p = some o := by rw [L2.del_ne (box_ne B n)]; exact upd_same
theorem BoxAt.upd_ne' {H : Hp} {b p : Addr} {d : Int} {o : HO} (B : BoxAt H b d) (h : p ≠ b) : BoxAt (upd H p o) b d := by
  obtain ⟨n, g, c, e, hb, hr⟩ := B.ex
  exact ⟨n, g, c, e, by rw [L2.upd_ne (Ne.symm h)]; exact hb, hr⟩
/-- a new thing is made and told -/
def NewT (xs : List V) (H : Hp) (Q : VK) : Prop := xs.length ≤ sizeLine ∧ ∀ p, H p = none → Q (.ref p) (upd H p (.tup xs))
def NewL (xs : List V) (H : Hp) (Q : VK) : Prop := xs.length ≤ sizeLine ∧ ∀ p, H p = none → Q (.ref p) (upd H p (.lst xs))
def NewLL (xs : List V) (H : Hp) (Q : VK) : Prop := xs.length ≤ sizeLine ∧ ∀ p, H p = none → sysModules < p → Q (.ref p) (upd H p (.lst xs))
def NewD (H : Hp) (Q : VK) : Prop := ∀ p, H p = none → Q (.ref p) (upd H p (.dK []))
section
variable {σ : L2.St} {H : Hp} {Q : VK} {b : Addr} {d : Int} {t : TA} {xs : List V}
theorem i_tupM (h : t σ H fun xs H1 => NewT xs H1 Q) : tTup t σ H Q := h
theorem i_lstM (h : t σ H fun xs H1 => NewL xs H1 Q) : tLst t σ H Q := h
theorem i_lstLM (h : t σ H fun xs H1 => NewLL xs H1 Q) : tLstL t σ H Q := h
theorem i_dnewM (h : NewD H Q) : tDNewK σ H Q := h
theorem newT (B : BoxAt H b d) (l : xs.length ≤ sizeLine) (k : ∀ p H', BoxAt H' b d → Same (L2.del H b) (L2.del H' b) → L2.del H' b p = some (.tup xs) → Same H H' → Q (.ref p) H') : NewT xs H Q :=
  ⟨l, fun p n => k p _ (B.same (same_upd n)) (del_sb (SB.of (same_upd n))) (del_new B n) (same_upd n)⟩
theorem newL (B : BoxAt H b d) (l : xs.length ≤ sizeLine) (k : ∀ p H', BoxAt H' b d → Same (L2.del H b) (L2.del H' b) → L2.del H' b p = some (.lst xs) → Same H H' → Q (.ref p) H') : NewL xs H Q :=
  ⟨l, fun p n => k p _ (B.same (same_upd n)) (del_sb (SB.of (same_upd n))) (del_new B n) (same_upd n)⟩
theorem newLL (B : BoxAt H b d) (l : xs.length ≤ sizeLine) (k : ∀ p H', sysModules < p → H p = none → BoxAt H' b d → Same (L2.del H b) (L2.del H' b) → L2.del H' b p = some (.lst xs) → Same H H' → Q (.ref p) H') : NewLL xs H Q :=
  ⟨l, fun p n lt => k p _ lt n (B.same (same_upd n)) (del_sb (SB.of (same_upd n))) (del_new B n) (same_upd n)⟩
theorem newD (B : BoxAt H b d) (k : ∀ p H', BoxAt H' b d → Same (L2.del H b) (L2.del H' b) → L2.del H' b p = some (.dK []) → Same H H' → Q (.ref p) H') : NewD H Q :=
  fun p n => k p _ (B.same (same_upd n)) (del_sb (SB.of (same_upd n))) (del_new B n) (same_upd n)
/-- without a box -/
theorem newT0 (l : xs.length ≤ sizeLine) (k : ∀ p H', H p = none → Same H H' → H' p = some (.tup xs) → Q (.ref p) H') : NewT xs H Q := ⟨l, fun p n => k p _ n (same_upd n) upd_same⟩
theorem newL0 (l : xs.length ≤ sizeLine) (k : ∀ p H', H p = none → Same H H' → H' p = some (.lst xs) → Q (.ref p) H') : NewL xs H Q := ⟨l, fun p n => k p _ n (same_upd n) upd_same⟩
theorem newLL0 (l : xs.length ≤ sizeLine) (k : ∀ p H', H p = none → sysModules < p → Same H H' → H' p = some (.lst xs) → Q (.ref p) H') : NewLL xs H Q := ⟨l, fun p n lt => k p _ n lt (same_upd n) upd_same⟩
theorem newD0 (k : ∀ p H', H p = none → Same H H' → H' p = some (.dK []) → Q (.ref p) H') : NewD H Q := fun p n => k p _ n (same_upd n) upd_same
end
/-! ### odd values -/
/-- H' has all of G but the lists that lie in H0 -/
def Kept (H0 G H' : Hp) : Prop := ∀ a o, G a = some o → ((∀ xs, o ≠ .lst xs) ∨ H0 a = none) → H' a = some o
theorem Kept.refl (H0 G : Hp) : Kept H0 G G := fun _ _ e _ => e
theorem Kept.same {H0 G G' H' : Hp} (k : Kept H0 G' H') (s : Same G G') : Kept H0 G H' := fun a o e q => k a o (s a o e) q
theorem Kept.sqT {K : PySem.W.Frag} {H0 H H' : Hp} {a : Addr} {xs : List V} (k : Kept H0 H H') (h : SqT K H a xs) : SqT K H' a xs := by
  rcases h with (h | ⟨o, h⟩) | h
  · exact .inl (.inl (k _ _ h (.inl fun _ => HO.noConfusion)))
  · exact .inl (.inr ⟨o, k _ _ h (.inl fun _ => HO.noConfusion)⟩)
  · exact .inr h
mutual
theorem De.kept {K : PySem.W.Frag} {H0 H H' : Hp} (s : Kept H0 H H') : ∀ {v : V} {d : PyData}, De K H v d → noL d = true → De K H' v d
  | _, _, .non, _ => .non
  | _, _, .bl b, _ => .bl b
  | _, _, .int i, _ => .int i
  | _, _, .str x, _ => .str x
  | _, _, .lst h1 h0 h2, n => by simp [noL] at n
  | _, _, .tup h1 h2, n => .tup (s.sqT h1) (DeAll.kept s h2 (by simpa only [noL] using n))
  | _, _, .dict h1 (.nil), n => .dict (s _ _ h1 (.inl fun _ => HO.noConfusion)) .nil
  | _, _, .dict h1 (.cons _ _), n => by simp [noL] at n
theorem DeAll.kept {K : PySem.W.Frag} {H0 H H' : Hp} (s : Kept H0 H H') : ∀ {vs : List V} {ds : List PyData}, DeAll K H vs ds → noLAll ds = true → DeAll K H' vs ds
  | _, _, .nil, _ => .nil
  | _, _, .cons h1 h2, n => by
    simp only [noLAll, Bool.and_eq_true] at n
    exact .cons (De.kept s h1 n.1) (DeAll.kept s h2 n.2)
end
section
variable {K : PySem.W.Frag} {H0 G G' : Hp} {v x : V} {p : Addr} {xs : List V}
/-- what may lie in a told tuple: data of little size without a dict, its lists not in H0 -/
def AtomV (K : PySem.W.Frag) (H0 G : Hp) (v : V) : Prop := ∃ d, (∀ H', Kept H0 G H' → De K H' v d) ∧ d.hasDict = false ∧ Sd 3 170 d
/-- the same without lists -/
def AtomN (K : PySem.W.Frag) (H0 G : Hp) (v : V) : Prop := ∃ d, (∀ H', Kept H0 G H' → De K H' v d) ∧ d.hasDict = false ∧ Sd 3 170 d ∧ noL d = true
def AllA (K : PySem.W.Frag) (H0 G : Hp) : List V → Prop
  | [] => True
  | x :: xs => AtomV K H0 G x ∧ AllA K H0 G xs
def AllN (K : PySem.W.Frag) (H0 G : Hp) : List V → Prop
  | [] => True
  | x :: xs => AtomN K H0 G x ∧ AllN K H0 G xs
theorem AtomV.same (h : AtomV K H0 G v) (s : Same G G') : AtomV K H0 G' v := by
  obtain ⟨d, h1, h2, h3⟩ := h
  exact ⟨d, fun H' k => h1 H' (k.same s), h2, h3⟩
theorem AtomN.same (h : AtomN K H0 G v) (s : Same G G') : AtomN K H0 G' v := by
  obtain ⟨d, h1, h2, h3, h4⟩ := h
  exact ⟨d, fun H' k => h1 H' (k.same s), h2, h3, h4⟩
theorem AtomN.va (h : AtomN K H0 G v) : AtomV K H0 G v := by
  obtain ⟨d, h1, h2, h3, _⟩ := h
  exact ⟨d, h1, h2, h3⟩
theorem AllN.va : ∀ {vs : List V}, AllN K H0 G vs → AllA K H0 G vs
  | [], _ => trivial
  | _ :: _, h => ⟨h.1.va, AllN.va h.2⟩
theorem AllN.same (s : Same G G') : ∀ {vs : List V}, AllN K H0 G vs → AllN K H0 G' vs
  | [], _ => trivial
  | _ :: _, h => ⟨h.1.same s, AllN.same s h.2⟩
theorem AtomV.str {l : List Nat} (h : ∀ c ∈ l, c ≤ 1000) (n : l.length ≤ 20) : AtomV K H0 G (.str (S l)) := ⟨_, fun _ _ => .str _, by simp only [PyData.hasDict], (sd_str h).mono (by omega) (by omega)⟩
theorem AtomV.int {i : Int} (h : i.natAbs < 10 ^ 40) : AtomV K H0 G (.int i) := ⟨_, fun _ _ => .int _, by simp only [PyData.hasDict], (sd_int h).mono (by omega) (by omega)⟩
theorem AtomV.bl (c : Bool) : AtomV K H0 G (.bl c) := ⟨_, fun _ _ => .bl _, by simp only [PyData.hasDict], (sd_bl c).mono (by omega) (by omega)⟩
theorem AtomV.non : AtomV K H0 G .non := ⟨_, fun _ _ => .non, by simp only [PyData.hasDict], sd_non.mono (by omega) (by omega)⟩
theorem AtomN.str {l : List Nat} (h : ∀ c ∈ l, c ≤ 1000) (n : l.length ≤ 20) : AtomN K H0 G (.str (S l)) := ⟨_, fun _ _ => .str _, by simp only [PyData.hasDict], (sd_str h).mono (by omega) (by omega), rfl⟩
theorem AtomN.int {i : Int} (h : i.natAbs < 10 ^ 40) : AtomN K H0 G (.int i) := ⟨_, fun _ _ => .int _, by simp only [PyData.hasDict], (sd_int h).mono (by omega) (by omega), rfl⟩
theorem AtomN.deD {d : PyData} (h : De K G v d) (z : d.hasDict = false) (s : Sd 3 170 d) (n : noL d = true) : AtomN K H0 G v := ⟨d, fun _ k => h.kept k n, z, s, n⟩
theorem AtomN.tupD {ds : List PyData} (h : G p = some (.tup xs)) (a : DeAll K G xs ds) (z : (PyData.tuple ds).hasDict = false) (s : Sd 3 170 (.tuple ds)) (n : noLAll ds = true) : AtomN K H0 G (.ref p) := .deD (.tup (sqT_of h) a) z s (by simpa only [noL] using n)
theorem AtomV.lst {i : Int} (h : G p = some (.lst [.int i])) (lt : sysModules < p) (n : H0 p = none) (hi : i.natAbs < 10 ^ 20) : AtomV K H0 G (.ref p) := by
  have si : Sd 2 140 (.int i) := (sd_int (Nat.lt_of_lt_of_le hi (by decide))).mono (by omega) (by omega)
  exact ⟨.list [.int i], fun H' k => .lst (k _ _ h (.inr n)) lt (.cons (.int _) .nil), by simp only [PyData.hasDict, PyData.hasDictAll, Bool.or_self], (sd_lst' (.cons si .nil)).mono (by omega) (by omega)⟩
theorem AtomV.tup {i : Int} (h : G p = some (.tup [.int i])) (hi : i.natAbs < 10 ^ 20) : AtomV K H0 G (.ref p) := by
  have si : Sd 2 140 (.int i) := (sd_int (Nat.lt_of_lt_of_le hi (by decide))).mono (by omega) (by omega)
  exact (AtomN.tupD h (.cons (.int _) .nil) (by simp only [PyData.hasDict, PyData.hasDictAll, Bool.or_self]) ((sd_tup' (.cons si .nil)).mono (by omega) (by omega)) rfl).va
theorem AtomV.tupS {l : List Nat} (h : G p = some (.tup [.str (S l)])) (h1 : ∀ c ∈ l, c ≤ 1000) (h2 : l.length ≤ 20) : AtomV K H0 G (.ref p) :=
  (AtomN.tupD h (.cons (.str _) .nil) (by simp only [PyData.hasDict, PyData.hasDictAll, Bool.or_self]) ((sd_tup' (n := 2) (.cons ((sd_str h1).mono (by omega) (Nat.le_refl _)) .nil)).mono (by omega) (by omega)) rfl).va
theorem AllA.data : ∀ {vs : List V}, AllA K H0 G vs → ∃ ds, (∀ H', Kept H0 G H' → DeAll K H' vs ds) ∧ ds.length = vs.length ∧ (∀ d ∈ ds, d.hasDict = false ∧ Sd 3 170 d)
  | [], _ => ⟨[], fun _ _ => .nil, rfl, fun d h => by cases h⟩
  | v :: vs, h => by
    obtain ⟨d, h1, h2, h3⟩ := h.1
    obtain ⟨ds, k1, kl, k2⟩ := AllA.data h.2
    exact ⟨d :: ds, fun H' k => .cons (h1 H' k) (k1 H' k), by rw [List.length_cons, List.length_cons, kl], fun x hx => (List.mem_cons.mp hx).elim (fun e => e ▸ ⟨h2, h3⟩) (k2 x)⟩
theorem AllN.data : ∀ {vs : List V}, AllN K H0 G vs → ∃ ds, (∀ H', Kept H0 G H' → DeAll K H' vs ds) ∧ ds.length = vs.length ∧ (∀ d ∈ ds, d.hasDict = false ∧ Sd 3 170 d ∧ noL d = true)
  | [], _ => ⟨[], fun _ _ => .nil, rfl, fun d h => by cases h⟩
  | v :: vs, h => by
    obtain ⟨d, h1, h2, h3, h4⟩ := h.1
    obtain ⟨ds, k1, kl, k2⟩ := AllN.data h.2
    exact ⟨d :: ds, fun H' k => .cons (h1 H' k) (k1 H' k), by rw [List.length_cons, List.length_cons, kl], fun x hx => (List.mem_cons.mp hx).elim (fun e => e ▸ ⟨h2, h3, h4⟩) (k2 x)⟩
/-- what may lie in a told list -/
def LsOk (d : PyData) : Prop := ∀ ds, d = .list ds → noLAll ds = true
/-- a value that may be told for a step -/
def OddV (K : PySem.W.Frag) (H0 G : Hp) (v : V) : Prop := ∃ d, (∀ H', Kept H0 G H' → De K H' v d) ∧ Ok1 d ∧ Sd 4 1000 d ∧ LsOk d
theorem OddV.same (h : OddV K H0 G v) (s : Same G G') : OddV K H0 G' v := by
  obtain ⟨d, h1, h2, h3, h4⟩ := h
  exact ⟨d, fun H' k => h1 H' (k.same s), h2, h3, h4⟩
theorem OddV.atom (h : AtomN K H0 G v) : OddV K H0 G v := by
  obtain ⟨d, h1, h2, h3, h4⟩ := h
  exact ⟨d, h1, .inr h2, h3.mono (by omega) (by omega), fun ds e => by rw [e] at h4; simp [noL] at h4⟩
theorem OddV.non : OddV K H0 G .non := ⟨_, fun _ _ => .non, .inr (by simp only [PyData.hasDict]), sd_non.mono (by omega) (by omega), fun ds e => by cases e⟩
theorem OddV.bl (c : Bool) : OddV K H0 G (.bl c) := ⟨_, fun _ _ => .bl c, .inr (by simp only [PyData.hasDict]), (sd_bl c).mono (by omega) (by omega), fun ds e => by cases e⟩
theorem OddV.emp (h : G p = some (.dK [])) : OddV K H0 G (.ref p) := ⟨_, fun _ k => .dict (k _ _ h (.inl fun _ => HO.noConfusion)) .nil, .inl rfl, sd_emp.mono (by omega) (by omega), fun ds e => by cases e⟩
theorem OddV.tupS (h : SqT K G p xs) (l : xs.length ≤ 5) (a : AllA K H0 G xs) : OddV K H0 G (.ref p) := by
  obtain ⟨ds, h1, hl, h2⟩ := a.data
  refine ⟨_, fun H' k => .tup (k.sqT h) (h1 H' k), .inr (hasDict_tup.mpr fun y hy => (h2 y hy).1), (sd_tup fun d hd => (h2 d hd).2).mono (by omega) ?_, fun ds e => by cases e⟩
  rw [hl]
  exact Nat.le_trans (Nat.mul_le_mul_right _ l) (by decide)
theorem OddV.tup (h : G p = some (.tup xs)) (l : xs.length ≤ 5) (a : AllA K H0 G xs) : OddV K H0 G (.ref p) := .tupS (sqT_of h) l a
theorem OddV.lst (h : G p = some (.lst xs)) (lt : sysModules < p) (n : H0 p = none) (l : xs.length ≤ 5) (a : AllN K H0 G xs) : OddV K H0 G (.ref p) := by
  obtain ⟨ds, h1, hl, h2⟩ := a.data
  have z : ∀ y ∈ ds, y.hasDict = false := fun y hy => (h2 y hy).1
  refine ⟨_, fun H' k => .lst (k _ _ h (.inr n)) lt (h1 H' k), .inr ?_, (sd_lst fun d hd => (h2 d hd).2.1).mono (by omega) ?_, fun es e => ?_⟩
  · have := hasDict_tup.mpr z
    simpa only [PyData.hasDict] using this
  · rw [hl]
    exact Nat.le_trans (Nat.mul_le_mul_right _ l) (by decide)
  · cases e; exact noLAll_iff.mpr fun y hy => (h2 y hy).2.2
def Odds (K : PySem.W.Frag) (H0 G : Hp) (vs : List V) : Prop := ∀ v ∈ vs, OddV K H0 G v
theorem Odds.nil : Odds K H0 G [] := fun v h => by cases h
theorem Odds.same {vs : List V} (h : Odds K H0 G vs) (s : Same G G') : Odds K H0 G' vs := fun v hv => (h v hv).same s
theorem Odds.snoc {vs : List V} (h : Odds K H0 G vs) (o : OddV K H0 G v) : Odds K H0 G (vs ++ [v]) := fun x hx => (List.mem_append.mp hx).elim (h x) fun q => by rw [List.mem_singleton.mp q]; exact o
theorem Odds.app {vs ws : List V} (h : Odds K H0 G vs) (o : Odds K H0 G ws) : Odds K H0 G (vs ++ ws) := fun x hx => (List.mem_append.mp hx).elim (h x) (o x)
end
theorem fresh0 {b p : Addr} {d : Int} {H0 H : Hp} (s : SB b H0 H) (B : BoxAt H b d) (n : H p = none) : H0 p = none := by
  have npb := box_ne B n
  rcases e : H0 p with _ | o
  · rfl
  · rw [s _ _ npb e] at n; cases n
section
variable {K : PySem.W.Frag} {H : Hp} {Q : VK} {b : Addr} {d : Int}
theorem i_listB {p : Addr} {ys : List V} (B : BoxAt H b d) (h : SqL K H p ys ∨ SqT K H p ys) (k : ∀ l H', sysModules < l → H l = none → BoxAt H' b d → Same (L2.del H b) (L2.del H' b) → L2.del H' b l = some (.lst ys) → Same H H' → Q (.ref l) H') : rListL K [.ref p] H Q :=
  i_listL h fun l n lt => k l _ lt n (B.same (same_upd n)) (del_sb (SB.of (same_upd n))) (del_new B n) (same_upd n)
theorem i_catB {a c : Addr} {xs ys : List V} (B : BoxAt H b d) (h : SqT K (L2.del H b) a xs) (h2 : SqT K (L2.del H b) c ys) (l : xs.length + ys.length ≤ sizeLine) (k : ∀ t H', BoxAt H' b d → Same (L2.del H b) (L2.del H' b) → SqT K (L2.del H' b) t (xs ++ ys) → Same H H' → Q (.ref t) H') : rCatA K (.ref a) (.ref c) H Q := by
  refine ⟨a, c, xs, ys, rfl, rfl, Same.sqT del_sub h, Same.sqT del_sub h2, l, fun e => ?_, fun e1 e2 => ?_, fun e1 e2 p np => ?_⟩
  · rw [e] at k; exact k _ _ B (Same.refl _) h2 (Same.refl _)
  · rw [e2, List.append_nil] at k; exact k _ _ B (Same.refl _) h (Same.refl _)
  · exact k _ _ (B.same (same_upd np)) (del_sb (SB.of (same_upd np))) (sqT_of (del_new B np)) (same_upd np)
theorem i_sl1B {a : Addr} {xs : List V} (B : BoxAt H b d) (h : SqT K H a xs) (l : 2 ≤ xs.length) (k : ∀ t H', BoxAt H' b d → Same (L2.del H b) (L2.del H' b) → L2.del H' b t = some (.tup (xs.take 1)) → Same H H' → Q (.ref t) H') : rSlA K (.ref a) none (some 1) H Q := by
  refine ⟨a, xs, rfl, h, fun e => ?_, fun e p np => ?_⟩
  · rw [show (some (1 : Int)) = some ((1 : Nat) : Int) from rfl, HT.sIx_nat] at e
    omega
  · have : cutV xs none (some 1) = xs.take 1 := by
      unfold cutV
      rw [show (some (1 : Int)) = some ((1 : Nat) : Int) from rfl, HT.sIx_nat, HT.sIx_none, List.drop_zero, Nat.sub_zero, Nat.min_eq_left (by omega)]
    rw [this]
    exact k _ _ (B.same (same_upd np)) (del_sb (SB.of (same_upd np))) (del_new B np) (same_upd np)
theorem i_slTB {a : Addr} {xs : List V} {n : Nat} (B : BoxAt H b d) (h : SqT K (L2.del H b) a xs) (k : ∀ t H', BoxAt H' b d → Same (L2.del H b) (L2.del H' b) → SqT K (L2.del H' b) t (xs.take n) → Same H H' → Q (.ref t) H') : rSlA K (.ref a) none (some (n : Int)) H Q := by
  refine ⟨a, xs, rfl, Same.sqT del_sub h, fun e => ?_, fun e p np => ?_⟩
  · rw [HT.sIx_nat, HT.sIx_none] at e
    refine k _ _ B (Same.refl _) ?_ (Same.refl _)
    rw [List.take_of_length_le (by omega)]; exact h
  · have : cutV xs none (some (n : Int)) = xs.take n := by
      unfold cutV
      rw [HT.sIx_nat, HT.sIx_none, List.drop_zero, Nat.sub_zero]
      by_cases hk : n ≤ xs.length
      · rw [Nat.min_eq_left hk]
      · rw [Nat.min_eq_right (by omega), List.take_length, List.take_of_length_le (by omega)]
    rw [this]
    exact k _ _ (B.same (same_upd np)) (del_sb (SB.of (same_upd np))) (sqT_of (del_new B np)) (same_upd np)
theorem i_slFB {a : Addr} {xs : List V} {n : Nat} (B : BoxAt H b d) (h : SqT K (L2.del H b) a xs) (k : ∀ t H', BoxAt H' b d → Same (L2.del H b) (L2.del H' b) → SqT K (L2.del H' b) t (xs.drop n) → Same H H' → Q (.ref t) H') : rSlA K (.ref a) (some (n : Int)) none H Q := by
  refine ⟨a, xs, rfl, Same.sqT del_sub h, fun e => ?_, fun e p np => ?_⟩
  · rw [HT.sIx_nat] at e
    refine k _ _ B (Same.refl _) ?_ (Same.refl _)
    by_cases hk : n = 0
    · rw [hk, List.drop_zero]; exact h
    · have : xs = [] := List.eq_nil_of_length_eq_zero (by omega)
      rw [this, List.drop_nil]; rw [this] at h; exact h
  · have : cutV xs (some (n : Int)) none = xs.drop n := by
      unfold cutV
      rw [HT.sIx_nat, HT.sIx_none]
      by_cases hk : n ≤ xs.length
      · rw [Nat.min_eq_left hk, List.take_of_length_le (by rw [List.length_drop]; omega)]
      · rw [Nat.min_eq_right (by omega), List.drop_of_length_le (by omega), List.drop_of_length_le (by omega), List.take_nil]
    rw [this]
    exact k _ _ (B.same (same_upd np)) (del_sb (SB.of (same_upd np))) (sqT_of (del_new B np)) (same_upd np)
theorem i_catLB {a c : Addr} {xs ys : List V} (B : BoxAt H b d) (h : L2.del H b a = some (.lst xs)) (h2 : L2.del H b c = some (.lst ys)) (l : xs.length + ys.length ≤ sizeLine) (k : ∀ t H', BoxAt H' b d → Same (L2.del H b) (L2.del H' b) → L2.del H' b t = some (.lst (xs ++ ys)) → Same H H' → Q (.ref t) H') : rCat (.ref a) (.ref c) H Q :=
  ⟨a, c, xs, ys, rfl, rfl, del_sub _ _ h, del_sub _ _ h2, l, fun p np => k _ _ (B.same (same_upd np)) (del_sb (SB.of (same_upd np))) (del_new B np) (same_upd np)⟩
end
end Sw
namespace Sw
open PySem PySem.Spec PyProof.Rows L2
/-! ### fields, making, methods: what is asked -/
def rFldR (K : PySem.W.Frag) (f : Str) : V → Hp → VK → Prop := fun x H Q => ∃ a C dx fs v, x = .ref a ∧ H a = some (.ins C dx fs) ∧ Cls K C ∧ NoAttr K C f ∧ fs.lookup f = some v ∧ Q v H
theorem i_fld {K : PySem.W.Frag} {ta : TE} {f : Str} {σ : L2.St} {H : Hp} {Q : VK} (h : ta σ H fun x H1 => rFldR K f x H1 Q) : tFld K ta f σ H Q := h
def rSFld (K : PySem.W.Frag) (f : Str) (y x : V) (H : Hp) (R : Hp → Prop) : Prop := ∃ a C dx fs, x = .ref a ∧ H a = some (.ins C dx fs) ∧ Cls K C ∧ NoAttr K C f ∧ fs.length < 1000 ∧ R (upd H a (.ins C dx (putF f y fs)))
theorem i_sFld {K : PySem.W.Frag} {ta tv : TE} {f : Str} {D : Ends} {σ : L2.St} {H : Hp} (h : tv σ H fun y H1 => ta σ H1 fun x H2 => rSFld K f y x H2 (D.nx σ)) : sFld K ta tv f D σ H := h
def rMake (C : Addr) (sp : Sp) (E : XK) (vs : List V) (H : Hp) (Q : VK) : Prop := ∀ x dx, H x = none → H dx = none → dx ≠ x → sp (.ref x :: vs) (upd (upd H dx (.own x)) x (.ins C dx [])) (fun v H2 => v = .non ∧ Q (.ref x) H2) E
theorem i_make {C : Addr} {sp : Sp} {E : XK} {t : TA} {σ : L2.St} {H : Hp} {Q : VK} (h : t σ H fun vs H1 => rMake C sp E vs H1 Q) : tMake C sp [] E t σ H Q := by
  unfold tMake
  simp only [List.append_nil]
  exact h
def rMeth (C : Addr) (m : Str) (t : TA) (sp : Sp) (E : XK) (σ : L2.St) (x : V) (H : Hp) (Q : VK) : Prop := ∃ a dx fs, x = .ref a ∧ H a = some (.ins C dx fs) ∧ fs.lookup m = none ∧ t σ H fun vs H2 => sp (x :: (vs ++ [])) H2 Q E
theorem i_meth {C : Addr} {m : Str} {sp : Sp} {E : XK} {ta : TE} {t : TA} {σ : L2.St} {H : Hp} {Q : VK} (h : ta σ H fun x H1 => rMeth C m t sp E σ x H1 Q) : tMeth C m sp [] E ta t σ H Q := h
def rStar (K : PySem.W.Frag) (t : TA) (σ : L2.St) (x : V) (H : Hp) (Q : List V → Hp → Prop) : Prop := ∃ p xs, x = V.ref p ∧ (SqT K H p xs ∨ SqL K H p xs) ∧ t σ H fun ys H2 => Q (xs ++ ys) H2
theorem i_star {K : PySem.W.Frag} {te : TE} {t : TA} {σ : L2.St} {H : Hp} {Q : List V → Hp → Prop} (h : te σ H fun x H1 => rStar K t σ x H1 Q) : StX.tStar K te t σ H Q := h
theorem call_tuple_ofB {X : Cx} {K : PySem.W.Frag} (e : X.K = K) : CallR X (.type "tuple") (fun xs H Q => ∃ p ys, xs = [V.ref p] ∧ (SqL K H p ys ∧ (∀ l, H l = none → Q (.ref l) (upd H l (.tup ys))) ∨ SqT K H p ys ∧ Q (.ref p) H)) := by
  subst e
  exact call_tuple_of
theorem i_isNoS {x : Str} {H : Hp} {Q : VK} (h : Q (.bl false) H) : rIsNo (.str x) .non H Q := ⟨rfl, h⟩
theorem pi_listK {X : Cx} {K : PySem.W.Frag} {l tg : Expr} {tl : TE} (e : X.K = K) (hl : PE X l tl) : PI X tg l (iList K tl) := by
  subst e
  exact pi_list hl
theorem call_lenQB {X : Cx} {K : PySem.W.Frag} (e : X.K = K) : CallR X (.builtin "len") (rLenQ K) := by
  subst e
  exact call_lenQ
end Sw
namespace Sw
open PySem PySem.Spec PyProof.Rows L2
/-! ### [e for a in xs for b in ys if c] -/
def Lc2Go (J : It) (g : TG) (tt : TT) (wi1 : TI) (g1 : TG) (tt1 : TT) (te : TE) (vs vs1 : List Nat) (σ : L2.St) (H1 : Hp) (Q : VK) : Prop := ∀ D, H1 D = none → ∃ W : Nat → Nat → Hp → Prop, (∃ m, W 0 m (upd H1 D (.lst []))) ∧ ∀ i m H, W i m H →
  (J.stop i H ∧ Q (.ref D) H) ∨ (J.go i H ∧ ∃ Nx : Hp → Prop, (∀ H', Nx H' → ∃ m', m' < m ∧ W (i + 1) m' H') ∧ ∀ x H', J.yld i H x H' → g x (wipe σ vs) H' fun σ2 H2 => wipe σ2 vs = wipe σ vs ∧ tt σ2 H2 fun b H3 =>
    if b = true then wi1 σ2 H3 fun J1 H4 => ∃ W1 : Nat → Nat → Hp → Prop, (∃ m, W1 0 m H4) ∧ ∀ j k H, W1 j k H →
      (J1.stop j H ∧ Nx H) ∨ (J1.go j H ∧ ∃ Nx1 : Hp → Prop, (∀ H', Nx1 H' → ∃ k', k' < k ∧ W1 (j + 1) k' H') ∧ ∀ x H', J1.yld j H x H' → g1 x (wipe σ2 vs1) H' fun σ3 H5 => wipe σ3 vs1 = wipe σ2 vs1 ∧ tt1 σ3 H5 fun b H6 =>
        if b = true then te σ3 H6 fun y H7 => ∃ acc, H7 D = some (.lst acc) ∧ acc.length < sizeLine ∧ Nx1 (upd H7 D (.lst (acc ++ [y]))) else Nx1 H6)
    else Nx H3)
theorem i_lc2 {wi wi1 : TI} {g g1 : TG} {tt tt1 : TT} {te : TE} {vs vs1 : List Nat} {σ : L2.St} {H : Hp} {Q : VK} (h : wi σ H fun J H1 => Lc2Go J g tt wi1 g1 tt1 te vs vs1 σ H1 Q) : tLc2 wi g tt wi1 g1 tt1 te vs vs1 σ H Q := h
/-- the inner walk -/
structure In2Go (J1 : It) (n1 : Nat) (G1 : Hp → Prop) (Y1 : Nat → Hp → V → Hp → Prop) (g1 : TG) (tt1 : TT) (te : TE) (vs1 : List Nat) (σ2 : L2.St) (p : Addr) (H4 : Hp) (Pw : Nat → Hp → Prop) (Nx : Hp → Prop) : Prop where
  w : Walk J1 n1 G1 Y1
  h0 : Pw 0 H4
  hG : ∀ j H, j ≤ n1 → Pw j H → G1 H
  hs : ∀ j x H H', j < n1 → Pw j H → Y1 j H x H' → g1 x (wipe σ2 vs1) H' fun σ3 H5 => wipe σ3 vs1 = wipe σ2 vs1 ∧ tt1 σ3 H5 fun b H6 =>
    if b = true then te σ3 H6 fun y H7 => ∃ acc, H7 p = some (.lst acc) ∧ acc.length < sizeLine ∧ Pw (j + 1) (upd H7 p (.lst (acc ++ [y]))) else Pw (j + 1) H6
  hd : ∀ H, Pw n1 H → Nx H
theorem go_lc2 {J : It} {n : Nat} {G : Hp → Prop} {Y : Nat → Hp → V → Hp → Prop} {g : TG} {tt : TT} {wi1 : TI} {g1 : TG} {tt1 : TT} {te : TE} {vs vs1 : List Nat} {σ : L2.St} {H1 : Hp} {Q : VK} (w : Walk J n G Y) (Pv : Addr → Nat → Hp → Prop) (h0 : ∀ p, H1 p = none → Pv p 0 (upd H1 p (.lst []))) (hG : ∀ p i H, i ≤ n → Pv p i H → G H)
    (hs : ∀ p, H1 p = none → ∀ i x H H', i < n → Pv p i H → Y i H x H' → g x (wipe σ vs) H' fun σ2 H2 => wipe σ2 vs = wipe σ vs ∧ tt σ2 H2 fun b H3 =>
      if b = true then wi1 σ2 H3 fun J1 H4 => ∃ n1 G1 Y1 Pw, In2Go J1 n1 G1 Y1 g1 tt1 te vs1 σ2 p H4 Pw (Pv p (i + 1)) else Pv p (i + 1) H3)
    (hd : ∀ p H, H1 p = none → Pv p n H → Q (.ref p) H) (monoI : ∀ σ2 H3 (R R' : It → Hp → Prop), (∀ J1 H4, R J1 H4 → R' J1 H4) → wi1 σ2 H3 R → wi1 σ2 H3 R')
    (mono1 : ∀ x σ H (R R' : L2.St → Hp → Prop), (∀ σ' H', R σ' H' → R' σ' H') → g x σ H R → g x σ H R') (mono2 : ∀ σ H (R R' : Bool → Hp → Prop), (∀ b H', R b H' → R' b H') → tt σ H R → tt σ H R') : Lc2Go J g tt wi1 g1 tt1 te vs vs1 σ H1 Q := by
  intro p np
  refine ⟨fun i m H => m = n - i ∧ i ≤ n ∧ Pv p i H, ⟨n, by simp, Nat.zero_le _, h0 p np⟩, ?_⟩
  rintro i m H ⟨rfl, hi, pv⟩
  have q := hG p i H hi pv
  by_cases hlt : i < n
  · refine .inr ⟨w.goes i H hlt q, Pv p (i + 1), fun H' p' => ⟨n - (i + 1), by omega, rfl, hlt, p'⟩, fun x H' y => ?_⟩
    refine mono1 _ _ _ _ _ (fun σ2 H2 h => ⟨h.1, mono2 _ _ _ _ (fun b H3 h => ?_) h.2⟩) (hs p np i x H H' hlt pv (w.yields i H x H' hlt q y))
    by_cases hb : b = true
    · rw [if_pos hb] at h ⊢
      refine monoI _ _ _ _ (fun J1 H4 h => ?_) h
      obtain ⟨n1, G1, Y1, Pw, I⟩ := h
      refine ⟨fun j m H => m = n1 - j ∧ j ≤ n1 ∧ Pw j H, ⟨n1, by simp, Nat.zero_le _, I.h0⟩, ?_⟩
      rintro j m H ⟨rfl, hj, pw⟩
      have q := I.hG j H hj pw
      by_cases hlt : j < n1
      · exact .inr ⟨I.w.goes j H hlt q, Pw (j + 1), fun H' p' => ⟨n1 - (j + 1), by omega, rfl, hlt, p'⟩, fun x H' y => I.hs j x H H' hlt pw (I.w.yields j H x H' hlt q y)⟩
      · have e : j = n1 := by omega
        subst e
        exact .inl ⟨I.w.stops H q, I.hd H pw⟩
    · rw [if_neg hb] at h ⊢
      exact h
  · have e : i = n := by omega
    subst e
    exact .inl ⟨w.stops H q, hd p H np pv⟩
theorem mono_yes (σ : L2.St) (H : Hp) (R R' : Bool → Hp → Prop) (h : ∀ b H', R b H' → R' b H') (q : tYes σ H R) : tYes σ H R' := h _ _ q
end Sw
namespace Sw
open PySem PySem.Spec PyProof.Rows L2
/-! ### calls by names -/
def rev2 {α : Type} : List α → List α → List α
  | [], [b, a] => [a, b]
  | _, _ => []
theorem rev2_inv {α : Type} {us ws : List α} (h : (rev2 us ws).length = 2) : us = [] ∧ ∃ b a, ws = [b, a] := by
  unfold rev2 at h
  split at h
  · exact ⟨rfl, _, _, rfl⟩
  · cases h
theorem rev2_rel {vs : List V} {us : List Value} {zs : List V} {ws : List Value} (r : Vals vs us) (r2 : Vals zs ws) : Vals (rev2 vs zs) (rev2 us ws) := by
  unfold rev2
  cases r with
  | cons _ _ => exact .nil
  | nil =>
    cases r2 with
    | nil => exact .nil
    | cons a r2 =>
      cases r2 with
      | nil => exact .nil
      | cons b r2 =>
        cases r2 with
        | nil => exact .cons b (.cons a .nil)
        | cons _ _ => exact .nil
def one1 {α : Type} : List α → List α → List α
  | [], [a] => [a]
  | _, _ => []
theorem one1_inv {α : Type} {us ws : List α} (h : (one1 us ws).length = 1) : us = [] ∧ ∃ a, ws = [a] := by
  unfold one1 at h
  split at h
  · exact ⟨rfl, _, rfl⟩
  · cases h
theorem one1_rel {vs : List V} {us : List Value} {zs : List V} {ws : List Value} (r : Vals vs us) (r2 : Vals zs ws) : Vals (one1 vs zs) (one1 us ws) := by
  unfold one1
  cases r with
  | cons _ _ => exact .nil
  | nil =>
    cases r2 with
    | nil => exact .nil
    | cons a r2 =>
      cases r2 with
      | nil => exact .cons a .nil
      | cons _ _ => exact .nil
end Sw
namespace Sw
open PySem PySem.Spec PyProof.Rows L2
theorem Fun.okG0 {P : Program} {w : World} {K : PySem.W.Frag} {mg : Str → Option Value} {base : Heap} {k : Nat} {f : Addr} {fd : FuncData} {ps : List Str} {sp : Sp} {x qual : Str} {st : Stmt} {N : List Str} (F : Fun K x qual st f fd) (S : FnScope N ps (defScope st)) (len : ∀ xs M R X, sp xs M R X → xs.length = ps.length)
    (body : ∀ (cdv : Value) (A : Around) (out : List Env) (t : Shared) (M : Hp) (xs : List V) (R : VK) (X : XK), Room k (A.deeper (envOfC qual (defScope st) t.heap.objs.size f cdv)) → A.guards = some [] → sp xs M R X →
      ∃ r, PSs (cxOf CX0 P w K mg base N qual (defScope st) f cdv A out t M X).nox (defBody st) r ∧ r { nx := fun _ M' => R .non M', rt := R } (start N xs) M) : FnG P w K mg base CX0 (k + 1) f fd ps sp :=
  Sw.Fun.okG F S len fun cdv A out t M xs R X room quiet prom => by
    obtain ⟨r, h, q⟩ := body cdv A out t M xs R X room quiet prom
    exact ⟨r, h.nox, q⟩
end Sw
namespace Sw
open PySem PySem.Spec PyProof.Rows L2
/-! ### a tuple once, or more often -/
theorem tuple_mul1 (l : Addr) (items : Array Value) (n : Nat) (dd : Option Addr) (sl : Array (Option Value)) (u : Tok) :
    Meets (Builtin.«tuple.__mul__» ⟨[.ref l, .int 1 u], []⟩) (fun _ R s => s.heap.get? l = some { cls := .type "tuple", dict := dd, data := .seq items n, slots := sl } ∧
      R (.ok (.ret (Value.ref l))) s) :=
  .of_wp fun prog w A R s h => by
    obtain ⟨hp, g, d, tk, os⟩ := s
    obtain ⟨hl, h⟩ := h
    have f1 := AutoSeq1.idx_int
    have c1 : (items.isEmpty || ((1 : Int) == 1)) = true := by rw [show ((1 : Int) == 1) = true from rfl, Bool.or_true]
    wp_walk using wpAny_loadPart' hl, wpAny_load hl
    repeat (first
      | (refine wpAny_ite_true c1 ?_; wp_walk using wpAny_loadPart' hl, wpAny_load hl)
      | (refine wpAny_ite_true (decide_eq_true c1) ?_; wp_walk using wpAny_loadPart' hl, wpAny_load hl))
    exact ⟨_, rfl, h⟩
/-- a tuple once is itself -/
def rRepU (K : PySem.W.Frag) : R2 := fun x y H Q => (∃ l xs, x = .ref l ∧ y = .int 1 ∧ SqT K H l xs ∧ Q (.ref l) H) ∨ rRepT K x y H Q
theorem op_repU {X : Cx} : OpR X (binaryOp .Mult) (rRepU X.K) := by
  intro pins s σ H x y v u Q I rx ry h
  rcases h with ⟨l, xs, rfl, rfl, hT, q⟩ | h
  · cases rx
    obtain ⟨t, rfl⟩ := ry
    obtain ⟨its, r, ⟨⟨cls, dd, data, sl⟩, ho, hc, n, hd⟩, hs⟩ := I.tuple hT
    simp only at hc hd
    subst hc hd
    refine wpAny_binaryOp_repeat_ref (T := "tuple") (U := "int") (by decide) ⟨_, ho, rfl⟩ (fun s' => typeIs_int s' 1 t) noFill_tuple_mul F.fills_int_mul F.slot_int_rmul repeat_tuple F.slot_int_index.lookup
      (call_meets F.slot_int_rmul (typeIs_int s 1 t) F.entry_int_rmul (F.args_int_rmul_2 _ _) (int_rmul_tuple 1 t l its.toArray n dd sl)
        ⟨ho, rfl, ⟨_, ho, rfl⟩, call_meets F.slot_tuple_mul ⟨_, ho, rfl⟩ F.entry_tuple_mul (F.args_tuple_mul_2 _ _) (tuple_mul1 l its.toArray n dd sl t) ⟨ho, ?_⟩⟩)
    exact ⟨.ref l, H, I, rfl, q⟩
  · exact op_repT pins s σ H x y v u Q I rx ry h
theorem i_rep1 {K : PySem.W.Frag} {l : Addr} {xs : List V} {H : Hp} {Q : VK} (h : SqT K H l xs) (q : Q (.ref l) H) : rRepU K (.ref l) (.int 1) H Q := .inl ⟨l, xs, rfl, rfl, h, q⟩
theorem i_repN {K : PySem.W.Frag} {l : Addr} {xs : List V} {k : Nat} {H : Hp} {Q : VK} (h : SqT K H l xs) (ne : xs ≠ []) (h2 : 2 ≤ k) (h3 : k ≤ 1000) (h4 : xs.length ≤ 1000) (q : ∀ p H', H p = none → Same H H' → H' p = some (.tup (List.replicate k xs).flatten) → Q (.ref p) H') : rRepU K (.ref l) (.int (k : Int)) H Q :=
  .inr ⟨l, k, xs, rfl, rfl, h, ne, by omega, by omega, h4, fun p n => by
    rw [Int.toNat_natCast]; exact q p _ n (same_upd n) upd_same⟩
end Sw
namespace Sw
open PySem PySem.Spec PyProof.Rows L2 PySem.SwE
/-- X.__init__(self, v): self.f = v -/
def spInitF (K : PySem.W.Frag) (f : Str) : Sp := fun vs H Q _ => ∃ (a C : Addr) (v : V), vs = [.ref a, v] ∧ H a = some (exo a C none) ∧ OexE K C ∧ PySem.W.findIn K (.ref C) f = some none ∧
  ∀ dx, H dx = none → dx ≠ a → Q .non (upd (upd H dx (exd dx [(f, v)])) a (exo a C (some dx)))
/-- an own exception class with the one attribute f, named x -/
structure XF (x f : Str) (P : Program) (w : World) (K : PySem.W.Frag) (mg : Str → Option Value) (base : Heap) (C : Addr) : Prop where
  T : OexE K C
  xf : XfC K C
  no : PySem.W.findIn K (.ref C) f = some none
  hm : mg x = some (.ref C)
  me : PySem.W.exmOne K (.ref C) (.ref C) = some true
  ini : ∃ (fI : Addr) (fd : FuncData), PySem.W.findIn K (.ref C) "__init__" = some (some (.ref fI)) ∧ PySem.W.typeIn K (.ref fI) = some (.type "function") ∧ FnOk P w K mg base CX0 1 fI fd ["self", f] (spInitF K f) ∧ Binds K fd ["self", f] []
theorem pmk_F {X : Cx} {x f : Str} {C : Addr} {n : Nat} {e : Expr} {te : TE} {p pos : Pos} (xt : XF x f X.prog X.w X.K X.mg X.base C) (hr : Room n X.A) (he : PE X e te) (hn : 2 ≤ n := by decide) (hg : Gl X x := by rfl)
    (hdb : (x == ("__debug__" : Str)) = false := by decide) (he2 : starEach [e] X.env = (false, eval e X.env) :: starEach [] X.env := by rfl) : PMk X (.Call (.Name x p) [e] [] pos) (tMkO C (spInitF X.K f) [] (tCons te tNil)) := by
  obtain ⟨fI, fd, h1, h2, h3, h4⟩ := xt.ini
  exact pmk_E xt.T h1 h2 h3 (hr.mono hn) h4 pass0 xt.hm (pa_cons he pa_nil he2) hg hdb he2 (by rfl)
theorem names_F {x f : Str} {P : Program} {w : World} {K : PySem.W.Frag} {mg : Str → Option Value} {base : Heap} {X : Cx} {C : Addr} (xt : XF x f P w K mg base C) (hm : X.mg = mg := by rfl) (hg : Gl X x := by rfl) (hd : (x == ("__debug__" : Str)) = false := by decide) : Names X x (.ref C) := ⟨hg, hd, .inl (by rw [hm]; exact xt.hm)⟩
def ThrownF (K : PySem.W.Frag) (f : Str) (C : Addr) (vs : List V) (H1 : Hp) (Q : XK) : Prop := vs.length ≤ 1000 ∧ ∀ a, H1 a = none → spInitF K f (.ref a :: (vs ++ [])) (upd H1 a (exo a C none))
  (fun v H2 => v = .non ∧ ∃ (d : Addr) (fs : List (Str × V)), H2 a = some (exo a C (some d)) ∧ H2 d = some (exd d fs) ∧ H1 d = none ∧ Q (.ref C) (some d) (upd (del H2 a) d (.xd fs))) (fun _ _ _ => False)
theorem i_mkF {K : PySem.W.Frag} {f : Str} {C : Addr} {ta : TA} {σ : L2.St} {H : Hp} {Q : XK} (h : ta σ H fun vs H1 => ThrownF K f C vs H1 Q) : tMkO C (spInitF K f) [] ta σ H Q := h
theorem i_thrownF {K : PySem.W.Frag} {f : Str} {C : Addr} {v : V} {H1 : Hp} {Q : XK} (T : OexE K C) (no : PySem.W.findIn K (.ref C) f = some none) (h : ∀ dx, H1 dx = none → Q (.ref C) (some dx) (upd H1 dx (.xd [(f, v)]))) : ThrownF K f C [v] H1 Q := by
  refine ⟨by simp, fun a na => ⟨a, C, v, rfl, upd_same, T, no, fun dx nx ne => ⟨rfl, dx, [(f, v)], upd_same, ?_, ?_, ?_⟩⟩⟩
  · rw [upd_ne ne, upd_same]
  · rw [upd_ne ne] at nx; exact nx
  · rw [upd_ne ne] at nx
    have e : upd (del (upd (upd (upd H1 a (exo a C none)) dx (exd dx [(f, v)])) a (exo a C (some dx))) a) dx (.xd [(f, v)]) = upd H1 dx (.xd [(f, v)]) := by
      funext b
      by_cases c : b = dx
      · rw [c, upd_same, upd_same]
      · rw [upd_ne c, upd_ne c]
        by_cases c2 : b = a
        · rw [c2, del_same, na]
        · rw [del_ne c2, upd_ne c2, upd_ne c, upd_ne c2]
    rw [e]
    exact h dx nx
theorem i_notNr {a : Addr} {H : Hp} {Q : VK} (h : Q (.bl true) H) : (V.non = V.non ∧ Q (.bl (!decide (V.ref a = V.non))) H) := ⟨rfl, by rw [decide_eq_false (show ¬ V.ref a = V.non from fun e => by cases e)]; exact h⟩
theorem i_notNn {H : Hp} {Q : VK} (h : Q (.bl false) H) : (V.non = V.non ∧ Q (.bl (!decide (V.non = V.non))) H) := ⟨rfl, by rw [decide_eq_true rfl]; exact h⟩
def rNotInDt : R2 := fun x y H Q => ∃ a o, y = .ref a ∧ DGet H a x o ∧ Q (.bl (!o.isSome)) H
theorem op_notInDt {X : Cx} (hu : X.A.units + 64 < cLine) : OpR X (compareOp .NotIn) rNotInDt := by
  intro pins s σ H x y v u Q I rx ry h
  obtain ⟨a, o, rfl, g, q⟩ := h
  cases (show u = Value.ref a from ry)
  exact d_notIn (room1 hu) I g rx fun s' I' => ⟨.bl (!o.isSome), H, I', rfl, q⟩
theorem i_notInDt {a b : Addr} {kvs : List (List Key × V)} {ks : List Key} {H : Hp} {Q : VK} (e : H a = some (.dT kvs)) (eb : H b = some (.tup (ks.map kV))) (q : Q (.bl (!(valV kvs ks).isSome)) H) : rNotInDt (.ref b) (.ref a) H Q := ⟨a, _, rfl, DGet.t e eb, q⟩
/-- no built-in kind is of the class at C -/
structure NoC (K : PySem.W.Frag) (C : Addr) : Prop where
  non : PySem.W.kitOne K (.type "NoneType") (.ref C) = some false
  bl : PySem.W.kitOne K (.type "bool") (.ref C) = some false
  int : PySem.W.kitOne K (.type "int") (.ref C) = some false
  str : PySem.W.kitOne K (.type "str") (.ref C) = some false
  lst : PySem.W.kitOne K (.type "list") (.ref C) = some false
  tup : PySem.W.kitOne K (.type "tuple") (.ref C) = some false
  dict : PySem.W.kitOne K (.type "dict") (.ref C) = some false
theorem De.isiC {K : PySem.W.Frag} {C : Addr} {H : Hp} {v : V} {d : PyData} {Q : VK} (nc : NoC K C) (h : De K H v d) (k : Q (.bl false) H) : rIsi K [v, .ref C] H Q := by
  cases h with
  | non => exact ⟨_, _, _, _, _, rfl, .own _, .base .non, nc.non, k⟩
  | bl b => exact ⟨_, _, _, _, _, rfl, .own _, .base (.bl _), nc.bl, k⟩
  | int i => exact ⟨_, _, _, _, _, rfl, .own _, .base (.int _), nc.int, k⟩
  | str x => exact ⟨_, _, _, _, _, rfl, .own _, .base (.str _), nc.str, k⟩
  | lst h1 _ h2 => exact ⟨_, _, _, _, _, rfl, .own _, .base (.lst h1), nc.lst, k⟩
  | tup h1 h2 => exact ⟨_, _, _, _, _, rfl, .own _, tyx_tup h1, nc.tup, k⟩
  | dict h1 h2 => exact ⟨_, _, _, _, _, rfl, .own _, .base (.dK h1), nc.dict, k⟩
theorem i_isC {K : PySem.W.Frag} {C a dx : Addr} {fs : List (Str × V)} {H : Hp} {Q : VK} (c : C8.InsC K C) (ha : H a = some (.ins C dx fs)) (k : Q (.bl true) H) : rIsi K [.ref a, .ref C] H Q :=
  ⟨_, _, _, _, _, rfl, .own _, .base (TyOf.ins ha c.cl c.ha c.hn c.htk c.hm), c.me, k⟩
theorem pe_fldB {X : Cx} {K : PySem.W.Frag} (k : X.K = K) {e : Expr} {f : Str} {pos : Pos} {ta : TE} (he : PE X e ta) (hb : attributeBase e f X.env (eval e X.env) = eval e X.env) : PE X (.Attribute e f pos) (tFld K ta f) := by
  subst k
  exact pe_fld he hb
end Sw
namespace Sw
open PySem PySem.Spec PyProof.Rows L2
/-! ### lists that are told stand beyond the table of modules -/
def Mk (K : PySem.W.Frag) (H : Hp) : Prop := (∃ o u, H sysModules = some (.frz o u)) ∨ ∃ o, K.lookup sysModules = some o
theorem Mk.same {K : PySem.W.Frag} {H H' : Hp} (s : Same H H') (h : Mk K H) : Mk K H' := by
  rcases h with ⟨o, u, h⟩ | h
  · exact .inl ⟨o, u, s _ _ h⟩
  · exact .inr h
theorem Mk.sb {K : PySem.W.Frag} {H H' : Hp} {b : Addr} {xs : List V} (e : H b = some (.lst xs)) (s : SB b H H') (h : Mk K H) : Mk K H' := by
  rcases h with ⟨o, u, h⟩ | h
  · exact .inl ⟨o, u, s _ _ (fun q => by rw [← q, h] at e; cases e) h⟩
  · exact .inr h
/-- what every state tells of lists -/
def Kn (K : PySem.W.Frag) (H : Hp) : Prop := Mk K H → ∀ a xs, H a = some (.lst xs) → sysModules < a
theorem Kn.of {X : Cx} {pins : List (Addr × Obj)} {σ : L2.St} {H : Hp} {s : Shared} (I : Inv X pins σ H s) : Kn X.K H := by
  intro m a xs e
  obtain ⟨z, its, n, r, ho⟩ : ObjOk X.prog X.w H s.heap a (.lst xs) := I.hok _ _ e
  have h0 : a ≠ 0 := fun q => by
    subst q
    obtain ⟨mb, ⟨o, es, n, eo, hd, _⟩, _⟩ := I.mod.blt
    have := (I.bs _ _ eo).2
    rw [show builtinsNs = 0 from rfl, e] at this
    cases this
  have h1 : a ≠ sysModules := fun q => by
    subst q
    rcases m with ⟨o, u, m⟩ | ⟨o, m⟩
    · rw [e] at m; cases m
    · have := (I.bs _ _ (I.mod.kin _ _ m)).2
      rw [e] at this; cases this
  match a, h0, h1 with
  | n + 2, _, _ => exact Nat.succ_lt_succ (Nat.succ_pos n)
  | 1, _, h1 => exact (h1 rfl).elim
  | 0, h0, _ => exact (h0 rfl).elim
def tKn (K : PySem.W.Frag) (t : TS) : TS := fun D σ H => Kn K H → t D σ H
theorem ps_kn {X : Cx} {st : Stmt} {t : TS} (h : PS X st t) : PS X st (tKn X.K t) := ⟨fun pins s σ H D I q => h.run pins s σ H D I (q (Kn.of I))⟩
theorem i_kn {K : PySem.W.Frag} {t : TS} {D : Ends} {σ : L2.St} {H : Hp} (h : Kn K H → t D σ H) : tKn K t D σ H := h
/-! ### the end of a law, with the table of modules told -/
theorem law_GM {P : Program} {w : World} {K : PySem.W.Frag} {mg mb : Str → Option Value} {k : Nat} {fa a : Addr} {fd : FuncData} {x : Str} {sp : Sp} {t : Shared} {vs : List Value} {ns : List Int}
    (inK : K.In t.heap) (gl : t.heap.Ns mainGlobals mg) (bl : t.heap.Ns builtinsNs mb) (bb : ∀ y : Str, y ≠ "__name__" → mb y = bootBuiltins y) (lim : t.heap.NoLimit) (quietGens : t.gens = #[])
    (script : t.heap.get? a = some { cls := .type "list", data := .seq vs.toArray }) (nums : IntsAre vs ns) (short : ns.length ≤ sizeLine) (room : Room k callerA) (sysT : ∃ o, t.heap.get? sysModules = some o) (low : a ≠ sysModules)
    (F : ∀ base : Heap, K.In base → base.Ns mainGlobals mg → FnG P w K mg base CX0 k fa fd [x] sp) (bind : ∀ (s : Shared) (u : Value), BindsTo s fd ⟨[u], []⟩ [(x, u)])
    (prom : ∀ M : Hp, Mk K M → SqL K M a (ns.map V.int) → sp [.ref a] M (fun v _ => v = .bl true) E0) :
    codeAny (model P w) callerA (.call (.ref fa) ⟨[.ref a], []⟩) (fun r s' => r = .ok (.ret (.bool true)) ∧ OldK t.heap s'.heap ∧ s'.os = t.os ∧ AllBare s'.gens) t := by
  have vals := vals_ints nums
  have sameLen := nums.length
  obtain ⟨o1, sysO⟩ := sysT
  -- tracked: the script, and the table of modules, each only if the module does not hold it already
  let scr : HO := .frz { cls := .type "list", data := .seq vs.toArray } (.lst (ns.map V.int))
  let tbl : HO := .frz o1 (.ext fun h => h.get? sysModules = some o1)
  let M : Hp := fun b => if b = a ∧ K.lookup a = none then some scr else if b = sysModules ∧ K.lookup sysModules = none then some tbl else none
  have M1 : ∀ {b : Addr} {o : HO}, M b = some o → (b = a ∧ K.lookup a = none ∧ o = scr) ∨ (b = sysModules ∧ K.lookup sysModules = none ∧ o = tbl) := by
    intro b o q
    by_cases c : b = a ∧ K.lookup a = none
    · exact .inl ⟨c.1, c.2, (Option.some.inj ((if_pos c).symm.trans q)).symm⟩
    · have q' := (if_neg c).symm.trans q
      by_cases c2 : b = sysModules ∧ K.lookup sysModules = none
      · exact .inr ⟨c2.1, c2.2, (Option.some.inj ((if_pos c2).symm.trans q')).symm⟩
      · have q2 := (if_neg c2).symm.trans q'
        cases q2
  have mark : Mk K M := by
    cases hk : K.lookup sysModules with
    | some o => exact .inr ⟨o, hk⟩
    | none =>
      refine .inl ⟨o1, .ext fun h => h.get? sysModules = some o1, ?_⟩
      show (if sysModules = a ∧ K.lookup a = none then some scr else if sysModules = sysModules ∧ K.lookup sysModules = none then some tbl else none) = some tbl
      rw [if_neg (fun c => low c.1.symm), if_pos ⟨rfl, hk⟩]
  have ok : HOk P w M t.heap := by
    intro b o q
    rcases M1 q with ⟨rfl, _, rfl⟩ | ⟨rfl, _, rfl⟩
    · exact ⟨script, by rw [List.length_map]; exact short, vs, _, vals, script⟩
    · exact ⟨sysO, sysO, ⟨o1, sysO⟩, fun h1 h2 p k => k _ p⟩
  have known : SqL K M a (ns.map V.int) := by
    cases hk : K.lookup a with
    | none => exact .inl (.inr ⟨_, if_pos ⟨rfl, hk⟩⟩)
    | some o =>
      have e := inK a o hk
      rw [script] at e
      cases e
      exact .inr ⟨_, vs.toArray, _, hk, rfl, rfl, rfl, by rw [List.size_toArray, sameLen]; exact short, by simpa using vals⟩
  have under : ∀ {b : Addr} {o : Obj}, t.heap.get? b = some o → M b = none → (hidT t.heap M).get? b = some o := fun e n => hidT_get e n
  have dictFree : ∀ {b : Addr} {o : Obj} {es : Array DictEntry} {n : Nat}, b ≠ sysModules → t.heap.get? b = some o → o.data = .dict es n → M b = none := by
    intro b o es n nb e hd
    rcases q : M b with _ | u
    · rfl
    · rcases M1 q with ⟨rfl, _, rfl⟩ | ⟨rfl, _, rfl⟩
      · rw [script] at e
        cases e
        cases hd
      · exact (nb rfl).elim
  have names : ∀ {b : Addr} {m : Str → Option Value}, b ≠ sysModules → t.heap.Ns b m → (hidT t.heap M).Ns b m := by
    rintro b m nb ⟨o, es, n, e, hd, r⟩
    exact ⟨o, es, n, under e (dictFree nb e hd), hd, r⟩
  have baseIn : K.In (hidT t.heap M) := by
    intro b o e
    apply under (inK b o e)
    rcases q : M b with _ | u
    · rfl
    · rcases M1 q with ⟨rfl, no, _⟩ | ⟨rfl, no, _⟩
      · rw [no] at e; cases e
      · rw [no] at e; cases e
  obtain ⟨mc, lim1, lim2⟩ := lim
  have env : Env0 P w K mg (hidT t.heap M) callerA [] t M :=
    ⟨rfl, ⟨baseIn, names (by decide) gl, ⟨mb, names (by decide) bl, bb⟩, ⟨mc, names (by decide) lim1, lim2⟩⟩, fun b o e => of_hidT e, Nat.le_of_eq (hidT_size _ _), trivial, (fun b z => by have y : b ∈ ([] : List Addr) := z; simp at y), ok, .of_eq quietGens⟩
  apply codeAny_mono ((F _ baseIn (names (by decide) gl)).go callerA [] t M ⟨[.ref a], []⟩ [.ref a] [.ref a] _ _ room rfl env (bind t (.ref a)) (.cons rfl .nil) (prom M mark known))
  intro r s' q
  rcases r with e | fl
  · exact q.elim
  · cases fl with
    | next => exact q.elim
    | brk => exact q.elim
    | cont => exact q.elim
    | ret u =>
      obtain ⟨v, M', os, bare, un, ok', rel, said⟩ := q
      have said' : v = .bl true := said
      subst said'
      have isTrue : u = Value.bool true := rel
      subst isTrue
      refine ⟨rfl, OldK.of_keep ?_, os, bare⟩
      intro b o e
      rcases q : M b with _ | u
      · exact un.keep b o e q (fun z => by have y : b ∈ ([] : List Addr) := z; simp at y) (by simp)
      · rcases M1 q with ⟨rfl, _, rfl⟩ | ⟨rfl, _, rfl⟩
        · obtain ⟨e1, _⟩ := ok _ _ q
          obtain ⟨e2, _⟩ := ok' _ _ (un.frzs _ _ _ q)
          rw [e] at e1
          cases e1
          exact e2
        · obtain ⟨e1, _⟩ := ok _ _ q
          obtain ⟨e2, _⟩ := ok' _ _ (un.frzs _ _ _ q)
          rw [e] at e1
          cases e1
          exact e2
theorem walk_GM {l : PySem.W.OpenLaw} {n k : Nat} {q : Program} {loose : List Str} {XP : (Str → Option Value) → Heap → Prop} {YP : World → Heap → Prop} {d : DefRec} {K : Params → PySem.W.Frag} {sp : PySem.W.Frag → Sp} {x : Str}
    (many : l.most = some n) (few : n ≤ sizeLine) (plain : d.params.defaults = []) (room : Room k callerA) (imp : PyProof.Rows.importsNone q = true) (inK : ∀ (w : World) (h : Heap), YP w h → (K w.params).In h)
    (F : ∀ (w : World) (mg : Str → Option Value) (fa : Addr) (h : Heap), (K w.params).In h → h.Ns mainGlobals mg → mg d.name = some (.ref fa) →
      ∃ fd : FuncData, (∀ (s : Shared) (u : Value), BindsTo s fd ⟨[u], []⟩ [(x, u)]) ∧ ∀ base : Heap, (K w.params).In base → base.Ns mainGlobals mg → FnG l.prog w (K w.params) mg base CX0 k fa fd [x] (sp (K w.params)))
    (prom : ∀ (K : PySem.W.Frag) (M : Hp) (a : Addr) (ns : List Int), ns.length ≤ n → Mk K M → SqL K M a (ns.map V.int) → sp K [.ref a] M (fun v _ => v = .bl true) E0) :
    PySem.W.WalkO q loose XP YP l.row.toRowW d [] (fun f vs => PySem.call f vs) := by
  intro w s₀ s₁ mg mb G Y fa o pm cd doc dV kV ho hd hcd hD named gens args vals as hpre hlay hrd hwl hlo
  obtain rfl : dV = .none := PySem.W.Dflts.none hD plain
  obtain rfl : kV = .none := PySem.W.Dflts.noKw hD
  obtain ⟨a, vs, ns, rfl, rfl, script, nums, short⟩ := Att.script_of many hpre hwl
  have low : a ≠ sysModules := by
    cases hrd with
    | cons h1 h2 =>
      cases h1 with
      | list _ _ _ _ => exact beq_eq_false_iff_ne.mp (hlo a (by simp))
  have sysT : ∃ o, s₁.heap.get? sysModules = some o := by
    obtain ⟨mm, ⟨o, _, _, h, _⟩, _⟩ := (G.T.seer imp).mods
    exact ⟨o, h⟩
  have kin := inK w _ Y
  obtain ⟨fd, bind, hF⟩ := F w mg fa _ kin G.T.g named
  refine PySem.W.enter_call (codeAny_mono (law_GM kin G.T.g G.T.b G.T.builtins G.T.nolimit gens script nums (Nat.le_trans short few) room sysT low hF bind fun M m s => prom _ M a ns short m s) fun r s' hq => ?_)
  obtain ⟨rfl, h2, h3, h4⟩ := hq
  exact ⟨.inl ⟨.bool true, .bool true, [], rfl, fun _ => rfl, .bool true, Att.post_true l _, fun _ => ⟨List.Pairwise.nil, fun _ hm => (nomatch hm)⟩⟩, h2, h3, h4⟩
end Sw
namespace Sw.Rv
open PySem PySem.Calls PySem.W PySem.SeqAt
open AutoSeq1 (wpAny_loadPart')
open MeetsSeq
/-! ### data == an instance: data's own == declines, the instance's is asked -/
section
variable {prog : Program} {w : World} {K : Frag} {C a dx : Addr}
theorem none_dec : MeetsIn prog w (Builtin.«NoneType.__eq__» ⟨[.none, .ref a], []⟩) (fun _ R s => R (.ok (.ret .notImplemented)) s) :=
  .of_wp fun A R s h => by obtain ⟨hp, g, d, tk, os⟩ := s; wp_walk; exact ⟨_, rfl, h⟩
theorem int_dec (b : Int) (u : Tok) : MeetsIn prog w (Builtin.«int.__eq__» ⟨[.int b u, .ref a], []⟩) (fun _ R s => s.heap.get? a = some (PySem.W.instObj C dx) ∧ R (.ok (.ret .notImplemented)) s) :=
  .of_wp fun A R s h => by obtain ⟨hp, g, d, tk, os⟩ := s; obtain ⟨hl, h⟩ := h; wp_walk using wpAny_loadPart' hl, wpAny_load hl; exact ⟨_, rfl, h⟩
theorem str_dec (b : Str) (u : Tok) : MeetsIn prog w (Builtin.«str.__eq__» ⟨[.str b u, .ref a], []⟩) (fun _ R s => s.heap.get? a = some (PySem.W.instObj C dx) ∧ R (.ok (.ret .notImplemented)) s) :=
  .of_wp fun A R s h => by obtain ⟨hp, g, d, tk, os⟩ := s; obtain ⟨hl, h⟩ := h; wp_walk using wpAny_loadPart' hl, wpAny_load hl; exact ⟨_, rfl, h⟩
theorem list_dec (no : subIn K (.ref C) (.type "list") = some false) (l : Addr) (items : Array Value) (n : Nat) (dd : Option Addr) (sl : Array (Option Value)) : MeetsIn prog w (Builtin.«list.__eq__» ⟨[.ref l, .ref a], []⟩)
    (fun _ R s => K.In s.heap ∧ s.heap.get? l = some { cls := .type "list", dict := dd, data := .seq items n, slots := sl } ∧ s.heap.get? a = some (PySem.W.instObj C dx) ∧ R (.ok (.ret .notImplemented)) s) :=
  .of_wp fun A R s h => by
    have hx := h.1
    obtain ⟨hp, g, d, tk, os⟩ := s; obtain ⟨kin, hl, ha, h⟩ := h
    have f1 := looks_subIn (M := model prog w) hx no
    wp_walk using wpAny_loadPart' hl, wpAny_loadPart' ha
    refine f1.here ?_
    wp_walk
    exact ⟨_, rfl, h⟩
theorem tuple_dec (no : subIn K (.ref C) (.type "tuple") = some false) (l : Addr) (items : Array Value) (n : Nat) (dd : Option Addr) (sl : Array (Option Value)) : MeetsIn prog w (Builtin.«tuple.__eq__» ⟨[.ref l, .ref a], []⟩)
    (fun _ R s => K.In s.heap ∧ s.heap.get? l = some { cls := .type "tuple", dict := dd, data := .seq items n, slots := sl } ∧ s.heap.get? a = some (PySem.W.instObj C dx) ∧ R (.ok (.ret .notImplemented)) s) :=
  .of_wp fun A R s h => by
    have hx := h.1
    obtain ⟨hp, g, d, tk, os⟩ := s; obtain ⟨kin, hl, ha, h⟩ := h
    have f1 := looks_subIn (M := model prog w) hx no
    wp_walk using wpAny_loadPart' hl, wpAny_loadPart' ha
    refine f1.here ?_
    wp_walk
    exact ⟨_, rfl, h⟩
theorem dict_dec (no : subIn K (.ref C) (.type "dict") = some false) (l : Addr) (es : Array DictEntry) (n : Nat) (dd : Option Addr) (sl : Array (Option Value)) : MeetsIn prog w (Builtin.«dict.__eq__» ⟨[.ref l, .ref a], []⟩)
    (fun _ R s => K.In s.heap ∧ s.heap.get? l = some { cls := .type "dict", dict := dd, data := .dict es n, slots := sl } ∧ s.heap.get? a = some (PySem.W.instObj C dx) ∧ R (.ok (.ret .notImplemented)) s) :=
  .of_wp fun A R s h => by
    have hx := h.1
    obtain ⟨hp, g, d, tk, os⟩ := s; obtain ⟨kin, hl, ha, h⟩ := h
    have f1 := looks_subIn (M := model prog w) hx no
    wp_walk using wpAny_loadPart' hl, wpAny_loadPart' ha, wpAny_load hl
    refine f1.here ?_
    wp_walk
    exact ⟨_, rfl, h⟩
variable {A : Around} {E : Value → Shared → Prop} {s : Shared} {Q : Value → Shared → Prop} {x : Value} {T id : String} {ox : Obj} {od : Option Obj} {f : Addr}
theorem rc_right (hx : s.TypeIs x T) (kin : K.In s.heap) (I : InstAt s.heap a ox C od) (no : subIn K (.ref C) (.type T) = some false) (h1 : Slot T (cmpInfo .Eq).2.1 id)
    (hc1 : ∀ Q' : Value → Shared → Prop, Q' .notImplemented s → wpAny (model prog w) A (call (.builtin id) [x, .ref a]) Q' E s) (hs : findIn K (.ref C) "__eq__" = some (some (.ref f))) (hf : isFn K (.ref f) = true) (hu : A.units < cLine)
    (h : wpAny (model prog w) A (call (.ref f) [.ref a, x]) (CmpBack Q) E s) : wpAny (model prog w) A (richCompare .Eq x (.ref a)) Q E s := by
  rcases hi : cmpInfo CmpOp.Eq with ⟨sym, g, r⟩
  have er : r = ("__eq__" : Str) := by cases hi; rfl
  rw [hi] at h1
  simp only [richCompare, hi, hx.oneThing_none]
  try with_reducible refine wpAny_holding ?_
  refine wpAny_bind (wpAny_cRoomFor_or (.inr hu) ?_)
  refine wpAny_bind (wpAny_typeOf hx (wpAny_bind (I.type.here ?_)))
  rw [if_pos (show (Value.type T != Value.ref C) = true from rfl)]
  refine wpAny_bind ((looks_subIn kin no).here ?_)
  simp only [Bool.false_eq_true, if_false, Bool.not_false, if_true]
  refine wpAny_bind (m := tryCompare x _ (.ref a)) (wpAny_tryCompare_declines hx h1 (hc1 _ ⟨rfl, ?_⟩))
  have one : wpAny (model prog w) A (tryCompare (.ref a) r x) (fun r s' => ∃ v, r = some v ∧ Q v s') E s := by
    rw [er]
    unfold tryCompare
    refine wpAny_bind (ifBound_K kin I hs hf (wpAny_mono h (fun v s' hv => ?_) fun _ _ e => e))
    cases v <;> first | exact hv.elim | exact wpAny_pure ⟨_, rfl, hv⟩
  refine wpAny_bind (wpAny_mono one (fun r s' z => ?_) fun _ _ e => e)
  obtain ⟨v, rfl, hq⟩ := z
  exact wpAny_pure hq
end
end Sw.Rv
namespace Sw
open PySem PySem.Spec PyProof.Rows L2
/-- the class at C is no built-in kind, and none is of it -/
structure EqD (K : PySem.W.Frag) (C : Addr) : Prop where
  l1 : PySem.W.subIn K (.ref C) (.type "NoneType") = some false
  l2 : PySem.W.subIn K (.ref C) (.type "int") = some false
  l3 : PySem.W.subIn K (.ref C) (.type "str") = some false
  l4 : PySem.W.subIn K (.ref C) (.type "list") = some false
  l5 : PySem.W.subIn K (.ref C) (.type "tuple") = some false
  l6 : PySem.W.subIn K (.ref C) (.type "dict") = some false
  r1 : PySem.W.subIn K (.type "NoneType") (.ref C) = some false
  r2 : PySem.W.subIn K (.type "int") (.ref C) = some false
  r3 : PySem.W.subIn K (.type "str") (.ref C) = some false
  r4 : PySem.W.subIn K (.type "list") (.ref C) = some false
  r5 : PySem.W.subIn K (.type "tuple") (.ref C) = some false
  r6 : PySem.W.subIn K (.type "dict") (.ref C) = some false
/-- data of a built-in kind -/
inductive Da (K : PySem.W.Frag) (H : Hp) : V → Prop
  | non : Da K H .non
  | int (i : Int) : Da K H (.int i)
  | str (z : Str) : Da K H (.str z)
  | lst {a : Addr} {xs : List V} : H a = some (.lst xs) → Da K H (.ref a)
  | tup {a : Addr} {xs : List V} : SqT K H a xs → Da K H (.ref a)
  | dK {a : Addr} {kvs : List (Key × V)} : H a = some (.dK kvs) → Da K H (.ref a)
theorem looks_ty {M : Model} {s : Shared} {u : Value} {T : String} (h : s.TypeIs u T) : PySem.W.Looks M s.heap (typeOf u) (.type T) := by
  cases u with
  | ref a => obtain ⟨o, e, c⟩ := h; exact c ▸ (PySem.W.Looks.ld e).andThen .now
  | _ => exact PySem.W.Looks.of_pure h
section
variable {X : Cx} {pins : List (Addr × Obj)} {σ : L2.St} {H : Hp} {s : Shared}
theorem Da.at {C a dx : Addr} {x : V} {u : Value} (ed : EqD X.K C) (I : Inv X pins σ H s) (d : Da X.K H x) (r : RelV x u) (ha : s.heap.get? a = some (PySem.W.instObj C dx)) :
    ∃ T id, s.TypeIs u T ∧ PySem.W.subIn X.K (.ref C) (.type T) = some false ∧ PySem.W.subIn X.K (.type T) (.ref C) = some false ∧ Slot T (cmpInfo .Eq).2.1 id ∧
      ∀ (A : Around) (E : Value → Shared → Prop) (Q' : Value → Shared → Prop), Q' .notImplemented s → wpAny (model X.prog X.w) A (call (.builtin id) [u, .ref a]) Q' E s := by
  have kin : X.K.In s.heap := I.kIn
  cases d with
  | non =>
    cases r
    exact ⟨_, _, rfl, ed.l1, ed.r1, F.slot_NoneType_eq, fun A E Q' q => call_meetsIn F.slot_NoneType_eq rfl F.entry_NoneType_eq (F.args_NoneType_eq_2 _ _) Rv.none_dec q⟩
  | int i =>
    obtain ⟨t, rfl⟩ := r
    exact ⟨_, _, typeIs_int s i t, ed.l2, ed.r2, F.slot_int_eq, fun A E Q' q => call_meetsIn F.slot_int_eq (typeIs_int s i t) F.entry_int_eq (F.args_int_eq_2 _ _) (Rv.int_dec (C := C) (dx := dx) i t) ⟨ha, q⟩⟩
  | str z =>
    obtain ⟨t, rfl⟩ := r
    exact ⟨_, _, typeIs_str s z t, ed.l3, ed.r3, F.slot_str_eq, fun A E Q' q => call_meetsIn F.slot_str_eq (typeIs_str s z t) F.entry_str_eq (F.args_str_eq_2 _ _) (Rv.str_dec (C := C) (dx := dx) z t) ⟨ha, q⟩⟩
  | lst e =>
    cases r
    obtain ⟨z, its, n, rr, ho⟩ : ObjOk X.prog X.w H s.heap _ (.lst _) := I.hok _ _ e
    exact ⟨_, _, ⟨_, ho, rfl⟩, ed.l4, ed.r4, F.slot_list_eq, fun A E Q' q => call_meetsIn F.slot_list_eq ⟨_, ho, rfl⟩ F.entry_list_eq (F.args_list_eq_2 _ _) (Rv.list_dec ed.l4 _ _ _ _ _) ⟨kin, ho, ha, q⟩⟩
  | tup e =>
    cases r
    obtain ⟨its, rr, ⟨o, ho, hc, n, hd⟩, hz⟩ := I.tuple e
    obtain ⟨cls, dd, data, sl⟩ := o
    simp only at hc hd
    subst hc hd
    exact ⟨_, _, ⟨_, ho, rfl⟩, ed.l5, ed.r5, F.slot_tuple_eq, fun A E Q' q => call_meetsIn F.slot_tuple_eq ⟨_, ho, rfl⟩ F.entry_tuple_eq (F.args_tuple_eq_2 _ _) (Rv.tuple_dec ed.l5 _ _ _ _ _) ⟨kin, ho, ha, q⟩⟩
  | dK e =>
    cases r
    obtain ⟨_, _, vs, kv, o, es, ep, ho, ex, hd, _⟩ : ObjOk X.prog X.w H s.heap _ (.dK _) := I.hok _ _ e
    have hc := ex.1
    obtain ⟨cls, dd, data, sl⟩ := o
    simp only at hc hd
    subst hc hd
    exact ⟨_, _, ⟨_, ho, rfl⟩, ed.l6, ed.r6, F.slot_dict_eq, fun A E Q' q => call_meetsIn F.slot_dict_eq ⟨_, ho, rfl⟩ F.entry_dict_eq (F.args_dict_eq_2 _ _) (Rv.dict_dec ed.l6 _ _ _ _ _) ⟨kin, ho, ha, q⟩⟩
/-- x == y, an instance on either side -/
def rEqM (K : PySem.W.Frag) (C : Addr) (sp : Sp) : R2 := fun x y H Q =>
  (∃ a dx fs, x = .ref a ∧ H a = some (.ins C dx fs) ∧ ((∃ b dy gs, y = .ref b ∧ H b = some (.ins C dy gs)) ∨ Da K H y) ∧ sp [x, y] H (fun v H' => ∃ r, v = .bl r ∧ Q (.bl r) H') L2.E0) ∨
  (∃ b dy gs, y = .ref b ∧ H b = some (.ins C dy gs) ∧ Da K H x ∧ sp [y, x] H (fun v H' => ∃ r, v = .bl r ∧ Q (.bl r) H') L2.E0)
/-- x != y, x an instance -/
def rNeM (K : PySem.W.Frag) (C : Addr) (sp : Sp) : R2 := fun x y H Q =>
  ∃ a dx fs, x = .ref a ∧ H a = some (.ins C dx fs) ∧ ((∃ b dy gs, y = .ref b ∧ H b = some (.ins C dy gs)) ∨ Da K H y) ∧ sp [x, y] H (fun v H' => ∃ r, v = .bl r ∧ Q (.bl (!r)) H') L2.E0
theorem other_ty {C a dx : Addr} {y : V} {u : Value} (ed : EqD X.K C) (I : Inv X pins σ H s) (d : (∃ b dy gs, y = .ref b ∧ H b = some (.ins C dy gs)) ∨ Da X.K H y) (r : RelV y u) (ha : s.heap.get? a = some (PySem.W.instObj C dx)) :
    ∃ tb, PySem.W.Looks (model X.prog X.w) s.heap (typeOf u) tb ∧ PySem.W.notFirst X.K C tb = true := by
  rcases d with ⟨b, dy, gs, rfl, hb⟩ | d
  · cases (show u = Value.ref b from r)
    obtain ⟨mB, J', _⟩ := ins_get I.hok hb
    obtain ⟨od', J', _⟩ := J'.look
    exact ⟨_, J'.type, by simp [PySem.W.notFirst]⟩
  · obtain ⟨T, id, h1, h2, h3, _⟩ := d.at ed I r ha
    exact ⟨_, looks_ty h1, by unfold PySem.W.notFirst; rw [h3]; simp⟩
variable {k n : Nat} {C : Addr} {sp : Sp}
theorem op_eqM (e : EqI X.prog X.w X.K X.mg X.base k C sp) (ed : EqD X.K C) (hr : Room n X.A) (hk : k + 1 ≤ n := by decide) : OpR X (compareOp .Eq) (rEqM X.K C sp) := by
  intro pins s σ H x y v u Q I rx ry h
  obtain ⟨f, fd, ps, hs, hf, F, bi⟩ := e.ex
  have R := F.raw bi (dvs := []) .nil
  obtain ⟨m, hF⟩ := I.fr
  rcases h with ⟨a, dx, fs, rfl, ha, hy, q⟩ | ⟨b, dy, gs, rfl, hb, hx, q⟩
  · cases (show v = Value.ref a from rx)
    obtain ⟨mA, J, _⟩ := ins_get I.hok ha
    have ho := J.obj
    obtain ⟨od, J, _⟩ := J.look
    obtain ⟨tb, L, nf⟩ := other_ty ed I hy ry ho
    show wpAny _ _ (richCompare .Eq (.ref a) u) _ _ _
    refine PySem.W.cmp_K (op := .Eq) (tb := tb) hr.units0 hF I.ok.mod.kin J L nf hs hf ?_
    refine wpAny_mono (wpAny_call (run_fnR (us := [.ref a, u]) (vs := [.ref a, y]) R (hr.mono (by omega)) pass0 I (.cons rfl (.cons ry .nil)) q)) (fun w' s' z => ?_) fun _ _ x => x
    obtain ⟨z', H', I', rz, r, rfl, qz⟩ := z
    cases rz
    exact ⟨.bl r, H', I', rfl, qz⟩
  · cases (show u = Value.ref b from ry)
    obtain ⟨mA, J, _⟩ := ins_get I.hok hb
    have ho := J.obj
    obtain ⟨od, J, _⟩ := J.look
    obtain ⟨T, id, h1, h2, h3, h4, h5⟩ := hx.at ed I rx ho
    show wpAny _ _ (richCompare .Eq v (.ref b)) _ _ _
    refine Rv.rc_right h1 I.kIn J h2 h4 (fun Q' q' => h5 _ _ Q' q') hs hf hr.units0 ?_
    refine wpAny_mono (wpAny_call (run_fnR (us := [.ref b, v]) (vs := [.ref b, x]) R (hr.mono (by omega)) pass0 I (.cons rfl (.cons rx .nil)) q)) (fun w' s' z => ?_) fun _ _ x => x
    obtain ⟨z', H', I', rz, r, rfl, qz⟩ := z
    cases rz
    exact ⟨.bl r, H', I', rfl, qz⟩
theorem op_neM (e : EqI X.prog X.w X.K X.mg X.base k C sp) (ed : EqD X.K C) (hr : Room n X.A) (hk : k + 1 ≤ n := by decide) : OpR X (compareOp .NotEq) (rNeM X.K C sp) := by
  intro pins s σ H x y v u Q I rx ry h
  obtain ⟨a, dx, fs, rfl, ha, hy, q⟩ := h
  cases (show v = Value.ref a from rx)
  obtain ⟨f, fd, ps, hs, hf, F, bi⟩ := e.ex
  obtain ⟨mA, J, _⟩ := ins_get I.hok ha
  have ho := J.obj
  obtain ⟨od, J, _⟩ := J.look
  obtain ⟨tb, L, nf⟩ := other_ty ed I hy ry ho
  obtain ⟨m, hF⟩ := I.fr
  show wpAny _ _ (richCompare .NotEq (.ref a) u) _ _ _
  have R := F.raw bi (dvs := []) .nil
  refine Oi.ne_K (tb := tb) (Nat.lt_of_le_of_lt (by omega) hr.units) hF I.ok.mod.kin J L nf e.ne e.sub hs hf ?_
  have hr1 : Room k X.A.in1 := (hr.mono hk).in1
  refine wpAny_mono (wpAny_call (SlX.run_at (us := [.ref a, u]) (ws := [.ref a, y]) R hr1 I.env0.in1 pass0 I (.cons rfl (.cons ry .nil)) q)) (fun w' s' z => ?_) fun _ _ x => x
  obtain ⟨z', H', I', rz, r, rfl, qz⟩ := z
  cases rz
  exact ⟨r, rfl, .bl (!r), H', I', rfl, qz⟩
end
end Sw
namespace Sw
open PySem PySem.Spec PyProof.Rows L2
/-! ### data, whatever its lists' places -/
mutual
inductive Dz (K : PySem.W.Frag) (H : Hp) : V → PyData → Prop
  | non : Dz K H .non .none
  | bl (b : Bool) : Dz K H (.bl b) (.bool b)
  | int (i : Int) : Dz K H (.int i) (.int i)
  | str (x : Str) : Dz K H (.str x) (.str x)
  | lst {a : Addr} {xs : List V} {ds : List PyData} : H a = some (.lst xs) → DzAll K H xs ds → Dz K H (.ref a) (.list ds)
  | tup {a : Addr} {xs : List V} {ds : List PyData} : SqT K H a xs → DzAll K H xs ds → Dz K H (.ref a) (.tuple ds)
  | emp {a : Addr} : H a = some (.dK []) → Dz K H (.ref a) (.dict [])
inductive DzAll (K : PySem.W.Frag) (H : Hp) : List V → List PyData → Prop
  | nil : DzAll K H [] []
  | cons {v : V} {vs : List V} {d : PyData} {ds : List PyData} : Dz K H v d → DzAll K H vs ds → DzAll K H (v :: vs) (d :: ds)
end
mutual
theorem Dz.de {K : PySem.W.Frag} {H : Hp} (kn : ∀ a xs, H a = some (.lst xs) → sysModules < a) : ∀ {v : V} {d : PyData}, Dz K H v d → De K H v d
  | _, _, .non => .non
  | _, _, .bl b => .bl b
  | _, _, .int i => .int i
  | _, _, .str x => .str x
  | _, _, .lst h1 h2 => .lst h1 (kn _ _ h1) (DzAll.de kn h2)
  | _, _, .tup h1 h2 => .tup h1 (DzAll.de kn h2)
  | _, _, .emp h1 => .dict h1 .nil
theorem DzAll.de {K : PySem.W.Frag} {H : Hp} (kn : ∀ a xs, H a = some (.lst xs) → sysModules < a) : ∀ {vs : List V} {ds : List PyData}, DzAll K H vs ds → DeAll K H vs ds
  | _, _, .nil => .nil
  | _, _, .cons h1 h2 => .cons (Dz.de kn h1) (DzAll.de kn h2)
end
mutual
theorem Dz.same {K : PySem.W.Frag} {H H' : Hp} (s : Same H H') : ∀ {v : V} {d : PyData}, Dz K H v d → Dz K H' v d
  | _, _, .non => .non
  | _, _, .bl b => .bl b
  | _, _, .int i => .int i
  | _, _, .str x => .str x
  | _, _, .lst h1 h2 => .lst (s _ _ h1) (DzAll.same s h2)
  | _, _, .tup h1 h2 => .tup (Same.sqT s h1) (DzAll.same s h2)
  | _, _, .emp h1 => .emp (s _ _ h1)
theorem DzAll.same {K : PySem.W.Frag} {H H' : Hp} (s : Same H H') : ∀ {vs : List V} {ds : List PyData}, DzAll K H vs ds → DzAll K H' vs ds
  | _, _, .nil => .nil
  | _, _, .cons h1 h2 => .cons (Dz.same s h1) (DzAll.same s h2)
end
mutual
theorem Dz.dp {K : PySem.W.Frag} {H : Hp} : ∀ {v : V} {d : PyData}, Dz K H v d → d.hasDict = false → Dp K H v d
  | _, _, .non, _ => .non
  | _, _, .bl b, _ => .bl b
  | _, _, .int i, _ => .int i
  | _, _, .str x, _ => .str x
  | _, _, .lst h1 h2, z => .lst (.inl (.inl h1)) (DzAll.dp h2 (by simpa only [PyData.hasDict] using z))
  | _, _, .tup h1 h2, z => .tup h1 (DzAll.dp h2 (by simpa only [PyData.hasDict] using z))
  | _, _, .emp _, z => by simp only [PyData.hasDict] at z; cases z
theorem DzAll.dp {K : PySem.W.Frag} {H : Hp} : ∀ {vs : List V} {ds : List PyData}, DzAll K H vs ds → PyData.hasDictAll ds = false → DpAll K H vs ds
  | _, _, .nil, _ => .nil
  | _, _, .cons h1 h2, z => by
    simp only [PyData.hasDictAll, Bool.or_eq_false_iff] at z
    exact .cons (Dz.dp h1 z.1) (DzAll.dp h2 z.2)
end
/-! ### all but lists stays as it was -/
def NL (H H' : Hp) : Prop := ∀ a o, H a = some o → (∀ xs, o ≠ .lst xs) → H' a = some o
theorem NL.of {H H' : Hp} (s : Same H H') : NL H H' := fun a o e _ => s _ _ e
theorem NL.trans {H1 H2 H3 : Hp} (s : NL H1 H2) (t : NL H2 H3) : NL H1 H3 := fun a o e n => t _ _ (s _ _ e n) n
theorem NL.lst {H : Hp} {p : Addr} {xs ys : List V} (e : H p = some (.lst xs)) : NL H (upd H p (.lst ys)) := fun a o ea n => by
  rw [upd_ne (fun q => by rw [q, e] at ea; cases ea; exact n _ rfl)]; exact ea
theorem NL.sb {H H' : Hp} {b : Addr} {xs : List V} (e : H b = some (.lst xs)) (s : SB b H H') : NL H H' := fun a o ea n => s _ _ (fun q => by rw [q, e] at ea; cases ea; exact n _ rfl) ea
theorem NL.sqT {K : PySem.W.Frag} {H H' : Hp} {a : Addr} {xs : List V} (e : NL H H') (h : SqT K H a xs) : SqT K H' a xs := by
  rcases h with (h | ⟨o, h⟩) | h
  · exact .inl (.inl (e _ _ h fun _ q => by cases q))
  · exact .inl (.inr ⟨o, e _ _ h fun _ q => by cases q⟩)
  · exact .inr h
mutual
def flatT : PyData → Bool
  | .list _ => false
  | .tuple ds => flatTs ds
  | .dict _ => false
  | _ => true
def flatTs : List PyData → Bool
  | [] => true
  | d :: ds => flatT d && flatTs ds
end
mutual
theorem Dz.nl {K : PySem.W.Frag} {H H' : Hp} (s : NL H H') : ∀ {v : V} {d : PyData}, flatT d = true → Dz K H v d → Dz K H' v d
  | _, _, _, .non => .non
  | _, _, _, .bl b => .bl b
  | _, _, _, .int i => .int i
  | _, _, _, .str x => .str x
  | _, _, f, .lst h1 h2 => by simp only [flatT] at f; cases f
  | _, _, f, .tup h1 h2 => .tup (s.sqT h1) (DzAll.nl s (by simpa only [flatT] using f) h2)
  | _, _, f, .emp h1 => by simp only [flatT] at f; cases f
theorem DzAll.nl {K : PySem.W.Frag} {H H' : Hp} (s : NL H H') : ∀ {vs : List V} {ds : List PyData}, flatTs ds = true → DzAll K H vs ds → DzAll K H' vs ds
  | _, _, _, .nil => .nil
  | _, _, f, .cons h1 h2 => by
    simp only [flatTs, Bool.and_eq_true] at f
    exact .cons (Dz.nl s f.1 h1) (DzAll.nl s f.2 h2)
end
theorem flatTs_all {ds : List PyData} (h : ∀ d ∈ ds, flatT d = true) : flatTs ds = true := by
  induction ds with
  | nil => simp only [flatTs]
  | cons d ds ih => simp only [flatTs, h d List.mem_cons_self, ih fun x hx => h x (List.mem_cons_of_mem _ hx), Bool.and_self]
mutual
theorem flatT_noDict : ∀ {d : PyData}, flatT d = true → d.hasDict = false
  | .none, _ => by simp only [PyData.hasDict]
  | .bool _, _ => by simp only [PyData.hasDict]
  | .int _, _ => by simp only [PyData.hasDict]
  | .str _, _ => by simp only [PyData.hasDict]
  | .list _, f => by simp only [flatT] at f; cases f
  | .tuple ds, f => by simp only [PyData.hasDict]; exact flatTs_noDict (by simpa only [flatT] using f)
  | .dict _, f => by simp only [flatT] at f; cases f
theorem flatTs_noDict : ∀ {ds : List PyData}, flatTs ds = true → PyData.hasDictAll ds = false
  | [], _ => by simp only [PyData.hasDictAll]
  | d :: ds, f => by
    simp only [flatTs, Bool.and_eq_true] at f
    simp only [PyData.hasDictAll, flatT_noDict f.1, flatTs_noDict f.2, Bool.or_self]
end
section
variable {K : PySem.W.Frag} {H : Hp}
theorem DzAll.len : ∀ {vs : List V} {ds : List PyData}, DzAll K H vs ds → vs.length = ds.length
  | _, _, .nil => rfl
  | _, _, .cons _ h2 => by rw [List.length_cons, List.length_cons, h2.len]
theorem DzAll.get : ∀ {vs : List V} {ds : List PyData} {i : Nat} {v : V}, DzAll K H vs ds → vs[i]? = some v → ∃ d, ds[i]? = some d ∧ Dz K H v d
  | _, _, _, _, .nil, e => by simp at e
  | _, _, 0, _, .cons h1 _, e => by simp at e; subst e; exact ⟨_, rfl, h1⟩
  | _, _, i + 1, v, .cons _ h2, e => by
    obtain ⟨d, h1, h3⟩ := h2.get (i := i) (v := v) (by simpa using e)
    exact ⟨d, by simpa using h1, h3⟩
theorem DzAll.get2 : ∀ {vs : List V} {ds : List PyData} {i : Nat} {d : PyData}, DzAll K H vs ds → ds[i]? = some d → ∃ v, vs[i]? = some v ∧ Dz K H v d
  | _, _, _, _, .nil, e => by simp at e
  | _, _, 0, _, .cons h1 _, e => by simp at e; subst e; exact ⟨_, rfl, h1⟩
  | _, _, i + 1, v, .cons _ h2, e => by
    obtain ⟨d, h1, h3⟩ := h2.get2 (i := i) (d := v) (by simpa using e)
    exact ⟨d, by simpa using h1, h3⟩
theorem DzAll.app : ∀ {vs ws : List V} {ds es : List PyData}, DzAll K H vs ds → DzAll K H ws es → DzAll K H (vs ++ ws) (ds ++ es)
  | _, _, _, _, .nil, h => h
  | _, _, _, _, .cons h1 h2, h => .cons h1 (h2.app h)
theorem DzAll.take : ∀ {vs : List V} {ds : List PyData} (n : Nat), DzAll K H vs ds → DzAll K H (vs.take n) (ds.take n)
  | _, _, 0, _ => by rw [List.take_zero, List.take_zero]; exact .nil
  | _, _, n + 1, .nil => by rw [List.take_nil, List.take_nil]; exact .nil
  | _, _, n + 1, .cons h1 h2 => .cons h1 (h2.take n)
theorem DzAll.drop : ∀ {vs : List V} {ds : List PyData} (n : Nat), DzAll K H vs ds → DzAll K H (vs.drop n) (ds.drop n)
  | _, _, 0, h => h
  | _, _, n + 1, .nil => by rw [List.drop_nil, List.drop_nil]; exact .nil
  | _, _, n + 1, .cons _ h2 => h2.drop n
theorem DzAll.set : ∀ {vs : List V} {ds : List PyData} {v : V} {d : PyData} (i : Nat), DzAll K H vs ds → Dz K H v d → DzAll K H (vs.set i v) (ds.set i d)
  | _, _, _, _, _, .nil, _ => .nil
  | _, _, _, _, 0, .cons h1 h2, h => .cons h h2
  | _, _, _, _, i + 1, .cons h1 h2, h => .cons h1 (h2.set i h)
theorem DzAll.all {vs : List V} {ds : List PyData} (h : DzAll K H vs ds) {v : V} (hv : v ∈ vs) : ∃ d ∈ ds, Dz K H v d := by
  obtain ⟨i, hi⟩ := List.getElem?_of_mem hv
  obtain ⟨d, h1, h2⟩ := h.get hi
  exact ⟨d, List.mem_of_getElem? h1, h2⟩
theorem DzAll.map {α : Type} {f : α → V} {g : α → PyData} {l : List α} (h : ∀ x ∈ l, Dz K H (f x) (g x)) : DzAll K H (l.map f) (l.map g) := by
  induction l with
  | nil => exact .nil
  | cons x l ih => exact .cons (h x List.mem_cons_self) (ih fun y hy => h y (List.mem_cons_of_mem _ hy))
theorem DzAll.of_paired {α : Type} {F : V → α → Prop} {g : α → PyData} (hF : ∀ v x, F v x → Dz K H v (g x)) : ∀ {vs : List V} {l : List α}, Paired F vs l → DzAll K H vs (l.map g)
  | _, _, .nil => .nil
  | _, _, .cons h t => .cons (hF _ _ h) (DzAll.of_paired hF t)
theorem Dz.tupI {v : V} {ds : List PyData} (h : Dz K H v (.tuple ds)) : ∃ a xs, v = .ref a ∧ SqT K H a xs ∧ DzAll K H xs ds := by
  cases h with | tup h1 h2 => exact ⟨_, _, rfl, h1, h2⟩
theorem Dz.lstI {v : V} {ds : List PyData} (h : Dz K H v (.list ds)) : ∃ a xs, v = .ref a ∧ H a = some (.lst xs) ∧ DzAll K H xs ds := by
  cases h with | lst h1 h2 => exact ⟨_, _, rfl, h1, h2⟩
theorem Dz.intI {v : V} {i : Int} (h : Dz K H v (.int i)) : v = .int i := by cases h; rfl
theorem Dz.strI {v : V} {z : Str} (h : Dz K H v (.str z)) : v = .str z := by cases h; rfl
theorem Dz.noneI {v : V} (h : Dz K H v .none) : v = .non := by cases h; rfl
theorem Dz.intB {x : V} {d : PyData} (h : Dz K H x d) (h2 : isI d = true) : ∃ i, d = .int i ∧ x = .int i := by
  cases h with
  | int i => exact ⟨i, rfl, rfl⟩
  | _ => cases h2
theorem Dz.isi {v : V} {d : PyData} {Q : VK} {n : String} (h : Dz K H v d) (hn : n = "int" ∨ n = "bool" ∨ n = "str" ∨ n = "list" ∨ n = "tuple") (k : Q (.bl (tyB n d)) H) : rIsi K [v, .ty n] H Q := by
  cases h with
  | non => rcases hn with rfl | rfl | rfl | rfl | rfl <;> exact i_isi _ (.base .non) (kit_ty (by first | (show _ = some true; decide +kernel) | (show _ = some false; decide +kernel))) k
  | bl b => rcases hn with rfl | rfl | rfl | rfl | rfl <;> exact i_isi _ (.base (.bl _)) (kit_ty (by first | (show _ = some true; decide +kernel) | (show _ = some false; decide +kernel))) k
  | int i => rcases hn with rfl | rfl | rfl | rfl | rfl <;> exact i_isi _ (.base (.int _)) (kit_ty (by first | (show _ = some true; decide +kernel) | (show _ = some false; decide +kernel))) k
  | str x => rcases hn with rfl | rfl | rfl | rfl | rfl <;> exact i_isi _ (.base (.str _)) (kit_ty (by first | (show _ = some true; decide +kernel) | (show _ = some false; decide +kernel))) k
  | lst h1 h2 => rcases hn with rfl | rfl | rfl | rfl | rfl <;> exact i_isi _ (.base (.lst h1)) (kit_ty (by first | (show _ = some true; decide +kernel) | (show _ = some false; decide +kernel))) k
  | tup h1 h2 => rcases hn with rfl | rfl | rfl | rfl | rfl <;> exact i_isi _ (tyx_tup h1) (kit_ty (by first | (show _ = some true; decide +kernel) | (show _ = some false; decide +kernel))) k
  | emp h1 => rcases hn with rfl | rfl | rfl | rfl | rfl <;> exact i_isi _ (.base (.dK h1)) (kit_ty (by first | (show _ = some true; decide +kernel) | (show _ = some false; decide +kernel))) k
theorem Dz.isiC {C : Addr} {v : V} {d : PyData} {Q : VK} (nc : NoC K C) (h : Dz K H v d) (k : Q (.bl false) H) : rIsi K [v, .ref C] H Q := by
  cases h with
  | non => exact ⟨_, _, _, _, _, rfl, .own _, .base .non, nc.non, k⟩
  | bl b => exact ⟨_, _, _, _, _, rfl, .own _, .base (.bl _), nc.bl, k⟩
  | int i => exact ⟨_, _, _, _, _, rfl, .own _, .base (.int _), nc.int, k⟩
  | str x => exact ⟨_, _, _, _, _, rfl, .own _, .base (.str _), nc.str, k⟩
  | lst h1 h2 => exact ⟨_, _, _, _, _, rfl, .own _, .base (.lst h1), nc.lst, k⟩
  | tup h1 h2 => exact ⟨_, _, _, _, _, rfl, .own _, tyx_tup h1, nc.tup, k⟩
  | emp h1 => exact ⟨_, _, _, _, _, rfl, .own _, .base (.dK h1), nc.dict, k⟩
/-- isinstance(x, (list, tuple)) -/
theorem Dz.isLT {v : V} {d : PyData} {Q : VK} {p : Addr} (h : Dz K H v d) (hp : H p = some (.tup [.ty "list", .ty "tuple"])) (k : Q (.bl (tyB "list" d || tyB "tuple" d)) H) : rIsiT K [v, .ref p] H Q := by
  cases h with
  | non => exact isiLT (.base .non) hp (kit_ty (show _ = some false by decide +kernel)) (kit_ty (show _ = some false by decide +kernel)) k
  | bl b => exact isiLT (.base (.bl _)) hp (kit_ty (show _ = some false by decide +kernel)) (kit_ty (show _ = some false by decide +kernel)) k
  | int i => exact isiLT (.base (.int _)) hp (kit_ty (show _ = some false by decide +kernel)) (kit_ty (show _ = some false by decide +kernel)) k
  | str x => exact isiLT (.base (.str _)) hp (kit_ty (show _ = some false by decide +kernel)) (kit_ty (show _ = some false by decide +kernel)) k
  | lst h1 h2 => exact isiLT (.base (.lst h1)) hp (kit_ty (show _ = some true by decide +kernel)) (kit_ty (show _ = some false by decide +kernel)) k
  | tup h1 h2 => exact isiLT (tyx_tup h1) hp (kit_ty (show _ = some false by decide +kernel)) (kit_ty (show _ = some true by decide +kernel)) k
  | emp h1 => exact isiLT (.base (.dK h1)) hp (kit_ty (show _ = some false by decide +kernel)) (kit_ty (show _ = some false by decide +kernel)) k
theorem Dz.da {v : V} {d : PyData} (h : Dz K H v d) (nb : tyB "bool" d = false) : Da K H v := by
  cases h with
  | non => exact .non
  | bl b => cases nb
  | int i => exact .int i
  | str x => exact .str x
  | lst h1 h2 => exact .lst h1
  | tup h1 h2 => exact .tup h1
  | emp h1 => exact .dK h1
end
end Sw
namespace Sw
open PySem PySem.Spec PyProof.Rows L2
local macro_rules | `(tactic| walk_at "hp") => `(tactic| first
  | (with_reducible assumption) | (with_reducible exact upd_same)
  | ((with_reducible refine' upd_old ?q1 ?q2); (case q1 => (with_reducible assumption)); (case q2 => walk_at "hp"))
  | ((with_reducible refine' Same.at ?q1 ?q2); (case q1 => (with_reducible assumption)); (case q2 => walk_at "hp"))
  | ((with_reducible refine' upd_skip ?q1 ?q2); (case q1 => walk_at "ne"); (case q2 => walk_at "hp"))
  | fail)
local macro_rules | `(tactic| walk_at "ne") => `(tactic| first
  | (with_reducible assumption) | (with_reducible exact Ne.symm (by assumption))
  | ((with_reducible refine' ne_of_none ?q1 ?q2); (case q2 => (with_reducible assumption)); (case q1 => walk_at "hp"))
  | fail)
local macro_rules | `(tactic| walk_at "ci") => `(tactic| first | assumption | (show (0 : Int) < _; first | decide | (with_reducible omega)) | exact ⟨by decide, by decide⟩ | exact .inl ⟨by decide, by decide⟩ | exact .inr ⟨by decide, by decide⟩)
local macro_rules | `(tactic| walk_at "ln") => `(tactic| first | (with_reducible assumption) | (with_reducible omega) | (simp only [List.length_append, List.length_take, List.length_drop, List.length_reverse, List.length_cons, List.length_nil]; with_reducible omega))
local macro_rules | `(tactic| walk_at "rd1") => `(tactic| first
  | (with_reducible refine i_seq ?_) | (with_reducible refine i_asg ?_) | (with_reducible refine i_ret ?_) | (with_reducible refine i_name ?_) | ((with_reducible refine' i_var ?q1 ?_); (case q1 => exact rfl)) | (with_reducible refine i_c ?_) | (with_reducible refine i_op ?_) | (with_reducible refine i_un ?_)
  | (with_reducible refine i_rI0 ?_) | (with_reducible refine i_cb ?_) | (with_reducible refine i_cons ?_) | (with_reducible refine i_nil ?_) | (with_reducible refine i_call ?_) | (with_reducible refine i_if ?_) | (with_reducible refine i_ifE ?_) | (with_reducible refine i_test ?_) | (with_reducible refine i_bl ?_)
  | (with_reducible refine i_and ?_) | (with_reducible refine i_or ?_) | (with_reducible refine i_not ?_) | (with_reducible refine i_lst ?_) | (with_reducible refine i_tup ?_) | (with_reducible refine i_next ?_) | (with_reducible refine i_drop ?_) | (with_reducible refine i_sub ?_)
  | (with_reducible refine i_bm ?_) | (with_reducible refine i_sl ?_) | (with_reducible refine i_part ?_) | (with_reducible refine i_nopart ?_) | (with_reducible refine i_exI ?_) | (with_reducible refine i_chain ?_) | ((with_reducible refine' i_aug ?q1 ?_); (case q1 => exact rfl)) | (with_reducible refine i_ip ?_)
  | (with_reducible refine i_par ?_) | (with_reducible refine i_pair ?_) | (with_reducible refine i_andV ?_) | (with_reducible refine i_orV ?_) | (with_reducible refine i_notV ?_) | (with_reducible refine i_m1 ?_) | (with_reducible refine i_str ?_)
  | (with_reducible refine iteF ?_) | (with_reducible refine iteT ?_) | (with_reducible refine iteNT ?_) | (with_reducible refine iteNF ?_) | (with_reducible refine i_tyS ?_) | (with_reducible refine i_tB ?_) | (with_reducible refine i_retN ?_) | (with_reducible refine i_par3 ?_) | (with_reducible refine i_trip ?_) | (with_reducible refine i_gCons ?_) | (with_reducible refine i_gNil ?_) | (with_reducible refine i_lstRg ?_) | (with_reducible refine i_rg1 ?_)
  | (with_reducible refine i_lc ?_) | (with_reducible refine i_for ?_) | (with_reducible refine i_iList ?_) | (with_reducible refine i_iTup ?_) | (with_reducible refine i_iStr ?_) | (with_reducible refine i_iRng1 ?_) | (with_reducible refine i_iEnS ?_)
  | ((with_reducible refine' i_ixTH ?q1 ?q2 ?_); (case q1 => walk_at "hp"); (case q2 => exact rfl))
  | ((with_reducible refine' i_ixLH ?q1 ?q2 ?_); (case q1 => walk_at "hp"); (case q2 => exact rfl))
  | ((with_reducible refine i_addS ?q1 ?_); (case q1 => walk_at "ln")) | ((with_reducible refine i_lenSS ?q1 ?_); (case q1 => walk_at "ln")) | ((with_reducible refine i_slFrom ?q1 ?q2 ?_); (case q1 => walk_at "ln"); (case q2 => walk_at "ln")) | ((with_reducible refine i_slTo ?q1 ?q2 ?_); (case q1 => walk_at "ln"); (case q2 => walk_at "ln"))
  | ((with_reducible refine' i_tyL ?q1 ?_); (case q1 => walk_at "hp"))
  | ((with_reducible refine' i_gTupH ?q1 ?q2 ?_); (case q1 => walk_at "hp"); (case q2 => exact rfl))
  | (with_reducible refine i_dnew ?_) | (with_reducible refine i_init ?_) | (with_reducible refine i_fst ?_) | (with_reducible refine i_mk ?_) | (with_reducible refine i_raise ?_) | (with_reducible refine i_callS ?_) | (with_reducible refine i_kwS ?_)
  | (with_reducible refine i_revT ?_) | (with_reducible refine i_kw ?_) | ((with_reducible refine' ⟨_, _, rfl, sqT_of ?q1, ?_⟩); (case q1 => walk_at "hp"))
  | (with_reducible refine i_revS ?_) | ((with_reducible refine i_revSS ?q1 ?_); (case q1 => walk_at "ln"))
  | (with_reducible refine i_startS ?_) | (with_reducible refine i_inSg ?_) | (with_reducible refine i_absN ?_) | (with_reducible refine i_min2 ?_) | (with_reducible refine i_max2 ?_) | (with_reducible refine i_min3 ?_) | (with_reducible refine i_intN ?_) | (with_reducible refine i_intNB ?_)
  | ((with_reducible refine' i_lenL ?q1 ?_); (case q1 => walk_at "hp")) | ((with_reducible refine' i_lenT ?q1 ?_); (case q1 => walk_at "hp"))
  | (with_reducible refine i_eqI ?_) | (with_reducible refine i_neI ?_) | (with_reducible refine i_eqS ?_) | (with_reducible refine i_neS ?_) | (with_reducible refine i_isNoI ?_) | (with_reducible refine i_isNoN ?_) | (with_reducible refine i_isNoR ?_)
  | ((with_reducible refine i_pow ?q1 ?q2 ?q3 ?_); (case q1 => decide); (case q2 => decide); (case q3 => (with_reducible omega)))
  | ((with_reducible refine i_rI ?q1 ?_); (case q1 => walk_at "ci"))
  | (with_reducible refine Or.inl ⟨_, rfl, ?_⟩) | (with_reducible refine Or.inr ⟨_, rfl, ?_⟩) | (with_reducible refine ⟨_, rfl, ?_⟩) | (with_reducible refine ⟨_, _, rfl, ?_⟩) | (with_reducible refine ⟨_, _, rfl, rfl, ?_⟩)
  | ((with_reducible refine' ⟨_, _, rfl, Or.inl (sqL_of ?q1), ?_⟩); (case q1 => walk_at "hp")) | ((with_reducible refine' ⟨_, _, rfl, Or.inr (sqT_of ?q1), ?_⟩); (case q1 => walk_at "hp")) | (with_reducible refine i_dget ?_) | (with_reducible refine i_disp1T ?_) | (with_reducible refine i_dcT ?_) | (with_reducible refine i_dnewT ?_) | (with_reducible refine i_fld ?_) | (with_reducible refine i_sFld ?_) | (with_reducible refine i_make ?_) | (with_reducible refine i_meth ?_) | (with_reducible refine i_star ?_) | (with_reducible refine i_isNoS ?_) | (with_reducible refine i_lc2 ?_) | fail)
local macro_rules | `(tactic| walk_at "rd") => `(tactic| repeat' walk_at "rd1")

def topS (i : Nat) : Stmt := PySem.Challenge.pw_spoiltways_k01_decoders_and_their_parts.main.body.getD i (.Pass ⟨0, 0, 0, 0⟩)
abbrev s__wall : Stmt := topS 0
abbrev n__wall : List Str := ["k"]
theorem sc__wall : FnScope n__wall ["k"] (defScope s__wall) := ⟨rfl, rfl, rfl, by decide +kernel, rfl, by decide +kernel, by decide +kernel⟩
abbrev s_is_list : Stmt := topS 11
abbrev n_is_list : List Str := ["value"]
theorem sc_is_list : FnScope n_is_list ["value"] (defScope s_is_list) := ⟨rfl, rfl, rfl, by decide +kernel, rfl, by decide +kernel, by decide +kernel⟩
abbrev s_is_integer : Stmt := topS 12
abbrev n_is_integer : List Str := ["value"]
theorem sc_is_integer : FnScope n_is_integer ["value"] (defScope s_is_integer) := ⟨rfl, rfl, rfl, by decide +kernel, rfl, by decide +kernel, by decide +kernel⟩
abbrev s_is_index : Stmt := topS 13
abbrev n_is_index : List Str := ["value", "many"]
theorem sc_is_index : FnScope n_is_index ["value", "many"] (defScope s_is_index) := ⟨rfl, rfl, rfl, by decide +kernel, rfl, by decide +kernel, by decide +kernel⟩
abbrev s_is_signs : Stmt := topS 14
abbrev n_is_signs : List Str := ["value"]
theorem sc_is_signs : FnScope n_is_signs ["value"] (defScope s_is_signs) := ⟨rfl, rfl, rfl, by decide +kernel, rfl, by decide +kernel, by decide +kernel⟩
abbrev s_is_line : Stmt := topS 15
abbrev n_is_line : List Str := ["value", "signs", "sign"]
theorem sc_is_line : FnScope n_is_line ["value", "signs"] (defScope s_is_line) := ⟨rfl, rfl, rfl, by decide +kernel, rfl, by decide +kernel, by decide +kernel⟩
abbrev s_is_text : Stmt := topS 16
abbrev n_is_text : List Str := ["value", "letter"]
theorem sc_is_text : FnScope n_is_text ["value"] (defScope s_is_text) := ⟨rfl, rfl, rfl, by decide +kernel, rfl, by decide +kernel, by decide +kernel⟩
abbrev s_is_word : Stmt := topS 17
abbrev n_is_word : List Str := ["value"]
theorem sc_is_word : FnScope n_is_word ["value"] (defScope s_is_word) := ⟨rfl, rfl, rfl, by decide +kernel, rfl, by decide +kernel, by decide +kernel⟩
abbrev s_check_signs : Stmt := topS 18
abbrev n_check_signs : List Str := ["signs"]
theorem sc_check_signs : FnScope n_check_signs ["signs"] (defScope s_check_signs) := ⟨rfl, rfl, rfl, by decide +kernel, rfl, by decide +kernel, by decide +kernel⟩
abbrev s_check_line : Stmt := topS 19
abbrev n_check_line : List Str := ["line", "signs"]
theorem sc_check_line : FnScope n_check_line ["line", "signs"] (defScope s_check_line) := ⟨rfl, rfl, rfl, by decide +kernel, rfl, by decide +kernel, by decide +kernel⟩
abbrev s_is_entry : Stmt := topS 22
abbrev n_is_entry : List Str := ["value", "states"]
theorem sc_is_entry : FnScope n_is_entry ["value", "states"] (defScope s_is_entry) := ⟨rfl, rfl, rfl, by decide +kernel, rfl, by decide +kernel, by decide +kernel⟩
abbrev s_are_steps : Stmt := topS 23
abbrev n_are_steps : List Str := ["value", "signs", "row", "entry"]
theorem sc_are_steps : FnScope n_are_steps ["value", "signs"] (defScope s_are_steps) := ⟨rfl, rfl, rfl, by decide +kernel, rfl, by decide +kernel, by decide +kernel⟩
abbrev s_are_ends : Stmt := topS 24
abbrev n_are_ends : List Str := ["value", "states", "end"]
theorem sc_are_ends : FnScope n_are_ends ["value", "states"] (defScope s_are_ends) := ⟨rfl, rfl, rfl, by decide +kernel, rfl, by decide +kernel, by decide +kernel⟩
abbrev s__law_cell : Stmt := topS 27
abbrev n__law_cell : List Str := ["script", "k"]
theorem sc__law_cell : FnScope n__law_cell ["script", "k"] (defScope s__law_cell) := ⟨rfl, rfl, rfl, by decide +kernel, rfl, by decide +kernel, by decide +kernel⟩
abbrev s__law_box : Stmt := topS 28
abbrev n__law_box : List Str := ["great"]
theorem sc__law_box : FnScope n__law_box ["great"] (defScope s__law_box) := ⟨rfl, rfl, rfl, by decide +kernel, rfl, by decide +kernel, by decide +kernel⟩
abbrev s__law_take : Stmt := topS 29
abbrev n__law_take : List Str := ["box", "many", "digit", "mixed"]
theorem sc__law_take : FnScope n__law_take ["box", "many"] (defScope s__law_take) := ⟨rfl, rfl, rfl, by decide +kernel, rfl, by decide +kernel, by decide +kernel⟩
abbrev s__law_word : Stmt := topS 30
abbrev n__law_word : List Str := ["box", "letters", "turn"]
theorem sc__law_word : FnScope n__law_word ["box"] (defScope s__law_word) := ⟨rfl, rfl, rfl, by decide +kernel, rfl, by decide +kernel, by decide +kernel⟩
abbrev s__law_entry : Stmt := topS 31
abbrev n__law_entry : List Str := ["box", "states"]
theorem sc__law_entry : FnScope n__law_entry ["box", "states"] (defScope s__law_entry) := ⟨rfl, rfl, rfl, by decide +kernel, rfl, by decide +kernel, by decide +kernel⟩
abbrev s__law_row : Stmt := topS 32
abbrev n__law_row : List Str := ["box", "signs", "states", "a"]
theorem sc__law_row : FnScope n__law_row ["box", "signs", "states"] (defScope s__law_row) := ⟨rfl, rfl, rfl, by decide +kernel, rfl, by decide +kernel, by decide +kernel⟩
abbrev s__law_end : Stmt := topS 33
abbrev n__law_end : List Str := ["box"]
theorem sc__law_end : FnScope n__law_end ["box"] (defScope s__law_end) := ⟨rfl, rfl, rfl, by decide +kernel, rfl, by decide +kernel, by decide +kernel⟩
abbrev s__law_parts : Stmt := topS 34
abbrev n__law_parts : List Str := ["box", "signs", "states", "steps", "state"]
theorem sc__law_parts : FnScope n__law_parts ["box"] (defScope s__law_parts) := ⟨rfl, rfl, rfl, by decide +kernel, rfl, by decide +kernel, by decide +kernel⟩
abbrev s__law_listed : Stmt := topS 35
abbrev n__law_listed : List Str := ["box", "rows", "found", "row"]
theorem sc__law_listed : FnScope n__law_listed ["box", "rows"] (defScope s__law_listed) := ⟨rfl, rfl, rfl, by decide +kernel, rfl, by decide +kernel, by decide +kernel⟩
abbrev s__law_plain_rows : Stmt := topS 36
abbrev n__law_plain_rows : List Str := ["rows", "row"]
theorem sc__law_plain_rows : FnScope n__law_plain_rows ["rows"] (defScope s__law_plain_rows) := ⟨rfl, rfl, rfl, by decide +kernel, rfl, by decide +kernel, by decide +kernel⟩
abbrev s__law_stands : Stmt := topS 37
abbrev n__law_stands : List Str := ["made", "parts", "signs", "steps", "ends", "row", "told"]
theorem sc__law_stands : FnScope n__law_stands ["made", "parts"] (defScope s__law_stands) := ⟨rfl, rfl, rfl, by decide +kernel, rfl, by decide +kernel, by decide +kernel⟩
abbrev s__law_met : Stmt := topS 38
abbrev n__law_met : List Str := ["signs", "steps", "ends", "e"]
theorem sc__law_met : FnScope n__law_met ["signs", "steps", "ends"] (defScope s__law_met) := ⟨rfl, rfl, rfl, by decide +kernel, rfl, by decide +kernel, by decide +kernel⟩
abbrev s__law_other_word : Stmt := topS 39
abbrev n__law_other_word : List Str := ["box", "word", "menu"]
theorem sc__law_other_word : FnScope n__law_other_word ["box", "word"] (defScope s__law_other_word) := ⟨rfl, rfl, rfl, by decide +kernel, rfl, by decide +kernel, by decide +kernel⟩
abbrev s__law_changed : Stmt := topS 40
abbrev n__law_changed : List Str := ["box", "parts", "signs", "steps", "ends", "rows", "words", "at", "a", "row", "way", "entry", "word"]
theorem sc__law_changed : FnScope n__law_changed ["box", "parts"] (defScope s__law_changed) := ⟨rfl, rfl, rfl, by decide +kernel, rfl, by decide +kernel, by decide +kernel⟩
abbrev s__law_equal_right : Stmt := topS 41
abbrev n__law_equal_right : List Str := ["box", "made", "parts", "signs", "steps", "ends", "twin", "turn", "changed", "other", "things", "thing"]
theorem sc__law_equal_right : FnScope n__law_equal_right ["box", "made", "parts"] (defScope s__law_equal_right) := ⟨rfl, rfl, rfl, by decide +kernel, rfl, by decide +kernel, by decide +kernel⟩
abbrev s__law_spoilt_steps : Stmt := topS 42
abbrev n__law_spoilt_steps : List Str := ["box", "signs", "steps", "rows", "states", "way", "row", "at", "a", "word", "odd"]
theorem sc__law_spoilt_steps : FnScope n__law_spoilt_steps ["box", "signs", "steps"] (defScope s__law_spoilt_steps) := ⟨rfl, rfl, rfl, by decide +kernel, rfl, by decide +kernel, by decide +kernel⟩
abbrev s__law_spoilt_ends : Stmt := topS 43
abbrev n__law_spoilt_ends : List Str := ["box", "ends", "words", "at", "way", "odd"]
theorem sc__law_spoilt_ends : FnScope n__law_spoilt_ends ["box", "ends"] (defScope s__law_spoilt_ends) := ⟨rfl, rfl, rfl, by decide +kernel, rfl, by decide +kernel, by decide +kernel⟩
abbrev s__law_copy : Stmt := topS 44
abbrev n__law_copy : List Str := ["value", "row"]
theorem sc__law_copy : FnScope n__law_copy ["value"] (defScope s__law_copy) := ⟨rfl, rfl, rfl, by decide +kernel, rfl, by decide +kernel, by decide +kernel⟩
abbrev s__law_tuples : Stmt := topS 45
abbrev n__law_tuples : List Str := ["value", "row"]
theorem sc__law_tuples : FnScope n__law_tuples ["value"] (defScope s__law_tuples) := ⟨rfl, rfl, rfl, by decide +kernel, rfl, by decide +kernel, by decide +kernel⟩
abbrev s__law_door : Stmt := topS 46
abbrev n__law_door : List Str := ["word", "signs", "steps", "ends", "things", "told", "wrong"]
theorem sc__law_door : FnScope n__law_door ["word", "signs", "steps", "ends"] (defScope s__law_door) := ⟨rfl, rfl, rfl, by decide +kernel, rfl, by decide +kernel, by decide +kernel⟩
abbrev s__law_refused_right : Stmt := topS 47
abbrev n__law_refused_right : List Str := ["box", "parts", "signs", "steps", "ends", "menu", "bad", "rows", "words", "told"]
theorem sc__law_refused_right : FnScope n__law_refused_right ["box", "parts"] (defScope s__law_refused_right) := ⟨rfl, rfl, rfl, by decide +kernel, rfl, by decide +kernel, by decide +kernel⟩
abbrev s__law_many_right : Stmt := topS 48
abbrev n__law_many_right : List Str := ["box", "place", "rows", "k", "made"]
theorem sc__law_many_right : FnScope n__law_many_right ["box"] (defScope s__law_many_right) := ⟨rfl, rfl, rfl, by decide +kernel, rfl, by decide +kernel, by decide +kernel⟩
abbrev s__law_right : Stmt := topS 49
abbrev n__law_right : List Str := ["box", "parts", "signs", "steps", "ends", "handed", "given", "row", "kept"]
theorem sc__law_right : FnScope n__law_right ["box"] (defScope s__law_right) := ⟨rfl, rfl, rfl, by decide +kernel, rfl, by decide +kernel, by decide +kernel⟩
abbrev s_law : Stmt := topS 50
abbrev n_law : List Str := ["script", "k", "box"]
theorem sc_law : FnScope n_law ["script"] (defScope s_law) := ⟨rfl, rfl, rfl, by decide +kernel, rfl, by decide +kernel, by decide +kernel⟩
abbrev s_Decoder___init__ : Stmt := inClass (topS 25) 0
abbrev n_Decoder___init__ : List Str := ["self", "signs", "steps", "ends", "row"]
theorem sc_Decoder___init__ : FnScope n_Decoder___init__ ["self", "signs", "steps", "ends"] (defScope s_Decoder___init__) := ⟨rfl, rfl, rfl, by decide +kernel, rfl, by decide +kernel, by decide +kernel⟩
abbrev s_Decoder___eq__ : Stmt := inClass (topS 25) 1
abbrev n_Decoder___eq__ : List Str := ["self", "other"]
theorem sc_Decoder___eq__ : FnScope n_Decoder___eq__ ["self", "other"] (defScope s_Decoder___eq__) := ⟨rfl, rfl, rfl, by decide +kernel, rfl, by decide +kernel, by decide +kernel⟩
abbrev s_Decoder_written : Stmt := inClass (topS 25) 2
abbrev n_Decoder_written : List Str := ["self", "line", "state", "text", "sign", "entry", "end"]
theorem sc_Decoder_written : FnScope n_Decoder_written ["self", "line"] (defScope s_Decoder_written) := ⟨rfl, rfl, rfl, by decide +kernel, rfl, by decide +kernel, by decide +kernel⟩
abbrev s_Decoder_state_after : Stmt := inClass (topS 25) 3
abbrev n_Decoder_state_after : List Str := ["self", "line"]
theorem sc_Decoder_state_after : FnScope n_Decoder_state_after ["self", "line"] (defScope s_Decoder_state_after) := ⟨rfl, rfl, rfl, by decide +kernel, rfl, by decide +kernel, by decide +kernel⟩
abbrev s_Decoder_trimmed : Stmt := inClass (topS 25) 4
abbrev n_Decoder_trimmed : List Str := ["self"]
theorem sc_Decoder_trimmed : FnScope n_Decoder_trimmed ["self"] (defScope s_Decoder_trimmed) := ⟨rfl, rfl, rfl, by decide +kernel, rfl, by decide +kernel, by decide +kernel⟩
/-- names that stay the built-in ones -/
structure Z (mg : Str → Option Value) : Prop where
  abs : mg "abs" = none
  all : mg "all" = none
  bool : mg "bool" = none
  dict : mg "dict" = none
  int : mg "int" = none
  isinstance : mg "isinstance" = none
  len : mg "len" = none
  list : mg "list" = none
  max_ : mg "max" = none
  min_ : mg "min" = none
  range : mg "range" = none
  repr : mg "repr" = none
  str : mg "str" = none
  sum : mg "sum" = none
  tuple : mg "tuple" = none
/-- a promise kept without what would be raised -/
theorem FnOk.calm {P : Program} {w : World} {K : PySem.W.Frag} {mg : Str → Option Value} {base : Heap} {k : Nat} {f : Addr} {fd : FuncData} {ps : List Str} {sp sp' : Sp} (F : FnOk P w K mg base (L2.CX P w) k f fd ps sp)
    (h : ∀ vs H Q E, sp' vs H Q E → sp vs H Q (fun _ _ _ => False)) : FnOk P w K mg base CX0 k f fd ps sp' := by
  refine ⟨fun vs H Q E q => F.len _ _ _ _ (h _ _ _ _ q), fun A outer s H args us vs Q E hr e b r q => codeAny_mono (F.run A outer s H args us vs Q _ hr e b r (h _ _ _ _ q)) fun o t' z => ?_⟩
  rcases o with x | fl
  · simp only [CR, L2.CX] at z
    obtain ⟨_, _, _, z⟩ := z
    simp_all
  · cases fl <;> exact z
end Sw
namespace Sw
open PySem PySem.Spec PyProof.Rows L2
local macro_rules | `(tactic| walk_at "hp") => `(tactic| first
  | (with_reducible assumption) | (with_reducible exact upd_same)
  | ((with_reducible refine' upd_old ?q1 ?q2); (case q1 => (with_reducible assumption)); (case q2 => walk_at "hp"))
  | ((with_reducible refine' Same.at ?q1 ?q2); (case q1 => (with_reducible assumption)); (case q2 => walk_at "hp"))
  | ((with_reducible refine' upd_skip ?q1 ?q2); (case q1 => walk_at "ne"); (case q2 => walk_at "hp"))
  | fail)
local macro_rules | `(tactic| walk_at "ne") => `(tactic| first
  | (with_reducible assumption) | (with_reducible exact Ne.symm (by assumption))
  | ((with_reducible refine' ne_of_none ?q1 ?q2); (case q2 => (with_reducible assumption)); (case q1 => walk_at "hp"))
  | fail)
local macro_rules | `(tactic| walk_at "ci") => `(tactic| first | assumption | (show (0 : Int) < _; first | decide | (with_reducible omega)) | exact ⟨by decide, by decide⟩ | exact .inl ⟨by decide, by decide⟩ | exact .inr ⟨by decide, by decide⟩)
local macro_rules | `(tactic| walk_at "ln") => `(tactic| first | (with_reducible assumption) | (with_reducible omega) | (simp only [List.length_append, List.length_take, List.length_drop, List.length_reverse, List.length_cons, List.length_nil]; with_reducible omega))
local macro_rules | `(tactic| walk_at "rd1") => `(tactic| first
  | (with_reducible refine i_seq ?_) | (with_reducible refine i_asg ?_) | (with_reducible refine i_ret ?_) | (with_reducible refine i_name ?_) | ((with_reducible refine' i_var ?q1 ?_); (case q1 => exact rfl)) | (with_reducible refine i_c ?_) | (with_reducible refine i_op ?_) | (with_reducible refine i_un ?_)
  | (with_reducible refine i_rI0 ?_) | (with_reducible refine i_cb ?_) | (with_reducible refine i_cons ?_) | (with_reducible refine i_nil ?_) | (with_reducible refine i_call ?_) | (with_reducible refine i_if ?_) | (with_reducible refine i_ifE ?_) | (with_reducible refine i_test ?_) | (with_reducible refine i_bl ?_)
  | (with_reducible refine i_and ?_) | (with_reducible refine i_or ?_) | (with_reducible refine i_not ?_) | (with_reducible refine i_lst ?_) | (with_reducible refine i_tup ?_) | (with_reducible refine i_next ?_) | (with_reducible refine i_drop ?_) | (with_reducible refine i_sub ?_)
  | (with_reducible refine i_bm ?_) | (with_reducible refine i_sl ?_) | (with_reducible refine i_part ?_) | (with_reducible refine i_nopart ?_) | (with_reducible refine i_exI ?_) | (with_reducible refine i_chain ?_) | ((with_reducible refine' i_aug ?q1 ?_); (case q1 => exact rfl)) | (with_reducible refine i_ip ?_)
  | (with_reducible refine i_par ?_) | (with_reducible refine i_pair ?_) | (with_reducible refine i_andV ?_) | (with_reducible refine i_orV ?_) | (with_reducible refine i_notV ?_) | (with_reducible refine i_m1 ?_) | (with_reducible refine i_str ?_)
  | (with_reducible refine iteF ?_) | (with_reducible refine iteT ?_) | (with_reducible refine iteNT ?_) | (with_reducible refine iteNF ?_) | (with_reducible refine i_tyS ?_) | (with_reducible refine i_tB ?_) | (with_reducible refine i_retN ?_) | (with_reducible refine i_par3 ?_) | (with_reducible refine i_trip ?_) | (with_reducible refine i_gCons ?_) | (with_reducible refine i_gNil ?_) | (with_reducible refine i_lstRg ?_) | (with_reducible refine i_rg1 ?_)
  | (with_reducible refine i_lc ?_) | (with_reducible refine i_for ?_) | (with_reducible refine i_iList ?_) | (with_reducible refine i_iTup ?_) | (with_reducible refine i_iStr ?_) | (with_reducible refine i_iRng1 ?_) | (with_reducible refine i_iEnS ?_)
  | ((with_reducible refine' i_ixTH ?q1 ?q2 ?_); (case q1 => walk_at "hp"); (case q2 => exact rfl))
  | ((with_reducible refine' i_ixLH ?q1 ?q2 ?_); (case q1 => walk_at "hp"); (case q2 => exact rfl))
  | ((with_reducible refine i_addS ?q1 ?_); (case q1 => walk_at "ln")) | ((with_reducible refine i_lenSS ?q1 ?_); (case q1 => walk_at "ln")) | ((with_reducible refine i_slFrom ?q1 ?q2 ?_); (case q1 => walk_at "ln"); (case q2 => walk_at "ln")) | ((with_reducible refine i_slTo ?q1 ?q2 ?_); (case q1 => walk_at "ln"); (case q2 => walk_at "ln"))
  | ((with_reducible refine' i_tyL ?q1 ?_); (case q1 => walk_at "hp"))
  | ((with_reducible refine' i_gTupH ?q1 ?q2 ?_); (case q1 => walk_at "hp"); (case q2 => exact rfl))
  | (with_reducible refine i_dnew ?_) | (with_reducible refine i_init ?_) | (with_reducible refine i_fst ?_) | (with_reducible refine i_mk ?_) | (with_reducible refine i_raise ?_) | (with_reducible refine i_callS ?_) | (with_reducible refine i_kwS ?_)
  | (with_reducible refine i_revT ?_) | (with_reducible refine i_kw ?_) | ((with_reducible refine' ⟨_, _, rfl, sqT_of ?q1, ?_⟩); (case q1 => walk_at "hp"))
  | (with_reducible refine i_revS ?_) | ((with_reducible refine i_revSS ?q1 ?_); (case q1 => walk_at "ln"))
  | (with_reducible refine i_startS ?_) | (with_reducible refine i_inSg ?_) | (with_reducible refine i_absN ?_) | (with_reducible refine i_min2 ?_) | (with_reducible refine i_max2 ?_) | (with_reducible refine i_min3 ?_) | (with_reducible refine i_intN ?_) | (with_reducible refine i_intNB ?_)
  | ((with_reducible refine' i_lenL ?q1 ?_); (case q1 => walk_at "hp")) | ((with_reducible refine' i_lenT ?q1 ?_); (case q1 => walk_at "hp"))
  | (with_reducible refine i_eqI ?_) | (with_reducible refine i_neI ?_) | (with_reducible refine i_eqS ?_) | (with_reducible refine i_neS ?_) | (with_reducible refine i_isNoI ?_) | (with_reducible refine i_isNoN ?_) | (with_reducible refine i_isNoR ?_)
  | ((with_reducible refine i_pow ?q1 ?q2 ?q3 ?_); (case q1 => decide); (case q2 => decide); (case q3 => (with_reducible omega)))
  | ((with_reducible refine i_rI ?q1 ?_); (case q1 => walk_at "ci"))
  | (with_reducible refine Or.inl ⟨_, rfl, ?_⟩) | (with_reducible refine Or.inr ⟨_, rfl, ?_⟩) | (with_reducible refine ⟨_, rfl, ?_⟩) | (with_reducible refine ⟨_, _, rfl, ?_⟩) | (with_reducible refine ⟨_, _, rfl, rfl, ?_⟩)
  | ((with_reducible refine' ⟨_, _, rfl, Or.inl (sqL_of ?q1), ?_⟩); (case q1 => walk_at "hp")) | ((with_reducible refine' ⟨_, _, rfl, Or.inr (sqT_of ?q1), ?_⟩); (case q1 => walk_at "hp")) | (with_reducible refine i_dget ?_) | (with_reducible refine i_disp1T ?_) | (with_reducible refine i_dcT ?_) | (with_reducible refine i_dnewT ?_) | (with_reducible refine i_fld ?_) | (with_reducible refine i_sFld ?_) | (with_reducible refine i_make ?_) | (with_reducible refine i_meth ?_) | (with_reducible refine i_star ?_) | (with_reducible refine i_isNoS ?_) | (with_reducible refine i_lc2 ?_) | fail)
local macro_rules | `(tactic| walk_at "rd") => `(tactic| repeat' walk_at "rd1")

/-! ### the exceptions that tell a bad value -/
abbrev s_initE : Stmt := inClass (topS 3) 0
abbrev s_initS : Stmt := inClass (topS 5) 0
abbrev s_initT : Stmt := inClass (topS 6) 0
abbrev n_init : List Str := ["self", "given"]
theorem sc_initE : FnScope n_init ["self", "given"] (defScope s_initE) := ⟨rfl, rfl, rfl, by decide +kernel, rfl, by decide +kernel, by decide +kernel⟩
theorem sc_initS : FnScope n_init ["self", "given"] (defScope s_initS) := ⟨rfl, rfl, rfl, by decide +kernel, rfl, by decide +kernel, by decide +kernel⟩
theorem sc_initT : FnScope n_init ["self", "given"] (defScope s_initT) := ⟨rfl, rfl, rfl, by decide +kernel, rfl, by decide +kernel, by decide +kernel⟩
section
variable {P : Program} {w : World} {K : PySem.W.Frag} {mg : Str → Option Value} {base : Heap} {f : Addr} {fd : FuncData}
theorem ok_initE {B : Addr} (F : Fun K "__init__" "InvalidEnds.__init__" s_initE f fd) (o : Over K mg B) : FnOk P w K mg base CX0 1 f fd ["self", "given"] (spInit K) := by
  refine F.ok sc_initE (fun vs H Q E h => ?_) (fun cdv A outer s H vs Q E hr h => ?_)
  · obtain ⟨a, C, v, rfl, _⟩ := h; rfl
  · obtain ⟨a, C, v, rfl, ha, T, no, k⟩ := h
    refine ⟨_, (pss_cons (ps_expr (ps_init (by rfl) o.hm o.ga o.ty o.rd o.fi (pa_cons (pv 0) (pa_cons pe_str pa_nil))))
      (pss_one (ps_fst (pv 0) (pv 1)))), ?_⟩
    walk_at "rd"
    refine ⟨a, C, _, rfl, by simp, T, ha, ?_⟩
    walk_at "rd"
    exact ⟨a, C, rfl, T, no, ha, fun dx n ne => k dx n ne⟩
theorem ok_initS {B : Addr} (F : Fun K "__init__" "InvalidSigns.__init__" s_initS f fd) (o : Over K mg B) : FnOk P w K mg base CX0 1 f fd ["self", "given"] (spInit K) := by
  refine F.ok sc_initS (fun vs H Q E h => ?_) (fun cdv A outer s H vs Q E hr h => ?_)
  · obtain ⟨a, C, v, rfl, _⟩ := h; rfl
  · obtain ⟨a, C, v, rfl, ha, T, no, k⟩ := h
    refine ⟨_, (pss_cons (ps_expr (ps_init (by rfl) o.hm o.ga o.ty o.rd o.fi (pa_cons (pv 0) (pa_cons pe_str pa_nil))))
      (pss_one (ps_fst (pv 0) (pv 1)))), ?_⟩
    walk_at "rd"
    refine ⟨a, C, _, rfl, by simp, T, ha, ?_⟩
    walk_at "rd"
    exact ⟨a, C, rfl, T, no, ha, fun dx n ne => k dx n ne⟩
theorem ok_initT {B : Addr} (F : Fun K "__init__" "InvalidSteps.__init__" s_initT f fd) (o : Over K mg B) : FnOk P w K mg base CX0 1 f fd ["self", "given"] (spInit K) := by
  refine F.ok sc_initT (fun vs H Q E h => ?_) (fun cdv A outer s H vs Q E hr h => ?_)
  · obtain ⟨a, C, v, rfl, _⟩ := h; rfl
  · obtain ⟨a, C, v, rfl, ha, T, no, k⟩ := h
    refine ⟨_, (pss_cons (ps_expr (ps_init (by rfl) o.hm o.ga o.ty o.rd o.fi (pa_cons (pv 0) (pa_cons pe_str pa_nil))))
      (pss_one (ps_fst (pv 0) (pv 1)))), ?_⟩
    walk_at "rd"
    refine ⟨a, C, _, rfl, by simp, T, ha, ?_⟩
    walk_at "rd"
    exact ⟨a, C, rfl, T, no, ha, fun dx n ne => k dx n ne⟩
end
end Sw
namespace Sw
open PySem PySem.Spec PyProof.Rows L2
local macro_rules | `(tactic| walk_at "hp") => `(tactic| first
  | (with_reducible assumption) | (with_reducible exact upd_same)
  | ((with_reducible refine' upd_old ?q1 ?q2); (case q1 => (with_reducible assumption)); (case q2 => walk_at "hp"))
  | ((with_reducible refine' Same.at ?q1 ?q2); (case q1 => (with_reducible assumption)); (case q2 => walk_at "hp"))
  | ((with_reducible refine' upd_skip ?q1 ?q2); (case q1 => walk_at "ne"); (case q2 => walk_at "hp"))
  | fail)
local macro_rules | `(tactic| walk_at "ne") => `(tactic| first
  | (with_reducible assumption) | (with_reducible exact Ne.symm (by assumption))
  | ((with_reducible refine' ne_of_none ?q1 ?q2); (case q2 => (with_reducible assumption)); (case q1 => walk_at "hp"))
  | fail)
local macro_rules | `(tactic| walk_at "ci") => `(tactic| first | assumption | (show (0 : Int) < _; first | decide | (with_reducible omega)) | exact ⟨by decide, by decide⟩ | exact .inl ⟨by decide, by decide⟩ | exact .inr ⟨by decide, by decide⟩)
local macro_rules | `(tactic| walk_at "ln") => `(tactic| first | (with_reducible assumption) | (with_reducible omega) | (simp only [List.length_append, List.length_take, List.length_drop, List.length_reverse, List.length_cons, List.length_nil]; with_reducible omega))
local macro_rules | `(tactic| walk_at "rd1") => `(tactic| first
  | (with_reducible refine i_seq ?_) | (with_reducible refine i_asg ?_) | (with_reducible refine i_ret ?_) | (with_reducible refine i_name ?_) | ((with_reducible refine' i_var ?q1 ?_); (case q1 => exact rfl)) | (with_reducible refine i_c ?_) | (with_reducible refine i_op ?_) | (with_reducible refine i_un ?_)
  | (with_reducible refine i_rI0 ?_) | (with_reducible refine i_cb ?_) | (with_reducible refine i_cons ?_) | (with_reducible refine i_nil ?_) | (with_reducible refine i_call ?_) | (with_reducible refine i_if ?_) | (with_reducible refine i_ifE ?_) | (with_reducible refine i_test ?_) | (with_reducible refine i_bl ?_)
  | (with_reducible refine i_and ?_) | (with_reducible refine i_or ?_) | (with_reducible refine i_not ?_) | (with_reducible refine i_lstM ?_) | (with_reducible refine i_lstLM ?_) | (with_reducible refine i_tupM ?_) | (with_reducible refine i_next ?_) | (with_reducible refine i_drop ?_) | (with_reducible refine i_sub ?_)
  | (with_reducible refine i_bm ?_) | (with_reducible refine i_sl ?_) | (with_reducible refine i_part ?_) | (with_reducible refine i_nopart ?_) | (with_reducible refine i_exI ?_) | (with_reducible refine i_chain ?_) | ((with_reducible refine' i_aug ?q1 ?_); (case q1 => exact rfl)) | (with_reducible refine i_ip ?_)
  | (with_reducible refine i_par ?_) | (with_reducible refine i_pair ?_) | (with_reducible refine i_andV ?_) | (with_reducible refine i_orV ?_) | (with_reducible refine i_notV ?_) | (with_reducible refine i_m1 ?_) | (with_reducible refine i_str ?_)
  | (with_reducible refine iteF ?_) | (with_reducible refine iteT ?_) | (with_reducible refine iteNT ?_) | (with_reducible refine iteNF ?_) | (with_reducible refine i_tyS ?_) | (with_reducible refine i_tB ?_) | (with_reducible refine i_retN ?_) | (with_reducible refine i_par3 ?_) | (with_reducible refine i_trip ?_) | (with_reducible refine i_gCons ?_) | (with_reducible refine i_gNil ?_) | (with_reducible refine i_lstRg ?_) | (with_reducible refine i_rg1 ?_)
  | (with_reducible refine i_lc ?_) | (with_reducible refine i_for ?_) | (with_reducible refine i_iList ?_) | (with_reducible refine i_iTup ?_) | (with_reducible refine i_iStr ?_) | (with_reducible refine i_iRng1 ?_) | (with_reducible refine i_iEnS ?_)
  | ((with_reducible refine' i_ixTH ?q1 ?q2 ?_); (case q1 => walk_at "hp"); (case q2 => exact rfl))
  | ((with_reducible refine' i_ixLH ?q1 ?q2 ?_); (case q1 => walk_at "hp"); (case q2 => exact rfl))
  | ((with_reducible refine i_addS ?q1 ?_); (case q1 => walk_at "ln")) | ((with_reducible refine i_lenSS ?q1 ?_); (case q1 => walk_at "ln")) | ((with_reducible refine i_slFrom ?q1 ?q2 ?_); (case q1 => walk_at "ln"); (case q2 => walk_at "ln")) | ((with_reducible refine i_slTo ?q1 ?q2 ?_); (case q1 => walk_at "ln"); (case q2 => walk_at "ln"))
  | ((with_reducible refine' i_tyL ?q1 ?_); (case q1 => walk_at "hp"))
  | ((with_reducible refine' i_gTupH ?q1 ?q2 ?_); (case q1 => walk_at "hp"); (case q2 => exact rfl))
  | (with_reducible refine i_dnewM ?_) | (with_reducible refine i_init ?_) | (with_reducible refine i_fst ?_) | (with_reducible refine i_mk ?_) | (with_reducible refine i_raise ?_) | (with_reducible refine i_callS ?_) | (with_reducible refine i_kwS ?_)
  | (with_reducible refine i_revT ?_) | (with_reducible refine i_kw ?_) | ((with_reducible refine' ⟨_, _, rfl, sqT_of ?q1, ?_⟩); (case q1 => walk_at "hp"))
  | (with_reducible refine i_revS ?_) | ((with_reducible refine i_revSS ?q1 ?_); (case q1 => walk_at "ln"))
  | (with_reducible refine i_startS ?_) | (with_reducible refine i_inSg ?_) | (with_reducible refine i_absN ?_) | (with_reducible refine i_min2 ?_) | (with_reducible refine i_max2 ?_) | (with_reducible refine i_min3 ?_) | (with_reducible refine i_intN ?_) | (with_reducible refine i_intNB ?_)
  | ((with_reducible refine' i_lenL ?q1 ?_); (case q1 => walk_at "hp")) | ((with_reducible refine' i_lenT ?q1 ?_); (case q1 => walk_at "hp"))
  | (with_reducible refine i_eqI ?_) | (with_reducible refine i_neI ?_) | (with_reducible refine i_eqS ?_) | (with_reducible refine i_neS ?_) | (with_reducible refine i_isNoI ?_) | (with_reducible refine i_isNoN ?_) | (with_reducible refine i_isNoR ?_)
  | ((with_reducible refine i_pow ?q1 ?q2 ?q3 ?_); (case q1 => decide); (case q2 => decide); (case q3 => (with_reducible omega)))
  | ((with_reducible refine i_rI ?q1 ?_); (case q1 => walk_at "ci"))
  | (with_reducible refine Or.inl ⟨_, rfl, ?_⟩) | (with_reducible refine Or.inr ⟨_, rfl, ?_⟩) | (with_reducible refine ⟨_, rfl, ?_⟩) | (with_reducible refine ⟨_, _, rfl, ?_⟩) | (with_reducible refine ⟨_, _, rfl, rfl, ?_⟩)
  | ((with_reducible refine' ⟨_, _, rfl, Or.inl (sqL_of ?q1), ?_⟩); (case q1 => walk_at "hp")) | ((with_reducible refine' ⟨_, _, rfl, Or.inr (sqT_of ?q1), ?_⟩); (case q1 => walk_at "hp")) | (with_reducible refine i_dget ?_) | (with_reducible refine i_disp1T ?_) | (with_reducible refine i_dcT ?_) | (with_reducible refine i_dnewT ?_) | (with_reducible refine i_fld ?_) | (with_reducible refine i_sFld ?_) | (with_reducible refine i_make ?_) | (with_reducible refine i_meth ?_) | (with_reducible refine i_star ?_) | (with_reducible refine i_isNoS ?_) | (with_reducible refine i_lc2 ?_) | fail)
local macro_rules | `(tactic| walk_at "rd") => `(tactic| repeat' walk_at "rd1")

/-! ### what decoders are made of, as data -/
def azS (z : Str) : Bool := azB z.cps.toList
/-- a text -/
def txB : PyData → Bool
  | .str z => azS z
  | _ => false
def wdB : PyData → Bool
  | .str z => azS z && decide (z.cps.size ≤ 3)
  | _ => false
def entB (m : Int) : PyData → Bool
  | .none => true
  | .tuple [a, b] => isX m a && wdB b
  | _ => false
def seqL : PyData → Option (List PyData)
  | .list ds => some ds
  | .tuple ds => some ds
  | _ => none
def rowB (n : Int) (d : PyData) : Bool := match seqL d with
  | some ds => decide ((ds.length : Int) = n)
  | none => false
def rowEB (m : Int) (d : PyData) : Bool := match seqL d with
  | some ds => ds.all (entB m)
  | none => false
def stpB (n : Int) (d : PyData) : Bool := match seqL d with
  | some ds => decide (1 ≤ ds.length) && decide (ds.length ≤ 40) && ds.all (rowB n) && ds.all (rowEB ds.length)
  | none => false
def endB : PyData → Bool
  | .none => true
  | d => wdB d
def ensB (m : Int) (d : PyData) : Bool := match seqL d with
  | some ds => decide ((ds.length : Int) = m) && ds.all endB
  | none => false
theorem S_of (z : Str) : z = S z.cps.toList := by cases z; simp [S]
/-- is_integer(value) -/
def spInt (K : PySem.W.Frag) : Sp := fun vs H Q _ => ∃ x d, vs = [x] ∧ Dz K H x d ∧ Q (.bl (isI d)) H
/-- is_index(value, many) -/
def spIdx (K : PySem.W.Frag) : Sp := fun vs H Q _ => ∃ x d m, vs = [x, .int m] ∧ Dz K H x d ∧ Q (.bl (isX m d)) H
/-- is_signs(value) -/
def spSg (K : PySem.W.Frag) : Sp := fun vs H Q _ => ∃ x d, vs = [x] ∧ Dz K H x d ∧ Q (.bl (isG d)) H
/-- check_signs(signs) -/
def spCkS (K : PySem.W.Frag) (C : Addr) : Sp := fun vs H Q E => ∃ x d, vs = [x] ∧ Dz K H x d ∧ (isG d = true → ∀ H', Same H H' → Q .non H') ∧
  (isG d = false → ∀ dx H', H dx = none → Same H H' → H' dx = some (.xd [("given", x)]) → E (.ref C) (some dx) H')
/-- is_list(value) -/
def spSeq (K : PySem.W.Frag) : Sp := fun vs H Q _ => ∃ x d, vs = [x] ∧ Dz K H x d ∧ ∀ H', Same H H' → Q (.bl (tyB "list" d || tyB "tuple" d)) H'
/-- is_text(value), is_word(value) -/
def spTxt (K : PySem.W.Frag) (b : PyData → Bool) : Sp := fun vs H Q _ => ∃ x d, vs = [x] ∧ Dz K H x d ∧ d.weight ≤ 100000 ∧ ∀ H', Same H H' → Q (.bl (b d)) H'
/-- is_entry(value, states) -/
def spEnt (K : PySem.W.Frag) : Sp := fun vs H Q _ => ∃ x d m, vs = [x, .int m] ∧ Dz K H x d ∧ d.weight ≤ 100000 ∧ ∀ H', Same H H' → Q (.bl (entB m d)) H'
theorem tyB_int (d : PyData) : (tyB "int" d && !tyB "bool" d) = isI d := by cases d <;> rfl
theorem seqL_ty (d : PyData) : (tyB "list" d || tyB "tuple" d) = (seqL d).isSome := by cases d <;> rfl
theorem wAll_mem {ds : List PyData} {d : PyData} (h : d ∈ ds) : d.weight + 1 ≤ PyData.weightAll ds := by
  induction ds with
  | nil => cases h
  | cons e ds ih =>
    simp only [PyData.weightAll]
    rcases List.mem_cons.mp h with rfl | h
    · omega
    · have := ih h; omega
theorem wAll_len : ∀ ds : List PyData, ds.length ≤ PyData.weightAll ds
  | [] => by simp
  | d :: ds => by have := wAll_len ds; simp only [PyData.weightAll, List.length_cons]; omega
theorem Dz.seq {K : PySem.W.Frag} {H : Hp} {v : V} {d : PyData} {ds : List PyData} (h : Dz K H v d) (e : seqL d = some ds) : ∃ a xs, v = .ref a ∧ (SqL K H a xs ∨ SqT K H a xs) ∧ DzAll K H xs ds ∧ d.weight = PyData.weightAll ds := by
  cases h with
  | lst h1 h2 => cases e; exact ⟨_, _, rfl, .inl (sqL_of h1), h2, by simp only [PyData.weight]⟩
  | tup h1 h2 => cases e; exact ⟨_, _, rfl, .inr h1, h2, by simp only [PyData.weight]⟩
  | _ => cases e
theorem sq_same {K : PySem.W.Frag} {H H' : Hp} {a : Addr} {xs : List V} (s : Same H H') (h : SqL K H a xs ∨ SqT K H a xs) : SqL K H' a xs ∨ SqT K H' a xs := h.imp (fun h => Same.sqL s h) (fun h => Same.sqT s h)
theorem i_ixTz {K : PySem.W.Frag} {p : Addr} {xs : List V} {i : Int} {k : Nat} {v : V} {H : Hp} {Q : VK} (h1 : SqT K H p xs) (e : i = (k : Int)) (h2 : xs[k]? = some v) (h : Q v H) : rIxT K (.ref p) (.int i) H Q := by
  subst e; exact i_ixTn h1 h2 h
def nonB : PyData → Bool
  | .none => true
  | _ => false
theorem i_isNoZ {K : PySem.W.Frag} {H : Hp} {v : V} {d : PyData} {Q : VK} (h : Dz K H v d) (k : Q (.bl (nonB d)) H) : rIsNo v .non H Q := by
  cases h <;> exact ⟨rfl, by simpa [nonB] using k⟩
section
variable {P : Program} {w : World} {K : PySem.W.Frag} {mg : Str → Option Value} {base : Heap} {f : Addr} {fd : FuncData}
theorem ok_integer (F : Fun K "is_integer" "is_integer" s_is_integer f fd) (z : Z mg) : FnOk P w K mg base CX0 1 f fd ["value"] (spInt K) := by
  refine F.ok sc_is_integer (fun vs H Q E h => ?_) (fun cdv A outer s H vs Q E hr h => ?_)
  · obtain ⟨x, d, rfl, _⟩ := h; rfl
  · obtain ⟨x, d, rfl, hx, k⟩ := h
    refine ⟨_, (pss_one (ps_ret (pe_and (pe_callB call_isi (by rfl) z.isinstance (by decide +kernel) (pa_cons (pv 0) (pa_cons (pe_bltn (v := .ty "int") (by rfl) z.int (by decide +kernel) rfl) pa_nil))) (pe_one (pe_not (pe_callB call_isi (by rfl) z.isinstance (by decide +kernel) (pa_cons (pv 0) (pa_cons (pe_bltn (v := .ty "bool") (by rfl) z.bool (by decide +kernel) rfl) pa_nil)))))))), ?_⟩
    walk_at "rd"
    refine hx.isi (by simp) ?_
    walk_at "rd"
    rcases e : tyB "int" d with _ | _
    · rw [← tyB_int, e] at k
      walk_at "rd"
      exact k
    · rw [← tyB_int, e] at k
      walk_at "rd"
      refine hx.isi (by simp) ?_
      walk_at "rd"
      exact k
theorem ok_index (F : Fun K "is_index" "is_index" s_is_index f fd) (c_is_integer : Cal P w K mg base "is_integer" ["value"] 1 (spInt K)) : FnOk P w K mg base CX0 2 f fd ["value", "many"] (spIdx K) := by
  refine F.ok sc_is_index (fun vs H Q E h => ?_) (fun cdv A outer s H vs Q E hr h => ?_)
  · obtain ⟨x, d, m, rfl, _⟩ := h; rfl
  · obtain ⟨x, d, m, rfl, hx, k⟩ := h
    refine ⟨_, (pss_one (ps_ret (pe_and (pe_cal c_is_integer hr (pa_cons (pv 0) pa_nil)) (pe_one (pe_chain op_le op_lt pe_int (pv 0) (pv 1)))))), ?_⟩
    walk_at "rd"
    refine ⟨x, d, rfl, hx, ?_⟩
    walk_at "rd"
    rcases e : isI d with _ | _
    · have : isX m d = false := by cases d <;> first | rfl | cases e
      rw [this] at k
      walk_at "rd"
      exact k
    · obtain ⟨i, rfl, rfl⟩ := hx.intB e
      walk_at "rd"
      simp only [isX] at k
      refine iteB (fun q => ?_) (fun q => ?_)
      · rw [decide_eq_true q] at k
        walk_at "rd"
        exact k
      · rw [decide_eq_false q] at k
        exact k
theorem ok_signs (F : Fun K "is_signs" "is_signs" s_is_signs f fd) (c_is_integer : Cal P w K mg base "is_integer" ["value"] 1 (spInt K)) {t5 : Tok} (g_MOST_SIGNS : mg "MOST_SIGNS" = some (.int 5 t5)) : FnOk P w K mg base CX0 2 f fd ["value"] (spSg K) := by
  refine F.ok sc_is_signs (fun vs H Q E h => ?_) (fun cdv A outer s H vs Q E hr h => ?_)
  · obtain ⟨x, d, rfl, _⟩ := h; rfl
  · obtain ⟨x, d, rfl, hx, k⟩ := h
    refine ⟨_, (pss_one (ps_ret (pe_and (pe_cal c_is_integer hr (pa_cons (pv 0) pa_nil)) (pe_one (pe_chain op_le op_le pe_int (pv 0) (pe_glob (v := .int 5) rfl g_MOST_SIGNS ⟨_, rfl⟩)))))), ?_⟩
    walk_at "rd"
    refine ⟨x, d, rfl, hx, ?_⟩
    walk_at "rd"
    rcases e : isI d with _ | _
    · have : isG d = false := by cases d <;> first | rfl | cases e
      rw [this] at k
      walk_at "rd"
      exact k
    · obtain ⟨i, rfl, rfl⟩ := hx.intB e
      walk_at "rd"
      simp only [isG] at k
      refine iteB (fun q => ?_) (fun q => ?_)
      · rw [decide_eq_true q] at k
        walk_at "rd"
        exact k
      · rw [decide_eq_false q] at k
        exact k
theorem ok_list (F : Fun K "is_list" "is_list" s_is_list f fd) (z : Z mg) : FnOk P w K mg base CX0 1 f fd ["value"] (spSeq K) := by
  refine F.ok sc_is_list (fun vs H Q E h => ?_) (fun cdv A outer s H vs Q E hr h => ?_)
  · obtain ⟨x, d, rfl, _⟩ := h; rfl
  · obtain ⟨x, d, rfl, hx, k⟩ := h
    refine ⟨_, (pss_one (ps_ret (pe_callB call_isiT (by rfl) z.isinstance (by decide +kernel) (pa_cons (pv 0) (pa_cons (pe_tup (pa_cons (pe_bltn (v := .ty "list") (by rfl) z.list (by decide +kernel) rfl) (pa_cons (pe_bltn (v := .ty "tuple") (by rfl) z.tuple (by decide +kernel) rfl) pa_nil))) pa_nil))))), ?_⟩
    walk_at "rd"
    refine ⟨Nat.le_of_ble_eq_true rfl, fun p np => ?_⟩
    walk_at "rd"
    exact (hx.same (same_upd np)).isLT upd_same (k _ (same_upd np))
theorem ok_ckS {C : Addr} (F : Fun K "check_signs" "check_signs" s_check_signs f fd) (xs : XQ "InvalidSigns" P w K mg base C) (c_is_signs : Cal P w K mg base "is_signs" ["value"] 2 (spSg K)) : FnOk P w K mg base (L2.CX P w) 3 f fd ["signs"] (spCkS K C) := by
  refine Sw.Fun.okX F sc_check_signs (fun vs H Q E h => ?_) (fun cdv A outer s H vs Q E hr h tk => ?_)
  · obtain ⟨x, d, rfl, _⟩ := h; rfl
  · obtain ⟨x, d, rfl, hx, k1, k2⟩ := h
    refine ⟨_, (pss_one (ps_if (pt_not (pt_val (pe_cal c_is_signs hr (pa_cons (pv 0) pa_nil))))
        (pss_one (ps_rs rfl tk (pmk_Q xs hr (pv 0))))
        pss_nil)), ?_⟩
    walk_at "rd"
    refine ⟨x, d, rfl, hx, ?_⟩
    walk_at "rd"
    refine iteNC (fun e => ?_) (fun e => ?_)
    · walk_at "rd"
      refine i_thrown xs.T xs.no (fun dx nx => ?_)
      exact k2 e dx _ nx (same_upd nx) upd_same
    · walk_at "rd"
      exact k1 e _ (Same.refl _)
theorem ok_text (F : Fun K "is_text" "is_text" s_is_text f fd) (z : Z mg) {tz : Tok} (g_LETTERS : mg "LETTERS" = some (.str ("abcdefghijklmnopqrstuvwxyz" : Str) tz)) : FnOk P w K mg base CX0 1 f fd ["value"] (spTxt K txB) := by
  refine F.ok sc_is_text (fun vs H Q E h => ?_) (fun cdv A outer s H vs Q E hr h => ?_)
  · obtain ⟨x, d, rfl, _⟩ := h; rfl
  · obtain ⟨x, d, rfl, hx, hw, k⟩ := h
    refine ⟨_, (pss_one (ps_ret (pe_and (pe_callB call_isi (by rfl) z.isinstance (by decide +kernel) (pa_cons (pv 0) (pa_cons (pe_bltn (v := .ty "str") (by rfl) z.str (by decide +kernel) rfl) pa_nil))) (pe_one (pe_callB (cr_all rfl) (by rfl) z.all (by decide +kernel) (pa_cons (pe_lc (own := [("letter", 1)]) (g := gName 1) (tt := tYes) rfl sc_is_text.nd (pi_str (pv 0)) (blkOk_by (own := [("letter", 1)]) (N := n_is_text) (sc := defScope s_is_text) (by decide +kernel)) (fun _ _ _ _ _ => (pg_name (i := 1) sc_is_text.nd rfl (.inl rfl))) (fun _ _ _ _ _ => pts_nil) (fun _ _ _ _ _ => (pe_cmpR op_inSg (pv 1) (pe_glob (v := .str ("abcdefghijklmnopqrstuvwxyz" : Str)) rfl g_LETTERS ⟨_, rfl⟩) rfl))) pa_nil)))))), ?_⟩
    walk_at "rd"
    refine hx.isi (by simp) ?_
    walk_at "rd"
    by_cases hs : ∃ z, d = .str z
    · obtain ⟨y, rfl⟩ := hs
      cases hx.strI
      rw [show tyB "str" (.str y) = true from rfl]
      have hl : y.cps.toList.length ≤ 100000 := by simpa only [PyData.weight, Array.length_toList] using hw
      rw [show txB (.str y) = azB y.cps.toList from rfl] at k
      rw [S_of y] at *
      generalize y.cps.toList = l at *
      rw [show (S l).cps.toList = l by simp [S]] at *
      walk_at "rd"
      refine go_map walk_S (fun i => V.bl (decide (97 ≤ l.getD i 0 ∧ l.getD i 0 ≤ 122))) (by omega) (fun _ _ => trivial) (fun i x H2 H3 hi s2 y R hR => ?_) mono_name (fun p H2 np s2 e2 => ?_)
      · obtain ⟨rfl, c, hc, rfl⟩ := y
        walk_at "rd"
        refine ⟨rfl, ?_⟩
        walk_at "rd"
        rw [az_in]
        have : l.getD i 0 = c := by rw [List.getD_eq_getElem?_getD, hc]; rfl
        rw [this] at hR
        exact hR _ (Same.refl _)
      · walk_at "rd"
        have e3 : H2 p = some (.lst (((List.range l.length).map fun i => decide (97 ≤ l.getD i 0 ∧ l.getD i 0 ≤ 122)).map V.bl)) := by
          rw [e2, List.map_map]
          rfl
        refine i_all e3 ?_
        have : (((List.range l.length).map fun i => decide (97 ≤ l.getD i 0 ∧ l.getD i 0 ≤ 122)).all id) = azB l := by
          rw [range_map_get l _ (fun c => decide (97 ≤ c ∧ c ≤ 122)) (fun i x hx => by rw [List.getD_eq_getElem?_getD, hx]; rfl), List.all_map]
          rfl
        rw [this]
        exact k _ s2
    · have e1 : tyB "str" d = false := by cases d <;> first | rfl | exact (hs ⟨_, rfl⟩).elim
      have e2 : txB d = false := by cases d <;> first | rfl | exact (hs ⟨_, rfl⟩).elim
      rw [e1]
      rw [e2] at k
      walk_at "rd"
      exact k _ (Same.refl _)
theorem ok_word (F : Fun K "is_word" "is_word" s_is_word f fd) (z : Z mg) {t3 : Tok} (g_MOST_LETTERS : mg "MOST_LETTERS" = some (.int 3 t3)) (c_is_text : Cal P w K mg base "is_text" ["value"] 1 (spTxt K txB)) : FnOk P w K mg base CX0 2 f fd ["value"] (spTxt K wdB) := by
  refine F.ok sc_is_word (fun vs H Q E h => ?_) (fun cdv A outer s H vs Q E hr h => ?_)
  · obtain ⟨x, d, rfl, _⟩ := h; rfl
  · obtain ⟨x, d, rfl, hx, hw, k⟩ := h
    refine ⟨_, (pss_one (ps_ret (pe_and (pe_cal c_is_text hr (pa_cons (pv 0) pa_nil)) (pe_one (pe_cmpR op_le (pe_callB call_lenS (by rfl) z.len PySem.boot_len (pa_cons (pv 0) pa_nil)) (pe_glob (v := .int 3) rfl g_MOST_LETTERS ⟨_, rfl⟩) (nomark _)))))), ?_⟩
    walk_at "rd"
    refine ⟨x, d, rfl, hx, hw, fun H1 s1 => ?_⟩
    walk_at "rd"
    rcases e : txB d with _ | _
    · have e2 : wdB d = false := by cases d <;> first | rfl | (simp only [txB] at e; simp only [wdB, e, Bool.false_and])
      rw [e2] at k
      walk_at "rd"
      exact k _ s1
    · obtain ⟨y, rfl⟩ : ∃ y, d = .str y := by cases d <;> first | exact ⟨_, rfl⟩ | cases e
      cases hx.strI
      have hl : y.cps.toList.length ≤ 100000 := by simpa only [PyData.weight, Array.length_toList] using hw
      have e3 : wdB (.str y) = decide (y.cps.toList.length ≤ 3) := by simp only [txB] at e; simp only [wdB, e, Bool.true_and, Array.length_toList]
      rw [e3] at k
      rw [S_of y] at *
      generalize y.cps.toList = l at *
      rw [show (S l).cps.toList = l by simp [S]] at *
      walk_at "rd"
      by_cases h3 : l.length ≤ 3
      · rw [decide_eq_true (show (l.length : Int) ≤ 3 by omega)]
        rw [decide_eq_true h3] at k
        exact k _ s1
      · rw [decide_eq_false (show ¬ (l.length : Int) ≤ 3 by omega)]
        rw [decide_eq_false h3] at k
        exact k _ s1
theorem ok_entry (F : Fun K "is_entry" "is_entry" s_is_entry f fd) (z : Z mg) (c_is_index : Cal P w K mg base "is_index" ["value", "many"] 2 (spIdx K)) (c_is_word : Cal P w K mg base "is_word" ["value"] 2 (spTxt K wdB)) : FnOk P w K mg base CX0 3 f fd ["value", "states"] (spEnt K) := by
  refine F.ok sc_is_entry (fun vs H Q E h => ?_) (fun cdv A outer s H vs Q E hr h => ?_)
  · obtain ⟨x, d, m, rfl, _⟩ := h; rfl
  · obtain ⟨x, d, m, rfl, hx, hw, k⟩ := h
    refine ⟨_, (pss_cons (ps_if (pt_cmpR op_isNo (pv 0) pe_non (nomark _))
        (pss_one (ps_ret pe_bl))
        pss_nil)
      (pss_cons (ps_if (PW.pt (pw_or (pt_not (pt_val (pe_callB call_isi (by rfl) z.isinstance (by decide +kernel) (pa_cons (pv 0) (pa_cons (pe_bltn (v := .ty "tuple") (by rfl) z.tuple (by decide +kernel) rfl) pa_nil))))) (pw_or1 (pt_cmpR op_ne (pe_callB call_lenQ (by rfl) z.len PySem.boot_len (pa_cons (pv 0) pa_nil)) pe_int (nomark _)))))
        (pss_one (ps_ret pe_bl))
        pss_nil)
      (pss_one (ps_ret (pe_and (pe_cal c_is_index hr (pa_cons (pe_ix ix_tup (pv 0) pe_int (fun _ _ => rfl)) (pa_cons (pv 1) pa_nil))) (pe_one (pe_cal c_is_word hr (pa_cons (pe_ix ix_tup (pv 0) pe_int (fun _ _ => rfl)) pa_nil)))))))), ?_⟩
    walk_at "rd"
    refine i_isNoZ hx ?_
    by_cases hn : d = .none
    · subst hn
      walk_at "rd"
      exact k _ (Same.refl _)
    rw [show nonB d = false by cases d <;> first | rfl | exact (hn rfl).elim]
    walk_at "rd"
    refine hx.isi (by simp) ?_
    by_cases ht : ∃ ds, d = .tuple ds
    · obtain ⟨ds, rfl⟩ := ht
      obtain ⟨a, xs, rfl, ha, hxs⟩ := hx.tupI
      rw [show tyB "tuple" (.tuple ds) = true from rfl]
      walk_at "rd"
      refine ⟨a, xs, rfl, .inr ha, ?_⟩
      walk_at "rd"
      rw [hxs.len]
      by_cases h2 : ds.length = 2
      · obtain ⟨d1, d2, rfl⟩ : ∃ d1 d2, ds = [d1, d2] := by
          rcases ds with _ | ⟨d1, _ | ⟨d2, _ | ⟨d3, ds⟩⟩⟩ <;> simp at h2
          exact ⟨d1, d2, rfl⟩
        rw [decide_eq_true (show (([d1, d2] : List PyData).length : Int) = 2 from rfl)]
        walk_at "rd"
        cases hxs with
        | cons h1 hxs =>
        cases hxs with
        | cons h2' hxs =>
        cases hxs
        simp only [PyData.weight, PyData.weightAll] at hw
        refine i_ixTz (k := 0) ha rfl rfl ?_
        walk_at "rd"
        refine ⟨_, d1, m, rfl, h1, ?_⟩
        walk_at "rd"
        simp only [entB] at k
        rcases e : isX m d1 with _ | _
        · rw [e] at k
          walk_at "rd"
          exact k _ (Same.refl _)
        · rw [e, Bool.true_and] at k
          walk_at "rd"
          refine i_ixTz (k := 1) ha rfl rfl ?_
          walk_at "rd"
          exact ⟨_, d2, rfl, h2', by omega, k⟩
      · rw [decide_eq_false (show ¬ (ds.length : Int) = 2 by omega)]
        have e2 : entB m (.tuple ds) = false := by
          rcases ds with _ | ⟨d1, _ | ⟨d2, _ | ⟨d3, ds⟩⟩⟩ <;> first | rfl | exact (h2 rfl).elim
        rw [e2] at k
        walk_at "rd"
        exact k _ (Same.refl _)
    · have e1 : tyB "tuple" d = false := by cases d <;> first | rfl | exact (ht ⟨_, rfl⟩).elim
      have e2 : entB m d = false := by cases d <;> first | rfl | exact (hn rfl).elim | exact (ht ⟨_, rfl⟩).elim
      rw [e1]
      rw [e2] at k
      walk_at "rd"
      exact k _ (Same.refl _)
end
end Sw
namespace Sw
open PySem PySem.Spec PyProof.Rows L2
local macro_rules | `(tactic| walk_at "hp") => `(tactic| first
  | (with_reducible assumption) | (with_reducible exact upd_same)
  | ((with_reducible refine' upd_old ?q1 ?q2); (case q1 => (with_reducible assumption)); (case q2 => walk_at "hp"))
  | ((with_reducible refine' Same.at ?q1 ?q2); (case q1 => (with_reducible assumption)); (case q2 => walk_at "hp"))
  | ((with_reducible refine' upd_skip ?q1 ?q2); (case q1 => walk_at "ne"); (case q2 => walk_at "hp"))
  | fail)
local macro_rules | `(tactic| walk_at "ne") => `(tactic| first
  | (with_reducible assumption) | (with_reducible exact Ne.symm (by assumption))
  | ((with_reducible refine' ne_of_none ?q1 ?q2); (case q2 => (with_reducible assumption)); (case q1 => walk_at "hp"))
  | fail)
local macro_rules | `(tactic| walk_at "ci") => `(tactic| first | assumption | (show (0 : Int) < _; first | decide | (with_reducible omega)) | exact ⟨by decide, by decide⟩ | exact .inl ⟨by decide, by decide⟩ | exact .inr ⟨by decide, by decide⟩)
local macro_rules | `(tactic| walk_at "ln") => `(tactic| first | (with_reducible assumption) | (with_reducible omega) | (simp only [List.length_append, List.length_take, List.length_drop, List.length_reverse, List.length_cons, List.length_nil]; with_reducible omega))
local macro_rules | `(tactic| walk_at "rd1") => `(tactic| first
  | (with_reducible refine i_seq ?_) | (with_reducible refine i_asg ?_) | (with_reducible refine i_ret ?_) | (with_reducible refine i_name ?_) | ((with_reducible refine' i_var ?q1 ?_); (case q1 => exact rfl)) | (with_reducible refine i_c ?_) | (with_reducible refine i_op ?_) | (with_reducible refine i_un ?_)
  | (with_reducible refine i_rI0 ?_) | (with_reducible refine i_cb ?_) | (with_reducible refine i_cons ?_) | (with_reducible refine i_nil ?_) | (with_reducible refine i_call ?_) | (with_reducible refine i_if ?_) | (with_reducible refine i_ifE ?_) | (with_reducible refine i_test ?_) | (with_reducible refine i_bl ?_)
  | (with_reducible refine i_and ?_) | (with_reducible refine i_or ?_) | (with_reducible refine i_not ?_) | (with_reducible refine i_lstM ?_) | (with_reducible refine i_lstLM ?_) | (with_reducible refine i_tupM ?_) | (with_reducible refine i_next ?_) | (with_reducible refine i_drop ?_) | (with_reducible refine i_sub ?_)
  | (with_reducible refine i_bm ?_) | (with_reducible refine i_sl ?_) | (with_reducible refine i_part ?_) | (with_reducible refine i_nopart ?_) | (with_reducible refine i_exI ?_) | (with_reducible refine i_chain ?_) | ((with_reducible refine' i_aug ?q1 ?_); (case q1 => exact rfl)) | (with_reducible refine i_ip ?_)
  | (with_reducible refine i_par ?_) | (with_reducible refine i_pair ?_) | (with_reducible refine i_andV ?_) | (with_reducible refine i_orV ?_) | (with_reducible refine i_notV ?_) | (with_reducible refine i_m1 ?_) | (with_reducible refine i_str ?_)
  | (with_reducible refine iteF ?_) | (with_reducible refine iteT ?_) | (with_reducible refine iteNT ?_) | (with_reducible refine iteNF ?_) | (with_reducible refine i_tyS ?_) | (with_reducible refine i_tB ?_) | (with_reducible refine i_retN ?_) | (with_reducible refine i_par3 ?_) | (with_reducible refine i_trip ?_) | (with_reducible refine i_gCons ?_) | (with_reducible refine i_gNil ?_) | (with_reducible refine i_lstRg ?_) | (with_reducible refine i_rg1 ?_)
  | (with_reducible refine i_lc ?_) | (with_reducible refine i_for ?_) | (with_reducible refine i_iList ?_) | (with_reducible refine i_iTup ?_) | (with_reducible refine i_iStr ?_) | (with_reducible refine i_iRng1 ?_) | (with_reducible refine i_iEnS ?_)
  | ((with_reducible refine' i_ixTH ?q1 ?q2 ?_); (case q1 => walk_at "hp"); (case q2 => exact rfl))
  | ((with_reducible refine' i_ixLH ?q1 ?q2 ?_); (case q1 => walk_at "hp"); (case q2 => exact rfl))
  | ((with_reducible refine i_addS ?q1 ?_); (case q1 => walk_at "ln")) | ((with_reducible refine i_lenSS ?q1 ?_); (case q1 => walk_at "ln")) | ((with_reducible refine i_slFrom ?q1 ?q2 ?_); (case q1 => walk_at "ln"); (case q2 => walk_at "ln")) | ((with_reducible refine i_slTo ?q1 ?q2 ?_); (case q1 => walk_at "ln"); (case q2 => walk_at "ln"))
  | ((with_reducible refine' i_tyL ?q1 ?_); (case q1 => walk_at "hp"))
  | ((with_reducible refine' i_gTupH ?q1 ?q2 ?_); (case q1 => walk_at "hp"); (case q2 => exact rfl))
  | (with_reducible refine i_dnewM ?_) | (with_reducible refine i_init ?_) | (with_reducible refine i_fst ?_) | (with_reducible refine i_mk ?_) | (with_reducible refine i_raise ?_) | (with_reducible refine i_callS ?_) | (with_reducible refine i_kwS ?_)
  | (with_reducible refine i_revT ?_) | (with_reducible refine i_kw ?_) | ((with_reducible refine' ⟨_, _, rfl, sqT_of ?q1, ?_⟩); (case q1 => walk_at "hp"))
  | (with_reducible refine i_revS ?_) | ((with_reducible refine i_revSS ?q1 ?_); (case q1 => walk_at "ln"))
  | (with_reducible refine i_startS ?_) | (with_reducible refine i_inSg ?_) | (with_reducible refine i_absN ?_) | (with_reducible refine i_min2 ?_) | (with_reducible refine i_max2 ?_) | (with_reducible refine i_min3 ?_) | (with_reducible refine i_intN ?_) | (with_reducible refine i_intNB ?_)
  | ((with_reducible refine' i_lenL ?q1 ?_); (case q1 => walk_at "hp")) | ((with_reducible refine' i_lenT ?q1 ?_); (case q1 => walk_at "hp"))
  | (with_reducible refine i_eqI ?_) | (with_reducible refine i_neI ?_) | (with_reducible refine i_eqS ?_) | (with_reducible refine i_neS ?_) | (with_reducible refine i_isNoI ?_) | (with_reducible refine i_isNoN ?_) | (with_reducible refine i_isNoR ?_)
  | ((with_reducible refine i_pow ?q1 ?q2 ?q3 ?_); (case q1 => decide); (case q2 => decide); (case q3 => (with_reducible omega)))
  | ((with_reducible refine i_rI ?q1 ?_); (case q1 => walk_at "ci"))
  | (with_reducible refine Or.inl ⟨_, rfl, ?_⟩) | (with_reducible refine Or.inr ⟨_, rfl, ?_⟩) | (with_reducible refine ⟨_, rfl, ?_⟩) | (with_reducible refine ⟨_, _, rfl, ?_⟩) | (with_reducible refine ⟨_, _, rfl, rfl, ?_⟩)
  | ((with_reducible refine' ⟨_, _, rfl, Or.inl (sqL_of ?q1), ?_⟩); (case q1 => walk_at "hp")) | ((with_reducible refine' ⟨_, _, rfl, Or.inr (sqT_of ?q1), ?_⟩); (case q1 => walk_at "hp")) | (with_reducible refine i_dget ?_) | (with_reducible refine i_disp1T ?_) | (with_reducible refine i_dcT ?_) | (with_reducible refine i_dnewT ?_) | (with_reducible refine i_fld ?_) | (with_reducible refine i_sFld ?_) | (with_reducible refine i_make ?_) | (with_reducible refine i_meth ?_) | (with_reducible refine i_star ?_) | (with_reducible refine i_isNoS ?_) | (with_reducible refine i_lc2 ?_) | fail)
local macro_rules | `(tactic| walk_at "rd") => `(tactic| repeat' walk_at "rd1")

theorem pi_seqVK {X : Cx} {K : PySem.W.Frag} {tg l : Expr} {i : Nat} (e : X.K = K) (h : PE X l (tVar i)) : PI X tg l (iSeqV K i) := by
  subst e; exact pi_seqV h
theorem i_seqV2 {K : PySem.W.Frag} {a : Addr} {xs : List V} {i : Nat} {σ : L2.St} {H0 H : Hp} {R : It → Hp → Prop} (e : σ[i]? = some (some (.ref a))) (h : SqL K H0 a xs ∨ SqT K H0 a xs) (s : Same H0 H)
    (r : ∀ J, Walk J xs.length (fun H' => Same H0 H') (YAt xs) → R J H) : iSeqV K i σ H R := by
  rcases h with h | h
  · exact ⟨a, xs, _, e, .inl ⟨Same.sqL s h, rfl⟩, r _ (walk_list.mono (fun H' s => Same.sqL s h) fun _ _ _ _ _ _ y => y)⟩
  · exact ⟨a, xs, _, e, .inr ⟨Same.sqT s h, rfl⟩, r _ (walk_tup.mono (fun H' s => Same.sqT s h) fun _ _ _ _ _ _ y => y)⟩
theorem mono_seqV {K : PySem.W.Frag} {i : Nat} (σ2 : L2.St) (H3 : Hp) (R R' : It → Hp → Prop) (h : ∀ J1 H4, R J1 H4 → R' J1 H4) (q : iSeqV K i σ2 H3 R) : iSeqV K i σ2 H3 R' := by
  obtain ⟨a, xs, J, e, hs, r⟩ := q; exact ⟨a, xs, J, e, hs, h _ _ r⟩
theorem sm_line {n : Nat} (h : n ≤ 1000) : n < sizeLine := Nat.lt_of_le_of_lt h (Nat.lt_of_lt_of_le (by decide : 1000 < 100000) (Nat.le_of_ble_eq_true rfl))
/-- are_steps(value, signs), so many signs -/
def spStp (K : PySem.W.Frag) : Sp := fun vs H Q _ => ∃ x d n, vs = [x, .int n] ∧ Dz K H x d ∧ d.weight ≤ 100000 ∧ 0 ≤ n ∧ n ≤ 5 ∧ ∀ H', Same H H' → Q (.bl (stpB n d)) H'
/-- are_ends(value, states) -/
def spEns (K : PySem.W.Frag) : Sp := fun vs H Q _ => ∃ x d m, vs = [x, .int m] ∧ Dz K H x d ∧ d.weight ≤ 100000 ∧ ∀ H', Same H H' → Q (.bl (ensB m d)) H'
theorem DzAll.getD {K : PySem.W.Frag} {H : Hp} {vs : List V} {ds : List PyData} {i : Nat} {v : V} (h : DzAll K H vs ds) (e : vs[i]? = some v) : Dz K H v (ds.getD i .none) := by
  obtain ⟨d, h1, h2⟩ := h.get e
  rw [List.getD_eq_getElem?_getD, h1]; exact h2
theorem map_all (ds : List PyData) (g : PyData → Bool) : (((List.range ds.length).map fun i => g (ds.getD i .none)).all id) = ds.all g := by
  rw [range_map_get ds _ g (fun i x hx => by rw [List.getD_eq_getElem?_getD, hx]; rfl), List.all_map]
  rfl
section
variable {P : Program} {w : World} {K : PySem.W.Frag} {mg : Str → Option Value} {base : Heap} {f : Addr} {fd : FuncData}
theorem ok_steps (F : Fun K "are_steps" "are_steps" s_are_steps f fd) (z : Z mg) {t40 : Tok} (g_MOST_STATES : mg "MOST_STATES" = some (.int 40 t40)) (c_is_list : Cal P w K mg base "is_list" ["value"] 1 (spSeq K)) (c_is_entry : Cal P w K mg base "is_entry" ["value", "states"] 3 (spEnt K)) : FnOk P w K mg base CX0 4 f fd ["value", "signs"] (spStp K) := by
  refine F.ok sc_are_steps (fun vs H Q E h => ?_) (fun cdv A outer s H vs Q E hr h => ?_)
  · obtain ⟨x, d, n, rfl, _⟩ := h; rfl
  · obtain ⟨x, d, n, rfl, hx, hw, n0, n5, k⟩ := h
    refine ⟨_, (pss_cons (ps_if (PW.pt (pw_or (pt_not (pt_val (pe_cal c_is_list hr (pa_cons (pv 0) pa_nil)))) (pw_or1 (pt_not (pt_chain op_le op_le pe_int (pe_callB call_lenQ (by rfl) z.len PySem.boot_len (pa_cons (pv 0) pa_nil)) (pe_glob (v := .int 40) rfl g_MOST_STATES ⟨_, rfl⟩))))))
        (pss_one (ps_ret pe_bl))
        pss_nil)
      (pss_cons (ps_if (pt_not (pt_val (pe_callB (cr_all rfl) (by rfl) z.all (by decide +kernel) (pa_cons (pe_lc (own := [("row", 2)]) (g := gName 2) (tt := tYes) rfl sc_are_steps.nd (pi_seqV (pv 0)) (blkOk_by (own := [("row", 2)]) (N := n_are_steps) (sc := defScope s_are_steps) (by decide +kernel)) (fun _ _ _ _ _ => (pg_name (i := 2) sc_are_steps.nd rfl (.inl rfl))) (fun _ _ _ _ _ => pts_nil) (fun _ _ _ _ _ => (pe_and (pe_cal c_is_list hr (pa_cons (pv 2) pa_nil)) (pe_one (pe_cmpR op_eq (pe_callB (call_lenQB (K := K) rfl) (by rfl) z.len PySem.boot_len (pa_cons (pv 2) pa_nil)) (pv 1) (nomark _)))))) pa_nil))))
        (pss_one (ps_ret pe_bl))
        pss_nil)
      (pss_one (ps_ret (pe_callB (cr_all rfl) (by rfl) z.all (by decide +kernel) (pa_cons (pe_lc2 (own := [("row", 2), ("entry", 3)]) (vs1 := [3]) (g := gName 2) (g1 := gName 3) (tt := tYes) (tt1 := tYes) rfl sc_are_steps.nd (pi_seqV (pv 0)) (blkOk_by (own := [("row", 2), ("entry", 3)]) (N := n_are_steps) (sc := defScope s_are_steps) (by decide +kernel)) (by decide) (fun _ _ _ _ _ => (pg_name (i := 2) sc_are_steps.nd rfl (.inl rfl))) (fun _ _ _ _ _ => pts_nil) (fun _ _ _ _ _ => (pi_seqVK (K := K) rfl (pv 2))) (fun _ _ _ _ _ => (pg_name (i := 3) sc_are_steps.nd rfl (.inl rfl))) (fun _ _ _ _ _ => pts_nil) (fun _ _ _ _ _ => (pe_cal c_is_entry hr (pa_cons (pv 3) (pa_cons (pe_callB (call_lenQB (K := K) rfl) (by rfl) z.len PySem.boot_len (pa_cons (pv 0) pa_nil)) pa_nil))))) pa_nil)))))), ?_⟩
    walk_at "rd"
    refine ⟨x, d, rfl, hx, fun H1 u1 => ?_⟩
    have hx1 := hx.same u1
    rw [seqL_ty]
    unfold stpB at k
    rcases es : seqL d with _ | ds
    · rw [es] at k
      rw [Option.isSome_none]
      walk_at "rd"
      exact k _ u1
    rw [es] at k
    rw [Option.isSome_some]
    dsimp only at k
    obtain ⟨a, xs, rfl, hq, hxs, we⟩ := hx1.seq es
    have lx := hxs.len
    have ll : ds.length ≤ 100000 := by have := wAll_len ds; omega
    walk_at "rd"
    refine ⟨a, xs, rfl, hq, ?_⟩
    walk_at "rd"
    rw [lx]
    rcases e1 : decide (1 ≤ ds.length) with _ | _
    · have h1 := of_decide_eq_false e1
      rw [e1] at k
      rw [decide_eq_false (show ¬ (1 : Int) ≤ (ds.length : Int) by omega)]
      walk_at "rd"
      exact k _ u1
    have h1 := of_decide_eq_true e1
    rw [decide_eq_true (show (1 : Int) ≤ (ds.length : Int) by omega)]
    walk_at "rd"
    rcases e2 : decide (ds.length ≤ 40) with _ | _
    · have h2 := of_decide_eq_false e2
      rw [e1, e2] at k
      rw [decide_eq_false (show ¬ (ds.length : Int) ≤ 40 by omega)]
      walk_at "rd"
      exact k _ u1
    have h2 := of_decide_eq_true e2
    rw [decide_eq_true (show (ds.length : Int) ≤ 40 by omega)]
    rw [e1, e2, Bool.true_and, Bool.true_and] at k
    walk_at "rd"
    refine i_seqV rfl hq (fun J wJ => ?_)
    refine go_map wJ (fun i => V.bl (rowB n (ds.getD i .none))) (by omega) (fun H s => s) (fun j v H6 H7 hj s6 y R2 hR2 => ?_) mono_name (fun pj H6 npj s6 ej => ?_)
    · obtain ⟨rfl, hv⟩ := y
      have hd := (hxs.getD hv).same s6
      walk_at "rd"
      refine ⟨rfl, ?_⟩
      walk_at "rd"
      refine ⟨v, _, rfl, hd, fun H8 s8 => ?_⟩
      rw [seqL_ty]
      rcases er : seqL (ds.getD j .none) with _ | es'
      · rw [show rowB n (ds.getD j .none) = false by unfold rowB; rw [er]] at hR2
        rw [Option.isSome_none]
        walk_at "rd"
        exact hR2 _ s8
      · rw [show rowB n (ds.getD j .none) = decide ((es'.length : Int) = n) by unfold rowB; rw [er]] at hR2
        obtain ⟨b, ys, rfl, hq2, hys, _⟩ := (hd.same s8).seq er
        rw [Option.isSome_some]
        walk_at "rd"
        refine ⟨b, ys, rfl, hq2, ?_⟩
        walk_at "rd"
        rw [hys.len]
        exact hR2 _ s8
    · walk_at "rd"
      have e3 : H6 pj = some (.lst (((List.range ds.length).map fun i => rowB n (ds.getD i .none)).map V.bl)) := by
        rw [ej, lx, List.map_map]; rfl
      refine i_all e3 ?_
      rw [map_all]
      have u16 := u1.trans s6
      rcases e4 : ds.all (rowB n) with _ | _
      · rw [e4] at k
        walk_at "rd"
        exact k _ u16
      rw [e4, Bool.true_and] at k
      walk_at "rd"
      refine i_seqV rfl (sq_same s6 hq) (fun J wJ => ?_)
      have hxs6 := hxs.same s6
      refine go_lc2 wJ (fun p i Hx => ∃ bs : List Bool, bs.length ≤ 5 * i ∧ bs.all id = (ds.take i).all (rowEB ds.length) ∧ Hx p = some (.lst (bs.map V.bl)) ∧ Same H6 Hx)
        (fun p np => ⟨[], by simp, by simp, upd_same, same_upd np⟩) (fun p i Hx hi q => q.choose_spec.2.2.2) (fun p' np i v H8 H9 hi q y => ?_) (fun p8 H8 np8 q => ?_) mono_seqV mono_name mono_yes
      · obtain ⟨bs, hb, eb, em, sx⟩ := q
        obtain ⟨rfl, hv⟩ := y
        obtain ⟨dr, gr, hdr⟩ := hxs6.get hv
        have hrow : rowB n dr = true := List.all_eq_true.mp e4 _ (List.mem_of_getElem? gr)
        have hwr : dr.weight + 1 ≤ PyData.weightAll ds := wAll_mem (List.mem_of_getElem? gr)
        have eE : (ds.take (i + 1)).all (rowEB ds.length) = ((ds.take i).all (rowEB ds.length) && rowEB ds.length dr) := by
          rw [List.take_add_one, gr, List.all_append]; simp
        unfold rowB at hrow
        rcases er : seqL dr with _ | es'
        · rw [er] at hrow; cases hrow
        rw [er] at hrow
        have ln : (es'.length : Int) = n := of_decide_eq_true hrow
        have eR : rowEB ds.length dr = es'.all (entB ds.length) := by unfold rowEB; rw [er]
        obtain ⟨b, ys, rfl, hq2, hys, wr⟩ := hdr.seq er
        walk_at "rd"
        refine ⟨rfl, i_yes (iteT ?_)⟩
        refine i_seqV2 rfl hq2 sx (fun J1 wJ1 => ?_)
        refine ⟨ys.length, _, _, fun j Hx => ∃ bs : List Bool, bs.length ≤ 5 * i + j ∧ bs.all id = ((ds.take i).all (rowEB ds.length) && (es'.take j).all (entB ds.length)) ∧ Hx p' = some (.lst (bs.map V.bl)) ∧ Same H6 Hx, wJ1, ⟨bs, by omega, by rw [eb]; simp, em, sx⟩, fun j Hx hj q => q.choose_spec.2.2.2, fun j x Hx Hy hj q y => ?_, fun Hx q => ?_⟩
        · obtain ⟨bs2, hb2, eb2, em2, sx2⟩ := q
          obtain ⟨rfl, hv2⟩ := y
          obtain ⟨de, ge, hde⟩ := hys.get hv2
          have hde := hde.same sx2
          have hwe : de.weight + 1 ≤ PyData.weightAll es' := wAll_mem (List.mem_of_getElem? ge)
          walk_at "rd"
          refine ⟨rfl, i_yes (iteT ?_)⟩
          walk_at "rd"
          refine ⟨a, xs, rfl, sq_same sx2 (sq_same s6 hq), ?_⟩
          walk_at "rd"
          rw [lx]
          refine ⟨x, de, ds.length, rfl, hde, by omega, fun H10 s10 => ?_⟩
          refine ⟨_, s10 _ _ em2, sm_line (by rw [List.length_map]; rw [lx] at hi; rw [hys.len] at hj; omega), bs2 ++ [entB ds.length de], by rw [List.length_append]; simp; omega, ?_, ?_, Same.set_new (sx2.trans s10) np⟩
          · rw [List.all_append, eb2, List.take_add_one, ge, List.all_append]
            simp [Bool.and_assoc]
          · rw [upd_same, List.map_append]; rfl
        · obtain ⟨bs2, hb2, eb2, em2, sx2⟩ := q
          rw [hys.len, List.take_length] at eb2
          rw [hys.len] at hb2
          exact ⟨bs2, by omega, by rw [eE, eR]; exact eb2, em2, sx2⟩
      · obtain ⟨bs, hb, eb, em, sx⟩ := q
        rw [lx, List.take_length] at eb
        walk_at "rd"
        refine i_all em ?_
        rw [eb]
        exact k _ (u16.trans sx)
theorem ok_ends (F : Fun K "are_ends" "are_ends" s_are_ends f fd) (z : Z mg) (c_is_list : Cal P w K mg base "is_list" ["value"] 1 (spSeq K)) (c_is_word : Cal P w K mg base "is_word" ["value"] 2 (spTxt K wdB)) : FnOk P w K mg base CX0 3 f fd ["value", "states"] (spEns K) := by
  refine F.ok sc_are_ends (fun vs H Q E h => ?_) (fun cdv A outer s H vs Q E hr h => ?_)
  · obtain ⟨x, d, m, rfl, _⟩ := h; rfl
  · obtain ⟨x, d, m, rfl, hx, hw, k⟩ := h
    refine ⟨_, (pss_one (ps_ret (pe_and (pe_cal c_is_list hr (pa_cons (pv 0) pa_nil)) (pe_and (pe_cmpR op_eq (pe_callB call_lenQ (by rfl) z.len PySem.boot_len (pa_cons (pv 0) pa_nil)) (pv 1) (nomark _)) (pe_one (pe_callB (cr_all rfl) (by rfl) z.all (by decide +kernel) (pa_cons (pe_lc (own := [("end", 2)]) (g := gName 2) (tt := tYes) rfl sc_are_ends.nd (pi_seqV (pv 0)) (blkOk_by (own := [("end", 2)]) (N := n_are_ends) (sc := defScope s_are_ends) (by decide +kernel)) (fun _ _ _ _ _ => (pg_name (i := 2) sc_are_ends.nd rfl (.inl rfl))) (fun _ _ _ _ _ => pts_nil) (fun _ _ _ _ _ => (pe_or (pe_cmpR op_isNo (pv 2) pe_non (nomark _)) (pe_one (pe_cal c_is_word hr (pa_cons (pv 2) pa_nil)))))) pa_nil))))))), ?_⟩
    walk_at "rd"
    refine ⟨x, d, rfl, hx, fun H1 u1 => ?_⟩
    have hx1 := hx.same u1
    rw [seqL_ty]
    unfold ensB at k
    rcases es : seqL d with _ | ds
    · rw [es] at k
      rw [Option.isSome_none]
      walk_at "rd"
      exact k _ u1
    rw [es] at k
    rw [Option.isSome_some]
    dsimp only at k
    obtain ⟨a, xs, rfl, hq, hxs, we⟩ := hx1.seq es
    have lx := hxs.len
    have ll : ds.length ≤ 100000 := by have := wAll_len ds; omega
    walk_at "rd"
    refine ⟨a, xs, rfl, hq, ?_⟩
    walk_at "rd"
    rw [lx]
    rcases e1 : decide ((ds.length : Int) = m) with _ | _
    · rw [e1] at k
      walk_at "rd"
      exact k _ u1
    rw [e1, Bool.true_and] at k
    walk_at "rd"
    refine i_seqV rfl hq (fun J wJ => ?_)
    refine go_map wJ (fun i => V.bl (endB (ds.getD i .none))) (by omega) (fun H s => s) (fun j v H6 H7 hj s6 y R2 hR2 => ?_) mono_name (fun pj H6 npj s6 ej => ?_)
    · obtain ⟨rfl, hv⟩ := y
      obtain ⟨de, ge, hd⟩ := hxs.get hv
      have hd := hd.same s6
      have hwe : de.weight + 1 ≤ PyData.weightAll ds := wAll_mem (List.mem_of_getElem? ge)
      rw [show ds.getD j .none = de by rw [List.getD_eq_getElem?_getD, ge]; rfl] at hR2
      walk_at "rd"
      refine ⟨rfl, ?_⟩
      walk_at "rd"
      refine i_isNoZ hd ?_
      by_cases hn : de = .none
      · subst hn
        walk_at "rd"
        exact hR2 _ (Same.refl _)
      · rw [show nonB de = false by cases de <;> first | rfl | exact (hn rfl).elim]
        rw [show endB de = wdB de by cases de <;> first | rfl | exact (hn rfl).elim] at hR2
        walk_at "rd"
        exact ⟨v, de, rfl, hd, by omega, fun H8 s8 => hR2 _ s8⟩
    · walk_at "rd"
      have e3 : H6 pj = some (.lst (((List.range ds.length).map fun i => endB (ds.getD i .none)).map V.bl)) := by
        rw [ej, lx, List.map_map]; rfl
      refine i_all e3 ?_
      rw [map_all]
      exact k _ (u1.trans s6)
end
end Sw
namespace Sw
open PySem PySem.Spec PyProof.Rows L2
local macro_rules | `(tactic| walk_at "hp") => `(tactic| first
  | (with_reducible assumption) | (with_reducible exact upd_same)
  | ((with_reducible refine' upd_old ?q1 ?q2); (case q1 => (with_reducible assumption)); (case q2 => walk_at "hp"))
  | ((with_reducible refine' Same.at ?q1 ?q2); (case q1 => (with_reducible assumption)); (case q2 => walk_at "hp"))
  | ((with_reducible refine' upd_skip ?q1 ?q2); (case q1 => walk_at "ne"); (case q2 => walk_at "hp"))
  | fail)
local macro_rules | `(tactic| walk_at "ne") => `(tactic| first
  | (with_reducible assumption) | (with_reducible exact Ne.symm (by assumption))
  | ((with_reducible refine' ne_of_none ?q1 ?q2); (case q2 => (with_reducible assumption)); (case q1 => walk_at "hp"))
  | fail)
local macro_rules | `(tactic| walk_at "ci") => `(tactic| first | assumption | (show (0 : Int) < _; first | decide | (with_reducible omega)) | exact ⟨by decide, by decide⟩ | exact .inl ⟨by decide, by decide⟩ | exact .inr ⟨by decide, by decide⟩)
local macro_rules | `(tactic| walk_at "ln") => `(tactic| first | (with_reducible assumption) | (with_reducible omega) | (simp only [List.length_append, List.length_take, List.length_drop, List.length_reverse, List.length_cons, List.length_nil]; with_reducible omega))
local macro_rules | `(tactic| walk_at "rd1") => `(tactic| first
  | (with_reducible refine i_seq ?_) | (with_reducible refine i_asg ?_) | (with_reducible refine i_ret ?_) | (with_reducible refine i_name ?_) | ((with_reducible refine' i_var ?q1 ?_); (case q1 => exact rfl)) | (with_reducible refine i_c ?_) | (with_reducible refine i_op ?_) | (with_reducible refine i_un ?_)
  | (with_reducible refine i_rI0 ?_) | (with_reducible refine i_cb ?_) | (with_reducible refine i_cons ?_) | (with_reducible refine i_nil ?_) | (with_reducible refine i_call ?_) | (with_reducible refine i_if ?_) | (with_reducible refine i_ifE ?_) | (with_reducible refine i_test ?_) | (with_reducible refine i_bl ?_)
  | (with_reducible refine i_and ?_) | (with_reducible refine i_or ?_) | (with_reducible refine i_not ?_) | (with_reducible refine i_lstM ?_) | (with_reducible refine i_lstLM ?_) | (with_reducible refine i_tupM ?_) | (with_reducible refine i_next ?_) | (with_reducible refine i_drop ?_) | (with_reducible refine i_sub ?_)
  | (with_reducible refine i_bm ?_) | (with_reducible refine i_sl ?_) | (with_reducible refine i_part ?_) | (with_reducible refine i_nopart ?_) | (with_reducible refine i_exI ?_) | (with_reducible refine i_chain ?_) | ((with_reducible refine' i_aug ?q1 ?_); (case q1 => exact rfl)) | (with_reducible refine i_ip ?_)
  | (with_reducible refine i_par ?_) | (with_reducible refine i_pair ?_) | (with_reducible refine i_andV ?_) | (with_reducible refine i_orV ?_) | (with_reducible refine i_notV ?_) | (with_reducible refine i_m1 ?_) | (with_reducible refine i_str ?_)
  | (with_reducible refine iteF ?_) | (with_reducible refine iteT ?_) | (with_reducible refine iteNT ?_) | (with_reducible refine iteNF ?_) | (with_reducible refine i_tyS ?_) | (with_reducible refine i_tB ?_) | (with_reducible refine i_retN ?_) | (with_reducible refine i_par3 ?_) | (with_reducible refine i_trip ?_) | (with_reducible refine i_gCons ?_) | (with_reducible refine i_gNil ?_) | (with_reducible refine i_lstRg ?_) | (with_reducible refine i_rg1 ?_)
  | (with_reducible refine i_lc ?_) | (with_reducible refine i_for ?_) | (with_reducible refine i_iList ?_) | (with_reducible refine i_iTup ?_) | (with_reducible refine i_iStr ?_) | (with_reducible refine i_iRng1 ?_) | (with_reducible refine i_iEnS ?_)
  | ((with_reducible refine' i_ixTH ?q1 ?q2 ?_); (case q1 => walk_at "hp"); (case q2 => exact rfl))
  | ((with_reducible refine' i_ixLH ?q1 ?q2 ?_); (case q1 => walk_at "hp"); (case q2 => exact rfl))
  | ((with_reducible refine i_addS ?q1 ?_); (case q1 => walk_at "ln")) | ((with_reducible refine i_lenSS ?q1 ?_); (case q1 => walk_at "ln")) | ((with_reducible refine i_slFrom ?q1 ?q2 ?_); (case q1 => walk_at "ln"); (case q2 => walk_at "ln")) | ((with_reducible refine i_slTo ?q1 ?q2 ?_); (case q1 => walk_at "ln"); (case q2 => walk_at "ln"))
  | ((with_reducible refine' i_tyL ?q1 ?_); (case q1 => walk_at "hp"))
  | ((with_reducible refine' i_gTupH ?q1 ?q2 ?_); (case q1 => walk_at "hp"); (case q2 => exact rfl))
  | (with_reducible refine i_dnewM ?_) | (with_reducible refine i_init ?_) | (with_reducible refine i_fst ?_) | (with_reducible refine i_mk ?_) | (with_reducible refine i_raise ?_) | (with_reducible refine i_callS ?_) | (with_reducible refine i_kwS ?_)
  | (with_reducible refine i_revT ?_) | (with_reducible refine i_kw ?_) | ((with_reducible refine' ⟨_, _, rfl, sqT_of ?q1, ?_⟩); (case q1 => walk_at "hp"))
  | (with_reducible refine i_revS ?_) | ((with_reducible refine i_revSS ?q1 ?_); (case q1 => walk_at "ln"))
  | (with_reducible refine i_startS ?_) | (with_reducible refine i_inSg ?_) | (with_reducible refine i_absN ?_) | (with_reducible refine i_min2 ?_) | (with_reducible refine i_max2 ?_) | (with_reducible refine i_min3 ?_) | (with_reducible refine i_intN ?_) | (with_reducible refine i_intNB ?_)
  | ((with_reducible refine' i_lenL ?q1 ?_); (case q1 => walk_at "hp")) | ((with_reducible refine' i_lenT ?q1 ?_); (case q1 => walk_at "hp"))
  | (with_reducible refine i_eqI ?_) | (with_reducible refine i_neI ?_) | (with_reducible refine i_eqS ?_) | (with_reducible refine i_neS ?_) | (with_reducible refine i_isNoI ?_) | (with_reducible refine i_isNoN ?_) | (with_reducible refine i_isNoR ?_)
  | ((with_reducible refine i_pow ?q1 ?q2 ?q3 ?_); (case q1 => decide); (case q2 => decide); (case q3 => (with_reducible omega)))
  | ((with_reducible refine i_rI ?q1 ?_); (case q1 => walk_at "ci"))
  | (with_reducible refine Or.inl ⟨_, rfl, ?_⟩) | (with_reducible refine Or.inr ⟨_, rfl, ?_⟩) | (with_reducible refine ⟨_, rfl, ?_⟩) | (with_reducible refine ⟨_, _, rfl, ?_⟩) | (with_reducible refine ⟨_, _, rfl, rfl, ?_⟩)
  | ((with_reducible refine' ⟨_, _, rfl, Or.inl (sqL_of ?q1), ?_⟩); (case q1 => walk_at "hp")) | ((with_reducible refine' ⟨_, _, rfl, Or.inr (sqT_of ?q1), ?_⟩); (case q1 => walk_at "hp")) | (with_reducible refine i_dget ?_) | (with_reducible refine i_disp1T ?_) | (with_reducible refine i_dcT ?_) | (with_reducible refine i_dnewT ?_) | (with_reducible refine i_fld ?_) | (with_reducible refine i_sFld ?_) | (with_reducible refine i_make ?_) | (with_reducible refine i_meth ?_) | (with_reducible refine i_star ?_) | (with_reducible refine i_isNoS ?_) | (with_reducible refine i_lc2 ?_) | fail)
local macro_rules | `(tactic| walk_at "rd") => `(tactic| repeat' walk_at "rd1")

/-! ### decoders -/
/-- all but instances stays as it was -/
def KD (H H' : Hp) : Prop := ∀ a o, H a = some o → (∀ C dx fs, o ≠ .ins C dx fs) → H' a = some o
theorem KD.of {H H' : Hp} (s : Same H H') : KD H H' := fun a o e _ => s _ _ e
theorem KD.trans {H1 H2 H3 : Hp} (s : KD H1 H2) (t : KD H2 H3) : KD H1 H3 := fun a o e n => t _ _ (s _ _ e n) n
theorem KD.ins {H : Hp} {p C dx : Addr} {fs : List (Str × V)} {o : HO} (e : H p = some (.ins C dx fs)) : KD H (upd H p o) := fun a u ea n => by
  rw [upd_ne (fun q => by rw [q, e] at ea; cases ea; exact n _ _ _ rfl)]; exact ea
theorem KD.sqT {K : PySem.W.Frag} {H H' : Hp} {a : Addr} {xs : List V} (e : KD H H') (h : SqT K H a xs) : SqT K H' a xs := by
  rcases h with (h | ⟨o, h⟩) | h
  · exact .inl (.inl (e _ _ h fun _ _ _ q => by cases q))
  · exact .inl (.inr ⟨o, e _ _ h fun _ _ _ q => by cases q⟩)
  · exact .inr h
theorem KD.sqL {K : PySem.W.Frag} {H H' : Hp} {a : Addr} {xs : List V} (e : KD H H') (h : SqL K H a xs) : SqL K H' a xs := by
  rcases h with (h | ⟨o, h⟩) | h
  · exact .inl (.inl (e _ _ h fun _ _ _ q => by cases q))
  · exact .inl (.inr ⟨o, e _ _ h fun _ _ _ q => by cases q⟩)
  · exact .inr h
mutual
theorem Dz.kd {K : PySem.W.Frag} {H H' : Hp} (s : KD H H') : ∀ {v : V} {d : PyData}, Dz K H v d → Dz K H' v d
  | _, _, .non => .non
  | _, _, .bl b => .bl b
  | _, _, .int i => .int i
  | _, _, .str x => .str x
  | _, _, .lst h1 h2 => .lst (s _ _ h1 fun _ _ _ q => by cases q) (DzAll.kd s h2)
  | _, _, .tup h1 h2 => .tup (s.sqT h1) (DzAll.kd s h2)
  | _, _, .emp h1 => .emp (s _ _ h1 fun _ _ _ q => by cases q)
theorem DzAll.kd {K : PySem.W.Frag} {H H' : Hp} (s : KD H H') : ∀ {vs : List V} {ds : List PyData}, DzAll K H vs ds → DzAll K H' vs ds
  | _, _, .nil => .nil
  | _, _, .cons h1 h2 => .cons (Dz.kd s h1) (DzAll.kd s h2)
end
/-- the class Decoder at C: what is asked of its names -/
structure DcC (K : PySem.W.Frag) (C : Addr) : Prop where
  cl : Cls K C
  a1 : NoAttr K C "signs"
  a2 : NoAttr K C "states"
  a3 : NoAttr K C "steps"
  a4 : NoAttr K C "ends"
def dFs (n : Int) (k : Nat) (p1 p2 : Addr) : List (Str × V) := [("signs", .int n), ("states", .int (k : Int)), ("steps", .ref p1), ("ends", .ref p2)]
def seqD (d : PyData) : List PyData := (seqL d).getD []
def tup1 (d : PyData) : PyData := .tuple (seqD d)
def tupS (d : PyData) : PyData := .tuple ((seqD d).map tup1)
/-- a decoder at v: its steps and ends as data -/
def DAt (K : PySem.W.Frag) (C : Addr) (H : Hp) (v : V) (n : Int) (k : Nat) (sd ed : PyData) : Prop := ∃ a dx p1 p2, v = .ref a ∧ H a = some (.ins C dx (dFs n k p1 p2)) ∧ Dz K H (.ref p1) sd ∧ Dz K H (.ref p2) ed
/-- steps and ends that decoders hold -/
structure DOk (sd ed : PyData) : Prop where
  f1 : flatT sd = true
  f2 : flatT ed = true
  s1 : Sd 8 20000 sd
  s2 : Sd 8 20000 ed
theorem DAt.same {K : PySem.W.Frag} {C : Addr} {H H' : Hp} (s : Same H H') {v : V} {n : Int} {k : Nat} {sd ed : PyData} (h : DAt K C H v n k sd ed) : DAt K C H' v n k sd ed := by
  obtain ⟨a, dx, p1, p2, e, h1, h2, h3⟩ := h; exact ⟨a, dx, p1, p2, e, s _ _ h1, h2.same s, h3.same s⟩
theorem DAt.nl {K : PySem.W.Frag} {C : Addr} {H H' : Hp} (s : NL H H') {v : V} {n : Int} {k : Nat} {sd ed : PyData} (o : DOk sd ed) (h : DAt K C H v n k sd ed) : DAt K C H' v n k sd ed := by
  obtain ⟨a, dx, p1, p2, e, h1, h2, h3⟩ := h; exact ⟨a, dx, p1, p2, e, s _ _ h1 (fun _ q => by cases q), h2.nl s o.f1, h3.nl s o.f2⟩
theorem ent_flat {m : Int} {d : PyData} (h : entB m d = true) : flatT d = true := by
  unfold entB at h
  split at h
  · simp only [flatT]
  · rename_i a b
    simp only [Bool.and_eq_true] at h
    have h1 : flatT a = true := by cases a <;> first | (simp only [flatT]; done) | (have := h.1; cases this)
    have h2 : flatT b = true := by cases b <;> first | (simp only [flatT]; done) | (have := h.2; cases this)
    simp only [flatT, flatTs, h1, h2, Bool.and_self]
  · cases h
theorem row_flat {m : Int} {d : PyData} (h : rowEB m d = true) : flatT (tup1 d) = true := by
  unfold rowEB at h
  unfold tup1 seqD
  simp only [flatT]
  rcases e : seqL d with _ | es
  · rw [e] at h; cases h
  · rw [e] at h
    exact flatTs_all fun x hx => ent_flat (List.all_eq_true.mp h x hx)
structure StpI (n : Int) (d : PyData) (ds : List PyData) : Prop where
  e : seqL d = some ds
  l1 : 1 ≤ ds.length
  l2 : ds.length ≤ 40
  r : ∀ x ∈ ds, rowB n x = true
  en : ∀ x ∈ ds, rowEB ds.length x = true
theorem stp_inv {n : Int} {d : PyData} (h : stpB n d = true) : ∃ ds, StpI n d ds := by
  unfold stpB at h
  rcases e : seqL d with _ | ds
  · rw [e] at h; cases h
  · rw [e] at h
    simp only [Bool.and_eq_true, decide_eq_true_eq] at h
    exact ⟨ds, e, h.1.1.1, h.1.1.2, List.all_eq_true.mp h.1.2, List.all_eq_true.mp h.2⟩
theorem StpI.flat {n : Int} {d : PyData} {ds : List PyData} (s : StpI n d ds) : flatTs (ds.map tup1) = true := flatTs_all fun x hx => by
  obtain ⟨r, hr, rfl⟩ := List.mem_map.mp hx
  exact row_flat (s.en r hr)
theorem end_flat {d : PyData} (h : endB d = true) : flatT d = true := by
  cases d <;> first | (simp only [flatT]; done) | (simp only [endB, wdB] at h; cases h)
theorem rowE_some {m : Int} {d : PyData} (h : rowEB m d = true) : ∃ es, seqL d = some es ∧ seqD d = es := by
  unfold rowEB at h
  unfold seqD
  rcases e : seqL d with _ | es
  · rw [e] at h; cases h
  · exact ⟨es, rfl, by simp⟩
theorem Sd.seqI {n w : Nat} {d : PyData} {ds : List PyData} (s : Sd n w d) (e : seqL d = some ds) : SdAll n w ds := by
  cases d with
  | list xs => cases e; exact s.lstI'
  | tuple xs => cases e; exact s.tupI'
  | _ => cases e
theorem SdAll.tups {n : Nat} : ∀ {w : Nat} {ds : List PyData}, SdAll n w ds → (∀ x ∈ ds, ∃ es, seqL x = some es) → SdAll (n + 1) w (ds.map tup1)
  | w, [], h, _ => h.mono (by omega) (Nat.le_refl _)
  | w, d :: ds, h, k => by
    obtain ⟨u, v, huv, h1, h2⟩ := h.inv
    obtain ⟨es, e⟩ := k d List.mem_cons_self
    have h3 : Sd (n + 1) u (tup1 d) := by
      unfold tup1 seqD
      rw [e]
      exact sd_tup' (h1.seqI e)
    exact (SdAll.cons h3 (h2.tups fun x hx => k x (List.mem_cons_of_mem _ hx))).mono (Nat.le_refl _) huv
theorem dok_of {n m : Int} {d2 d3 : PyData} (h2 : stpB n d2 = true) (h3 : ensB m d3 = true) (s2 : Sd 6 20000 d2) (s3 : Sd 6 20000 d3) : DOk (tupS d2) (tup1 d3) := by
  obtain ⟨ds, si⟩ := stp_inv h2
  unfold ensB at h3
  rcases e3 : seqL d3 with _ | es
  · rw [e3] at h3; cases h3
  rw [e3] at h3
  simp only [Bool.and_eq_true] at h3
  have ed : seqD d2 = ds := by unfold seqD; rw [si.e]; rfl
  refine ⟨?_, ?_, ?_, ?_⟩
  · unfold tupS; rw [ed]; simp only [flatT]; exact si.flat
  · unfold tup1 seqD; rw [e3]; simp only [flatT]; exact flatTs_all fun x hx => end_flat (List.all_eq_true.mp h3.2 x hx)
  · unfold tupS; rw [ed]
    exact sd_tup' ((s2.seqI si.e).tups fun x hx => by obtain ⟨es, e, _⟩ := rowE_some (si.en x hx); exact ⟨es, e⟩)
  · unfold tup1 seqD; rw [e3]
    exact (sd_tup' (s3.seqI e3)).mono (by omega) (Nat.le_refl _)
/-- __init__(self, signs, steps, ends) -/
def spIni (K : PySem.W.Frag) (C XS XT XE : Addr) : Sp := fun vs H Q E => ∃ (a dx : Addr) (v1 v2 v3 : V) (d1 d2 d3 : PyData), vs = [.ref a, v1, v2, v3] ∧ H a = some (.ins C dx []) ∧ Dz K H v1 d1 ∧ Dz K H v2 d2 ∧ Dz K H v3 d3 ∧ Sd 6 20000 d2 ∧ Sd 6 20000 d3 ∧
  (isG d1 = false → ∀ dy H', H dy = none → Same H H' → H' dy = some (.xd [("given", v1)]) → E (.ref XS) (some dy) H') ∧
  (∀ n, d1 = .int n → isG d1 = true → stpB n d2 = false → ∀ dy H', H dy = none → Same H H' → H' dy = some (.xd [("given", v2)]) → E (.ref XT) (some dy) H') ∧
  (∀ n, d1 = .int n → isG d1 = true → stpB n d2 = true → ensB (seqD d2).length d3 = false → ∀ dy H', H dy = none → Same H H' → H' dy = some (.xd [("given", v3)]) → E (.ref XE) (some dy) H') ∧
  (∀ n, d1 = .int n → isG d1 = true → stpB n d2 = true → ensB (seqD d2).length d3 = true → ∀ H', SB a H H' → DAt K C H' (.ref a) n (seqD d2).length (tupS d2) (tup1 d3) → Q .non H')
/-- self == other -/
def spEqD (K : PySem.W.Frag) (C : Addr) : Sp := fun vs H Q _ => ∃ (v1 v2 : V) (n : Int) (k : Nat) (sd ed : PyData), vs = [v1, v2] ∧ DAt K C H v1 n k sd ed ∧ DOk sd ed ∧
  ((∃ m j se ee, DAt K C H v2 m j se ee ∧ DOk se ee ∧ ∀ H', Same H H' → Q (.bl (decide (n = m) && (PyData.eqv sd se && PyData.eqv ed ee))) H') ∨ (Da K H v2 ∧ ∀ H', Same H H' → Q (.bl false) H'))
theorem isG_int {d : PyData} (h : isG d = true) : ∃ n : Int, d = .int n ∧ 1 ≤ n ∧ n ≤ 5 := by
  cases d with
  | int i => simp only [isG, Bool.and_eq_true, decide_eq_true_eq] at h; exact ⟨i, rfl, h⟩
  | _ => cases h
theorem putF_len (f : Str) (v : V) : ∀ fs : List (Str × V), (putF f v fs).length ≤ fs.length + 1
  | [] => Nat.le_refl _
  | (g, x) :: r => by
    unfold putF
    split
    · simp
    · have := putF_len f v r; simp; omega
theorem putF3 (f1 f2 f3 : Str) (v1 v2 v3 : V) : (putF f3 v3 (putF f2 v2 (putF f1 v1 []))).length < 1000 := by
  have h1 := putF_len f1 v1 []
  have h2 := putF_len f2 v2 (putF f1 v1 [])
  have h3 := putF_len f3 v3 (putF f2 v2 (putF f1 v1 []))
  simp at h1; omega
theorem putF2 (f1 f2 : Str) (v1 v2 : V) : (putF f2 v2 (putF f1 v1 [])).length < 1000 := by
  have h1 := putF_len f1 v1 []
  have h2 := putF_len f2 v2 (putF f1 v1 [])
  simp at h1; omega
theorem putF1 (f1 : Str) (v1 : V) : (putF f1 v1 []).length < 1000 := by
  have h1 := putF_len f1 v1 []
  simp at h1; omega
theorem Da.isiC {K : PySem.W.Frag} {H : Hp} {C : Addr} {v : V} {Q : VK} (nc : NoC K C) (h : Da K H v) (k : Q (.bl false) H) : rIsi K [v, .ref C] H Q := by
  cases h with
  | non => exact ⟨_, _, _, _, _, rfl, .own _, .base .non, nc.non, k⟩
  | int i => exact ⟨_, _, _, _, _, rfl, .own _, .base (.int _), nc.int, k⟩
  | str x => exact ⟨_, _, _, _, _, rfl, .own _, .base (.str _), nc.str, k⟩
  | lst h1 => exact ⟨_, _, _, _, _, rfl, .own _, .base (.lst h1), nc.lst, k⟩
  | tup h1 => exact ⟨_, _, _, _, _, rfl, .own _, tyx_tup h1, nc.tup, k⟩
  | dK h1 => exact ⟨_, _, _, _, _, rfl, .own _, .base (.dK h1), nc.dict, k⟩
section
variable {P : Program} {w : World} {K : PySem.W.Frag} {mg : Str → Option Value} {base : Heap} {f : Addr} {fd : FuncData}
theorem i_fldD {C a dx : Addr} {fs : List (Str × V)} {x : Str} {v : V} {H : Hp} {Q : VK} (c : Cls K C) (na : NoAttr K C x) (e : H a = some (.ins C dx fs)) (l : fs.lookup x = some v) (q : Q v H) : rFldR K x (.ref a) H Q := ⟨a, C, dx, _, v, rfl, e, c, na, l, q⟩
theorem i_sFldD {C a dx : Addr} {fs : List (Str × V)} {x : Str} {y : V} {H : Hp} {R : Hp → Prop} (c : Cls K C) (na : NoAttr K C x) (e : H a = some (.ins C dx fs)) (l : fs.length < 1000) (q : R (upd H a (.ins C dx (putF x y fs)))) : rSFld K x y (.ref a) H R := ⟨a, C, dx, fs, rfl, e, c, na, l, q⟩
theorem i_eqZ {H : Hp} {x y : V} {d e : PyData} {Q : VK} {n w m u : Nat} (h1 : Dz K H x d) (h2 : Dz K H y e) (s1 : Sd n w d) (s2 : Sd m u e) (z1 : d.hasDict = false) (z2 : e.hasDict = false) (k : Q (.bl (PyData.eqv d e)) H) (hn : n ≤ 60 := by omega) (hm : m ≤ 60 := by omega) : rEqD K x y H Q :=
  ⟨d, e, h1.dp z1, h2.dp z2, s1.shaped hn z1, s2.shaped hm z2, k⟩
theorem ok_ini {C XS XT XE : Addr} (F : Fun K "__init__" "Decoder.__init__" s_Decoder___init__ f fd) (z : Z mg) (dc : DcC K C) (xt : XQ "InvalidSteps" P w K mg base XT) (xe : XQ "InvalidEnds" P w K mg base XE) (x_check_signs : CalX P w K mg base "check_signs" ["signs"] 3 (spCkS K XS))
    (c_are_steps : Cal P w K mg base "are_steps" ["value", "signs"] 4 (spStp K)) (c_are_ends : Cal P w K mg base "are_ends" ["value", "states"] 3 (spEns K)) : FnOk P w K mg base (L2.CX P w) 5 f fd ["self", "signs", "steps", "ends"] (spIni K C XS XT XE) := by
  refine Sw.Fun.okX F sc_Decoder___init__ (fun vs H Q E h => ?_) (fun cdv A outer s H vs Q E hr h tk => ?_)
  · obtain ⟨a, dx, v1, v2, v3, d1, d2, d3, rfl, _⟩ := h; rfl
  · obtain ⟨a, dx, v1, v2, v3, d1, d2, d3, rfl, ha, h1, h2, h3, s2, s3, k1, k2, k3, k4⟩ := h
    refine ⟨_, (pss_cons (ps_expr (pe_calX x_check_signs hr tk (pa_cons (pv 1) pa_nil)))
      (pss_cons (ps_if (pt_not (pt_val (pe_cal c_are_steps hr (pa_cons (pv 2) (pa_cons (pv 1) pa_nil)))))
        (pss_one (ps_rs rfl tk (pmk_Q xt hr (pv 2))))
        pss_nil)
      (pss_cons (ps_if (pt_not (pt_val (pe_cal c_are_ends hr (pa_cons (pv 3) (pa_cons (pe_callB call_lenQ (by rfl) z.len PySem.boot_len (pa_cons (pv 2) pa_nil)) pa_nil)))))
        (pss_one (ps_rs rfl tk (pmk_Q xe hr (pv 3))))
        pss_nil)
      (pss_cons (ps_fld (pv 0) (pv 1) (by rfl))
      (pss_cons (ps_fld (pv 0) (pe_callB call_lenQ (by rfl) z.len PySem.boot_len (pa_cons (pv 2) pa_nil)) (by rfl))
      (pss_cons (ps_fld (pv 0) (pe_callTy call_tuple_of (by rfl) z.tuple (by decide +kernel) (pa_cons (pe_lc (own := [("row", 4)]) (g := gName 4) (tt := tYes) rfl sc_Decoder___init__.nd (pi_seqV (pv 2)) (blkOk_by (own := [("row", 4)]) (N := n_Decoder___init__) (sc := defScope s_Decoder___init__) (by decide +kernel)) (fun _ _ _ _ _ => (pg_name (i := 4) sc_Decoder___init__.nd rfl (.inl rfl))) (fun _ _ _ _ _ => pts_nil) (fun _ _ _ _ _ => (pe_callTy (call_tuple_ofB (K := K) rfl) (by rfl) z.tuple (by decide +kernel) (pa_cons (pv 4) pa_nil)))) pa_nil)) (by rfl))
      (pss_one (ps_fld (pv 0) (pe_callTy call_tuple_of (by rfl) z.tuple (by decide +kernel) (pa_cons (pv 3) pa_nil)) (by rfl))))))))), ?_⟩
    walk_at "rd"
    refine ⟨v1, d1, rfl, h1, fun e1 H1 u1 => ?_, fun e1 => k1 e1⟩
    obtain ⟨n, rfl, n1, n5⟩ := isG_int e1
    cases h1.intI
    have w2 : d2.weight ≤ 100000 := Nat.le_trans s2.wei (by omega)
    have w3 : d3.weight ≤ 100000 := Nat.le_trans s3.wei (by omega)
    walk_at "rd"
    refine ⟨v2, d2, n, rfl, h2.same u1, w2, by omega, n5, fun H2 u2 => ?_⟩
    have u12 := u1.trans u2
    walk_at "rd"
    refine iteNC (fun e2 => ?_) (fun e2 => ?_)
    · walk_at "rd"
      refine i_thrown xt.T xt.no (fun dy ny => ?_)
      exact k2 n rfl e1 e2 dy _ (u12.free ny) (u12.trans (same_upd ny)) upd_same
    obtain ⟨ds, si⟩ := stp_inv e2
    have esd : seqD d2 = ds := by unfold seqD; rw [si.e]; rfl
    rw [esd] at k3 k4
    obtain ⟨ap, xs, rfl, hq, hxs, we⟩ := (h2.same u12).seq si.e
    have lx := hxs.len
    walk_at "rd"
    refine ⟨ap, xs, rfl, hq, ?_⟩
    walk_at "rd"
    rw [lx]
    refine ⟨v3, d3, ds.length, rfl, h3.same u12, w3, fun H3 u3 => ?_⟩
    have u13 := u12.trans u3
    walk_at "rd"
    refine iteNC (fun e3 => ?_) (fun e3 => ?_)
    · walk_at "rd"
      refine i_thrown xe.T xe.no (fun dy ny => ?_)
      exact k3 n rfl e1 e2 e3 dy _ (u13.free ny) (u13.trans (same_upd ny)) upd_same
    have k4 := k4 n rfl e1 e2 e3
    have ok := dok_of e2 e3 s2 s3
    have ha3 := u13 _ _ ha
    walk_at "rd"
    refine i_sFldD dc.cl dc.a1 ha3 (by simp) ?_
    have e4 := upd_same (H := H3) (a := a) (o := .ins C dx (putF "signs" (.int n) []))
    have d4 := (SB.of (b := a) u13).trans (SB.upd (b := a) (H := H3) (o := .ins C dx (putF "signs" (.int n) [])))
    have t4 := (KD.of u13).trans (KD.ins (o := .ins C dx (putF "signs" (.int n) [])) ha3)
    generalize upd H3 a (.ins C dx (putF "signs" (.int n) [])) = H4 at *
    have c4 := fun (b : Addr) o (e : H3 b = some o) => e
    obtain ⟨ap', xs', eap, hq4, hxs4, _⟩ := (h2.kd t4).seq si.e
    cases eap
    have lx4 := hxs4.len
    walk_at "rd"
    refine ⟨ap, xs', rfl, hq4, ?_⟩
    walk_at "rd"
    rw [lx4]
    refine i_sFldD dc.cl dc.a2 e4 (putF1 _ _) ?_
    have e5 := upd_same (H := H4) (a := a) (o := .ins C dx (putF "states" (.int (ds.length : Int)) (putF "signs" (.int n) [])))
    have d5 := d4.trans (SB.upd (b := a) (H := H4) (o := .ins C dx (putF "states" (.int (ds.length : Int)) (putF "signs" (.int n) []))))
    have t5 := t4.trans (KD.ins (o := .ins C dx (putF "states" (.int (ds.length : Int)) (putF "signs" (.int n) []))) e4)
    generalize upd H4 a (.ins C dx (putF "states" (.int (ds.length : Int)) (putF "signs" (.int n) []))) = H5 at *
    obtain ⟨ap', xs5, eap, hq5, hxs5, _⟩ := (h2.kd t5).seq si.e
    cases eap
    have lx5 := hxs5.len
    walk_at "rd"
    refine i_seqV2 rfl hq5 (Same.refl _) (fun J wJ => ?_)
    refine go_lc wJ (fun p' i Hx => ∃ ws, Hx p' = some (.lst ws) ∧ DzAll K Hx ws ((ds.take i).map tup1) ∧ Same H5 Hx) (fun p' np => ⟨[], upd_same, .nil, same_upd np⟩) (fun p' i Hx hi q => q.choose_spec.2.2) (fun p' np i v Hx Hy hi q y => ?_) (fun lp H6 nlp q => ?_)
    · obtain ⟨ws, ew, pw, sx⟩ := q
      obtain ⟨rfl, hv⟩ := y
      obtain ⟨dr, gr, hdr⟩ := hxs5.get hv
      have hdr := hdr.same sx
      have mr := List.mem_of_getElem? gr
      obtain ⟨es, er, er2⟩ := rowE_some (si.en dr mr)
      have fr := row_flat (si.en dr mr)
      obtain ⟨b, ys, rfl, hqr, hys, _⟩ := hdr.seq er
      have lw : ws.length ≤ 40 := by have := pw.len; rw [List.length_map, List.length_take] at this; have := si.l2; omega
      have ft : flatTs ((ds.take i).map tup1) = true := flatTs_all fun x hx => by
        obtain ⟨r, hr, rfl⟩ := List.mem_map.mp hx
        exact row_flat (si.en r (List.mem_of_mem_take hr))
      rw [List.take_add_one, gr, List.map_append]
      walk_at "rd"
      refine ⟨rfl, i_yes (iteT ?_)⟩
      walk_at "rd"
      have fin : ∀ (t : Addr) (H7 : Hp), Same Hy H7 → Dz K H7 (.ref t) (tup1 dr) → ∃ acc, H7 p' = some (.lst acc) ∧ acc.length < sizeLine ∧ ∃ ws', upd H7 p' (.lst (acc ++ [.ref t])) p' = some (.lst ws') ∧ DzAll K (upd H7 p' (.lst (acc ++ [.ref t]))) ws' ((ds.take i).map tup1 ++ List.map tup1 (some dr).toList) ∧ Same H5 (upd H7 p' (.lst (acc ++ [.ref t]))) := fun t H7 s7 hd7 => by
        have nl := (NL.of s7).trans (NL.lst (ys := ws ++ [.ref t]) (s7 _ _ ew))
        exact ⟨ws, s7 _ _ ew, sm_line (by omega), _, upd_same, DzAll.app (pw.nl nl ft) (.cons (hd7.nl (NL.lst (s7 _ _ ew)) fr) .nil), Same.set_new (sx.trans s7) np⟩
      rcases hqr with hqr | hqr
      · refine ⟨b, ys, rfl, .inl ⟨hqr, fun t nt => fin t _ (same_upd nt) ?_⟩⟩
        unfold tup1
        rw [er2]
        exact .tup (sqT_of upd_same) (hys.same (same_upd nt))
      · refine ⟨b, ys, rfl, .inr ⟨hqr, fin b _ (Same.refl _) ?_⟩⟩
        unfold tup1
        rw [er2]
        exact .tup hqr hys
    obtain ⟨ws, ew, pw, s6⟩ := q
    rw [lx5, List.take_length] at pw
    walk_at "rd"
    refine ⟨lp, ws, rfl, .inl ⟨sqL_of ew, fun p1 np1 => ?_⟩⟩
    have s7 := same_upd (o := .tup ws) np1
    have e7 := upd_same (H := H6) (a := p1) (o := .tup ws)
    generalize upd H6 p1 (.tup ws) = H7 at *
    have D7 : Dz K H7 (.ref p1) (tupS d2) := by
      unfold tupS
      rw [esd]
      exact .tup (sqT_of e7) (pw.same s7)
    have s57 := s6.trans s7
    have e57 := s57 _ _ e5
    walk_at "rd"
    refine i_sFldD dc.cl dc.a3 e57 (putF2 _ _ _ _) ?_
    have D8 := D7.kd (KD.ins (o := .ins C dx (putF "steps" (.ref p1) (putF "states" (.int (ds.length : Int)) (putF "signs" (.int n) [])))) e57)
    have e8 := upd_same (H := H7) (a := a) (o := .ins C dx (putF "steps" (.ref p1) (putF "states" (.int (ds.length : Int)) (putF "signs" (.int n) []))))
    have d8 := d5.trans ((SB.of s57).trans (SB.upd (b := a) (H := H7) (o := .ins C dx (putF "steps" (.ref p1) (putF "states" (.int (ds.length : Int)) (putF "signs" (.int n) []))))))
    have t8 := t5.trans ((KD.of s57).trans (KD.ins (o := .ins C dx (putF "steps" (.ref p1) (putF "states" (.int (ds.length : Int)) (putF "signs" (.int n) [])))) e57))
    generalize upd H7 a (.ins C dx (putF "steps" (.ref p1) (putF "states" (.int (ds.length : Int)) (putF "signs" (.int n) [])))) = H8 at *
    have h38 := h3.kd t8
    have e3' := e3
    unfold ensB at e3'
    rcases ee : seqL d3 with _ | es
    · rw [ee] at e3'; cases e3'
    obtain ⟨ep, ys, rfl, hqe, hys, _⟩ := h38.seq ee
    have eed : seqD d3 = es := by unfold seqD; rw [ee]; rfl
    walk_at "rd"
    have fin : ∀ (t : Addr) (H9 : Hp), Same H8 H9 → Dz K H9 (.ref t) (tup1 d3) → Q .non (upd H9 a (.ins C dx (putF "ends" (.ref t) (putF "steps" (.ref p1) (putF "states" (.int (ds.length : Int)) (putF "signs" (.int n) [])))))) := fun t H9 s9 hd9 => by
      have e89 := s9 _ _ e8
      have kd := KD.ins (o := .ins C dx (putF "ends" (.ref t) (putF "steps" (.ref p1) (putF "states" (.int (ds.length : Int)) (putF "signs" (.int n) []))))) e89
      refine k4 _ (d8.trans ((SB.of s9).trans SB.upd)) ⟨a, dx, p1, t, rfl, upd_same, (D8.same s9).kd kd, hd9.kd kd⟩
    rcases hqe with hqe | hqe
    · refine ⟨ep, ys, rfl, .inl ⟨hqe, fun t nt => ?_⟩⟩
      walk_at "rd"
      refine i_sFldD dc.cl dc.a4 (same_upd nt _ _ e8) (putF3 _ _ _ _ _ _) ?_
      refine fin t _ (same_upd nt) ?_
      unfold tup1
      rw [eed]
      exact .tup (sqT_of upd_same) (hys.same (same_upd nt))
    · refine ⟨ep, ys, rfl, .inr ⟨hqe, ?_⟩⟩
      walk_at "rd"
      refine i_sFldD dc.cl dc.a4 e8 (putF3 _ _ _ _ _ _) ?_
      refine fin ep _ (Same.refl _) ?_
      unfold tup1
      rw [eed]
      exact .tup hqe hys
theorem ok_eq {C : Addr} (F : Fun K "__eq__" "Decoder.__eq__" s_Decoder___eq__ f fd) (z : Z mg) (hmD : mg "Decoder" = some (.ref C)) (dc : DcC K C) (ic : C8.InsC K C) (nc : NoC K C) : FnOk P w K mg base CX0 1 f fd ["self", "other"] (spEqD K C) := by
  refine F.ok sc_Decoder___eq__ (fun vs H Q E h => ?_) (fun cdv A outer s H vs Q E hr h => ?_)
  · obtain ⟨v1, v2, n, k, sd, ed, rfl, _⟩ := h; rfl
  · obtain ⟨v1, v2, n, k, sd, ed, rfl, ⟨a, dx, p1, p2, rfl, ha, hp1, hp2⟩, ok, h⟩ := h
    refine ⟨_, (pss_one (ps_ret (pe_and (pe_callB call_isi (by rfl) z.isinstance (by decide +kernel) (pa_cons (pv 1) (pa_cons (pe_glob (v := .ref C) rfl hmD rfl) pa_nil))) (pe_and (pe_cmpR op_eq (pe_fld (pv 0) (by rfl)) (pe_fld (pv 1) (by rfl)) (nomark _)) (pe_and (pe_cmpR (op_eqD hr.units) (pe_fld (pv 0) (by rfl)) (pe_fld (pv 1) (by rfl)) (nomark _)) (pe_one (pe_cmpR (op_eqD hr.units) (pe_fld (pv 0) (by rfl)) (pe_fld (pv 1) (by rfl)) (nomark _)))))))), ?_⟩
    walk_at "rd"
    rcases h with ⟨m, j, se, ee, ⟨b, dy, q1, q2, rfl, hb, hq1, hq2⟩, ok2, q⟩ | ⟨hd, q⟩
    · refine i_isC ic hb ?_
      walk_at "rd"
      refine i_fldD dc.cl dc.a1 ha rfl ?_
      walk_at "rd"
      refine i_fldD dc.cl dc.a1 hb rfl ?_
      walk_at "rd"
      rcases e1 : decide (n = m) with _ | _
      · rw [e1, Bool.false_and] at q
        walk_at "rd"
        exact q _ (Same.refl _)
      rw [e1, Bool.true_and] at q
      walk_at "rd"
      refine i_fldD dc.cl dc.a3 ha rfl ?_
      walk_at "rd"
      refine i_fldD dc.cl dc.a3 hb rfl ?_
      walk_at "rd"
      refine i_eqZ hp1 hq1 ok.s1 ok2.s1 (flatT_noDict ok.f1) (flatT_noDict ok2.f1) ?_
      walk_at "rd"
      rcases e2 : PyData.eqv sd se with _ | _
      · rw [e2, Bool.false_and] at q
        walk_at "rd"
        exact q _ (Same.refl _)
      rw [e2, Bool.true_and] at q
      walk_at "rd"
      refine i_fldD dc.cl dc.a4 ha rfl ?_
      walk_at "rd"
      refine i_fldD dc.cl dc.a4 hb rfl ?_
      walk_at "rd"
      refine i_eqZ hp2 hq2 ok.s2 ok2.s2 (flatT_noDict ok.f2) (flatT_noDict ok2.f2) ?_
      exact q _ (Same.refl _)
    · refine hd.isiC nc ?_
      walk_at "rd"
      exact q _ (Same.refl _)
end
/-- __init__(self, signs, steps, ends), good ones -/
def spIni0 (K : PySem.W.Frag) (C : Addr) : Sp := fun vs H Q _ => ∃ (a dx : Addr) (v2 v3 : V) (n : Int) (d2 d3 : PyData), vs = [.ref a, .int n, v2, v3] ∧ H a = some (.ins C dx []) ∧ Dz K H v2 d2 ∧ Dz K H v3 d3 ∧ Sd 6 20000 d2 ∧ Sd 6 20000 d3 ∧ 1 ≤ n ∧ n ≤ 5 ∧
  stpB n d2 = true ∧ ensB (seqD d2).length d3 = true ∧ ∀ H', SB a H H' → DAt K C H' (.ref a) n (seqD d2).length (tupS d2) (tup1 d3) → Q .non H'
theorem ini0 {P : Program} {w : World} {K : PySem.W.Frag} {mg : Str → Option Value} {base : Heap} {f : Addr} {fd : FuncData} {C XS XT XE : Addr} (F : FnOk P w K mg base (L2.CX P w) 5 f fd ["self", "signs", "steps", "ends"] (spIni K C XS XT XE)) : FnOk P w K mg base CX0 5 f fd ["self", "signs", "steps", "ends"] (spIni0 K C) := by
  refine Sw.FnOk.calm F fun vs H Q E h => ?_
  obtain ⟨a, dx, v2, v3, n, d2, d3, rfl, ha, h2, h3, s2, s3, n1, n5, e2, e3, k⟩ := h
  have g : isG (.int n) = true := by simp only [isG, Bool.and_eq_true, decide_eq_true_eq]; exact ⟨n1, n5⟩
  refine ⟨a, dx, .int n, v2, v3, .int n, d2, d3, rfl, ha, .int _, h2, h3, s2, s3, (fun q => by rw [g] at q; cases q), fun m em _ q => ?_, fun m em _ _ q => ?_, fun m em _ _ _ => ?_⟩
  · cases em; rw [e2] at q; cases q
  · cases em; rw [e3] at q; cases q
  · cases em; exact k
theorem i_makeD {K : PySem.W.Frag} {C : Addr} {n : Int} {v2 v3 : V} {d2 d3 : PyData} {H : Hp} {Q : VK} {E : XK} (h2 : Dz K H v2 d2) (h3 : Dz K H v3 d3) (s2 : Sd 6 20000 d2) (s3 : Sd 6 20000 d3) (n1 : 1 ≤ n) (n5 : n ≤ 5) (e2 : stpB n d2 = true) (e3 : ensB (seqD d2).length d3 = true)
    (q : ∀ v H', Same H H' → DAt K C H' v n (seqD d2).length (tupS d2) (tup1 d3) → Q v H') : rMake C (spIni0 K C) E [.int n, v2, v3] H Q := by
  intro x dx nx ndx ne
  have s1 : Same H (upd (upd H dx (.own x)) x (.ins C dx [])) := Same.set_new (same_upd ndx) nx
  refine ⟨x, dx, v2, v3, n, d2, d3, rfl, upd_same, h2.same s1, h3.same s1, s2, s3, n1, n5, e2, e3, fun H' sb D => ⟨rfl, q (.ref x) H' (fun a o e => ?_) D⟩⟩
  have nax : a ≠ x := fun q => by rw [q, nx] at e; cases e
  exact sb _ _ nax (s1 _ _ e)
end Sw
namespace Sw
open PySem PySem.Spec PyProof.Rows L2
/-! ### data all of whose lists are newer than a heap -/
def Fr (H0 H : Hp) : Hp := fun a => match H a with
  | some (.lst xs) => (match H0 a with
    | none => some (.lst xs)
    | some _ => none)
  | o => o
theorem fr_sub {H0 H : Hp} : Same (Fr H0 H) H := fun a o e => by
  unfold Fr at e
  split at e
  · rename_i xs q
    split at e
    · cases e; exact q
    · cases e
  · exact e
theorem fr_at {H0 H : Hp} {a : Addr} {o : HO} (e : H a = some o) (k : (∀ xs, o ≠ .lst xs) ∨ H0 a = none) : Fr H0 H a = some o := by
  unfold Fr
  rw [e]
  rcases k with k | k
  · split
    · rename_i xs q; cases q; exact (k _ rfl).elim
    · rfl
  · split
    · rename_i xs q; cases q; rw [k]
    · rfl
theorem fr_inv {H0 H : Hp} {a : Addr} {o : HO} (e : Fr H0 H a = some o) : H a = some o ∧ ((∀ xs, o ≠ .lst xs) ∨ H0 a = none) := by
  refine ⟨fr_sub _ _ e, ?_⟩
  unfold Fr at e
  split at e
  · rename_i xs q
    split at e
    · rename_i q0; exact .inr q0
    · cases e
  · rename_i h
    refine .inl fun xs q => ?_
    subst q
    exact h _ e
theorem Fr.kept {H0 H H' : Hp} (k : Kept H0 H H') : Same (Fr H0 H) (Fr H0 H') := fun a o e => by
  obtain ⟨e1, e2⟩ := fr_inv e
  exact fr_at (k a o e1 e2) e2
theorem Fr.weak {H0 H1 H : Hp} (h : ∀ a, H1 a = none → H0 a = none) : Same (Fr H1 H) (Fr H0 H) := fun a o e => by
  obtain ⟨e1, e2⟩ := fr_inv e
  exact fr_at e1 (e2.imp id (h a))
theorem Fr.del {H0 H : Hp} {b : Addr} {xs : List V} (hb : H b = some (.lst xs)) (h0 : H0 b ≠ none) : Same (Fr H0 H) (L2.del H b) := fun a o e => by
  obtain ⟨e1, e2⟩ := fr_inv e
  rw [L2.del_ne fun q => ?_]
  · exact e1
  · subst q
    rw [hb] at e1; cases e1
    rcases e2 with e2 | e2
    · exact e2 _ rfl
    · exact h0 e2
theorem Kept.of {H0 H H' : Hp} (s : Same H H') : Kept H0 H H' := fun a o e _ => s a o e
theorem Kept.trans {H0 H1 H2 H3 : Hp} (s : Kept H0 H1 H2) (t : Kept H0 H2 H3) : Kept H0 H1 H3 := fun a o e k => t a o (s a o e k) k
theorem Kept.sb {H0 H H' : Hp} {b : Addr} {xs : List V} (hb : H b = some (.lst xs)) (h0 : H0 b ≠ none) (s : SB b H H') : Kept H0 H H' := fun a o e k => s a o (fun q => by
  subst q; rw [hb] at e; cases e
  rcases k with k | k
  · exact k _ rfl
  · exact h0 k) e
theorem Kept.lst {H0 H : Hp} {p : Addr} {xs ys : List V} (hp : H p = some (.lst xs)) (h0 : H0 p ≠ none) : Kept H0 H (upd H p (.lst ys)) := fun a o e k => by
  rw [upd_ne fun q => ?_]
  · exact e
  · subst q; rw [hp] at e; cases e
    rcases k with k | k
    · exact k _ rfl
    · exact h0 k
theorem SB.dom {b : Addr} {H H' : Hp} {xs : List V} (s : SB b H H') (hb : H' b = some (.lst xs)) : ∀ a, H' a = none → H a = none := fun a e => by
  rcases q : H a with _ | o
  · rfl
  · by_cases c : a = b
    · subst c; rw [hb] at e; cases e
    · rw [s a o c q] at e; cases e
theorem Same.dom {H H' : Hp} (s : Same H H') : ∀ a, H' a = none → H a = none := fun a e => by
  rcases q : H a with _ | o
  · rfl
  · rw [s a o q] at e; cases e
theorem Dz.newL {K : PySem.W.Frag} {H0 H : Hp} {q : Addr} {ws : List V} {ds : List PyData} (h : DzAll K (Fr H0 H) ws ds) (nq : H q = none) (n0 : H0 q = none) : Dz K (Fr H0 (upd H q (.lst ws))) (.ref q) (.list ds) :=
  .lst (fr_at upd_same (.inr n0)) (h.same (Fr.kept (.of (same_upd nq))))
theorem Dz.newT {K : PySem.W.Frag} {H0 H : Hp} {q : Addr} {ws : List V} {ds : List PyData} (h : DzAll K (Fr H0 H) ws ds) (nq : H q = none) : Dz K (Fr H0 (upd H q (.tup ws))) (.ref q) (.tuple ds) :=
  .tup (sqT_of (fr_at upd_same (.inl fun _ e => by cases e))) (h.same (Fr.kept (.of (same_upd nq))))
theorem fr_sqT {K : PySem.W.Frag} {H0 H : Hp} {a : Addr} {xs : List V} (h : SqT K H a xs) : SqT K (Fr H0 H) a xs := by
  rcases h with (h | ⟨o, h⟩) | h
  · exact .inl (.inl (fr_at h (.inl fun _ q => by cases q)))
  · exact .inl (.inr ⟨o, fr_at h (.inl fun _ q => by cases q)⟩)
  · exact .inr h
theorem Dz.fr {K : PySem.W.Frag} {H0 H : Hp} {v : V} {d : PyData} (h : Dz K H v d) (f : flatT d = true) : Dz K (Fr H0 H) v d := h.nl (fun a o e n => fr_at e (.inl n)) f
theorem DzAll.fr {K : PySem.W.Frag} {H0 H : Hp} {v : List V} {d : List PyData} (h : DzAll K H v d) (f : flatTs d = true) : DzAll K (Fr H0 H) v d := h.nl (fun a o e n => fr_at e (.inl n)) f
section
variable {K : PySem.W.Frag} {J : It} {n : Nat} {G : Hp → Prop} {Y : Nat → Hp → V → Hp → Prop} {g : TG} {te : TE} {vs : List Nat} {σ : L2.St} {H1 : Hp} {Q : VK} {b : Addr} {d c : Int}
/-- a list of drawn things -/
theorem go_dr (w : Walk J n G Y) (B : BoxAt H1 b d) (hc : 0 ≤ c) (hn : n ≤ 1000) (P : Nat → PyData → Prop) (hG : ∀ H, SB b H1 H → G H)
    (hs : ∀ i x H H', i < n → SB b H1 H → BoxAt H b (d + c * i) → Y i H x H' → ∀ R : V → Hp → Prop, (∀ y e H4, Dz K (Fr H H4) y e → P i e → BoxAt H4 b (d + c * i + c) → SB b H H4 → R y H4) →
      g x (wipe σ vs) H' fun σ2 H2 => wipe σ2 vs = wipe σ vs ∧ te σ2 H2 R)
    (hmono : ∀ x σ H (R R' : L2.St → Hp → Prop), (∀ σ' H', R σ' H' → R' σ' H') → g x σ H R → g x σ H R')
    (hd : ∀ p ws ds H, H1 p = none → p ≠ b → ds.length = n → (∀ i e, ds[i]? = some e → P i e) → H p = some (.lst ws) → DzAll K (Fr (upd H1 p (.lst [])) H) ws ds → BoxAt H b (d + c * n) → SB b H1 H → Q (.ref p) H) : LcGo J g tYes te vs σ H1 Q := by
  refine go_lc w (fun p i H => p ≠ b ∧ ∃ ws ds, ds.length = i ∧ (∀ i e, ds[i]? = some e → P i e) ∧ H p = some (.lst ws) ∧ DzAll K (Fr (upd H1 p (.lst [])) H) ws ds ∧ BoxAt H b (d + c * i) ∧ SB b H1 H)
    (fun p np => ⟨box_ne B np, [], [], rfl, fun i e q => by simp at q, upd_same, .nil, (B.same (same_upd np)).mono (by simp), SB.of (same_upd np)⟩) (fun p i H hi q => hG H q.2.choose_spec.choose_spec.2.2.2.2.2)
    (fun p np i x H H' hi q y => ?_) (fun p H np q => ?_)
  · obtain ⟨npb, ws, ds, l, hP, ep, D, Bx, sx⟩ := q
    refine hmono _ _ _ _ _ (fun σ2 H2 q => ?_) (hs i x H H' hi sx Bx y (fun y H4 => ∃ acc, H4 p = some (.lst acc) ∧ acc.length < sizeLine ∧ (p ≠ b ∧ ∃ ws ds, ds.length = i + 1 ∧ (∀ i e, ds[i]? = some e → P i e) ∧ (upd H4 p (.lst (acc ++ [y]))) p = some (.lst ws) ∧ DzAll K (Fr (upd H1 p (.lst [])) (upd H4 p (.lst (acc ++ [y])))) ws ds ∧ BoxAt (upd H4 p (.lst (acc ++ [y]))) b (d + c * (i + 1 : Nat)) ∧ SB b H1 (upd H4 p (.lst (acc ++ [y]))))) fun y e H4 De Pe B4 s4 => ?_)
    · refine ⟨q.1, ?_⟩
      unfold tYes
      dsimp only
      rw [if_pos rfl]
      exact q.2
    · obtain ⟨ob, hb⟩ := box_some Bx
      obtain ⟨n1, g1, c1, e1, hbx, _⟩ := Bx.ex
      have ep4 := s4 _ _ npb ep
      have lw := D.len
      have hp0 : upd H1 p (.lst []) p ≠ none := by rw [upd_same]; simp
      have hb0 : upd H1 p (.lst []) b ≠ none := by
        rw [upd_ne (Ne.symm npb)]
        obtain ⟨_, _, _, _, hb1, _⟩ := B.ex
        rw [hb1]; simp
      have k4 : Kept (upd H1 p (.lst [])) H (upd H4 p (.lst (ws ++ [y]))) := (Kept.sb hbx hb0 s4).trans (Kept.lst ep4 hp0)
      have dom : ∀ a, H a = none → upd H1 p (.lst []) a = none := fun a ea => by
        rw [upd_ne fun q => by rw [q, ep] at ea; cases ea]
        exact sx.dom hbx a ea
      refine ⟨ws, ep4, Nat.lt_of_lt_of_le (show ws.length < 1000 by omega) (Nat.le_trans (by decide : 1000 ≤ 100000) (Nat.le_of_ble_eq_true rfl)), npb, _, ds ++ [e], by rw [List.length_append, l]; rfl, fun j e' hj => ?_, upd_same, ?_, ?_, ?_⟩
      · by_cases hlt : j < ds.length
        · rw [List.getElem?_append_left hlt] at hj; exact hP j e' hj
        · rw [List.getElem?_append_right (by omega)] at hj
          have : j - ds.length = 0 := by
            rcases q : j - ds.length with _ | k
            · rfl
            · rw [q] at hj; simp at hj
          rw [this] at hj
          have : j = i := by omega
          subst this
          cases hj; exact Pe
      · refine (D.same (Fr.kept k4)).app (.cons ?_ .nil)
        exact (De.same (Fr.weak dom)).same (Fr.kept (Kept.lst ep4 hp0))
      · refine (B4.upd_ne' npb).mono ?_
        rw [Int.natCast_add, Int.mul_add]; omega
      · exact fun a o na ha => by
          rw [upd_ne (ne_of_none ha np)]
          exact s4 a o na (sx a o na ha)
  · obtain ⟨npb, ws, ds, l, hP, ep, D, Bx, sx⟩ := q
    exact hd p ws ds H np npb l hP ep D Bx sx
/-- a list of new things, nothing drawn -/
theorem go_nw (w : Walk J n G Y) (hn : n ≤ 1000) (P : Nat → PyData → Prop) (hG : ∀ H, Same H1 H → G H)
    (hs : ∀ i x H H', i < n → Same H1 H → Y i H x H' → ∀ R : V → Hp → Prop, (∀ y e H4, Dz K (Fr H H4) y e → P i e → Same H H4 → R y H4) →
      g x (wipe σ vs) H' fun σ2 H2 => wipe σ2 vs = wipe σ vs ∧ te σ2 H2 R)
    (hmono : ∀ x σ H (R R' : L2.St → Hp → Prop), (∀ σ' H', R σ' H' → R' σ' H') → g x σ H R → g x σ H R')
    (hd : ∀ p ws ds H, H1 p = none → ds.length = n → (∀ i e, ds[i]? = some e → P i e) → H p = some (.lst ws) → DzAll K (Fr (upd H1 p (.lst [])) H) ws ds → Same H1 H → Q (.ref p) H) : LcGo J g tYes te vs σ H1 Q := by
  refine go_lc w (fun p i H => ∃ ws ds, ds.length = i ∧ (∀ i e, ds[i]? = some e → P i e) ∧ H p = some (.lst ws) ∧ DzAll K (Fr (upd H1 p (.lst [])) H) ws ds ∧ Same H1 H)
    (fun p np => ⟨[], [], rfl, fun i e q => by simp at q, upd_same, .nil, same_upd np⟩) (fun p i H hi q => hG H q.choose_spec.choose_spec.2.2.2.2)
    (fun p np i x H H' hi q y => ?_) (fun p H np q => ?_)
  · obtain ⟨ws, ds, l, hP, ep, D, sx⟩ := q
    refine hmono _ _ _ _ _ (fun σ2 H2 q => ?_) (hs i x H H' hi sx y (fun y H4 => ∃ acc, H4 p = some (.lst acc) ∧ acc.length < sizeLine ∧ (∃ ws ds, ds.length = i + 1 ∧ (∀ i e, ds[i]? = some e → P i e) ∧ (upd H4 p (.lst (acc ++ [y]))) p = some (.lst ws) ∧ DzAll K (Fr (upd H1 p (.lst [])) (upd H4 p (.lst (acc ++ [y])))) ws ds ∧ Same H1 (upd H4 p (.lst (acc ++ [y]))))) fun y e H4 De Pe s4 => ?_)
    · refine ⟨q.1, ?_⟩
      unfold tYes
      dsimp only
      rw [if_pos rfl]
      exact q.2
    · have ep4 := s4 _ _ ep
      have lw := D.len
      have hp0 : upd H1 p (.lst []) p ≠ none := by rw [upd_same]; simp
      have k4 : Kept (upd H1 p (.lst [])) H (upd H4 p (.lst (ws ++ [y]))) := (Kept.of s4).trans (Kept.lst ep4 hp0)
      have dom : ∀ a, H a = none → upd H1 p (.lst []) a = none := fun a ea => by
        rw [upd_ne fun q => by rw [q, ep] at ea; cases ea]
        exact Sw.Same.dom sx a ea
      refine ⟨ws, ep4, Nat.lt_of_lt_of_le (show ws.length < 1000 by omega) (Nat.le_trans (by decide : 1000 ≤ 100000) (Nat.le_of_ble_eq_true rfl)), _, ds ++ [e], by rw [List.length_append, l]; rfl, fun j e' hj => ?_, upd_same, ?_, ?_⟩
      · by_cases hlt : j < ds.length
        · rw [List.getElem?_append_left hlt] at hj; exact hP j e' hj
        · rw [List.getElem?_append_right (by omega)] at hj
          have : j - ds.length = 0 := by
            rcases q : j - ds.length with _ | k
            · rfl
            · rw [q] at hj; simp at hj
          rw [this] at hj
          have : j = i := by omega
          subst this
          cases hj; exact Pe
      · refine (D.same (Fr.kept k4)).app (.cons ?_ .nil)
        exact (De.same (Fr.weak dom)).same (Fr.kept (Kept.lst ep4 hp0))
      · exact fun a o ha => by
          rw [upd_ne (ne_of_none ha np)]
          exact s4 a o (sx a o ha)
  · obtain ⟨ws, ds, l, hP, ep, D, sx⟩ := q
    exact hd p ws ds H np l hP ep D sx
end
end Sw
namespace Sw
open PySem PySem.Spec PyProof.Rows L2
local macro_rules | `(tactic| walk_at "hp") => `(tactic| first
  | (with_reducible assumption) | (with_reducible exact upd_same)
  | ((with_reducible refine' upd_old ?q1 ?q2); (case q1 => (with_reducible assumption)); (case q2 => walk_at "hp"))
  | ((with_reducible refine' Same.at ?q1 ?q2); (case q1 => (with_reducible assumption)); (case q2 => walk_at "hp"))
  | ((with_reducible refine' upd_skip ?q1 ?q2); (case q1 => walk_at "ne"); (case q2 => walk_at "hp"))
  | fail)
local macro_rules | `(tactic| walk_at "ne") => `(tactic| first
  | (with_reducible assumption) | (with_reducible exact Ne.symm (by assumption))
  | ((with_reducible refine' ne_of_none ?q1 ?q2); (case q2 => (with_reducible assumption)); (case q1 => walk_at "hp"))
  | fail)
local macro_rules | `(tactic| walk_at "ci") => `(tactic| first | assumption | (show (0 : Int) < _; first | decide | (with_reducible omega)) | exact ⟨by decide, by decide⟩ | exact .inl ⟨by decide, by decide⟩ | exact .inr ⟨by decide, by decide⟩)
local macro_rules | `(tactic| walk_at "ln") => `(tactic| first | (with_reducible assumption) | (with_reducible omega) | (simp only [List.length_append, List.length_take, List.length_drop, List.length_reverse, List.length_cons, List.length_nil]; with_reducible omega))
local macro_rules | `(tactic| walk_at "rd1") => `(tactic| first
  | (with_reducible refine i_seq ?_) | (with_reducible refine i_asg ?_) | (with_reducible refine i_ret ?_) | (with_reducible refine i_name ?_) | ((with_reducible refine' i_var ?q1 ?_); (case q1 => exact rfl)) | (with_reducible refine i_c ?_) | (with_reducible refine i_op ?_) | (with_reducible refine i_un ?_)
  | (with_reducible refine i_rI0 ?_) | (with_reducible refine i_cb ?_) | (with_reducible refine i_cons ?_) | (with_reducible refine i_nil ?_) | (with_reducible refine i_call ?_) | (with_reducible refine i_if ?_) | (with_reducible refine i_ifE ?_) | (with_reducible refine i_test ?_) | (with_reducible refine i_bl ?_)
  | (with_reducible refine i_and ?_) | (with_reducible refine i_or ?_) | (with_reducible refine i_not ?_) | (with_reducible refine i_lst ?_) | (with_reducible refine i_tup ?_) | (with_reducible refine i_next ?_) | (with_reducible refine i_drop ?_) | (with_reducible refine i_sub ?_)
  | (with_reducible refine i_bm ?_) | (with_reducible refine i_sl ?_) | (with_reducible refine i_part ?_) | (with_reducible refine i_nopart ?_) | (with_reducible refine i_exI ?_) | (with_reducible refine i_chain ?_) | ((with_reducible refine' i_aug ?q1 ?_); (case q1 => exact rfl)) | (with_reducible refine i_ip ?_)
  | (with_reducible refine i_par ?_) | (with_reducible refine i_pair ?_) | (with_reducible refine i_andV ?_) | (with_reducible refine i_orV ?_) | (with_reducible refine i_notV ?_) | (with_reducible refine i_m1 ?_) | (with_reducible refine i_str ?_)
  | (with_reducible refine iteF ?_) | (with_reducible refine iteT ?_) | (with_reducible refine iteNT ?_) | (with_reducible refine iteNF ?_) | (with_reducible refine i_tyS ?_) | (with_reducible refine i_tB ?_) | (with_reducible refine i_retN ?_) | (with_reducible refine i_par3 ?_) | (with_reducible refine i_trip ?_) | (with_reducible refine i_gCons ?_) | (with_reducible refine i_gNil ?_) | (with_reducible refine i_lstRg ?_) | (with_reducible refine i_rg1 ?_)
  | (with_reducible refine i_lc ?_) | (with_reducible refine i_for ?_) | (with_reducible refine i_iList ?_) | (with_reducible refine i_iTup ?_) | (with_reducible refine i_iStr ?_) | (with_reducible refine i_iRng1 ?_) | (with_reducible refine i_iEnS ?_)
  | ((with_reducible refine' i_ixTH ?q1 ?q2 ?_); (case q1 => walk_at "hp"); (case q2 => exact rfl))
  | ((with_reducible refine' i_ixLH ?q1 ?q2 ?_); (case q1 => walk_at "hp"); (case q2 => exact rfl))
  | ((with_reducible refine i_addS ?q1 ?_); (case q1 => walk_at "ln")) | ((with_reducible refine i_lenSS ?q1 ?_); (case q1 => walk_at "ln")) | ((with_reducible refine i_slFrom ?q1 ?q2 ?_); (case q1 => walk_at "ln"); (case q2 => walk_at "ln")) | ((with_reducible refine i_slTo ?q1 ?q2 ?_); (case q1 => walk_at "ln"); (case q2 => walk_at "ln"))
  | ((with_reducible refine' i_tyL ?q1 ?_); (case q1 => walk_at "hp"))
  | ((with_reducible refine' i_gTupH ?q1 ?q2 ?_); (case q1 => walk_at "hp"); (case q2 => exact rfl))
  | (with_reducible refine i_dnew ?_) | (with_reducible refine i_init ?_) | (with_reducible refine i_fst ?_) | (with_reducible refine i_mk ?_) | (with_reducible refine i_raise ?_) | (with_reducible refine i_callS ?_) | (with_reducible refine i_kwS ?_)
  | (with_reducible refine i_revT ?_) | (with_reducible refine i_kw ?_) | ((with_reducible refine' ⟨_, _, rfl, sqT_of ?q1, ?_⟩); (case q1 => walk_at "hp"))
  | (with_reducible refine i_revS ?_) | ((with_reducible refine i_revSS ?q1 ?_); (case q1 => walk_at "ln"))
  | (with_reducible refine i_startS ?_) | (with_reducible refine i_inSg ?_) | (with_reducible refine i_absN ?_) | (with_reducible refine i_min2 ?_) | (with_reducible refine i_max2 ?_) | (with_reducible refine i_min3 ?_) | (with_reducible refine i_intN ?_) | (with_reducible refine i_intNB ?_)
  | ((with_reducible refine' i_lenL ?q1 ?_); (case q1 => walk_at "hp")) | ((with_reducible refine' i_lenT ?q1 ?_); (case q1 => walk_at "hp"))
  | (with_reducible refine i_eqI ?_) | (with_reducible refine i_neI ?_) | (with_reducible refine i_eqS ?_) | (with_reducible refine i_neS ?_) | (with_reducible refine i_isNoI ?_) | (with_reducible refine i_isNoN ?_) | (with_reducible refine i_isNoR ?_)
  | ((with_reducible refine i_pow ?q1 ?q2 ?q3 ?_); (case q1 => decide); (case q2 => decide); (case q3 => (with_reducible omega)))
  | ((with_reducible refine i_rI ?q1 ?_); (case q1 => walk_at "ci"))
  | (with_reducible refine Or.inl ⟨_, rfl, ?_⟩) | (with_reducible refine Or.inr ⟨_, rfl, ?_⟩) | (with_reducible refine ⟨_, rfl, ?_⟩) | (with_reducible refine ⟨_, _, rfl, ?_⟩) | (with_reducible refine ⟨_, _, rfl, rfl, ?_⟩)
  | ((with_reducible refine' ⟨_, _, rfl, Or.inl (sqL_of ?q1), ?_⟩); (case q1 => walk_at "hp")) | ((with_reducible refine' ⟨_, _, rfl, Or.inr (sqT_of ?q1), ?_⟩); (case q1 => walk_at "hp")) | (with_reducible refine i_dget ?_) | (with_reducible refine i_disp1T ?_) | (with_reducible refine i_dcT ?_) | (with_reducible refine i_dnewT ?_) | (with_reducible refine i_fld ?_) | (with_reducible refine i_sFld ?_) | (with_reducible refine i_make ?_) | (with_reducible refine i_meth ?_) | (with_reducible refine i_star ?_) | (with_reducible refine i_isNoS ?_) | (with_reducible refine i_lc2 ?_) | fail)
local macro_rules | `(tactic| walk_at "rd") => `(tactic| repeat' walk_at "rd1")

section
variable {P : Program} {w : World} {K : PySem.W.Frag} {mg : Str → Option Value} {base : Heap} {f : Addr} {fd : FuncData}
theorem ok__law_take (F : Fun K "_law_take" "_law_take" s__law_take f fd) (z : Z mg) : FnOk P w K mg base CX0 1 f fd ["box", "many"] spTake := by
  refine F.ok sc__law_take (fun vs H Q E h => ?_) (fun cdv A outer s H vs Q E hr h => ?_)
  · obtain ⟨b, m, d, rfl, _⟩ := h; rfl
  · obtain ⟨b, m, d, rfl, B, hd, hm, hm2, k⟩ := h
    obtain ⟨n, g, c, e, hb, hn, hc0, hc1, he0, he1⟩ := B.ex
    have L : SqL K H b [.int n, .bl g, .int c, .int e] := .inl (.inl hb)
    refine ⟨_, (pss_cons (ps_if (PW.pt (pw_and (pt_val (pe_ix ix_list (pv 0) pe_int (fun _ _ => rfl))) (pw_and1 (pt_cmpR op_gt (pe_ix ix_list (pv 0) pe_int (fun _ _ => rfl)) pe_int (nomark _)))))
        (pss_cons (ps_set (i := 2) sc__law_take.nd rfl (.inl rfl) (pe_op op_mod (pe_callTy call_intN (by rfl) z.int (by decide +kernel) (pa_cons (pe_ix ix_list (pv 0) pe_int (fun _ _ => rfl)) pa_nil)) (pv 1)))
        (pss_cons (ps_asg (pe_op op_fdivW (pe_ix ix_list (pv 0) pe_int (fun _ _ => rfl)) (pv 1)) (pg_sub (pv 0) pe_int set_list))
        (pss_one (ps_ret (pv 2)))))
        pss_nil)
      (pss_cons (ps_asg (pe_op op_add (pe_ix ix_list (pv 0) pe_int (fun _ _ => rfl)) pe_int) (pg_sub (pv 0) pe_int set_list))
      (pss_cons (ps_set (i := 3) sc__law_take.nd rfl (.inl rfl) (pe_op op_mod (pe_callTy call_intN (by rfl) z.int (by decide +kernel) (pa_cons (pe_op op_pow (pe_op op_add (pe_op op_add (pe_ix ix_list (pv 0) pe_int (fun _ _ => rfl)) (pe_op op_mul pe_int (pe_ix ix_list (pv 0) pe_int (fun _ _ => rfl)))) pe_int) pe_int) pa_nil)) pe_int))
      (pss_one (ps_ret (pe_op op_mod (pe_op op_fdiv (pe_op op_mod (pe_callTy call_intN (by rfl) z.int (by decide +kernel) (pa_cons (pe_op op_pow (pe_op op_add (pe_op op_mul (pv 3) pe_int) (pe_op op_mul pe_int (pe_ix ix_list (pv 0) pe_int (fun _ _ => rfl)))) pe_int) pa_nil)) pe_int) pe_int) (pv 1))))))), ?_⟩
    walk_at "rd"
    refine iteC (fun hg => ?_) (fun hg => ?_)
    · walk_at "rd"
      refine iteB (fun h0 => ?_) (fun h0 => ?_)
      · walk_at "rd"
        refine i_rI (wide_div hm (by omega : m.natAbs < 2 ^ 64) (by decide) (by decide)) ?_
        walk_at "rd"
        refine i_setL hb rfl ?_
        walk_at "rd"
        refine k _ _ (Int.emod_nonneg _ (by omega)) (Int.emod_lt_of_pos _ hm) ⟨n / m, g, c, e, upd_same, Int.ediv_nonneg hn (by omega), hc0, hc1, he0, by omega⟩ SB.upd
      · walk_at "rd"
        refine i_setL hb rfl ?_
        walk_at "rd"
        exact k _ _ (Int.emod_nonneg _ (by omega)) (Int.emod_lt_of_pos _ hm) ⟨n, g, c, e + 1, upd_same, hn, hc0, hc1, by omega, by omega⟩ SB.upd
    · walk_at "rd"
      refine i_setL hb rfl ?_
      walk_at "rd"
      exact k _ _ (Int.emod_nonneg _ (by omega)) (Int.emod_lt_of_pos _ hm) ⟨n, g, c, e + 1, upd_same, hn, hc0, hc1, by omega, by omega⟩ SB.upd
theorem ok__law_box (F : Fun K "_law_box" "_law_box" s__law_box f fd) (z : Z mg) : FnOk P w K mg base CX0 1 f fd ["great"] spBox := by
  refine F.ok sc__law_box (fun vs H Q E h => ?_) (fun cdv A outer s H vs Q E hr h => ?_)
  · obtain ⟨n, rfl, _⟩ := h; rfl
  · obtain ⟨n, rfl, k⟩ := h
    refine ⟨_, (pss_one (ps_ret (pe_lst (pa_cons (pe_callB call_absN (by rfl) z.abs (by decide +kernel) (pa_cons (pv 0) pa_nil)) (pa_cons (pe_cmpR op_ge (pe_callB call_absN (by rfl) z.abs (by decide +kernel) (pa_cons (pv 0) pa_nil)) (pe_op op_pow pe_int pe_int) (nomark _)) (pa_cons (pe_op op_mod (pe_callTy call_intN (by rfl) z.int (by decide +kernel) (pa_cons (pe_callB call_absN (by rfl) z.abs (by decide +kernel) (pa_cons (pv 0) pa_nil)) pa_nil)) pe_int) (pa_cons pe_int pa_nil))))))), ?_⟩
    walk_at "rd"
    have q0 := Int.emod_nonneg (if n < 0 then -n else n) (show (2147483629 : Int) ≠ 0 by decide)
    have q1 := Int.emod_lt_of_pos (if n < 0 then -n else n) (show (0 : Int) < 2147483629 by decide)
    refine ⟨Nat.le_of_ble_eq_true rfl, fun p np => ?_⟩
    refine k p _ np (same_upd np) ⟨_, _, _, _, upd_same, by split <;> omega, q0, q1, by omega, by omega⟩
theorem ok__law_cell (F : Fun K "_law_cell" "_law_cell" s__law_cell f fd) (z : Z mg) : FnOk P w K mg base CX0 1 f fd ["script", "k"] (spCell K) := by
  refine F.ok sc__law_cell (fun vs H Q E h => ?_) (fun cdv A outer s H vs Q E hr h => ?_)
  · obtain ⟨a, ns, j, rfl, _⟩ := h; rfl
  · obtain ⟨a, ns, j, rfl, L, h0, h1, k⟩ := h
    refine ⟨_, (pss_one (ps_ret (pe_ifExp (pt_cmpR op_lt (pv 1) (pe_callB call_lenQ (by rfl) z.len PySem.boot_len (pa_cons (pv 0) pa_nil)) (nomark _)) (pe_ix ix_list (pv 0) (pv 1) (fun _ _ => rfl)) (pe_op op_add (pe_op op_mul pe_int (pv 1)) (pe_op op_mod (pe_callB (cr_sum rfl) (by rfl) z.sum (by decide +kernel) (pa_cons (pe_slice sl_list (pv 0) po_none (po_some pe_int)) pa_nil)) pe_int))))), ?_⟩
    walk_at "rd"
    refine i_lenK L ?_
    walk_at "rd"
    rw [List.length_map]
    refine iteB (fun hlt => ?_) (fun hlt => ?_)
    · walk_at "rd"
      refine i_ixL L (atI_ints h0 hlt) ?_
      exact k _ _ (Same.refl _)
    · walk_at "rd"
      refine ⟨a, _, rfl, L, fun p np => ?_⟩
      walk_at "rd"
      have e : cutV (ns.map V.int) none (some 1) = (ns.take 1).map V.int := by
        unfold cutV
        rw [show HT.sIx (ns.map V.int).length (ns.map V.int).length (some 1) = min 1 (ns.map V.int).length from HT.sIx_nat _ _ 1, HT.sIx_none, List.drop_zero, Nat.sub_zero, List.map_take]
        rcases Nat.le_total 1 (ns.map V.int).length with q | q
        · rw [Nat.min_eq_left q]
        · rw [Nat.min_eq_right q, List.take_length, List.take_of_length_le q]
      rw [e]
      refine ⟨p, ns.take 1, rfl, sqL_of upd_same, ?_⟩
      walk_at "rd"
      exact k _ _ (same_upd np)
end
end Sw
namespace Sw
open PySem PySem.Spec PyProof.Rows L2
local macro_rules | `(tactic| walk_at "hp") => `(tactic| first
  | (with_reducible assumption) | (with_reducible exact upd_same)
  | ((with_reducible refine' upd_old ?q1 ?q2); (case q1 => (with_reducible assumption)); (case q2 => walk_at "hp"))
  | ((with_reducible refine' Same.at ?q1 ?q2); (case q1 => (with_reducible assumption)); (case q2 => walk_at "hp"))
  | ((with_reducible refine' upd_skip ?q1 ?q2); (case q1 => walk_at "ne"); (case q2 => walk_at "hp"))
  | fail)
local macro_rules | `(tactic| walk_at "ne") => `(tactic| first
  | (with_reducible assumption) | (with_reducible exact Ne.symm (by assumption))
  | ((with_reducible refine' ne_of_none ?q1 ?q2); (case q2 => (with_reducible assumption)); (case q1 => walk_at "hp"))
  | fail)
local macro_rules | `(tactic| walk_at "ci") => `(tactic| first | assumption | (show (0 : Int) < _; first | decide | (with_reducible omega)) | exact ⟨by decide, by decide⟩ | exact .inl ⟨by decide, by decide⟩ | exact .inr ⟨by decide, by decide⟩)
local macro_rules | `(tactic| walk_at "ln") => `(tactic| first | (with_reducible assumption) | (with_reducible omega) | (simp only [List.length_append, List.length_take, List.length_drop, List.length_reverse, List.length_cons, List.length_nil]; with_reducible omega))
local macro_rules | `(tactic| walk_at "rd1") => `(tactic| first
  | (with_reducible refine i_seq ?_) | (with_reducible refine i_asg ?_) | (with_reducible refine i_ret ?_) | (with_reducible refine i_name ?_) | ((with_reducible refine' i_var ?q1 ?_); (case q1 => exact rfl)) | (with_reducible refine i_c ?_) | (with_reducible refine i_op ?_) | (with_reducible refine i_un ?_)
  | (with_reducible refine i_rI0 ?_) | (with_reducible refine i_cb ?_) | (with_reducible refine i_cons ?_) | (with_reducible refine i_nil ?_) | (with_reducible refine i_call ?_) | (with_reducible refine i_if ?_) | (with_reducible refine i_ifE ?_) | (with_reducible refine i_test ?_) | (with_reducible refine i_bl ?_)
  | (with_reducible refine i_and ?_) | (with_reducible refine i_or ?_) | (with_reducible refine i_not ?_) | (with_reducible refine i_lstM ?_) | (with_reducible refine i_lstLM ?_) | (with_reducible refine i_tupM ?_) | (with_reducible refine i_next ?_) | (with_reducible refine i_drop ?_) | (with_reducible refine i_sub ?_)
  | (with_reducible refine i_bm ?_) | (with_reducible refine i_sl ?_) | (with_reducible refine i_part ?_) | (with_reducible refine i_nopart ?_) | (with_reducible refine i_exI ?_) | (with_reducible refine i_chain ?_) | ((with_reducible refine' i_aug ?q1 ?_); (case q1 => exact rfl)) | (with_reducible refine i_ip ?_)
  | (with_reducible refine i_par ?_) | (with_reducible refine i_pair ?_) | (with_reducible refine i_andV ?_) | (with_reducible refine i_orV ?_) | (with_reducible refine i_notV ?_) | (with_reducible refine i_m1 ?_) | (with_reducible refine i_str ?_)
  | (with_reducible refine iteF ?_) | (with_reducible refine iteT ?_) | (with_reducible refine iteNT ?_) | (with_reducible refine iteNF ?_) | (with_reducible refine i_tyS ?_) | (with_reducible refine i_tB ?_) | (with_reducible refine i_retN ?_) | (with_reducible refine i_par3 ?_) | (with_reducible refine i_trip ?_) | (with_reducible refine i_gCons ?_) | (with_reducible refine i_gNil ?_) | (with_reducible refine i_lstRg ?_) | (with_reducible refine i_rg1 ?_)
  | (with_reducible refine i_lc ?_) | (with_reducible refine i_for ?_) | (with_reducible refine i_iList ?_) | (with_reducible refine i_iTup ?_) | (with_reducible refine i_iStr ?_) | (with_reducible refine i_iRng1 ?_) | (with_reducible refine i_iEnS ?_)
  | ((with_reducible refine' i_ixTH ?q1 ?q2 ?_); (case q1 => walk_at "hp"); (case q2 => exact rfl))
  | ((with_reducible refine' i_ixLH ?q1 ?q2 ?_); (case q1 => walk_at "hp"); (case q2 => exact rfl))
  | ((with_reducible refine i_addS ?q1 ?_); (case q1 => walk_at "ln")) | ((with_reducible refine i_lenSS ?q1 ?_); (case q1 => walk_at "ln")) | ((with_reducible refine i_slFrom ?q1 ?q2 ?_); (case q1 => walk_at "ln"); (case q2 => walk_at "ln")) | ((with_reducible refine i_slTo ?q1 ?q2 ?_); (case q1 => walk_at "ln"); (case q2 => walk_at "ln"))
  | ((with_reducible refine' i_tyL ?q1 ?_); (case q1 => walk_at "hp"))
  | ((with_reducible refine' i_gTupH ?q1 ?q2 ?_); (case q1 => walk_at "hp"); (case q2 => exact rfl))
  | (with_reducible refine i_dnewM ?_) | (with_reducible refine i_init ?_) | (with_reducible refine i_fst ?_) | (with_reducible refine i_mk ?_) | (with_reducible refine i_raise ?_) | (with_reducible refine i_callS ?_) | (with_reducible refine i_kwS ?_)
  | (with_reducible refine i_revT ?_) | (with_reducible refine i_kw ?_) | ((with_reducible refine' ⟨_, _, rfl, sqT_of ?q1, ?_⟩); (case q1 => walk_at "hp"))
  | (with_reducible refine i_revS ?_) | ((with_reducible refine i_revSS ?q1 ?_); (case q1 => walk_at "ln"))
  | (with_reducible refine i_startS ?_) | (with_reducible refine i_inSg ?_) | (with_reducible refine i_absN ?_) | (with_reducible refine i_min2 ?_) | (with_reducible refine i_max2 ?_) | (with_reducible refine i_min3 ?_) | (with_reducible refine i_intN ?_) | (with_reducible refine i_intNB ?_)
  | ((with_reducible refine' i_lenL ?q1 ?_); (case q1 => walk_at "hp")) | ((with_reducible refine' i_lenT ?q1 ?_); (case q1 => walk_at "hp"))
  | (with_reducible refine i_eqI ?_) | (with_reducible refine i_neI ?_) | (with_reducible refine i_eqS ?_) | (with_reducible refine i_neS ?_) | (with_reducible refine i_isNoI ?_) | (with_reducible refine i_isNoN ?_) | (with_reducible refine i_isNoR ?_)
  | ((with_reducible refine i_pow ?q1 ?q2 ?q3 ?_); (case q1 => decide); (case q2 => decide); (case q3 => (with_reducible omega)))
  | ((with_reducible refine i_rI ?q1 ?_); (case q1 => walk_at "ci"))
  | (with_reducible refine Or.inl ⟨_, rfl, ?_⟩) | (with_reducible refine Or.inr ⟨_, rfl, ?_⟩) | (with_reducible refine ⟨_, rfl, ?_⟩) | (with_reducible refine ⟨_, _, rfl, ?_⟩) | (with_reducible refine ⟨_, _, rfl, rfl, ?_⟩)
  | ((with_reducible refine' ⟨_, _, rfl, Or.inl (sqL_of ?q1), ?_⟩); (case q1 => walk_at "hp")) | ((with_reducible refine' ⟨_, _, rfl, Or.inr (sqT_of ?q1), ?_⟩); (case q1 => walk_at "hp")) | (with_reducible refine i_dget ?_) | (with_reducible refine i_disp1T ?_) | (with_reducible refine i_dcT ?_) | (with_reducible refine i_dnewT ?_) | (with_reducible refine i_fld ?_) | (with_reducible refine i_sFld ?_) | (with_reducible refine i_make ?_) | (with_reducible refine i_meth ?_) | (with_reducible refine i_star ?_) | (with_reducible refine i_isNoS ?_) | (with_reducible refine i_lc2 ?_) | fail)
local macro_rules | `(tactic| walk_at "rd") => `(tactic| repeat' walk_at "rd1")

/-! ### what is drawn -/
def azW (l : List Nat) : Prop := ∀ c ∈ l, 97 ≤ c ∧ c ≤ 122
abbrev tAZ : List Nat := [97, 98, 99, 100, 101, 102, 103, 104, 105, 106, 107, 108, 109, 110, 111, 112, 113, 114, 115, 116, 117, 118, 119, 120, 121, 122]
theorem az_get {n : Nat} (h : n < 26) : tAZ[n]? = some (97 + n) := by
  have : ∀ n : Fin 26, tAZ[n.val]? = some (97 + n.val) := by decide
  exact this ⟨n, h⟩
theorem azW_B {l : List Nat} (h : azW l) : azB l = true := by
  unfold azB; rw [List.all_eq_true]; exact fun c hc => decide_eq_true (h c hc)
theorem azW_le {w : List Nat} (h : azW w) : ∀ c ∈ w, c ≤ 1000 := fun c hc => by have := h c hc; omega
theorem wd_of {l : List Nat} (h : azW l) (h3 : l.length ≤ 3) : wdB (.str (S l)) = true := by
  simp only [wdB, azS, Bool.and_eq_true, decide_eq_true_eq]
  exact ⟨by rw [show (S l).cps.toList = l by simp [S]]; exact azW_B h, by rw [S_size]; exact h3⟩
/-- _law_word(box) -/
def spWordB : Sp := fun vs H Q _ => ∃ (b : Addr) (d : Int), vs = [.ref b] ∧ BoxAt H b d ∧ d + 4 ≤ 1000000 ∧ ∀ (l : List Nat) H', azW l → l.length ≤ 3 → BoxAt H' b (d + 4) → SB b H H' → Q (.str (S l)) H'
/-- _law_entry(box, states) -/
def spEntry (K : PySem.W.Frag) : Sp := fun vs H Q _ => ∃ (b : Addr) (m d : Int), vs = [.ref b, .int m] ∧ BoxAt H b d ∧ 1 ≤ m ∧ m ≤ 100 ∧ d + 6 ≤ 1000000 ∧ ∀ v e H', Dz K H' v e → entB m e = true → Sd 1 20 e → BoxAt H' b (d + 6) → SB b H H' → Q v H'
def RowD (n m : Int) (x : PyData) : Prop := ∃ rs, x = .list rs ∧ (rs.length : Int) = n ∧ ∀ e ∈ rs, entB m e = true ∧ Sd 1 20 e
/-- _law_row(box, signs, states) -/
def spRow (K : PySem.W.Frag) : Sp := fun vs H Q _ => ∃ (b : Addr) (n m d : Int), vs = [.ref b, .int n, .int m] ∧ BoxAt H b d ∧ 1 ≤ n ∧ n ≤ 5 ∧ 1 ≤ m ∧ m ≤ 100 ∧ d + 30 ≤ 1000000 ∧ ∀ v x H', Dz K (Fr H H') v x → RowD n m x → BoxAt H' b (d + 30) → SB b H H' → Q v H'
/-- _law_end(box) -/
def spEnd (K : PySem.W.Frag) : Sp := fun vs H Q _ => ∃ (b : Addr) (d : Int), vs = [.ref b] ∧ BoxAt H b d ∧ d + 5 ≤ 1000000 ∧ ∀ v e H', Dz K H' v e → endB e = true → Sd 0 3 e → BoxAt H' b (d + 5) → SB b H H' → Q v H'
/-- parts of a decoder as data -/
structure PtD (n : Int) (sd ed : PyData) (ds es : List PyData) : Prop where
  n1 : 1 ≤ n
  n5 : n ≤ 5
  eS : sd = .list ds
  eE : ed = .list es
  le : es.length = ds.length
  l1 : 1 ≤ ds.length
  l2 : ds.length ≤ 13
  row : ∀ x ∈ ds, RowD n ds.length x
  en : ∀ e ∈ es, endB e = true ∧ Sd 0 3 e
def PtAt (K : PySem.W.Frag) (H : Hp) (v : V) (n : Int) (sd ed : PyData) : Prop := ∃ p sv ev, v = .ref p ∧ H p = some (.lst [.int n, sv, ev]) ∧ Dz K H sv sd ∧ Dz K H ev ed
theorem PtAt.same {K : PySem.W.Frag} {H H' : Hp} (s : Same H H') {v : V} {n : Int} {sd ed : PyData} (h : PtAt K H v n sd ed) : PtAt K H' v n sd ed := by
  obtain ⟨p, sv, ev, e, h1, h2, h3⟩ := h; exact ⟨p, sv, ev, e, s _ _ h1, h2.same s, h3.same s⟩
/-- _law_parts(box) -/
def spParts (K : PySem.W.Frag) : Sp := fun vs H Q _ => ∃ (b : Addr) (d : Int), vs = [.ref b] ∧ BoxAt H b d ∧ d + 500 ≤ 1000000 ∧ ∀ v n sd ed ds es H', PtAt K (Fr H H') v n sd ed → PtD n sd ed ds es → ds.length ≤ 12 → BoxAt H' b (d + 500) → SB b H H' → Q v H'
theorem RowD.sd {n m : Int} {x : PyData} (h : RowD n m x) (h5 : n ≤ 5) : Sd 2 105 x := by
  obtain ⟨rs, rfl, l, he⟩ := h
  exact (sd_lst fun e h => (he e h).2).mono (by omega) (by have : rs.length ≤ 5 := by omega
                                                           omega)
theorem PtD.s1 {n : Int} {sd ed : PyData} {ds es : List PyData} (h : PtD n sd ed ds es) : Sd 3 1400 sd := by
  rw [h.eS]
  exact (sd_lst fun x hx => (h.row x hx).sd h.n5).mono (by omega) (by have := h.l2; omega)
theorem PtD.s2 {n : Int} {sd ed : PyData} {ds es : List PyData} (h : PtD n sd ed ds es) : Sd 1 52 ed := by
  rw [h.eE]
  exact (sd_lst fun x hx => (h.en x hx).2).mono (by omega) (by have := h.l2; have := h.le; omega)
theorem RowD.row {n m : Int} {x : PyData} (h : RowD n m x) : rowB n x = true ∧ rowEB m x = true := by
  obtain ⟨rs, rfl, l, he⟩ := h
  exact ⟨decide_eq_true l, List.all_eq_true.mpr fun e h => (he e h).1⟩
theorem PtD.stp {n : Int} {sd ed : PyData} {ds es : List PyData} (h : PtD n sd ed ds es) : stpB n sd = true := by
  rw [h.eS]
  simp only [stpB, seqL, Bool.and_eq_true, decide_eq_true_eq, List.all_eq_true]
  exact ⟨⟨⟨h.l1, by have := h.l2; omega⟩, fun x hx => (h.row x hx).row.1⟩, fun x hx => (h.row x hx).row.2⟩
theorem PtD.ens {n : Int} {sd ed : PyData} {ds es : List PyData} (h : PtD n sd ed ds es) : ensB ds.length ed = true := by
  rw [h.eE]
  simp only [ensB, seqL, Bool.and_eq_true, decide_eq_true_eq, List.all_eq_true]
  exact ⟨by rw [h.le], fun e he => (h.en e he).1⟩
theorem PtD.seq {n : Int} {sd ed : PyData} {ds es : List PyData} (h : PtD n sd ed ds es) : seqD sd = ds := by rw [h.eS]; rfl
section
variable {P : Program} {w : World} {K : PySem.W.Frag} {mg : Str → Option Value} {base : Heap} {f : Addr} {fd : FuncData}
theorem ok_lword (F : Fun K "_law_word" "_law_word" s__law_word f fd) (z : Z mg) (c__law_take : Cal P w K mg base "_law_take" ["box", "many"] 1 spTake) : FnOk P w K mg base CX0 2 f fd ["box"] spWordB := by
  refine F.ok sc__law_word (fun vs H Q E h => ?_) (fun cdv A outer s H vs Q E hr h => ?_)
  · obtain ⟨b, d, rfl, _⟩ := h; rfl
  · obtain ⟨b, d, rfl, B, hd, k⟩ := h
    refine ⟨_, (pss_cons (ps_set (i := 1) sc__law_word.nd rfl (.inr rfl) (pe_strS (l := [97, 98, 99, 100, 101, 102, 103, 104, 105, 106, 107, 108, 109, 110, 111, 112, 113, 114, 115, 116, 117, 118, 119, 120, 121, 122]) (by decide +kernel)))
      (pss_one (ps_ret (pe_m1 PySem.F.slot_str_join PySem.F.type_str_join mt_joinS (pe_strS (l := []) (by decide +kernel)) (pe_lc (own := [("turn", 2)]) (g := gName 2) (tt := tYes) rfl sc__law_word.nd (pi_range1 (by rfl) z.range (pa_cons (pe_ix ix_list (pe_lst (pa_cons pe_int (pa_cons pe_int (pa_cons pe_int (pa_cons pe_int (pa_cons pe_int (pa_cons pe_int pa_nil))))))) (pe_cal c__law_take hr (pa_cons (pv 0) (pa_cons pe_int pa_nil))) (fun _ _ => rfl)) pa_nil)) (blkOk_by (own := [("turn", 2)]) (N := n__law_word) (sc := defScope s__law_word) (by decide +kernel)) (fun _ _ _ _ _ => (pg_name (i := 2) sc__law_word.nd rfl (.inl rfl))) (fun _ _ _ _ _ => pts_nil) (fun _ _ _ _ _ => (pe_ix ix_S (pv 1) (pe_cal c__law_take hr (pa_cons (pv 0) (pa_cons pe_int pa_nil))) (fun _ _ => rfl)))))))), ?_⟩
    walk_at "rd"
    refine newL B (Nat.le_of_ble_eq_true rfl) fun p1 H1 B1 s1 e1 t1 => ?_
    walk_at "rd"
    have np1 : p1 ≠ b := fun c => by rw [c, L2.del_same] at e1; cases e1
    refine ⟨b, 6, _, rfl, B1, by omega, by omega, by omega, fun r H2 r0 r1 B2 s2 => ?_⟩
    obtain ⟨m, em, hm⟩ : ∃ m : Nat, ([.int 0, .int 1, .int 2, .int 3, .int 1, .int 3] : List V)[r.toNat]? = some (.int (m : Int)) ∧ m ≤ 3 := by
      have hr : r = 0 ∨ r = 1 ∨ r = 2 ∨ r = 3 ∨ r = 4 ∨ r = 5 := by omega
      rcases hr with rfl | rfl | rfl | rfl | rfl | rfl
      all_goals first | exact ⟨0, rfl, by omega⟩ | exact ⟨1, rfl, by omega⟩ | exact ⟨2, rfl, by omega⟩ | exact ⟨3, rfl, by omega⟩
    refine i_ixLv (s2 _ _ np1 (del_sub _ _ e1)) r0 em ?_
    have s02 : SB b H H2 := (SB.of t1).trans s2
    walk_at "rd"
    refine i_rng (by omega) (by omega) ?_
    rw [Int.toNat_natCast]
    refine go_lc walk_rangeZ (fun p i Hx => p ≠ b ∧ ∃ cs : List Nat, azW cs ∧ cs.length = i ∧ Hx p = some (.lst ((cs.map fun c => [c]).map fun l => V.str (S l))) ∧ BoxAt Hx b (d + 1 + i) ∧ SB b H Hx) (fun p np => ⟨box_ne B2 np, [], nofun, rfl, upd_same, (B2.same (same_upd np)).mono (by simp), s02.trans (SB.of (same_upd np))⟩) (fun _ _ _ _ _ => trivial) (fun p np i v Hx Hy hi q y => ?_) (fun p Hx np q => ?_)
    · obtain ⟨npb, cs, az, lc, ep, Bx, sx⟩ := q
      obtain ⟨rfl, rfl⟩ := y
      walk_at "rd"
      refine ⟨rfl, i_yes (iteT ?_)⟩
      walk_at "rd"
      refine ⟨b, 26, _, rfl, Bx, by omega, by omega, by omega, fun r H3 r0 r1 B3 s3 => ?_⟩
      refine i_ixSI (c := 97 + r.toNat) r0 (az_get (by omega)) (by decide) ?_
      have ep3 := s3 _ _ npb ep
      have hp : H p = none := by
        rcases q : H p with _ | o
        · rfl
        · have := s02 _ _ npb q; rw [np] at this; cases this
      refine ⟨_, ep3, sm_line (by rw [List.length_map, List.length_map]; omega), npb, cs ++ [97 + r.toNat], fun c hc => ?_, by rw [List.length_append, lc]; rfl, by rw [upd_same, List.map_append, List.map_append]; rfl, (B3.upd_ne' npb).mono (by omega), fun a o na ha => ?_⟩
      · rcases List.mem_append.mp hc with hc | hc
        · exact az c hc
        · rw [List.mem_singleton.mp hc]; omega
      · rw [upd_ne (ne_of_none ha hp)]
        exact s3 a o na (sx a o na ha)
    · obtain ⟨npb, cs, az, lc, ep, Bx, sx⟩ := q
      walk_at "rd"
      have fl : (cs.map fun c => [c]).flatten = cs := by
        clear az lc ep
        induction cs with
        | nil => rfl
        | cons c cs ih => rw [List.map_cons, List.flatten_cons, ih]; rfl
      refine i_joinS ep (by rw [fl]; omega) ?_
      rw [fl]
      exact k cs _ az (by omega) (Bx.mono (by omega)) sx
theorem ok_lentry (F : Fun K "_law_entry" "_law_entry" s__law_entry f fd) (z : Z mg) (c__law_take : Cal P w K mg base "_law_take" ["box", "many"] 1 spTake) (c__law_word : Cal P w K mg base "_law_word" ["box"] 2 spWordB) : FnOk P w K mg base CX0 3 f fd ["box", "states"] (spEntry K) := by
  refine F.ok sc__law_entry (fun vs H Q E h => ?_) (fun cdv A outer s H vs Q E hr h => ?_)
  · obtain ⟨b, m, d, rfl, _⟩ := h; rfl
  · obtain ⟨b, m, d, rfl, B, m1, m2, hd, k⟩ := h
    refine ⟨_, (pss_one (ps_ret (pe_ifExp (pt_cmpR op_eq (pe_cal c__law_take hr (pa_cons (pv 0) (pa_cons pe_int pa_nil))) pe_int (nomark _)) pe_non (pe_tup (pa_cons (pe_cal c__law_take hr (pa_cons (pv 0) (pa_cons (pv 1) pa_nil))) (pa_cons (pe_cal c__law_word hr (pa_cons (pv 0) pa_nil)) pa_nil)))))), ?_⟩
    walk_at "rd"
    refine ⟨b, 5, _, rfl, B, by omega, by omega, by omega, fun r H1 r0 r1 B1 s1 => ?_⟩
    walk_at "rd"
    refine iteB (fun c => ?_) (fun c => ?_)
    · walk_at "rd"
      exact k .non .none _ .non rfl (sd_non.mono (by omega) (by omega)) (B1.mono (by omega)) s1
    · walk_at "rd"
      refine ⟨b, m, _, rfl, B1, by omega, by omega, by omega, fun x H2 x0 x1 B2 s2 => ?_⟩
      walk_at "rd"
      refine ⟨b, _, rfl, B2, by omega, fun l H3 az ll B3 s3 => ?_⟩
      walk_at "rd"
      refine newT B3 (Nat.le_of_ble_eq_true rfl) fun t H4 B4 s4 e4 t4 => ?_
      refine k (.ref t) (.tuple [.int x, .str (S l)]) _ (.tup (sqT_of (del_sub _ _ e4)) (.cons (.int _) (.cons (.str _) .nil))) ?_ ?_ (B4.mono (by omega)) (s1.trans (s2.trans (s3.trans (SB.of t4))))
      · simp only [entB, isX, wd_of az ll, Bool.and_true, Bool.and_eq_true, decide_eq_true_eq]; omega
      · exact (sd_tup' (.cons (sd_int9 (by omega)) (.cons ((sd_str (azW_le az)).mono (Nat.le_refl _) ll) .nil))).mono (by omega) (by omega)
theorem ok_lrow (F : Fun K "_law_row" "_law_row" s__law_row f fd) (z : Z mg) (c__law_entry : Cal P w K mg base "_law_entry" ["box", "states"] 3 (spEntry K)) : FnOk P w K mg base CX0 4 f fd ["box", "signs", "states"] (spRow K) := by
  refine F.ok sc__law_row (fun vs H Q E h => ?_) (fun cdv A outer s H vs Q E hr h => ?_)
  · obtain ⟨b, n, m, d, rfl, _⟩ := h; rfl
  · obtain ⟨b, n, m, d, rfl, B, n1, n5, m1, m2, hd, k⟩ := h
    refine ⟨_, (pss_one (ps_ret (pe_lc (own := [("a", 3)]) (g := gName 3) (tt := tYes) rfl sc__law_row.nd (pi_range1 (by rfl) z.range (pa_cons (pv 1) pa_nil)) (blkOk_by (own := [("a", 3)]) (N := n__law_row) (sc := defScope s__law_row) (by decide +kernel)) (fun _ _ _ _ _ => (pg_name (i := 3) sc__law_row.nd rfl (.inl rfl))) (fun _ _ _ _ _ => pts_nil) (fun _ _ _ _ _ => (pe_cal c__law_entry hr (pa_cons (pv 0) (pa_cons (pv 2) pa_nil))))))), ?_⟩
    walk_at "rd"
    refine i_rng (by omega) (by omega) ?_
    refine go_dr (K := K) walk_rangeZ B (c := 6) (by omega) (by omega) (fun i e => entB m e = true ∧ Sd 1 20 e) (fun _ _ => trivial) (fun i x Hx Hy hi sx Bx y R hR => ?_) mono_name (fun p ws ds Hx np npb l hP ep D Bx sx => ?_)
    · obtain ⟨rfl, rfl⟩ := y
      walk_at "rd"
      refine ⟨rfl, ?_⟩
      walk_at "rd"
      exact ⟨b, m, _, rfl, Bx, m1, m2, by omega, fun v e H4 De he Se B4 s4 => hR v e H4 (De.fr (ent_flat he)) ⟨he, Se⟩ B4 s4⟩
    · walk_at "rd"
      refine k (.ref p) (.list ds) _ (.lst (fr_at ep (.inr np)) (D.same (Fr.weak fun a ea => ?_))) ⟨ds, rfl, by rw [l]; omega, fun e he => ?_⟩ (Bx.mono (by omega)) sx
      · by_cases c : a = p
        · rw [c, upd_same] at ea; cases ea
        · rwa [upd_ne c] at ea
      · obtain ⟨i, hi⟩ := List.getElem?_of_mem he
        exact hP i e hi
theorem ok_lend (F : Fun K "_law_end" "_law_end" s__law_end f fd) (z : Z mg) (c__law_take : Cal P w K mg base "_law_take" ["box", "many"] 1 spTake) (c__law_word : Cal P w K mg base "_law_word" ["box"] 2 spWordB) : FnOk P w K mg base CX0 3 f fd ["box"] (spEnd K) := by
  refine F.ok sc__law_end (fun vs H Q E h => ?_) (fun cdv A outer s H vs Q E hr h => ?_)
  · obtain ⟨b, d, rfl, _⟩ := h; rfl
  · obtain ⟨b, d, rfl, B, hd, k⟩ := h
    refine ⟨_, (pss_one (ps_ret (pe_ifExp (pt_cmpR op_eq (pe_cal c__law_take hr (pa_cons (pv 0) (pa_cons pe_int pa_nil))) pe_int (nomark _)) pe_non (pe_cal c__law_word hr (pa_cons (pv 0) pa_nil))))), ?_⟩
    walk_at "rd"
    refine ⟨b, 3, _, rfl, B, by omega, by omega, by omega, fun r H1 r0 r1 B1 s1 => ?_⟩
    walk_at "rd"
    refine iteB (fun c => ?_) (fun c => ?_)
    · walk_at "rd"
      exact k .non .none _ .non rfl (sd_non.mono (by omega) (by omega)) (B1.mono (by omega)) s1
    · walk_at "rd"
      refine ⟨b, _, rfl, B1, by omega, fun l H3 az ll B3 s3 => ?_⟩
      exact k _ (.str (S l)) _ (.str _) (wd_of az ll) ((sd_str (azW_le az)).mono (Nat.le_refl _) ll) (B3.mono (by omega)) (s1.trans s3)
theorem ok_lparts (F : Fun K "_law_parts" "_law_parts" s__law_parts f fd) (z : Z mg) (c__law_take : Cal P w K mg base "_law_take" ["box", "many"] 1 spTake) (c__law_row : Cal P w K mg base "_law_row" ["box", "signs", "states"] 4 (spRow K)) (c__law_end : Cal P w K mg base "_law_end" ["box"] 3 (spEnd K)) : FnOk P w K mg base CX0 5 f fd ["box"] (spParts K) := by
  refine F.ok sc__law_parts (fun vs H Q E h => ?_) (fun cdv A outer s H vs Q E hr h => ?_)
  · obtain ⟨b, d, rfl, _⟩ := h; rfl
  · obtain ⟨b, d, rfl, B, hd, k⟩ := h
    refine ⟨_, (pss_cons (ps_asg (pe_tup (pa_cons (pe_op op_add pe_int (pe_cal c__law_take hr (pa_cons (pv 0) (pa_cons pe_int pa_nil)))) (pa_cons (pe_ix ix_list (pe_lst (pa_cons pe_int (pa_cons pe_int (pa_cons pe_int (pa_cons pe_int (pa_cons pe_int (pa_cons pe_int pa_nil))))))) (pe_cal c__law_take hr (pa_cons (pv 0) (pa_cons pe_int pa_nil))) (fun _ _ => rfl)) pa_nil))) (pg_tup rfl (pgs_cons (pg_name (i := 1) sc__law_parts.nd rfl (.inr rfl)) (pgs_cons (pg_name (i := 2) sc__law_parts.nd rfl (.inr rfl)) pgs_nil))))
      (pss_cons (ps_setLc (i := 3) (own := [("state", 4)]) (g := gName 4) (tt := tYes) rfl sc__law_parts.nd rfl rfl (sw_true rfl rfl rfl (by decide +kernel)) (pi_range1 (by rfl) z.range (pa_cons (pv 2) pa_nil)) (blkOk_by (own := [("state", 4)]) (N := n__law_parts) (sc := defScope s__law_parts) (by decide +kernel)) (fun _ _ _ _ _ => (pg_name (i := 4) sc__law_parts.nd rfl (.inl rfl))) (fun _ _ _ _ _ => pts_nil) (fun _ _ _ _ _ => (pe_cal c__law_row hr (pa_cons (pv 0) (pa_cons (pv 1) (pa_cons (pv 2) pa_nil))))))
      (pss_one (ps_ret (pe_lst (pa_cons (pv 1) (pa_cons (pv 3) (pa_cons (pe_lc (own := [("state", 4)]) (g := gName 4) (tt := tYes) rfl sc__law_parts.nd (pi_range1 (by rfl) z.range (pa_cons (pv 2) pa_nil)) (blkOk_by (own := [("state", 4)]) (N := n__law_parts) (sc := defScope s__law_parts) (by decide +kernel)) (fun _ _ _ _ _ => (pg_name (i := 4) sc__law_parts.nd rfl (.inl rfl))) (fun _ _ _ _ _ => pts_nil) (fun _ _ _ _ _ => (pe_cal c__law_end hr (pa_cons (pv 0) pa_nil)))) pa_nil)))))))), ?_⟩
    walk_at "rd"
    refine ⟨b, 5, _, rfl, B, by omega, by omega, by omega, fun r H1 r0 r1 B1 s1 => ?_⟩
    walk_at "rd"
    refine newL B1 (Nat.le_of_ble_eq_true rfl) fun p1 H2 B2 s2 e2 t2 => ?_
    have np1 : p1 ≠ b := fun c => by rw [c, L2.del_same] at e2; cases e2
    walk_at "rd"
    refine ⟨b, 6, _, rfl, B2, by omega, by omega, by omega, fun x H3 x0 x1 B3 s3 => ?_⟩
    obtain ⟨m, em, m1, m2⟩ : ∃ m : Nat, ([.int 1, .int 2, .int 3, .int 5, .int 11, .int 12] : List V)[x.toNat]? = some (.int (m : Int)) ∧ 1 ≤ m ∧ m ≤ 12 := by
      have hr : x = 0 ∨ x = 1 ∨ x = 2 ∨ x = 3 ∨ x = 4 ∨ x = 5 := by omega
      rcases hr with rfl | rfl | rfl | rfl | rfl | rfl
      all_goals first | exact ⟨1, rfl, by omega⟩ | exact ⟨2, rfl, by omega⟩ | exact ⟨3, rfl, by omega⟩ | exact ⟨5, rfl, by omega⟩ | exact ⟨11, rfl, by omega⟩ | exact ⟨12, rfl, by omega⟩
    refine i_ixLv (s3 _ _ np1 (del_sub _ _ e2)) x0 em ?_
    have s03 : SB b H H3 := s1.trans ((SB.of t2).trans s3)
    walk_at "rd"
    refine newT B3 (Nat.le_of_ble_eq_true rfl) fun t H4 B4 s4 e4 t4 => ?_
    have s04 := s03.trans (SB.of t4)
    refine ⟨t, _, rfl, sqT_of (del_sub _ _ e4), rfl, ?_⟩
    walk_at "rd"
    refine i_rng (by omega) (by omega) ?_
    rw [Int.toNat_natCast]
    refine go_dr (K := K) walk_rangeZ B4 (c := 30) (by omega) (by omega) (fun i e => RowD (1 + r) m e) (fun _ _ => trivial) (fun i x Hx Hy hi sx Bx y R hR => ?_) mono_name (fun sp ws ds H5 nsp nspb l hP ep D5 B5 s5 => ?_)
    · obtain ⟨rfl, rfl⟩ := y
      walk_at "rd"
      refine ⟨rfl, ?_⟩
      walk_at "rd"
      exact ⟨b, _, _, _, rfl, Bx, by omega, by omega, by omega, by omega, by omega, fun v e H4 De he B4 s4 => hR v e H4 De he B4 s4⟩
    have s05 := s04.trans s5
    walk_at "rd"
    refine i_rng (by omega) (by omega) ?_
    rw [Int.toNat_natCast]
    refine go_dr (K := K) walk_rangeZ B5 (c := 5) (by omega) (by omega) (fun i e => endB e = true ∧ Sd 0 3 e) (fun _ _ => trivial) (fun i x Hx Hy hi sx Bx y R hR => ?_) mono_name (fun np vs es H6 nnp nnpb le hE en D6 B6 s6 => ?_)
    · obtain ⟨rfl, rfl⟩ := y
      walk_at "rd"
      refine ⟨rfl, ?_⟩
      walk_at "rd"
      exact ⟨b, _, rfl, Bx, by omega, fun v e H4 De he Se B4 s4 => hR v e H4 (De.fr (end_flat he)) ⟨he, Se⟩ B4 s4⟩
    walk_at "rd"
    refine ⟨Nat.le_of_ble_eq_true rfl, fun pp npp => ?_⟩
    obtain ⟨_, _, _, _, hb5, _⟩ := B5.ex
    obtain ⟨_, _, _, _, hb6, _⟩ := B6.ex
    obtain ⟨_, _, _, _, hb4, _⟩ := B4.ex
    obtain ⟨_, _, _, _, hb0, _⟩ := B.ex
    have hp0 : ∀ p, H4 p = none → H p = none := fun p e => s04.dom hb4 p e
    have dom4 : ∀ a, upd H4 sp (.lst []) a = none → H a = none := fun a ea => by
      by_cases c : a = sp
      · rw [c, upd_same] at ea; cases ea
      · rw [upd_ne c] at ea; exact hp0 a ea
    have dom5 : ∀ a, upd H5 np (.lst []) a = none → H a = none := fun a ea => by
      by_cases c : a = np
      · rw [c, upd_same] at ea; cases ea
      · rw [upd_ne c] at ea; exact s05.dom hb5 a ea
    have s7 := same_upd (o := .lst [.int (1 + r), .ref sp, .ref np]) npp
    have k6 : Kept H H5 H6 := Kept.sb hb5 (by rw [hb0]; simp) s6
    have k7 : Same (Fr H H5) (Fr H (upd H6 pp (.lst [.int (1 + r), .ref sp, .ref np]))) := (Fr.kept k6).trans (Fr.kept (Kept.of s7))
    have S5 : Dz K (Fr H H5) (.ref sp) (.list ds) := .lst (fr_at ep (.inr (hp0 sp nsp))) (D5.same (Fr.weak dom4))
    have E6 : Dz K (Fr H H6) (.ref np) (.list es) := .lst (fr_at en (.inr (s05.dom hb5 np nnp))) (D6.same (Fr.weak dom5))
    have s06 := s05.trans s6
    refine k (.ref pp) (1 + r) (.list ds) (.list es) ds es _ ⟨pp, .ref sp, .ref np, rfl, fr_at upd_same (.inr (s06.dom hb6 pp npp)), S5.same k7, E6.same (Fr.kept (Kept.of s7))⟩ ⟨by omega, by omega, rfl, rfl, by omega, by omega, by omega, fun y hy => ?_, fun y hy => ?_⟩ (by omega) ((B6.same s7).mono (by omega)) (s06.trans (SB.of s7))
    · obtain ⟨i, hi⟩ := List.getElem?_of_mem hy
      rw [l]; exact hP i y hi
    · obtain ⟨i, hi⟩ := List.getElem?_of_mem hy
      exact hE i y hi
end
end Sw
namespace Sw
open PySem PySem.Spec PyProof.Rows L2
local macro_rules | `(tactic| walk_at "hp") => `(tactic| first
  | (with_reducible assumption) | (with_reducible exact upd_same)
  | ((with_reducible refine' upd_old ?q1 ?q2); (case q1 => (with_reducible assumption)); (case q2 => walk_at "hp"))
  | ((with_reducible refine' Same.at ?q1 ?q2); (case q1 => (with_reducible assumption)); (case q2 => walk_at "hp"))
  | ((with_reducible refine' upd_skip ?q1 ?q2); (case q1 => walk_at "ne"); (case q2 => walk_at "hp"))
  | fail)
local macro_rules | `(tactic| walk_at "ne") => `(tactic| first
  | (with_reducible assumption) | (with_reducible exact Ne.symm (by assumption))
  | ((with_reducible refine' ne_of_none ?q1 ?q2); (case q2 => (with_reducible assumption)); (case q1 => walk_at "hp"))
  | fail)
local macro_rules | `(tactic| walk_at "ci") => `(tactic| first | assumption | (show (0 : Int) < _; first | decide | (with_reducible omega)) | exact ⟨by decide, by decide⟩ | exact .inl ⟨by decide, by decide⟩ | exact .inr ⟨by decide, by decide⟩)
local macro_rules | `(tactic| walk_at "ln") => `(tactic| first | (with_reducible assumption) | (with_reducible omega) | (simp only [List.length_append, List.length_take, List.length_drop, List.length_reverse, List.length_cons, List.length_nil]; with_reducible omega))
local macro_rules | `(tactic| walk_at "rd1") => `(tactic| first
  | (with_reducible refine i_seq ?_) | (with_reducible refine i_asg ?_) | (with_reducible refine i_ret ?_) | (with_reducible refine i_name ?_) | ((with_reducible refine' i_var ?q1 ?_); (case q1 => exact rfl)) | (with_reducible refine i_c ?_) | (with_reducible refine i_op ?_) | (with_reducible refine i_un ?_)
  | (with_reducible refine i_rI0 ?_) | (with_reducible refine i_cb ?_) | (with_reducible refine i_cons ?_) | (with_reducible refine i_nil ?_) | (with_reducible refine i_call ?_) | (with_reducible refine i_if ?_) | (with_reducible refine i_ifE ?_) | (with_reducible refine i_test ?_) | (with_reducible refine i_bl ?_)
  | (with_reducible refine i_and ?_) | (with_reducible refine i_or ?_) | (with_reducible refine i_not ?_) | (with_reducible refine i_lstM ?_) | (with_reducible refine i_lstLM ?_) | (with_reducible refine i_tupM ?_) | (with_reducible refine i_next ?_) | (with_reducible refine i_drop ?_) | (with_reducible refine i_sub ?_)
  | (with_reducible refine i_bm ?_) | (with_reducible refine i_sl ?_) | (with_reducible refine i_part ?_) | (with_reducible refine i_nopart ?_) | (with_reducible refine i_exI ?_) | (with_reducible refine i_chain ?_) | ((with_reducible refine' i_aug ?q1 ?_); (case q1 => exact rfl)) | (with_reducible refine i_ip ?_)
  | (with_reducible refine i_par ?_) | (with_reducible refine i_pair ?_) | (with_reducible refine i_andV ?_) | (with_reducible refine i_orV ?_) | (with_reducible refine i_notV ?_) | (with_reducible refine i_m1 ?_) | (with_reducible refine i_str ?_)
  | (with_reducible refine iteF ?_) | (with_reducible refine iteT ?_) | (with_reducible refine iteNT ?_) | (with_reducible refine iteNF ?_) | (with_reducible refine i_tyS ?_) | (with_reducible refine i_tB ?_) | (with_reducible refine i_retN ?_) | (with_reducible refine i_par3 ?_) | (with_reducible refine i_trip ?_) | (with_reducible refine i_gCons ?_) | (with_reducible refine i_gNil ?_) | (with_reducible refine i_lstRg ?_) | (with_reducible refine i_rg1 ?_)
  | (with_reducible refine i_lc ?_) | (with_reducible refine i_for ?_) | (with_reducible refine i_iList ?_) | (with_reducible refine i_iTup ?_) | (with_reducible refine i_iStr ?_) | (with_reducible refine i_iRng1 ?_) | (with_reducible refine i_iEnS ?_)
  | ((with_reducible refine' i_ixTH ?q1 ?q2 ?_); (case q1 => walk_at "hp"); (case q2 => exact rfl))
  | ((with_reducible refine' i_ixLH ?q1 ?q2 ?_); (case q1 => walk_at "hp"); (case q2 => exact rfl))
  | ((with_reducible refine i_addS ?q1 ?_); (case q1 => walk_at "ln")) | ((with_reducible refine i_lenSS ?q1 ?_); (case q1 => walk_at "ln")) | ((with_reducible refine i_slFrom ?q1 ?q2 ?_); (case q1 => walk_at "ln"); (case q2 => walk_at "ln")) | ((with_reducible refine i_slTo ?q1 ?q2 ?_); (case q1 => walk_at "ln"); (case q2 => walk_at "ln"))
  | ((with_reducible refine' i_tyL ?q1 ?_); (case q1 => walk_at "hp"))
  | ((with_reducible refine' i_gTupH ?q1 ?q2 ?_); (case q1 => walk_at "hp"); (case q2 => exact rfl))
  | (with_reducible refine i_dnewM ?_) | (with_reducible refine i_init ?_) | (with_reducible refine i_fst ?_) | (with_reducible refine i_mk ?_) | (with_reducible refine i_raise ?_) | (with_reducible refine i_callS ?_) | (with_reducible refine i_kwS ?_)
  | (with_reducible refine i_revT ?_) | (with_reducible refine i_kw ?_) | ((with_reducible refine' ⟨_, _, rfl, sqT_of ?q1, ?_⟩); (case q1 => walk_at "hp"))
  | (with_reducible refine i_revS ?_) | ((with_reducible refine i_revSS ?q1 ?_); (case q1 => walk_at "ln"))
  | (with_reducible refine i_startS ?_) | (with_reducible refine i_inSg ?_) | (with_reducible refine i_absN ?_) | (with_reducible refine i_min2 ?_) | (with_reducible refine i_max2 ?_) | (with_reducible refine i_min3 ?_) | (with_reducible refine i_intN ?_) | (with_reducible refine i_intNB ?_)
  | ((with_reducible refine' i_lenL ?q1 ?_); (case q1 => walk_at "hp")) | ((with_reducible refine' i_lenT ?q1 ?_); (case q1 => walk_at "hp"))
  | (with_reducible refine i_eqI ?_) | (with_reducible refine i_neI ?_) | (with_reducible refine i_eqS ?_) | (with_reducible refine i_neS ?_) | (with_reducible refine i_isNoI ?_) | (with_reducible refine i_isNoN ?_) | (with_reducible refine i_isNoR ?_)
  | ((with_reducible refine i_pow ?q1 ?q2 ?q3 ?_); (case q1 => decide); (case q2 => decide); (case q3 => (with_reducible omega)))
  | ((with_reducible refine i_rI ?q1 ?_); (case q1 => walk_at "ci"))
  | (with_reducible refine Or.inl ⟨_, rfl, ?_⟩) | (with_reducible refine Or.inr ⟨_, rfl, ?_⟩) | (with_reducible refine ⟨_, rfl, ?_⟩) | (with_reducible refine ⟨_, _, rfl, ?_⟩) | (with_reducible refine ⟨_, _, rfl, rfl, ?_⟩)
  | ((with_reducible refine' ⟨_, _, rfl, Or.inl (sqL_of ?q1), ?_⟩); (case q1 => walk_at "hp")) | ((with_reducible refine' ⟨_, _, rfl, Or.inr (sqT_of ?q1), ?_⟩); (case q1 => walk_at "hp")) | (with_reducible refine i_dget ?_) | (with_reducible refine i_disp1T ?_) | (with_reducible refine i_dcT ?_) | (with_reducible refine i_dnewT ?_) | (with_reducible refine i_fld ?_) | (with_reducible refine i_sFld ?_) | (with_reducible refine i_make ?_) | (with_reducible refine i_meth ?_) | (with_reducible refine i_star ?_) | (with_reducible refine i_isNoS ?_) | (with_reducible refine i_lc2 ?_) | fail)
local macro_rules | `(tactic| walk_at "rd") => `(tactic| repeat' walk_at "rd1")

theorem cut_m1 (l : List Nat) : cut l none (some (-1)) = l.dropLast := by
  unfold cut
  rw [HT.sIx_none, List.drop_zero, Nat.sub_zero, List.dropLast_eq_take]
  congr 1
  unfold HT.sIx
  dsimp only
  rw [if_pos (by decide)]
  omega
theorem call_list_ofB {X : Cx} {K : PySem.W.Frag} (e : X.K = K) : CallR X (.type "list") (fun xs H Q => ∃ p ys, xs = [V.ref p] ∧ (SqL K H p ys ∨ SqT K H p ys) ∧ ∀ l, H l = none → Q (.ref l) (upd H l (.lst ys))) := by
  subst e
  exact call_list_of
/-- rows handed in as lists or tuples of the same entries -/
theorem same_rows {ds ds' : List PyData} (l : ds'.length = ds.length) (h : ∀ (i : Nat) (e : PyData), ds'[i]? = some e → ∃ rs : List PyData, ds[i]? = some (PyData.list rs) ∧ (e = PyData.list rs ∨ e = PyData.tuple rs)) : ds'.map tup1 = ds.map tup1 ∧ ∀ e ∈ ds', ∃ rs : List PyData, PyData.list rs ∈ ds ∧ (e = PyData.list rs ∨ e = PyData.tuple rs) := by
  refine ⟨?_, fun e he => ?_⟩
  · apply List.ext_getElem?
    intro i
    rw [List.getElem?_map, List.getElem?_map]
    rcases q : ds'[i]? with _ | e
    · rw [List.getElem?_eq_none (by rw [← l]; exact List.getElem?_eq_none_iff.mp q)]
    · obtain ⟨rs, e1, rfl | rfl⟩ := h i e q <;> rw [e1] <;> rfl
  · obtain ⟨i, hi⟩ := List.getElem?_of_mem he
    obtain ⟨rs, e1, e2⟩ := h i e hi
    exact ⟨rs, List.mem_of_getElem? e1, e2⟩
/-- _law_listed(box, rows) -/
def spListed (K : PySem.W.Frag) : Sp := fun vs H Q _ => ∃ (b : Addr) (d : Int) (v : V) (n m : Int) (ds : List PyData), vs = [.ref b, v] ∧ BoxAt H b d ∧ Dz K (L2.del H b) v (.list ds) ∧ ds.length ≤ 20 ∧ (∀ x ∈ ds, RowD n m x) ∧ n ≤ 5 ∧ d + 50 ≤ 1000000 ∧
  ∀ v' d' ds' H', Dz K H' v' d' → seqL d' = some ds' → ds'.length = ds.length → ds'.map tup1 = ds.map tup1 → (∀ e ∈ ds', ∃ rs : List PyData, PyData.list rs ∈ ds ∧ (e = PyData.list rs ∨ e = PyData.tuple rs)) → BoxAt H' b (d + 50) → SB b H H' → Q v' H'
/-- _law_plain_rows(rows) -/
def spPlain (K : PySem.W.Frag) : Sp := fun vs H Q _ => ∃ (v : V) (ds : List PyData), vs = [v] ∧ Dz K H v (.list ds) ∧ ds.length ≤ 20 ∧ (∀ x ∈ ds, ∃ rs, x = .list rs ∧ flatTs rs = true) ∧ ∀ v' H', Dz K H' v' (.tuple (ds.map tup1)) → Same H H' → Q v' H'
theorem RowD.flat {n m : Int} {x : PyData} (h : RowD n m x) : ∃ rs, x = .list rs ∧ flatTs rs = true := by
  obtain ⟨rs, rfl, l, he⟩ := h
  exact ⟨rs, rfl, flatTs_all fun e he' => ent_flat (he e he').1⟩
section
variable {P : Program} {w : World} {K : PySem.W.Frag} {mg : Str → Option Value} {base : Heap} {f : Addr} {fd : FuncData}
theorem ok_plain (F : Fun K "_law_plain_rows" "_law_plain_rows" s__law_plain_rows f fd) (z : Z mg) : FnOk P w K mg base CX0 1 f fd ["rows"] (spPlain K) := by
  refine F.ok sc__law_plain_rows (fun vs H Q E h => ?_) (fun cdv A outer s H vs Q E hr h => ?_)
  · obtain ⟨v, ds, rfl, _⟩ := h; rfl
  · obtain ⟨v, ds, rfl, hx, l2, hrow, k⟩ := h
    refine ⟨_, (pss_one (ps_ret (pe_callTy call_tuple_of (by rfl) z.tuple (by decide +kernel) (pa_cons (pe_lc (own := [("row", 1)]) (g := gName 1) (tt := tYes) rfl sc__law_plain_rows.nd (pi_list (pv 0)) (blkOk_by (own := [("row", 1)]) (N := n__law_plain_rows) (sc := defScope s__law_plain_rows) (by decide +kernel)) (fun _ _ _ _ _ => (pg_name (i := 1) sc__law_plain_rows.nd rfl (.inl rfl))) (fun _ _ _ _ _ => pts_nil) (fun _ _ _ _ _ => (pe_callTy (call_tuple_ofB (K := K) rfl) (by rfl) z.tuple (by decide +kernel) (pa_cons (pv 1) pa_nil)))) pa_nil)))), ?_⟩
    obtain ⟨a, xs, rfl, ha, hxs⟩ := hx.lstI
    have lx := hxs.len
    walk_at "rd"
    refine ⟨⟨_, sqL_of ha⟩, ?_⟩
    refine go_nw (K := K) (walk_list (xs := xs)) (by omega) (fun i e => ∃ x, ds[i]? = some x ∧ e = tup1 x) (fun H s => sqL_of (s _ _ ha)) (fun i v Hx Hy hi sx y R hR => ?_) mono_name (fun p ws es H6 np le hE ep D6 s6 => ?_)
    · obtain ⟨rfl, hv⟩ := y
      obtain ⟨dr, gr, hdr⟩ := hxs.get hv
      have hdr := hdr.same sx
      obtain ⟨rs, rfl, fl⟩ := hrow dr (List.mem_of_getElem? gr)
      obtain ⟨q, ys, rfl, hq, hys⟩ := hdr.lstI
      walk_at "rd"
      refine ⟨rfl, ?_⟩
      walk_at "rd"
      refine ⟨q, ys, rfl, .inl ⟨sqL_of hq, fun t nt => ?_⟩⟩
      refine hR _ (tup1 (.list rs)) _ (.tup (fr_sqT (sqT_of upd_same)) ((hys.same (same_upd nt)).fr fl)) ⟨_, gr, rfl⟩ (same_upd nt)
    · walk_at "rd"
      have ee : es = ds.map tup1 := by
        apply List.ext_getElem?
        intro i
        rw [List.getElem?_map]
        rcases q : es[i]? with _ | e
        · rw [List.getElem?_eq_none (by have := List.getElem?_eq_none_iff.mp q; omega)]; rfl
        · obtain ⟨x, e1, rfl⟩ := hE i e q; rw [e1]; rfl
      refine ⟨p, ws, rfl, .inl ⟨sqL_of ep, fun t nt => ?_⟩⟩
      refine k _ _ (.tup (sqT_of upd_same) ?_) (s6.trans (same_upd nt))
      rw [← ee]
      exact (D6.same fr_sub).same (same_upd nt)
theorem ok_listed (F : Fun K "_law_listed" "_law_listed" s__law_listed f fd) (z : Z mg) (c__law_take : Cal P w K mg base "_law_take" ["box", "many"] 1 spTake) : FnOk P w K mg base CX0 2 f fd ["box", "rows"] (spListed K) := by
  refine F.ok sc__law_listed (fun vs H Q E h => ?_) (fun cdv A outer s H vs Q E hr h => ?_)
  · obtain ⟨b, d, v, n, m, ds, rfl, _⟩ := h; rfl
  · obtain ⟨b, d, v, n, m, ds, rfl, B, hx, l2, hrow, n5, hd, k⟩ := h
    refine ⟨_, (pss_cons (ps_setLc (i := 2) (own := [("row", 3)]) (g := gName 3) (tt := tYes) rfl sc__law_listed.nd rfl rfl (sw_true rfl rfl rfl (by decide +kernel)) (pi_list (pv 1)) (blkOk_by (own := [("row", 3)]) (N := n__law_listed) (sc := defScope s__law_listed) (by decide +kernel)) (fun _ _ _ _ _ => (pg_name (i := 3) sc__law_listed.nd rfl (.inl rfl))) (fun _ _ _ _ _ => pts_nil) (fun _ _ _ _ _ => (pe_ifExp (pt_cmpR op_eq (pe_cal c__law_take hr (pa_cons (pv 0) (pa_cons pe_int pa_nil))) pe_int (nomark _)) (pe_callTy (call_list_ofB (K := K) rfl) (by rfl) z.list (by decide +kernel) (pa_cons (pv 3) pa_nil)) (pe_callTy (call_tuple_ofB (K := K) rfl) (by rfl) z.tuple (by decide +kernel) (pa_cons (pv 3) pa_nil)))))
      (pss_one (ps_ret (pe_ifExp (pt_cmpR op_eq (pe_cal c__law_take hr (pa_cons (pv 0) (pa_cons pe_int pa_nil))) pe_int (nomark _)) (pv 2) (pe_callTy call_tuple_of (by rfl) z.tuple (by decide +kernel) (pa_cons (pv 2) pa_nil)))))), ?_⟩
    obtain ⟨a, xs, rfl, ha, hxs⟩ := hx.lstI
    have lx := hxs.len
    have ab : a ≠ b := fun c => by rw [c, L2.del_same] at ha; cases ha
    have ha := del_sub _ _ ha
    walk_at "rd"
    refine ⟨⟨_, sqL_of ha⟩, ?_⟩
    refine go_dr (K := K) (walk_list (xs := xs)) B (c := 1) (by omega) (by omega) (fun i e => ∃ rs : List PyData, ds[i]? = some (PyData.list rs) ∧ (e = PyData.list rs ∨ e = PyData.tuple rs)) (fun H s => sqL_of (s _ _ ab ha)) (fun i v Hx Hy hi sx Bx y R hR => ?_) mono_name (fun p ws es Hx np npb le hE ep D6 B6 s6 => ?_)
    · obtain ⟨rfl, hv⟩ := y
      obtain ⟨dr, gr, hdr⟩ := hxs.get hv
      obtain ⟨rs, rfl, fl⟩ := (hrow dr (List.mem_of_getElem? gr)).flat
      walk_at "rd"
      refine ⟨rfl, ?_⟩
      walk_at "rd"
      refine ⟨b, 2, _, rfl, Bx, by omega, by omega, by omega, fun r H1 r0 r1 B1 s1 => ?_⟩
      have hdr := hdr.same ((del_sb sx).trans (del_sb s1))
      obtain ⟨q, ys, rfl, hq, hys⟩ := (hdr.same del_sub).lstI
      walk_at "rd"
      refine iteB (fun c => ?_) (fun c => ?_)
      · walk_at "rd"
        intro t nt
        refine hR _ (.list rs) _ (.lst (fr_at upd_same (.inr ?_)) ((hys.same (same_upd nt)).fr fl)) ⟨rs, gr, .inl rfl⟩ ((B1.same (same_upd nt)).mono (by omega)) (s1.trans (SB.of (same_upd nt)))
        obtain ⟨_, _, _, _, hb1, _⟩ := B1.ex
        exact s1.dom hb1 t nt
      · walk_at "rd"
        refine ⟨q, ys, rfl, .inl ⟨sqL_of hq, fun t nt => ?_⟩⟩
        exact hR _ (.tuple rs) _ (.tup (fr_sqT (sqT_of upd_same)) ((hys.same (same_upd nt)).fr fl)) ⟨rs, gr, .inr rfl⟩ ((B1.same (same_upd nt)).mono (by omega)) (s1.trans (SB.of (same_upd nt)))
    · obtain ⟨h1, h2⟩ := same_rows (ds := ds) (ds' := es) (by omega) hE
      have D6' := D6
      have D6 := D6.same fr_sub
      walk_at "rd"
      refine ⟨b, 2, _, rfl, B6, by omega, by omega, by omega, fun r H1 r0 r1 B1 s1 => ?_⟩
      have D1 : DzAll K H1 ws es := by
        obtain ⟨_, _, _, _, hb6, _⟩ := B6.ex
        obtain ⟨_, _, _, _, hb0, _⟩ := B.ex
        exact (D6'.same (Fr.kept (Kept.sb hb6 (by rw [upd_ne (Ne.symm npb), hb0]; simp) s1))).same fr_sub
      have ep1 := s1 _ _ npb ep
      walk_at "rd"
      refine iteB (fun c => ?_) (fun c => ?_)
      · walk_at "rd"
        exact k _ _ es _ (.lst ep1 D1) rfl (by omega) h1 h2 (B1.mono (by omega)) (s6.trans s1)
      · walk_at "rd"
        refine ⟨p, ws, rfl, .inl ⟨sqL_of ep1, fun t nt => ?_⟩⟩
        exact k _ _ es _ (.tup (sqT_of upd_same) (D1.same (same_upd nt))) rfl (by omega) h1 h2 ((B1.same (same_upd nt)).mono (by omega)) ((s6.trans s1).trans (SB.of (same_upd nt)))
end
end Sw
namespace Sw
open PySem PySem.Spec PyProof.Rows L2
local macro_rules | `(tactic| walk_at "hp") => `(tactic| first
  | (with_reducible assumption) | (with_reducible exact upd_same)
  | ((with_reducible refine' upd_old ?q1 ?q2); (case q1 => (with_reducible assumption)); (case q2 => walk_at "hp"))
  | ((with_reducible refine' Same.at ?q1 ?q2); (case q1 => (with_reducible assumption)); (case q2 => walk_at "hp"))
  | ((with_reducible refine' upd_skip ?q1 ?q2); (case q1 => walk_at "ne"); (case q2 => walk_at "hp"))
  | fail)
local macro_rules | `(tactic| walk_at "ne") => `(tactic| first
  | (with_reducible assumption) | (with_reducible exact Ne.symm (by assumption))
  | ((with_reducible refine' ne_of_none ?q1 ?q2); (case q2 => (with_reducible assumption)); (case q1 => walk_at "hp"))
  | fail)
local macro_rules | `(tactic| walk_at "ci") => `(tactic| first | assumption | (show (0 : Int) < _; first | decide | (with_reducible omega)) | exact ⟨by decide, by decide⟩ | exact .inl ⟨by decide, by decide⟩ | exact .inr ⟨by decide, by decide⟩)
local macro_rules | `(tactic| walk_at "ln") => `(tactic| first | (with_reducible assumption) | (with_reducible omega) | (simp only [List.length_append, List.length_take, List.length_drop, List.length_reverse, List.length_cons, List.length_nil]; with_reducible omega))
local macro_rules | `(tactic| walk_at "rd1") => `(tactic| first
  | (with_reducible refine i_seq ?_) | (with_reducible refine i_asg ?_) | (with_reducible refine i_ret ?_) | (with_reducible refine i_name ?_) | ((with_reducible refine' i_var ?q1 ?_); (case q1 => exact rfl)) | (with_reducible refine i_c ?_) | (with_reducible refine i_op ?_) | (with_reducible refine i_un ?_)
  | (with_reducible refine i_rI0 ?_) | (with_reducible refine i_cb ?_) | (with_reducible refine i_cons ?_) | (with_reducible refine i_nil ?_) | (with_reducible refine i_call ?_) | (with_reducible refine i_if ?_) | (with_reducible refine i_ifE ?_) | (with_reducible refine i_test ?_) | (with_reducible refine i_bl ?_)
  | (with_reducible refine i_and ?_) | (with_reducible refine i_or ?_) | (with_reducible refine i_not ?_) | (with_reducible refine i_lstM ?_) | (with_reducible refine i_lstLM ?_) | (with_reducible refine i_tupM ?_) | (with_reducible refine i_next ?_) | (with_reducible refine i_drop ?_) | (with_reducible refine i_sub ?_)
  | (with_reducible refine i_bm ?_) | (with_reducible refine i_sl ?_) | (with_reducible refine i_part ?_) | (with_reducible refine i_nopart ?_) | (with_reducible refine i_exI ?_) | (with_reducible refine i_chain ?_) | ((with_reducible refine' i_aug ?q1 ?_); (case q1 => exact rfl)) | (with_reducible refine i_ip ?_)
  | (with_reducible refine i_par ?_) | (with_reducible refine i_pair ?_) | (with_reducible refine i_andV ?_) | (with_reducible refine i_orV ?_) | (with_reducible refine i_notV ?_) | (with_reducible refine i_m1 ?_) | (with_reducible refine i_str ?_)
  | (with_reducible refine iteF ?_) | (with_reducible refine iteT ?_) | (with_reducible refine iteNT ?_) | (with_reducible refine iteNF ?_) | (with_reducible refine i_tyS ?_) | (with_reducible refine i_tB ?_) | (with_reducible refine i_retN ?_) | (with_reducible refine i_par3 ?_) | (with_reducible refine i_trip ?_) | (with_reducible refine i_gCons ?_) | (with_reducible refine i_gNil ?_) | (with_reducible refine i_lstRg ?_) | (with_reducible refine i_rg1 ?_)
  | (with_reducible refine i_lc ?_) | (with_reducible refine i_for ?_) | (with_reducible refine i_iList ?_) | (with_reducible refine i_iTup ?_) | (with_reducible refine i_iStr ?_) | (with_reducible refine i_iRng1 ?_) | (with_reducible refine i_iEnS ?_)
  | ((with_reducible refine' i_ixTH ?q1 ?q2 ?_); (case q1 => walk_at "hp"); (case q2 => exact rfl))
  | ((with_reducible refine' i_ixLH ?q1 ?q2 ?_); (case q1 => walk_at "hp"); (case q2 => exact rfl))
  | ((with_reducible refine i_addS ?q1 ?_); (case q1 => walk_at "ln")) | ((with_reducible refine i_lenSS ?q1 ?_); (case q1 => walk_at "ln")) | ((with_reducible refine i_slFrom ?q1 ?q2 ?_); (case q1 => walk_at "ln"); (case q2 => walk_at "ln")) | ((with_reducible refine i_slTo ?q1 ?q2 ?_); (case q1 => walk_at "ln"); (case q2 => walk_at "ln"))
  | ((with_reducible refine' i_tyL ?q1 ?_); (case q1 => walk_at "hp"))
  | ((with_reducible refine' i_gTupH ?q1 ?q2 ?_); (case q1 => walk_at "hp"); (case q2 => exact rfl))
  | (with_reducible refine i_dnewM ?_) | (with_reducible refine i_init ?_) | (with_reducible refine i_fst ?_) | (with_reducible refine i_mk ?_) | (with_reducible refine i_raise ?_) | (with_reducible refine i_callS ?_) | (with_reducible refine i_kwS ?_)
  | (with_reducible refine i_revT ?_) | (with_reducible refine i_kw ?_) | ((with_reducible refine' ⟨_, _, rfl, sqT_of ?q1, ?_⟩); (case q1 => walk_at "hp"))
  | (with_reducible refine i_revS ?_) | ((with_reducible refine i_revSS ?q1 ?_); (case q1 => walk_at "ln"))
  | (with_reducible refine i_startS ?_) | (with_reducible refine i_inSg ?_) | (with_reducible refine i_absN ?_) | (with_reducible refine i_min2 ?_) | (with_reducible refine i_max2 ?_) | (with_reducible refine i_min3 ?_) | (with_reducible refine i_intN ?_) | (with_reducible refine i_intNB ?_)
  | ((with_reducible refine' i_lenL ?q1 ?_); (case q1 => walk_at "hp")) | ((with_reducible refine' i_lenT ?q1 ?_); (case q1 => walk_at "hp"))
  | (with_reducible refine i_eqI ?_) | (with_reducible refine i_neI ?_) | (with_reducible refine i_eqS ?_) | (with_reducible refine i_neS ?_) | (with_reducible refine i_isNoI ?_) | (with_reducible refine i_isNoN ?_) | (with_reducible refine i_isNoR ?_)
  | ((with_reducible refine i_pow ?q1 ?q2 ?q3 ?_); (case q1 => decide); (case q2 => decide); (case q3 => (with_reducible omega)))
  | ((with_reducible refine i_rI ?q1 ?_); (case q1 => walk_at "ci"))
  | (with_reducible refine Or.inl ⟨_, rfl, ?_⟩) | (with_reducible refine Or.inr ⟨_, rfl, ?_⟩) | (with_reducible refine ⟨_, rfl, ?_⟩) | (with_reducible refine ⟨_, _, rfl, ?_⟩) | (with_reducible refine ⟨_, _, rfl, rfl, ?_⟩)
  | ((with_reducible refine' ⟨_, _, rfl, Or.inl (sqL_of ?q1), ?_⟩); (case q1 => walk_at "hp")) | ((with_reducible refine' ⟨_, _, rfl, Or.inr (sqT_of ?q1), ?_⟩); (case q1 => walk_at "hp")) | (with_reducible refine i_dget ?_) | (with_reducible refine i_disp1T ?_) | (with_reducible refine i_dcT ?_) | (with_reducible refine i_dnewT ?_) | (with_reducible refine i_fld ?_) | (with_reducible refine i_sFld ?_) | (with_reducible refine i_make ?_) | (with_reducible refine i_meth ?_) | (with_reducible refine i_star ?_) | (with_reducible refine i_isNoS ?_) | (with_reducible refine i_lc2 ?_) | fail)
local macro_rules | `(tactic| walk_at "rd") => `(tactic| repeat' walk_at "rd1")

theorem call_isiB {X : Cx} {K : PySem.W.Frag} (e : X.K = K) : CallR X (.builtin "isinstance") (rIsi K) := by
  subst e
  exact call_isi
theorem i_neZ {K : PySem.W.Frag} {H : Hp} {x y : V} {d e : PyData} {Q : VK} {n w m u : Nat} (h1 : Dz K H x d) (h2 : Dz K H y e) (s1 : Sd n w d) (s2 : Sd m u e) (z1 : d.hasDict = false) (z2 : e.hasDict = false) (k : Q (.bl (!PyData.eqv d e)) H) (hn : n ≤ 60 := by omega) (hm : m ≤ 60 := by omega) : rNeD K x y H Q :=
  ⟨d, e, h1.dp z1, h2.dp z2, s1.shaped hn z1, s2.shaped hm z2, k⟩
theorem sd_nil : Sd 1 0 (.list []) := sd_lst' SdAll.nil
/-- _law_stands(made, parts), where they do -/
def spStands (K : PySem.W.Frag) (C : Addr) : Sp := fun vs H Q _ => ∃ (v1 v2 : V) (n : Int) (sd ed : PyData) (ds es : List PyData), vs = [v1, v2] ∧ DAt K C H v1 n ds.length (tupS sd) (tup1 ed) ∧ PtAt K H v2 n sd ed ∧ PtD n sd ed ds es ∧ ∀ H', Same H H' → Q (.bl true) H'
/-- None or a word -/
def oV : Option (List Nat) → V
  | none => .non
  | some l => .str (S l)
def oD : Option (List Nat) → PyData
  | none => .none
  | some l => .str (S l)
def oOk : Option (List Nat) → Prop
  | none => True
  | some l => azW l ∧ l.length ≤ 3
theorem oD_dz {K : PySem.W.Frag} {H : Hp} : ∀ o, Dz K H (oV o) (oD o)
  | none => .non
  | some l => .str _
theorem oD_end : ∀ {o}, oOk o → endB (oD o) = true
  | none, _ => rfl
  | some l, h => wd_of h.1 h.2
theorem oD_sd : ∀ {o}, oOk o → Sd 0 3 (oD o)
  | none, _ => sd_non.mono (by omega) (by omega)
  | some l, h => (sd_str (azW_le h.1)).mono (Nat.le_refl _) h.2
theorem oD_inj : ∀ {o p}, oD o = oD p → o = p
  | none, none, _ => rfl
  | some l, some m, e => by rw [S_inj.mp (PyData.str.inj e)]
  | none, some m, e => by cases e
  | some l, none, e => by cases e
theorem azS_W {z : Str} (h : azS z = true) : azW z.cps.toList := fun c hc => of_decide_eq_true (List.all_eq_true.mp h c hc)
theorem end_o {d : PyData} (h : endB d = true) : ∃ o, d = oD o ∧ oOk o := by
  cases d with
  | none => exact ⟨none, rfl, trivial⟩
  | str z =>
    simp only [endB, wdB, Bool.and_eq_true, decide_eq_true_eq] at h
    exact ⟨some z.cps.toList, congrArg PyData.str (S_of z), azS_W h.1, by rw [Array.length_toList]; exact h.2⟩
  | _ => simp only [endB, wdB] at h; cases h
theorem Dz.oI {K : PySem.W.Frag} {H : Hp} {v : V} : ∀ {o : Option (List Nat)}, Dz K H v (oD o) → v = oV o
  | none, h => h.noneI
  | some l, h => h.strI
theorem SB.set_new {b p : Addr} {H H1 : Hp} {o : HO} (s : SB b H H1) (n : H p = none) : SB b H (L2.upd H1 p o) := fun a u na ha => by
  by_cases e : a = p
  · rw [e, n] at ha; cases ha
  · rw [L2.upd_ne e]; exact s a u na ha
theorem newLn {xs : List V} {H : Hp} {b : Addr} {d : Int} {Q : VK} (B : BoxAt H b d) (l : xs.length ≤ sizeLine) (k : ∀ p H', H p = none → p ≠ b → BoxAt H' b d → Same (L2.del H b) (L2.del H' b) → L2.del H' b p = some (.lst xs) → Same H H' → Q (.ref p) H') : NewL xs H Q :=
  ⟨l, fun p n => k p _ n (box_ne B n) (B.same (same_upd n)) (del_sb (SB.of (same_upd n))) (del_new B n) (same_upd n)⟩
/-- _law_other_word(box, word) -/
def spOther : Sp := fun vs H Q _ => ∃ (b : Addr) (d : Int) (o : Option (List Nat)), vs = [.ref b, oV o] ∧ BoxAt H b d ∧ oOk o ∧ d + 1 ≤ 1000000 ∧ ∀ p H', oOk p → p ≠ o → BoxAt H' b (d + 1) → SB b H H' → Q (oV p) H'
theorem az_take {l : List Nat} (h : azW l) (n : Nat) : azW (l.take n) := fun c hc => h c (List.mem_of_mem_take hc)
theorem az_dl {l : List Nat} (h : azW l) : azW l.dropLast := fun c hc => h c (List.mem_of_mem_take (by rw [List.dropLast_eq_take] at hc; exact hc))
theorem az_app {a b : List Nat} (h : azW a) (k : azW b) : azW (a ++ b) := fun c hc => (List.mem_append.mp hc).elim (h c) (k c)
theorem i_slM1 {l : List Nat} {H : Hp} {Q : VK} (h1 : l.length ≤ 1000000) (h : Q (.str (S l.dropLast)) H) : rSlSS (.str (S l)) none (some (-1)) H Q := ⟨l, rfl, h1, by rw [cut_m1]; exact h⟩
section
variable {P : Program} {w : World} {K : PySem.W.Frag} {mg : Str → Option Value} {base : Heap} {f : Addr} {fd : FuncData}
theorem ok_stands {C : Addr} (F : Fun K "_law_stands" "_law_stands" s__law_stands f fd) (z : Z mg) (dc : DcC K C) (c__law_plain_rows : Cal P w K mg base "_law_plain_rows" ["rows"] 1 (spPlain K)) : FnG P w K mg base CX0 2 f fd ["made", "parts"] (spStands K C) := by
  refine Sw.Fun.okG0 F sc__law_stands (fun vs H Q E h => ?_) (fun cdv A outer s H vs Q E hr quiet h => ?_)
  · obtain ⟨v1, v2, n, sd, ed, ds, es, rfl, _⟩ := h; rfl
  · obtain ⟨v1, v2, n, sd, ed, ds, es, rfl, ⟨a, dx, p1, p2, rfl, ha, hp1, hp2⟩, ⟨pp, sv, ev, rfl, hpp, hsv, hev⟩, pd, k⟩ := h
    refine ⟨_, (pss_cons (ps_asg (pv 1) (pg_lst rfl (pgs_cons (pg_name (i := 2) sc__law_stands.nd rfl (.inl rfl)) (pgs_cons (pg_name (i := 3) sc__law_stands.nd rfl (.inl rfl)) (pgs_cons (pg_name (i := 4) sc__law_stands.nd rfl (.inl rfl)) pgs_nil)))))
      (pss_cons (ps_if (PW.pt (pw_or (pt_val (pe_callB call_isi (by rfl) z.isinstance (by decide +kernel) (pa_cons (pe_fld (pv 0) (by rfl)) (pa_cons (pe_bltn (v := .ty "bool") (by rfl) z.bool (by decide +kernel) rfl) pa_nil)))) (pw_or (pt_not (pt_val (pe_callB call_isi (by rfl) z.isinstance (by decide +kernel) (pa_cons (pe_fld (pv 0) (by rfl)) (pa_cons (pe_bltn (v := .ty "int") (by rfl) z.int (by decide +kernel) rfl) pa_nil))))) (pw_or1 (pt_val (pe_callB call_isi (by rfl) z.isinstance (by decide +kernel) (pa_cons (pe_fld (pv 0) (by rfl)) (pa_cons (pe_bltn (v := .ty "bool") (by rfl) z.bool (by decide +kernel) rfl) pa_nil))))))))
        (pss_one (ps_ret pe_bl))
        pss_nil)
      (pss_cons (ps_if (PW.pt (pw_or (pt_not (pt_val (pe_callB call_isi (by rfl) z.isinstance (by decide +kernel) (pa_cons (pe_fld (pv 0) (by rfl)) (pa_cons (pe_bltn (v := .ty "tuple") (by rfl) z.tuple (by decide +kernel) rfl) pa_nil))))) (pw_or1 (pt_cmpR (op_neD hr.units) (pe_lc (own := [("row", 5)]) (g := gName 5) (tt := _) rfl sc__law_stands.nd (pi_tup (pe_fld (pv 0) (by rfl))) (blkOk_by (own := [("row", 5)]) (N := n__law_stands) (sc := defScope s__law_stands) (by decide +kernel)) (fun _ _ _ _ _ => (pg_name (i := 5) sc__law_stands.nd rfl (.inl rfl))) (fun _ _ _ _ _ => (pts_one (pt_not (pt_val (pe_callB (call_isiB (K := K) rfl) (by rfl) z.isinstance (by decide +kernel) (pa_cons (pv 5) (pa_cons (pe_bltn (v := .ty "tuple") (by rfl) z.tuple (by decide +kernel) rfl) pa_nil))))))) (fun _ _ _ _ _ => (pv 5))) (pe_lst pa_nil) (nomark _)))))
        (pss_one (ps_ret pe_bl))
        pss_nil)
      (pss_cons (ps_set (i := 6) sc__law_stands.nd rfl (.inl rfl) (pe_callB (call_repE quiet hr.units) (by rfl) z.repr (by decide +kernel) (pa_cons (pe_lst (pa_cons (pe_fld (pv 0) (by rfl)) (pa_cons (pe_fld (pv 0) (by rfl)) (pa_cons (pe_fld (pv 0) (by rfl)) (pa_cons (pe_fld (pv 0) (by rfl)) pa_nil))))) pa_nil)))
      (pss_one (ps_ret (pe_cmpR op_eq (pv 6) (pe_callB (call_repE quiet hr.units) (by rfl) z.repr (by decide +kernel) (pa_cons (pe_lst (pa_cons (pv 2) (pa_cons (pe_callB call_lenQ (by rfl) z.len PySem.boot_len (pa_cons (pv 3) pa_nil)) (pa_cons (pe_cal c__law_plain_rows hr (pa_cons (pv 3) pa_nil)) (pa_cons (pe_callTy call_tuple_of (by rfl) z.tuple (by decide +kernel) (pa_cons (pv 4) pa_nil)) pa_nil))))) pa_nil)) (nomark _)))))))), ?_⟩
    have hsv' := hsv
    have hev' := hev
    rw [pd.eS] at hsv'
    rw [pd.eE] at hev'
    obtain ⟨sa, xs, rfl, hsa, hxs⟩ := hsv'.lstI
    obtain ⟨ea, ys, rfl, hea, hys⟩ := hev'.lstI
    have lx := hxs.len
    walk_at "rd"
    refine ⟨pp, _, rfl, sqL_of hpp, rfl, ?_⟩
    walk_at "rd"
    refine i_fldD dc.cl dc.a1 ha rfl ?_
    walk_at "rd"
    refine i_isi false (.base (.int _)) (kit_ty (by decide +kernel)) ?_
    walk_at "rd"
    refine i_fldD dc.cl dc.a1 ha rfl ?_
    walk_at "rd"
    refine i_isi true (.base (.int _)) (kit_ty (by decide +kernel)) ?_
    walk_at "rd"
    refine i_fldD dc.cl dc.a2 ha rfl ?_
    walk_at "rd"
    refine i_isi false (.base (.int _)) (kit_ty (by decide +kernel)) ?_
    walk_at "rd"
    refine i_fldD dc.cl dc.a3 ha rfl ?_
    have eS : tupS sd = .tuple (ds.map tup1) := by unfold tupS; rw [pd.seq]
    have hp1' := hp1
    rw [eS] at hp1'
    obtain ⟨_, zs, ez, hz, hzs⟩ := hp1'.tupI
    cases ez
    walk_at "rd"
    refine i_isi true (tyx_tup hz) (kit_ty (by decide +kernel)) ?_
    walk_at "rd"
    refine i_fldD dc.cl dc.a3 ha rfl ?_
    walk_at "rd"
    refine ⟨⟨_, hz⟩, ?_⟩
    refine go_lc (walk_tup (xs := zs)) (fun p i Hx => Hx p = some (.lst []) ∧ Same H Hx) (fun p np => ⟨upd_same, same_upd np⟩) (fun p i Hx hi q => Same.sqT q.2 hz) (fun p np i v Hx Hy hi q y => ?_) (fun lp H1 nlp q => ?_)
    · obtain ⟨ep, sx⟩ := q
      obtain ⟨rfl, hv⟩ := y
      obtain ⟨dr, gr, hdr⟩ := (hzs.same sx).get hv
      rw [List.getElem?_map] at gr
      obtain ⟨x, gx, rfl⟩ := Option.map_eq_some_iff.mp gr
      obtain ⟨_, us, rfl, hu, _⟩ := (show Dz K _ _ (.tuple (seqD x)) from hdr).tupI
      walk_at "rd"
      refine ⟨rfl, ?_⟩
      walk_at "rd"
      refine i_isi true (tyx_tup hu) (kit_ty (by decide +kernel)) ?_
      walk_at "rd"
      exact ⟨ep, sx⟩
    obtain ⟨ep, s1⟩ := q
    walk_at "rd"
    refine newL0 (Nat.le_of_ble_eq_true rfl) fun q1 H2 nq1 s2 eq1 => ?_
    walk_at "rd"
    have dl : Dz K H2 (.ref lp) (.list []) := .lst (s2 _ _ ep) .nil
    have dq : Dz K H2 (.ref q1) (.list []) := .lst eq1 .nil
    refine i_neZ dl dq sd_nil sd_nil (by simp [PyData.hasDict, PyData.hasDictAll]) (by simp [PyData.hasDict, PyData.hasDictAll]) ?_
    rw [show (!PyData.eqv (.list []) (.list [])) = false by simp [PyData.eqv, PyData.eqvAll]]
    have s02 := s1.trans s2
    walk_at "rd"
    refine i_fldD dc.cl dc.a1 (s02 _ _ ha) rfl ?_
    walk_at "rd"
    refine i_fldD dc.cl dc.a2 (s02 _ _ ha) rfl ?_
    walk_at "rd"
    refine i_fldD dc.cl dc.a3 (s02 _ _ ha) rfl ?_
    walk_at "rd"
    refine i_fldD dc.cl dc.a4 (s02 _ _ ha) rfl ?_
    walk_at "rd"
    refine newL0 (Nat.le_of_ble_eq_true rfl) fun q3 H3 nq3 s3 eq3 => ?_
    have s03 := s02.trans s3
    have ok := dok_of pd.stp pd.ens (pd.s1.mono (by omega) (by omega)) (pd.s2.mono (by omega) (by omega))
    have hd : (PyData.list [.int n, .int (ds.length : Int), tupS sd, tup1 ed]).hasDict = false := by
      simp only [PyData.hasDict, PyData.hasDictAll, flatT_noDict ok.f1, flatT_noDict ok.f2, Bool.or_self]
    have hn : n.natAbs < 512 := by have := pd.n1; have := pd.n5; omega
    have hl : ((ds.length : Int)).natAbs < 512 := by have := pd.l2; omega
    have sdl : Sd 9 41000 (.list [.int n, .int (ds.length : Int), tupS sd, tup1 ed]) := (sd_lst' (SdAll.cons ((sd_int9 hn).mono (Nat.zero_le 8) (Nat.le_refl _)) (SdAll.cons ((sd_int9 hl).mono (Nat.zero_le 8) (Nat.le_refl _)) (SdAll.cons ok.s1 (SdAll.cons ok.s2 SdAll.nil))))).mono (by omega) (by omega)
    have dA : Dz K H3 (.ref q3) (.list [.int n, .int (ds.length : Int), tupS sd, tup1 ed]) := .lst eq3 (.cons (.int _) (.cons (.int _) (.cons (hp1.same s03) (.cons (hp2.same s03) .nil))))
    walk_at "rd"
    refine i_repP (dA.dp hd) hd sdl (by omega) (by omega) ?_
    walk_at "rd"
    rw [lx]
    refine ⟨.ref sa, ds, rfl, hsv'.same s03, by have := pd.l2; omega, fun x hx => (pd.row x hx).flat, fun v4 H4 D4 s4 => ?_⟩
    walk_at "rd"
    refine ⟨ea, _, rfl, .inl ⟨sqL_of (s4 _ _ (s03 _ _ hea)), fun p5 np5 => ?_⟩⟩
    have s5 := same_upd (o := .tup ys) np5
    walk_at "rd"
    refine newL0 (Nat.le_of_ble_eq_true rfl) fun q6 H6 nq6 s6 eq6 => ?_
    have eE : tup1 ed = .tuple es := by rw [pd.eE]; rfl
    have dB : Dz K H6 (.ref q6) (.list [.int n, .int (ds.length : Int), tupS sd, tup1 ed]) := by
      refine .lst eq6 (.cons (.int _) (.cons (.int _) (.cons ?_ (.cons ?_ .nil))))
      · rw [eS]; exact D4.same (s5.trans s6)
      · rw [eE]; exact .tup (sqT_of (s6 _ _ upd_same)) (hys.same (s03.trans (s4.trans (s5.trans s6))))
    walk_at "rd"
    refine i_repP (dB.dp hd) hd sdl (by omega) (by omega) ?_
    walk_at "rd"
    refine ⟨rfl, ?_⟩
    rw [decide_eq_true rfl]
    exact k _ (s03.trans (s4.trans (s5.trans s6)))
theorem ok_other (F : Fun K "_law_other_word" "_law_other_word" s__law_other_word f fd) (z : Z mg) (c__law_take : Cal P w K mg base "_law_take" ["box", "many"] 1 spTake) : FnOk P w K mg base CX0 2 f fd ["box", "word"] spOther := by
  refine F.ok sc__law_other_word (fun vs H Q E h => ?_) (fun cdv A outer s H vs Q E hr h => ?_)
  · obtain ⟨b, d, o, rfl, _⟩ := h; rfl
  · obtain ⟨b, d, o, rfl, B, oo, hd, k⟩ := h
    refine ⟨_, (pss_cons (ps_if (pt_cmpR op_isNo (pv 1) pe_non (nomark _))
        (pss_one (ps_ret (pe_ix ix_list (pe_lst (pa_cons (pe_strS (l := []) (by decide +kernel)) (pa_cons (pe_strS (l := [97]) (by decide +kernel)) pa_nil))) (pe_cal c__law_take hr (pa_cons (pv 0) (pa_cons pe_int pa_nil))) (fun _ _ => rfl))))
        pss_nil)
      (pss_cons (ps_set (i := 2) sc__law_other_word.nd rfl (.inl rfl) (pe_ifExp (pt_cmpR op_lt (pe_callB call_lenS (by rfl) z.len PySem.boot_len (pa_cons (pv 1) pa_nil)) pe_int (nomark _)) (pe_lst (pa_cons (pe_op op_addS (pv 1) (pe_strS (l := [97]) (by decide +kernel))) pa_nil)) (pe_lst (pa_cons (pe_slice sl_S (pv 1) po_none (po_some pe_int)) (pa_cons (pe_ifExp (pt_cmpR op_ne (pe_ix ix_S (pv 1) pe_int (fun _ _ => rfl)) (pe_strS (l := [122]) (by decide +kernel)) (nomark _)) (pe_op op_addS (pe_strS (l := [122]) (by decide +kernel)) (pe_slice sl_S (pv 1) po_none (po_some pe_int))) (pe_op op_addS (pe_strS (l := [97]) (by decide +kernel)) (pe_slice sl_S (pv 1) po_none (po_some pe_int)))) pa_nil)))))
      (pss_cons (ps_set (i := 2) sc__law_other_word.nd rfl (.inl rfl) (pe_ifExp (pt_cmpR op_ne (pv 1) (pe_strS (l := []) (by decide +kernel)) (nomark _)) (pe_op op_cat (pv 2) (pe_lst (pa_cons (pe_slice sl_S (pv 1) po_none (po_some (pe_un un_neg pe_int))) (pa_cons pe_non pa_nil)))) (pe_op op_cat (pv 2) (pe_lst (pa_cons pe_non pa_nil)))))
      (pss_one (ps_ret (pe_ix ix_list (pv 2) (pe_cal c__law_take hr (pa_cons (pv 0) (pa_cons (pe_callB call_lenQ (by rfl) z.len PySem.boot_len (pa_cons (pv 2) pa_nil)) pa_nil))) (fun _ _ => rfl))))))), ?_⟩
    rcases o with _ | l
    · simp only [oV]
      walk_at "rd"
      refine newL B (Nat.le_of_ble_eq_true rfl) fun p1 H1 B1 s1 e1 t1 => ?_
      walk_at "rd"
      have np1 : p1 ≠ b := fun c => by rw [c, L2.del_same] at e1; cases e1
      refine ⟨b, 2, _, rfl, B1, by omega, by omega, by omega, fun r H2 r0 r1 B2 s2 => ?_⟩
      obtain ⟨p, ep, op, np⟩ : ∃ p : Option (List Nat), ([.str (S []), .str (S [97])] : List V)[r.toNat]? = some (oV p) ∧ oOk p ∧ p ≠ none := by
        have hr : r = 0 ∨ r = 1 := by omega
        rcases hr with rfl | rfl
        · exact ⟨some [], rfl, ⟨nofun, by simp⟩, by simp⟩
        · exact ⟨some [97], rfl, ⟨by unfold azW; decide, by simp⟩, by simp⟩
      refine i_ixLv (s2 _ _ np1 (del_sub _ _ e1)) r0 ep ?_
      exact k p _ op np B2 ((SB.of t1).trans s2)
    obtain ⟨az, l3⟩ : azW l ∧ l.length ≤ 3 := oo
    simp only [oV]
    walk_at "rd"
    have fin : ∀ (m1 : Addr) (H1 : Hp) (ps : List (Option (List Nat))) (R : VK), m1 ≠ b → BoxAt H1 b d → SB b H H1 → H1 m1 = some (.lst (ps.map oV)) → ps.length ≤ 4 → 0 < ps.length → (∀ p ∈ ps, oOk p ∧ p ≠ some l) →
        (∀ (r : Int) H2, 0 ≤ r → BoxAt H2 b (d + 1) → SB b H1 H2 → r < ps.length → rIxL K (.ref m1) (.int r) H2 Q → R (.int r) H2) → spTake [.ref b, .int (ps.length : Int)] H1 R E0 := fun m1 H1 ps R nmb B1 s1 e1 l4 l0 hp hR => by
      refine ⟨b, ps.length, _, rfl, B1, by omega, by omega, by omega, fun r H2 r0 r1 B2 s2 => ?_⟩
      refine hR r H2 r0 B2 s2 r1 ?_
      have gp : ps[r.toNat]? = some ps[r.toNat] := List.getElem?_eq_getElem (by omega)
      have hm := hp _ (List.mem_of_getElem? gp)
      generalize ps[r.toNat] = p at *
      refine i_ixLv (s2 _ _ nmb e1) r0 (v := oV p) (by rw [List.getElem?_map, gp]; rfl) ?_
      exact k p _ hm.1 hm.2 B2 (s1.trans s2)
    refine iteB (fun c => ?_) (fun c => ?_)
    · walk_at "rd"
      refine newLn B (Nat.le_of_ble_eq_true rfl) fun m1 H1 nm1 nmb B1 s1 e1 t1 => ?_
      have e1 := del_sub _ _ e1
      walk_at "rd"
      refine iteNC (fun c2 => ?_) (fun c2 => ?_)
      · have c2 := of_decide_eq_false c2
        walk_at "rd"
        refine i_rU ?_
        walk_at "rd"
        refine i_slM1 (l := l) (by omega) ?_
        walk_at "rd"
        refine newLn B1 (Nat.le_of_ble_eq_true rfl) fun m2 H2 nm2 nmb2 B2 s2 e2 t2 => ?_
        have e2 := del_sub _ _ e2
        refine ⟨m1, m2, _, _, rfl, rfl, t2 _ _ e1, e2, Nat.le_of_ble_eq_true rfl, fun m3 nm3 => ?_⟩
        have s3 := same_upd (o := .lst ([.str (S (l ++ [97]))] ++ [.str (S l.dropLast), .non])) nm3
        walk_at "rd"
        refine fin m3 _ [some (l ++ [97]), some l.dropLast, none] _ (box_ne B2 nm3) (B2.same s3) (SB.of (t1.trans (t2.trans s3))) upd_same (by simp) (by simp) (fun p hp => ?_) (fun r H4 r0 B4 s4 r1 q => q)
        simp only [List.mem_cons, List.not_mem_nil, or_false] at hp
        rcases hp with rfl | rfl | rfl
        · exact ⟨⟨az_app az (fun c hc => by rw [List.mem_singleton.mp hc]; omega), by simp; omega⟩, fun q => by have := congrArg List.length (Option.some.inj q); simp at this⟩
        · refine ⟨⟨az_dl az, by rw [List.length_dropLast]; omega⟩, fun q => ?_⟩
          have := congrArg List.length (Option.some.inj q)
          rw [List.length_dropLast] at this
          rcases l with _ | ⟨x, l⟩
          · exact c2 rfl
          · simp at this
        · exact ⟨trivial, nofun⟩
      · walk_at "rd"
        refine newLn B1 (Nat.le_of_ble_eq_true rfl) fun m2 H2 nm2 nmb2 B2 s2 e2 t2 => ?_
        have e2 := del_sub _ _ e2
        refine ⟨m1, m2, _, _, rfl, rfl, t2 _ _ e1, e2, Nat.le_of_ble_eq_true rfl, fun m3 nm3 => ?_⟩
        have s3 := same_upd (o := .lst ([.str (S (l ++ [97]))] ++ [.non])) nm3
        walk_at "rd"
        refine fin m3 _ [some (l ++ [97]), none] _ (box_ne B2 nm3) (B2.same s3) (SB.of (t1.trans (t2.trans s3))) upd_same (by simp) (by simp) (fun p hp => ?_) (fun r H4 r0 B4 s4 r1 q => q)
        simp only [List.mem_cons, List.not_mem_nil, or_false] at hp
        rcases hp with rfl | rfl
        · exact ⟨⟨az_app az (fun c hc => by rw [List.mem_singleton.mp hc]; omega), by simp; omega⟩, fun q => by have := congrArg List.length (Option.some.inj q); simp at this⟩
        · exact ⟨trivial, nofun⟩
    · have l3' : l.length = 3 := by omega
      obtain ⟨x, y, u, rfl⟩ : ∃ x y u, l = [x, y, u] := by
        rcases l with _ | ⟨x, _ | ⟨y, _ | ⟨u, _ | ⟨v, l⟩⟩⟩⟩ <;> simp at l3'
        exact ⟨x, y, u, rfl⟩
      have azx := az x (by simp)
      have azy := az y (by simp)
      walk_at "rd"
      refine i_ixSI (c := x) (by omega) rfl (by simp) ?_
      walk_at "rd"
      have last : ∀ (c : Nat), 97 ≤ c → c ≤ 122 → c ≠ x → ∀ p ∈ [some [x, y], some [c, x, y], some [x, y], none], oOk p ∧ p ≠ some [x, y, u] := fun c c1 c2 nx p hp => by
        simp only [List.mem_cons, List.not_mem_nil, or_false] at hp
        rcases hp with rfl | rfl | rfl | rfl
        · exact ⟨⟨fun e he => by simp at he; rcases he with rfl | rfl <;> omega, by simp⟩, by simp⟩
        · exact ⟨⟨fun e he => by simp at he; rcases he with rfl | rfl | rfl <;> omega, by simp⟩, by simp; intro q; exact (nx q).elim⟩
        · exact ⟨⟨fun e he => by simp at he; rcases he with rfl | rfl <;> omega, by simp⟩, by simp⟩
        · exact ⟨trivial, nofun⟩
      refine iteNC (fun c2 => ?_) (fun c2 => ?_)
      · have c2 := of_decide_eq_false c2
        walk_at "rd"
        refine newLn B (Nat.le_of_ble_eq_true rfl) fun m1 H1 nm1 nmb B1 s1 e1 t1 => ?_
        have e1 := del_sub _ _ e1
        walk_at "rd"
        rw [show (!decide ([x, y, u] = ([] : List Nat))) = true by simp]
        walk_at "rd"
        refine i_rU ?_
        walk_at "rd"
        refine i_slM1 (l := [x, y, u]) (by simp) ?_
        walk_at "rd"
        refine newLn B1 (Nat.le_of_ble_eq_true rfl) fun m2 H2 nm2 nmb2 B2 s2 e2 t2 => ?_
        have e2 := del_sub _ _ e2
        refine ⟨m1, m2, _, _, rfl, rfl, t2 _ _ e1, e2, Nat.le_of_ble_eq_true rfl, fun m3 nm3 => ?_⟩
        have s3 := same_upd (o := .lst ([.str (S [x, y]), .str (S ([122] ++ [x, y]))] ++ [.str (S [x, y]), .non])) nm3
        walk_at "rd"
        exact fin m3 _ [some [x, y], some [122, x, y], some [x, y], none] _ (box_ne B2 nm3) (B2.same s3) (SB.of (t1.trans (t2.trans s3))) upd_same (by simp) (by simp) (last 122 (by omega) (by omega) (fun q => c2 (by rw [← q]))) (fun r H4 r0 B4 s4 r1 q => q)
      · have c2 := of_decide_eq_true c2
        walk_at "rd"
        refine newLn B (Nat.le_of_ble_eq_true rfl) fun m1 H1 nm1 nmb B1 s1 e1 t1 => ?_
        have e1 := del_sub _ _ e1
        walk_at "rd"
        rw [show (!decide ([x, y, u] = ([] : List Nat))) = true by simp]
        walk_at "rd"
        refine i_rU ?_
        walk_at "rd"
        refine i_slM1 (l := [x, y, u]) (by simp) ?_
        walk_at "rd"
        refine newLn B1 (Nat.le_of_ble_eq_true rfl) fun m2 H2 nm2 nmb2 B2 s2 e2 t2 => ?_
        have e2 := del_sub _ _ e2
        refine ⟨m1, m2, _, _, rfl, rfl, t2 _ _ e1, e2, Nat.le_of_ble_eq_true rfl, fun m3 nm3 => ?_⟩
        have s3 := same_upd (o := .lst ([.str (S [x, y]), .str (S ([97] ++ [x, y]))] ++ [.str (S [x, y]), .non])) nm3
        walk_at "rd"
        exact fin m3 _ [some [x, y], some [97, x, y], some [x, y], none] _ (box_ne B2 nm3) (B2.same s3) (SB.of (t1.trans (t2.trans s3))) upd_same (by simp) (by simp) (last 97 (by omega) (by omega) (fun q => by cases c2; omega)) (fun r H4 r0 B4 s4 r1 q => q)
end
end Sw
namespace Sw
open PySem PySem.Spec PyProof.Rows L2
local macro_rules | `(tactic| walk_at "hp") => `(tactic| first
  | (with_reducible assumption) | (with_reducible exact upd_same)
  | ((with_reducible refine' upd_old ?q1 ?q2); (case q1 => (with_reducible assumption)); (case q2 => walk_at "hp"))
  | ((with_reducible refine' Same.at ?q1 ?q2); (case q1 => (with_reducible assumption)); (case q2 => walk_at "hp"))
  | ((with_reducible refine' upd_skip ?q1 ?q2); (case q1 => walk_at "ne"); (case q2 => walk_at "hp"))
  | fail)
local macro_rules | `(tactic| walk_at "ne") => `(tactic| first
  | (with_reducible assumption) | (with_reducible exact Ne.symm (by assumption))
  | ((with_reducible refine' ne_of_none ?q1 ?q2); (case q2 => (with_reducible assumption)); (case q1 => walk_at "hp"))
  | fail)
local macro_rules | `(tactic| walk_at "ci") => `(tactic| first | assumption | (show (0 : Int) < _; first | decide | (with_reducible omega)) | exact ⟨by decide, by decide⟩ | exact .inl ⟨by decide, by decide⟩ | exact .inr ⟨by decide, by decide⟩)
local macro_rules | `(tactic| walk_at "ln") => `(tactic| first | (with_reducible assumption) | (with_reducible omega) | (simp only [List.length_append, List.length_take, List.length_drop, List.length_reverse, List.length_cons, List.length_nil]; with_reducible omega))
local macro_rules | `(tactic| walk_at "rd1") => `(tactic| first
  | (with_reducible refine i_seq ?_) | (with_reducible refine i_asg ?_) | (with_reducible refine i_ret ?_) | (with_reducible refine i_name ?_) | ((with_reducible refine' i_var ?q1 ?_); (case q1 => exact rfl)) | (with_reducible refine i_c ?_) | (with_reducible refine i_op ?_) | (with_reducible refine i_un ?_)
  | (with_reducible refine i_rI0 ?_) | (with_reducible refine i_cb ?_) | (with_reducible refine i_cons ?_) | (with_reducible refine i_nil ?_) | (with_reducible refine i_call ?_) | (with_reducible refine i_if ?_) | (with_reducible refine i_ifE ?_) | (with_reducible refine i_test ?_) | (with_reducible refine i_bl ?_)
  | (with_reducible refine i_and ?_) | (with_reducible refine i_or ?_) | (with_reducible refine i_not ?_) | (with_reducible refine i_lstM ?_) | (with_reducible refine i_lstLM ?_) | (with_reducible refine i_tupM ?_) | (with_reducible refine i_next ?_) | (with_reducible refine i_drop ?_) | (with_reducible refine i_sub ?_)
  | (with_reducible refine i_bm ?_) | (with_reducible refine i_sl ?_) | (with_reducible refine i_part ?_) | (with_reducible refine i_nopart ?_) | (with_reducible refine i_exI ?_) | (with_reducible refine i_chain ?_) | ((with_reducible refine' i_aug ?q1 ?_); (case q1 => exact rfl)) | (with_reducible refine i_ip ?_)
  | (with_reducible refine i_par ?_) | (with_reducible refine i_pair ?_) | (with_reducible refine i_andV ?_) | (with_reducible refine i_orV ?_) | (with_reducible refine i_notV ?_) | (with_reducible refine i_m1 ?_) | (with_reducible refine i_str ?_)
  | (with_reducible refine iteF ?_) | (with_reducible refine iteT ?_) | (with_reducible refine iteNT ?_) | (with_reducible refine iteNF ?_) | (with_reducible refine i_tyS ?_) | (with_reducible refine i_tB ?_) | (with_reducible refine i_retN ?_) | (with_reducible refine i_par3 ?_) | (with_reducible refine i_trip ?_) | (with_reducible refine i_gCons ?_) | (with_reducible refine i_gNil ?_) | (with_reducible refine i_lstRg ?_) | (with_reducible refine i_rg1 ?_)
  | (with_reducible refine i_lc ?_) | (with_reducible refine i_for ?_) | (with_reducible refine i_iList ?_) | (with_reducible refine i_iTup ?_) | (with_reducible refine i_iStr ?_) | (with_reducible refine i_iRng1 ?_) | (with_reducible refine i_iEnS ?_)
  | ((with_reducible refine' i_ixTH ?q1 ?q2 ?_); (case q1 => walk_at "hp"); (case q2 => exact rfl))
  | ((with_reducible refine' i_ixLH ?q1 ?q2 ?_); (case q1 => walk_at "hp"); (case q2 => exact rfl))
  | ((with_reducible refine i_addS ?q1 ?_); (case q1 => walk_at "ln")) | ((with_reducible refine i_lenSS ?q1 ?_); (case q1 => walk_at "ln")) | ((with_reducible refine i_slFrom ?q1 ?q2 ?_); (case q1 => walk_at "ln"); (case q2 => walk_at "ln")) | ((with_reducible refine i_slTo ?q1 ?q2 ?_); (case q1 => walk_at "ln"); (case q2 => walk_at "ln"))
  | ((with_reducible refine' i_tyL ?q1 ?_); (case q1 => walk_at "hp"))
  | ((with_reducible refine' i_gTupH ?q1 ?q2 ?_); (case q1 => walk_at "hp"); (case q2 => exact rfl))
  | (with_reducible refine i_dnewM ?_) | (with_reducible refine i_init ?_) | (with_reducible refine i_fst ?_) | (with_reducible refine i_mk ?_) | (with_reducible refine i_raise ?_) | (with_reducible refine i_callS ?_) | (with_reducible refine i_kwS ?_)
  | (with_reducible refine i_revT ?_) | (with_reducible refine i_kw ?_) | ((with_reducible refine' ⟨_, _, rfl, sqT_of ?q1, ?_⟩); (case q1 => walk_at "hp"))
  | (with_reducible refine i_revS ?_) | ((with_reducible refine i_revSS ?q1 ?_); (case q1 => walk_at "ln"))
  | (with_reducible refine i_startS ?_) | (with_reducible refine i_inSg ?_) | (with_reducible refine i_absN ?_) | (with_reducible refine i_min2 ?_) | (with_reducible refine i_max2 ?_) | (with_reducible refine i_min3 ?_) | (with_reducible refine i_intN ?_) | (with_reducible refine i_intNB ?_)
  | ((with_reducible refine' i_lenL ?q1 ?_); (case q1 => walk_at "hp")) | ((with_reducible refine' i_lenT ?q1 ?_); (case q1 => walk_at "hp"))
  | (with_reducible refine i_eqI ?_) | (with_reducible refine i_neI ?_) | (with_reducible refine i_eqS ?_) | (with_reducible refine i_neS ?_) | (with_reducible refine i_isNoI ?_) | (with_reducible refine i_isNoN ?_) | (with_reducible refine i_isNoR ?_)
  | ((with_reducible refine i_pow ?q1 ?q2 ?q3 ?_); (case q1 => decide); (case q2 => decide); (case q3 => (with_reducible omega)))
  | ((with_reducible refine i_rI ?q1 ?_); (case q1 => walk_at "ci"))
  | (with_reducible refine Or.inl ⟨_, rfl, ?_⟩) | (with_reducible refine Or.inr ⟨_, rfl, ?_⟩) | (with_reducible refine ⟨_, rfl, ?_⟩) | (with_reducible refine ⟨_, _, rfl, ?_⟩) | (with_reducible refine ⟨_, _, rfl, rfl, ?_⟩)
  | ((with_reducible refine' ⟨_, _, rfl, Or.inl (sqL_of ?q1), ?_⟩); (case q1 => walk_at "hp")) | ((with_reducible refine' ⟨_, _, rfl, Or.inr (sqT_of ?q1), ?_⟩); (case q1 => walk_at "hp")) | (with_reducible refine i_dget ?_) | (with_reducible refine i_disp1T ?_) | (with_reducible refine i_dcT ?_) | (with_reducible refine i_dnewT ?_) | (with_reducible refine i_fld ?_) | (with_reducible refine i_sFld ?_) | (with_reducible refine i_make ?_) | (with_reducible refine i_meth ?_) | (with_reducible refine i_star ?_) | (with_reducible refine i_isNoS ?_) | (with_reducible refine i_lc2 ?_) | fail)
local macro_rules | `(tactic| walk_at "rd") => `(tactic| repeat' walk_at "rd1")

/-! ### an instance made where its making may raise -/
structure MakX (P : Program) (w : World) (K : PySem.W.Frag) (mg : Str → Option Value) (base : Heap) (k : Nat) (x : Str) (C : Addr) (sp : Sp) : Prop where
  ex : ∃ (f : Addr) (fd : FuncData) (ps : List Str), L2.Mk K C f ∧ FnOk P w K mg base (L2.CX P w) k f fd ps sp ∧ mg x = some (.ref C) ∧ Binds K fd ps []
def tMakeX (N : Nat) (C : Addr) (sp : Sp) (W : WX) (t : TA) : TE := tMake C sp [] (fun c d H => ∀ σ, σ.length = N → W c d σ H) t
theorem pe_mkX {X : Cx} {W : WX} {k j : Nat} (N : Nat) {C : Addr} {x : Str} {sp : Sp} {p pos : Pos} {e : Expr} {es : List Expr} {t : TA} (c : MakX X.prog X.w X.K X.mg X.base k x C sp) (hr : Room j X.A) (hk : k + 1 ≤ j) (tk : Takes X W) (ha : PA X (e :: es) t) (hg : Gl X x := by rfl)
    (hdb : (x == ("__debug__" : Str)) = false := by decide) (he : starEach (e :: es) X.env = (false, eval e X.env) :: starEach es X.env := by rfl) (hpl : (backTo pos (starEach es X.env)).any (·.1) = false := by rfl) (hN : X.N.length = N := by rfl) :
    PE X (.Call (.Name x p) (e :: es) [] pos) (tMakeX N C sp W t) := by
  obtain ⟨f, fd, ps, M, F, hm, b⟩ := c.ex
  exact pe_make M F (hr.mono hk) hg hm b .nil (fun pins σ H s e s' I c => tk e s' (XE.of_call I (fun _ _ _ h => h σ (I.len.trans hN)) c)) ha hdb he hpl
theorem i_makeX {N : Nat} {C : Addr} {sp : Sp} {W : WX} {t : TA} {σ : L2.St} {H : Hp} {Q : VK} (h : t σ H fun vs H1 => rMake C sp (fun c d H => ∀ σ, σ.length = N → W c d σ H) vs H1 Q) : tMakeX N C sp W t σ H Q := i_make h
abbrev tMade : List Nat := [109, 97, 100, 101]
abbrev tSigns : List Nat := [115, 105, 103, 110, 115]
abbrev tSteps : List Nat := [115, 116, 101, 112, 115]
abbrev tEnds : List Nat := [101, 110, 100, 115]
/-- _law_met(signs, steps, ends) -/
def spMet (K : PySem.W.Frag) (C : Addr) : Sp := fun vs H Q _ => ∃ (v1 v2 v3 : V) (d1 d2 d3 : PyData), vs = [v1, v2, v3] ∧ Dz K H v1 d1 ∧ Dz K H v2 d2 ∧ Dz K H v3 d3 ∧ Sd 6 20000 d2 ∧ Sd 6 20000 d3 ∧
  (isG d1 = false → ∀ t H', Same H H' → H' t = some (.lst [.str (S tSigns), v1]) → Q (.ref t) H') ∧
  (∀ n, d1 = .int n → isG d1 = true → stpB n d2 = false → ∀ t H', Same H H' → H' t = some (.lst [.str (S tSteps), v2]) → Q (.ref t) H') ∧
  (∀ n, d1 = .int n → isG d1 = true → stpB n d2 = true → ensB (seqD d2).length d3 = false → ∀ t H', Same H H' → H' t = some (.lst [.str (S tEnds), v3]) → Q (.ref t) H') ∧
  (∀ n, d1 = .int n → isG d1 = true → stpB n d2 = true → ensB (seqD d2).length d3 = true → ∀ t v H', Same H H' → DAt K C H' v n (seqD d2).length (tupS d2) (tup1 d3) → H' t = some (.lst [.str (S tMade), v]) → Q (.ref t) H')
section
variable {P : Program} {w : World} {K : PySem.W.Frag} {mg : Str → Option Value} {base : Heap} {f : Addr} {fd : FuncData}
theorem ok_met {C XS XT XE : Addr} (F : Fun K "_law_met" "_law_met" s__law_met f fd) (xs : XQ "InvalidSigns" P w K mg base XS) (xt : XQ "InvalidSteps" P w K mg base XT) (xe : XQ "InvalidEnds" P w K mg base XE)
    (hTS : PySem.W.exmOne K (.ref XT) (.ref XS) = some false) (hES : PySem.W.exmOne K (.ref XE) (.ref XS) = some false) (hET : PySem.W.exmOne K (.ref XE) (.ref XT) = some false)
    (m_Decoder : MakX P w K mg base 5 "Decoder" C (spIni K C XS XT XE)) : FnOk P w K mg base CX0 7 f fd ["signs", "steps", "ends"] (spMet K C) := by
  refine F.ok sc__law_met (fun vs H Q E h => ?_) (fun cdv A outer s H vs Q E hr h => ?_)
  · obtain ⟨v1, v2, v3, d1, d2, d3, rfl, _⟩ := h; rfl
  · obtain ⟨v1, v2, v3, d1, d2, d3, rfl, h1, h2, h3, s2, s3, k1, k2, k3, k4⟩ := h
    refine ⟨_, (pss_one (ps_tries (Wo := fun _ _ _ _ => False) rfl rfl sc__law_met.nd takes_none (fun W pn xe tk po => (pss_one (ps_ret (pe_lst (pa_cons (pe_strS (l := [109, 97, 100, 101]) (by decide +kernel)) (pa_cons (pe_mkX 4 m_Decoder hr (by decide) tk (pa_cons (pv 0) (pa_cons (pv 1) (pa_cons (pv 2) pa_nil)))) pa_nil))))))
      (.cons (i := 3) rfl rfl (names_Q xs) (fun a oe cls d pn hz hf => (pss_one (ps_ret (pe_lst (pa_cons (pe_strS (l := [115, 105, 103, 110, 115]) (by decide +kernel)) (pa_cons (pe_xf xs.xf xs.no hz hf (pv 3)) pa_nil)))))) (.cons (i := 3) rfl rfl (names_Q xt) (fun a oe cls d pn hz hf => (pss_one (ps_ret (pe_lst (pa_cons (pe_strS (l := [115, 116, 101, 112, 115]) (by decide +kernel)) (pa_cons (pe_xf xt.xf xt.no hz hf (pv 3)) pa_nil)))))) (.cons (i := 3) rfl rfl (names_Q xe) (fun a oe cls d pn hz hf => (pss_one (ps_ret (pe_lst (pa_cons (pe_strS (l := [101, 110, 100, 115]) (by decide +kernel)) (pa_cons (pe_xf xe.xf xe.no hz hf (pv 3)) pa_nil)))))) .nil))))), ?_⟩
    walk_at "rd"
    refine i_makeX ?_
    walk_at "rd"
    intro x dx nx ndx ne
    have sa : Same H (upd (upd H dx (.own x)) x (.ins C dx [])) := Same.set_new (same_upd ndx) nx
    refine ⟨x, dx, v1, v2, v3, d1, d2, d3, rfl, upd_same, h1.same sa, h2.same sa, h3.same sa, s2, s3, fun e1 dy H' ny sy ey => ?_, fun n en e1 e2 dy H' ny sy ey => ?_, fun n en e1 e2 e3 dy H' ny sy ey => ?_, fun n en e1 e2 e3 H' sb D => ⟨rfl, ?_⟩⟩
    · intro σ lσ
      obtain ⟨u0, u1, u2, u3, rfl⟩ : ∃ u0 u1 u2 u3, σ = [u0, u1, u2, u3] := by
        rcases σ with _ | ⟨u0, _ | ⟨u1, _ | ⟨u2, _ | ⟨u3, _ | ⟨u4, σ⟩⟩⟩⟩⟩ <;> first | exact ⟨u0, u1, u2, u3, rfl⟩ | cases lσ
      refine ⟨true, xs.me, fun _ a na => ?_, fun z => by cases z⟩
      walk_at "rd"
      refine ⟨_, rfl, rfl, rfl, dy, _, _, rfl, ey, rfl, ?_⟩
      walk_at "rd"
      refine newL0 (Nat.le_of_ble_eq_true rfl) fun t H2 nt st et => ?_
      exact k1 e1 t _ (sa.trans (sy.trans st)) et
    · intro σ lσ
      obtain ⟨u0, u1, u2, u3, rfl⟩ : ∃ u0 u1 u2 u3, σ = [u0, u1, u2, u3] := by
        rcases σ with _ | ⟨u0, _ | ⟨u1, _ | ⟨u2, _ | ⟨u3, _ | ⟨u4, σ⟩⟩⟩⟩⟩ <;> first | exact ⟨u0, u1, u2, u3, rfl⟩ | cases lσ
      refine ⟨false, hTS, (fun z => by cases z), fun _ => ⟨true, xt.me, fun _ a na => ?_, fun z => by cases z⟩⟩
      walk_at "rd"
      refine ⟨_, rfl, rfl, rfl, dy, _, _, rfl, ey, rfl, ?_⟩
      walk_at "rd"
      refine newL0 (Nat.le_of_ble_eq_true rfl) fun t H2 nt st et => ?_
      exact k2 n en e1 e2 t _ (sa.trans (sy.trans st)) et
    · intro σ lσ
      obtain ⟨u0, u1, u2, u3, rfl⟩ : ∃ u0 u1 u2 u3, σ = [u0, u1, u2, u3] := by
        rcases σ with _ | ⟨u0, _ | ⟨u1, _ | ⟨u2, _ | ⟨u3, _ | ⟨u4, σ⟩⟩⟩⟩⟩ <;> first | exact ⟨u0, u1, u2, u3, rfl⟩ | cases lσ
      refine ⟨false, hES, (fun z => by cases z), fun _ => ⟨false, hET, (fun z => by cases z), fun _ => ⟨true, xe.me, fun _ a na => ?_, fun z => by cases z⟩⟩⟩
      walk_at "rd"
      refine ⟨_, rfl, rfl, rfl, dy, _, _, rfl, ey, rfl, ?_⟩
      walk_at "rd"
      refine newL0 (Nat.le_of_ble_eq_true rfl) fun t H2 nt st et => ?_
      exact k3 n en e1 e2 e3 t _ (sa.trans (sy.trans st)) et
    · walk_at "rd"
      refine newL0 (Nat.le_of_ble_eq_true rfl) fun t H2 nt st et => ?_
      have s1 : Same H H' := fun a o e => sb _ _ (fun q => by rw [q, nx] at e; cases e) (sa _ _ e)
      exact k4 n en e1 e2 e3 t _ _ (s1.trans st) (D.same st) et
end
end Sw
namespace Sw
open PySem PySem.Spec PyProof.Rows L2
local macro_rules | `(tactic| walk_at "hp") => `(tactic| first
  | (with_reducible assumption) | (with_reducible exact upd_same)
  | ((with_reducible refine' upd_old ?q1 ?q2); (case q1 => (with_reducible assumption)); (case q2 => walk_at "hp"))
  | ((with_reducible refine' Same.at ?q1 ?q2); (case q1 => (with_reducible assumption)); (case q2 => walk_at "hp"))
  | ((with_reducible refine' upd_skip ?q1 ?q2); (case q1 => walk_at "ne"); (case q2 => walk_at "hp"))
  | fail)
local macro_rules | `(tactic| walk_at "ne") => `(tactic| first
  | (with_reducible assumption) | (with_reducible exact Ne.symm (by assumption))
  | ((with_reducible refine' ne_of_none ?q1 ?q2); (case q2 => (with_reducible assumption)); (case q1 => walk_at "hp"))
  | fail)
local macro_rules | `(tactic| walk_at "ci") => `(tactic| first | assumption | (show (0 : Int) < _; first | decide | (with_reducible omega)) | exact ⟨by decide, by decide⟩ | exact .inl ⟨by decide, by decide⟩ | exact .inr ⟨by decide, by decide⟩)
local macro_rules | `(tactic| walk_at "ln") => `(tactic| first | (with_reducible assumption) | (with_reducible omega) | (simp only [List.length_append, List.length_take, List.length_drop, List.length_reverse, List.length_cons, List.length_nil]; with_reducible omega))
local macro_rules | `(tactic| walk_at "rd1") => `(tactic| first
  | (with_reducible refine i_seq ?_) | (with_reducible refine i_asg ?_) | (with_reducible refine i_ret ?_) | (with_reducible refine i_name ?_) | ((with_reducible refine' i_var ?q1 ?_); (case q1 => exact rfl)) | (with_reducible refine i_c ?_) | (with_reducible refine i_op ?_) | (with_reducible refine i_un ?_)
  | (with_reducible refine i_rI0 ?_) | (with_reducible refine i_cb ?_) | (with_reducible refine i_cons ?_) | (with_reducible refine i_nil ?_) | (with_reducible refine i_call ?_) | (with_reducible refine i_if ?_) | (with_reducible refine i_ifE ?_) | (with_reducible refine i_test ?_) | (with_reducible refine i_bl ?_)
  | (with_reducible refine i_and ?_) | (with_reducible refine i_or ?_) | (with_reducible refine i_not ?_) | (with_reducible refine i_lstM ?_) | (with_reducible refine i_lstLM ?_) | (with_reducible refine i_tupM ?_) | (with_reducible refine i_next ?_) | (with_reducible refine i_drop ?_) | (with_reducible refine i_sub ?_)
  | (with_reducible refine i_bm ?_) | (with_reducible refine i_sl ?_) | (with_reducible refine i_part ?_) | (with_reducible refine i_nopart ?_) | (with_reducible refine i_exI ?_) | (with_reducible refine i_chain ?_) | ((with_reducible refine' i_aug ?q1 ?_); (case q1 => exact rfl)) | (with_reducible refine i_ip ?_)
  | (with_reducible refine i_par ?_) | (with_reducible refine i_pair ?_) | (with_reducible refine i_andV ?_) | (with_reducible refine i_orV ?_) | (with_reducible refine i_notV ?_) | (with_reducible refine i_m1 ?_) | (with_reducible refine i_str ?_)
  | (with_reducible refine iteF ?_) | (with_reducible refine iteT ?_) | (with_reducible refine iteNT ?_) | (with_reducible refine iteNF ?_) | (with_reducible refine i_tyS ?_) | (with_reducible refine i_tB ?_) | (with_reducible refine i_retN ?_) | (with_reducible refine i_par3 ?_) | (with_reducible refine i_trip ?_) | (with_reducible refine i_gCons ?_) | (with_reducible refine i_gNil ?_) | (with_reducible refine i_lstRg ?_) | (with_reducible refine i_rg1 ?_)
  | (with_reducible refine i_lc ?_) | (with_reducible refine i_for ?_) | (with_reducible refine i_iList ?_) | (with_reducible refine i_iTup ?_) | (with_reducible refine i_iStr ?_) | (with_reducible refine i_iRng1 ?_) | (with_reducible refine i_iEnS ?_)
  | ((with_reducible refine' i_ixTH ?q1 ?q2 ?_); (case q1 => walk_at "hp"); (case q2 => exact rfl))
  | ((with_reducible refine' i_ixLH ?q1 ?q2 ?_); (case q1 => walk_at "hp"); (case q2 => exact rfl))
  | ((with_reducible refine i_addS ?q1 ?_); (case q1 => walk_at "ln")) | ((with_reducible refine i_lenSS ?q1 ?_); (case q1 => walk_at "ln")) | ((with_reducible refine i_slFrom ?q1 ?q2 ?_); (case q1 => walk_at "ln"); (case q2 => walk_at "ln")) | ((with_reducible refine i_slTo ?q1 ?q2 ?_); (case q1 => walk_at "ln"); (case q2 => walk_at "ln"))
  | ((with_reducible refine' i_tyL ?q1 ?_); (case q1 => walk_at "hp"))
  | ((with_reducible refine' i_gTupH ?q1 ?q2 ?_); (case q1 => walk_at "hp"); (case q2 => exact rfl))
  | (with_reducible refine i_dnewM ?_) | (with_reducible refine i_init ?_) | (with_reducible refine i_fst ?_) | (with_reducible refine i_mk ?_) | (with_reducible refine i_raise ?_) | (with_reducible refine i_callS ?_) | (with_reducible refine i_kwS ?_)
  | (with_reducible refine i_revT ?_) | (with_reducible refine i_kw ?_) | ((with_reducible refine' ⟨_, _, rfl, sqT_of ?q1, ?_⟩); (case q1 => walk_at "hp"))
  | (with_reducible refine i_revS ?_) | ((with_reducible refine i_revSS ?q1 ?_); (case q1 => walk_at "ln"))
  | (with_reducible refine i_startS ?_) | (with_reducible refine i_inSg ?_) | (with_reducible refine i_absN ?_) | (with_reducible refine i_min2 ?_) | (with_reducible refine i_max2 ?_) | (with_reducible refine i_min3 ?_) | (with_reducible refine i_intN ?_) | (with_reducible refine i_intNB ?_)
  | ((with_reducible refine' i_lenL ?q1 ?_); (case q1 => walk_at "hp")) | ((with_reducible refine' i_lenT ?q1 ?_); (case q1 => walk_at "hp"))
  | (with_reducible refine i_eqI ?_) | (with_reducible refine i_neI ?_) | (with_reducible refine i_eqS ?_) | (with_reducible refine i_neS ?_) | (with_reducible refine i_isNoI ?_) | (with_reducible refine i_isNoN ?_) | (with_reducible refine i_isNoR ?_)
  | ((with_reducible refine i_pow ?q1 ?q2 ?q3 ?_); (case q1 => decide); (case q2 => decide); (case q3 => (with_reducible omega)))
  | ((with_reducible refine i_rI ?q1 ?_); (case q1 => walk_at "ci"))
  | (with_reducible refine Or.inl ⟨_, rfl, ?_⟩) | (with_reducible refine Or.inr ⟨_, rfl, ?_⟩) | (with_reducible refine ⟨_, rfl, ?_⟩) | (with_reducible refine ⟨_, _, rfl, ?_⟩) | (with_reducible refine ⟨_, _, rfl, rfl, ?_⟩)
  | ((with_reducible refine' ⟨_, _, rfl, Or.inl (sqL_of ?q1), ?_⟩); (case q1 => walk_at "hp")) | ((with_reducible refine' ⟨_, _, rfl, Or.inr (sqT_of ?q1), ?_⟩); (case q1 => walk_at "hp")) | (with_reducible refine i_dget ?_) | (with_reducible refine i_disp1T ?_) | (with_reducible refine i_dcT ?_) | (with_reducible refine i_dnewT ?_) | (with_reducible refine i_fld ?_) | (with_reducible refine i_sFld ?_) | (with_reducible refine i_make ?_) | (with_reducible refine i_meth ?_) | (with_reducible refine i_star ?_) | (with_reducible refine i_isNoS ?_) | (with_reducible refine i_lc2 ?_) | fail)
local macro_rules | `(tactic| walk_at "rd") => `(tactic| repeat' walk_at "rd1")

/-- _law_met(signs, steps, ends) -/
def spMetF (K : PySem.W.Frag) (C : Addr) : Sp := fun vs H Q _ => ∃ (v1 v2 v3 : V) (d1 d2 d3 : PyData), vs = [v1, v2, v3] ∧ Dz K H v1 d1 ∧ Dz K H v2 d2 ∧ Dz K H v3 d3 ∧ Sd 6 20000 d2 ∧ Sd 6 20000 d3 ∧
  (isG d1 = false → ∀ t H', H t = none → Same H H' → H' t = some (.lst [.str (S tSigns), v1]) → Q (.ref t) H') ∧
  (∀ n, d1 = .int n → isG d1 = true → stpB n d2 = false → ∀ t H', H t = none → Same H H' → H' t = some (.lst [.str (S tSteps), v2]) → Q (.ref t) H') ∧
  (∀ n, d1 = .int n → isG d1 = true → stpB n d2 = true → ensB (seqD d2).length d3 = false → ∀ t H', H t = none → Same H H' → H' t = some (.lst [.str (S tEnds), v3]) → Q (.ref t) H') ∧
  (∀ n, d1 = .int n → isG d1 = true → stpB n d2 = true → ensB (seqD d2).length d3 = true → ∀ t v H', H t = none → Same H H' → DAt K C H' v n (seqD d2).length (tupS d2) (tup1 d3) → H' t = some (.lst [.str (S tMade), v]) → Q (.ref t) H')
section
variable {P : Program} {w : World} {K : PySem.W.Frag} {mg : Str → Option Value} {base : Heap} {f : Addr} {fd : FuncData}
theorem ok_metF {C XS XT XE : Addr} (F : Fun K "_law_met" "_law_met" s__law_met f fd) (xs : XQ "InvalidSigns" P w K mg base XS) (xt : XQ "InvalidSteps" P w K mg base XT) (xe : XQ "InvalidEnds" P w K mg base XE)
    (hTS : PySem.W.exmOne K (.ref XT) (.ref XS) = some false) (hES : PySem.W.exmOne K (.ref XE) (.ref XS) = some false) (hET : PySem.W.exmOne K (.ref XE) (.ref XT) = some false)
    (m_Decoder : MakX P w K mg base 5 "Decoder" C (spIni K C XS XT XE)) : FnOk P w K mg base CX0 7 f fd ["signs", "steps", "ends"] (spMetF K C) := by
  refine F.ok sc__law_met (fun vs H Q E h => ?_) (fun cdv A outer s H vs Q E hr h => ?_)
  · obtain ⟨v1, v2, v3, d1, d2, d3, rfl, _⟩ := h; rfl
  · obtain ⟨v1, v2, v3, d1, d2, d3, rfl, h1, h2, h3, s2, s3, k1, k2, k3, k4⟩ := h
    refine ⟨_, (pss_one (ps_tries (Wo := fun _ _ _ _ => False) rfl rfl sc__law_met.nd takes_none (fun W pn xe tk po => (pss_one (ps_ret (pe_lst (pa_cons (pe_strS (l := [109, 97, 100, 101]) (by decide +kernel)) (pa_cons (pe_mkX 4 m_Decoder hr (by decide) tk (pa_cons (pv 0) (pa_cons (pv 1) (pa_cons (pv 2) pa_nil)))) pa_nil))))))
      (.cons (i := 3) rfl rfl (names_Q xs) (fun a oe cls d pn hz hf => (pss_one (ps_ret (pe_lst (pa_cons (pe_strS (l := [115, 105, 103, 110, 115]) (by decide +kernel)) (pa_cons (pe_xf xs.xf xs.no hz hf (pv 3)) pa_nil)))))) (.cons (i := 3) rfl rfl (names_Q xt) (fun a oe cls d pn hz hf => (pss_one (ps_ret (pe_lst (pa_cons (pe_strS (l := [115, 116, 101, 112, 115]) (by decide +kernel)) (pa_cons (pe_xf xt.xf xt.no hz hf (pv 3)) pa_nil)))))) (.cons (i := 3) rfl rfl (names_Q xe) (fun a oe cls d pn hz hf => (pss_one (ps_ret (pe_lst (pa_cons (pe_strS (l := [101, 110, 100, 115]) (by decide +kernel)) (pa_cons (pe_xf xe.xf xe.no hz hf (pv 3)) pa_nil)))))) .nil))))), ?_⟩
    walk_at "rd"
    refine i_makeX ?_
    walk_at "rd"
    intro x dx nx ndx ne
    have sa : Same H (upd (upd H dx (.own x)) x (.ins C dx [])) := Same.set_new (same_upd ndx) nx
    refine ⟨x, dx, v1, v2, v3, d1, d2, d3, rfl, upd_same, h1.same sa, h2.same sa, h3.same sa, s2, s3, fun e1 dy H' ny sy ey => ?_, fun n en e1 e2 dy H' ny sy ey => ?_, fun n en e1 e2 e3 dy H' ny sy ey => ?_, fun n en e1 e2 e3 H' sb D => ⟨rfl, ?_⟩⟩
    · intro σ lσ
      obtain ⟨u0, u1, u2, u3, rfl⟩ : ∃ u0 u1 u2 u3, σ = [u0, u1, u2, u3] := by
        rcases σ with _ | ⟨u0, _ | ⟨u1, _ | ⟨u2, _ | ⟨u3, _ | ⟨u4, σ⟩⟩⟩⟩⟩ <;> first | exact ⟨u0, u1, u2, u3, rfl⟩ | cases lσ
      refine ⟨true, xs.me, fun _ a na => ?_, fun z => by cases z⟩
      walk_at "rd"
      refine ⟨_, rfl, rfl, rfl, dy, _, _, rfl, ey, rfl, ?_⟩
      walk_at "rd"
      refine newL0 (Nat.le_of_ble_eq_true rfl) fun t H2 nt st et => ?_
      exact k1 e1 t _ ((sa.trans sy).free nt) (sa.trans (sy.trans st)) et
    · intro σ lσ
      obtain ⟨u0, u1, u2, u3, rfl⟩ : ∃ u0 u1 u2 u3, σ = [u0, u1, u2, u3] := by
        rcases σ with _ | ⟨u0, _ | ⟨u1, _ | ⟨u2, _ | ⟨u3, _ | ⟨u4, σ⟩⟩⟩⟩⟩ <;> first | exact ⟨u0, u1, u2, u3, rfl⟩ | cases lσ
      refine ⟨false, hTS, (fun z => by cases z), fun _ => ⟨true, xt.me, fun _ a na => ?_, fun z => by cases z⟩⟩
      walk_at "rd"
      refine ⟨_, rfl, rfl, rfl, dy, _, _, rfl, ey, rfl, ?_⟩
      walk_at "rd"
      refine newL0 (Nat.le_of_ble_eq_true rfl) fun t H2 nt st et => ?_
      exact k2 n en e1 e2 t _ ((sa.trans sy).free nt) (sa.trans (sy.trans st)) et
    · intro σ lσ
      obtain ⟨u0, u1, u2, u3, rfl⟩ : ∃ u0 u1 u2 u3, σ = [u0, u1, u2, u3] := by
        rcases σ with _ | ⟨u0, _ | ⟨u1, _ | ⟨u2, _ | ⟨u3, _ | ⟨u4, σ⟩⟩⟩⟩⟩ <;> first | exact ⟨u0, u1, u2, u3, rfl⟩ | cases lσ
      refine ⟨false, hES, (fun z => by cases z), fun _ => ⟨false, hET, (fun z => by cases z), fun _ => ⟨true, xe.me, fun _ a na => ?_, fun z => by cases z⟩⟩⟩
      walk_at "rd"
      refine ⟨_, rfl, rfl, rfl, dy, _, _, rfl, ey, rfl, ?_⟩
      walk_at "rd"
      refine newL0 (Nat.le_of_ble_eq_true rfl) fun t H2 nt st et => ?_
      exact k3 n en e1 e2 e3 t _ ((sa.trans sy).free nt) (sa.trans (sy.trans st)) et
    · walk_at "rd"
      refine newL0 (Nat.le_of_ble_eq_true rfl) fun t H2 nt st et => ?_
      have s1 : Same H H' := fun a o e => sb _ _ (fun q => by rw [q, nx] at e; cases e) (sa _ _ e)
      exact k4 n en e1 e2 e3 t _ _ (s1.free nt) (s1.trans st) (D.same st) et
end
end Sw
namespace Sw
open PySem PySem.Spec PyProof.Rows L2
local macro_rules | `(tactic| walk_at "hp") => `(tactic| first
  | (with_reducible assumption) | (with_reducible exact upd_same)
  | ((with_reducible refine' upd_old ?q1 ?q2); (case q1 => (with_reducible assumption)); (case q2 => walk_at "hp"))
  | ((with_reducible refine' Same.at ?q1 ?q2); (case q1 => (with_reducible assumption)); (case q2 => walk_at "hp"))
  | ((with_reducible refine' upd_skip ?q1 ?q2); (case q1 => walk_at "ne"); (case q2 => walk_at "hp"))
  | fail)
local macro_rules | `(tactic| walk_at "ne") => `(tactic| first
  | (with_reducible assumption) | (with_reducible exact Ne.symm (by assumption))
  | ((with_reducible refine' ne_of_none ?q1 ?q2); (case q2 => (with_reducible assumption)); (case q1 => walk_at "hp"))
  | fail)
local macro_rules | `(tactic| walk_at "ci") => `(tactic| first | assumption | (show (0 : Int) < _; first | decide | (with_reducible omega)) | exact ⟨by decide, by decide⟩ | exact .inl ⟨by decide, by decide⟩ | exact .inr ⟨by decide, by decide⟩)
local macro_rules | `(tactic| walk_at "ln") => `(tactic| first | (with_reducible assumption) | (with_reducible omega) | (simp only [List.length_append, List.length_take, List.length_drop, List.length_reverse, List.length_cons, List.length_nil]; with_reducible omega))
local macro_rules | `(tactic| walk_at "rd1") => `(tactic| first
  | (with_reducible refine i_seq ?_) | (with_reducible refine i_asg ?_) | (with_reducible refine i_ret ?_) | (with_reducible refine i_name ?_) | ((with_reducible refine' i_var ?q1 ?_); (case q1 => exact rfl)) | (with_reducible refine i_c ?_) | (with_reducible refine i_op ?_) | (with_reducible refine i_un ?_)
  | (with_reducible refine i_rI0 ?_) | (with_reducible refine i_cb ?_) | (with_reducible refine i_cons ?_) | (with_reducible refine i_nil ?_) | (with_reducible refine i_call ?_) | (with_reducible refine i_if ?_) | (with_reducible refine i_ifE ?_) | (with_reducible refine i_test ?_) | (with_reducible refine i_bl ?_)
  | (with_reducible refine i_and ?_) | (with_reducible refine i_or ?_) | (with_reducible refine i_not ?_) | (with_reducible refine i_lstM ?_) | (with_reducible refine i_lstLM ?_) | (with_reducible refine i_tupM ?_) | (with_reducible refine i_next ?_) | (with_reducible refine i_drop ?_) | (with_reducible refine i_sub ?_)
  | (with_reducible refine i_bm ?_) | (with_reducible refine i_sl ?_) | (with_reducible refine i_part ?_) | (with_reducible refine i_nopart ?_) | (with_reducible refine i_exI ?_) | (with_reducible refine i_chain ?_) | ((with_reducible refine' i_aug ?q1 ?_); (case q1 => exact rfl)) | (with_reducible refine i_ip ?_)
  | (with_reducible refine i_par ?_) | (with_reducible refine i_pair ?_) | (with_reducible refine i_andV ?_) | (with_reducible refine i_orV ?_) | (with_reducible refine i_notV ?_) | (with_reducible refine i_m1 ?_) | (with_reducible refine i_str ?_)
  | (with_reducible refine iteF ?_) | (with_reducible refine iteT ?_) | (with_reducible refine iteNT ?_) | (with_reducible refine iteNF ?_) | (with_reducible refine i_tyS ?_) | (with_reducible refine i_tB ?_) | (with_reducible refine i_retN ?_) | (with_reducible refine i_par3 ?_) | (with_reducible refine i_trip ?_) | (with_reducible refine i_gCons ?_) | (with_reducible refine i_gNil ?_) | (with_reducible refine i_lstRg ?_) | (with_reducible refine i_rg1 ?_)
  | (with_reducible refine i_lc ?_) | (with_reducible refine i_for ?_) | (with_reducible refine i_iList ?_) | (with_reducible refine i_iTup ?_) | (with_reducible refine i_iStr ?_) | (with_reducible refine i_iRng1 ?_) | (with_reducible refine i_iEnS ?_)
  | ((with_reducible refine' i_ixTH ?q1 ?q2 ?_); (case q1 => walk_at "hp"); (case q2 => exact rfl))
  | ((with_reducible refine' i_ixLH ?q1 ?q2 ?_); (case q1 => walk_at "hp"); (case q2 => exact rfl))
  | ((with_reducible refine i_addS ?q1 ?_); (case q1 => walk_at "ln")) | ((with_reducible refine i_lenSS ?q1 ?_); (case q1 => walk_at "ln")) | ((with_reducible refine i_slFrom ?q1 ?q2 ?_); (case q1 => walk_at "ln"); (case q2 => walk_at "ln")) | ((with_reducible refine i_slTo ?q1 ?q2 ?_); (case q1 => walk_at "ln"); (case q2 => walk_at "ln"))
  | ((with_reducible refine' i_tyL ?q1 ?_); (case q1 => walk_at "hp"))
  | ((with_reducible refine' i_gTupH ?q1 ?q2 ?_); (case q1 => walk_at "hp"); (case q2 => exact rfl))
  | (with_reducible refine i_dnewM ?_) | (with_reducible refine i_init ?_) | (with_reducible refine i_fst ?_) | (with_reducible refine i_mk ?_) | (with_reducible refine i_raise ?_) | (with_reducible refine i_callS ?_) | (with_reducible refine i_kwS ?_)
  | (with_reducible refine i_revT ?_) | (with_reducible refine i_kw ?_) | ((with_reducible refine' ⟨_, _, rfl, sqT_of ?q1, ?_⟩); (case q1 => walk_at "hp"))
  | (with_reducible refine i_revS ?_) | ((with_reducible refine i_revSS ?q1 ?_); (case q1 => walk_at "ln"))
  | (with_reducible refine i_startS ?_) | (with_reducible refine i_inSg ?_) | (with_reducible refine i_absN ?_) | (with_reducible refine i_min2 ?_) | (with_reducible refine i_max2 ?_) | (with_reducible refine i_min3 ?_) | (with_reducible refine i_intN ?_) | (with_reducible refine i_intNB ?_)
  | ((with_reducible refine' i_lenL ?q1 ?_); (case q1 => walk_at "hp")) | ((with_reducible refine' i_lenT ?q1 ?_); (case q1 => walk_at "hp"))
  | (with_reducible refine i_eqI ?_) | (with_reducible refine i_neI ?_) | (with_reducible refine i_eqS ?_) | (with_reducible refine i_neS ?_) | (with_reducible refine i_isNoI ?_) | (with_reducible refine i_isNoN ?_) | (with_reducible refine i_isNoR ?_)
  | ((with_reducible refine i_pow ?q1 ?q2 ?q3 ?_); (case q1 => decide); (case q2 => decide); (case q3 => (with_reducible omega)))
  | ((with_reducible refine i_rI ?q1 ?_); (case q1 => walk_at "ci"))
  | (with_reducible refine Or.inl ⟨_, rfl, ?_⟩) | (with_reducible refine Or.inr ⟨_, rfl, ?_⟩) | (with_reducible refine ⟨_, rfl, ?_⟩) | (with_reducible refine ⟨_, _, rfl, ?_⟩) | (with_reducible refine ⟨_, _, rfl, rfl, ?_⟩)
  | ((with_reducible refine' ⟨_, _, rfl, Or.inl (sqL_of ?q1), ?_⟩); (case q1 => walk_at "hp")) | ((with_reducible refine' ⟨_, _, rfl, Or.inr (sqT_of ?q1), ?_⟩); (case q1 => walk_at "hp")) | (with_reducible refine i_dget ?_) | (with_reducible refine i_disp1T ?_) | (with_reducible refine i_dcT ?_) | (with_reducible refine i_dnewT ?_) | (with_reducible refine i_fld ?_) | (with_reducible refine i_sFld ?_) | (with_reducible refine i_make ?_) | (with_reducible refine i_meth ?_) | (with_reducible refine i_star ?_) | (with_reducible refine i_isNoS ?_) | (with_reducible refine i_lc2 ?_) | fail)
local macro_rules | `(tactic| walk_at "rd") => `(tactic| repeat' walk_at "rd1")

local macro_rules | `(tactic| walk_at "rd1") => `(tactic| (with_reducible refine i_kn fun _ => ?_))
/-! ### copies, and the door -/
/-- what a step makes: of old things and of what is new since -/
def Bo (G H H' : Hp) : Hp := fun a => match G a, H a with
  | none, some _ => none
  | _, _ => H' a
theorem bo_old {G H H' : Hp} (s : Same G H') : Same G (Bo G H H') := fun a o e => by
  unfold Bo; rw [e]; exact s _ _ e
theorem bo_new {G H H' : Hp} {a : Addr} (n : H a = none) : Bo G H H' a = H' a := by
  unfold Bo; rw [n]; cases G a <;> rfl
theorem bo_del {G H H' : Hp} {p : Addr} (hG : G p = none) (hp : H p ≠ none) : Same (Bo G H H') (L2.del H' p) := fun a o e => by
  have ne : a ≠ p := fun q => by
    subst q
    unfold Bo at e
    rw [hG] at e
    rcases q : H a with _ | u
    · exact hp q
    · rw [q] at e; cases e
  rw [L2.del_ne ne]
  unfold Bo at e
  split at e
  · cases e
  · exact e
theorem bo_sub {G H H' : Hp} : Same (Bo G H H') H' := fun a o e => by
  unfold Bo at e
  split at e
  · cases e
  · exact e
section
variable {K : PySem.W.Frag} {J : It} {n : Nat} {G : Hp → Prop} {Y : Nat → Hp → V → Hp → Prop} {g : TG} {te : TE} {vs : List Nat} {σ : L2.St} {H1 : Hp} {Q : VK}
/-- a list of old and new things, nothing drawn -/
theorem go_cp (w : Walk J n G Y) (hn : n ≤ 30000) (P : Nat → PyData → Prop) (hG : ∀ H, Same H1 H → G H)
    (hs : ∀ i x H H', i < n → Same H1 H → Y i H x H' → ∀ R : V → Hp → Prop, (∀ y e H4, Dz K (Bo H1 H H4) y e → P i e → Same H H4 → R y H4) →
      g x (wipe σ vs) H' fun σ2 H2 => wipe σ2 vs = wipe σ vs ∧ te σ2 H2 R)
    (hmono : ∀ x σ H (R R' : L2.St → Hp → Prop), (∀ σ' H', R σ' H' → R' σ' H') → g x σ H R → g x σ H R')
    (hd : ∀ p ws ds H, H1 p = none → ds.length = n → (∀ i e, ds[i]? = some e → P i e) → H p = some (.lst ws) → DzAll K (L2.del H p) ws ds → Same H1 H → Q (.ref p) H) : LcGo J g tYes te vs σ H1 Q := by
  refine go_lc w (fun p i H => ∃ ws ds, ds.length = i ∧ (∀ i e, ds[i]? = some e → P i e) ∧ H p = some (.lst ws) ∧ DzAll K (L2.del H p) ws ds ∧ Same H1 H)
    (fun p np => ⟨[], [], rfl, fun i e q => by simp at q, upd_same, .nil, same_upd np⟩) (fun p i H hi q => hG H q.choose_spec.choose_spec.2.2.2.2)
    (fun p np i x H H' hi q y => ?_) (fun p H np q => ?_)
  · obtain ⟨ws, ds, l, hP, ep, D, sx⟩ := q
    refine hmono _ _ _ _ _ (fun σ2 H2 q => ?_) (hs i x H H' hi sx y (fun y H4 => ∃ acc, H4 p = some (.lst acc) ∧ acc.length < sizeLine ∧ (∃ ws ds, ds.length = i + 1 ∧ (∀ i e, ds[i]? = some e → P i e) ∧ (upd H4 p (.lst (acc ++ [y]))) p = some (.lst ws) ∧ DzAll K (L2.del (upd H4 p (.lst (acc ++ [y]))) p) ws ds ∧ Same H1 (upd H4 p (.lst (acc ++ [y]))))) fun y e H4 De Pe s4 => ?_)
    · refine ⟨q.1, ?_⟩
      unfold tYes
      dsimp only
      rw [if_pos rfl]
      exact q.2
    · have ep4 := s4 _ _ ep
      have lw := D.len
      refine ⟨ws, ep4, Nat.lt_of_lt_of_le (show ws.length < 100000 by omega) (Nat.le_of_ble_eq_true rfl), _, ds ++ [e], by rw [List.length_append, l]; rfl, fun j e' hj => ?_, upd_same, ?_, ?_⟩
      · by_cases hlt : j < ds.length
        · rw [List.getElem?_append_left hlt] at hj; exact hP j e' hj
        · rw [List.getElem?_append_right (by omega)] at hj
          have : j - ds.length = 0 := by
            rcases q : j - ds.length with _ | k
            · rfl
            · rw [q] at hj; simp at hj
          rw [this] at hj
          have : j = i := by omega
          subst this
          cases hj; exact Pe
      · refine (D.same (del_sb ((SB.of s4).trans SB.upd))).app (.cons ?_ .nil)
        exact (De.same (bo_del np (by rw [ep]; simp))).same (del_sb SB.upd)
      · exact fun a o ha => by
          rw [upd_ne (ne_of_none ha np)]
          exact s4 a o (sx a o ha)
  · obtain ⟨ws, ds, l, hP, ep, D, sx⟩ := q
    exact hd p ws ds H np l hP ep D sx
end
/-- a copy of v -/
def Cp (K : PySem.W.Frag) (G H : Hp) (v v' : V) (d : PyData) : Prop := (tyB "list" d = false ∧ v' = v) ∨ ∃ a ws ds, d = .list ds ∧ v' = .ref a ∧ G a = none ∧ H a = some (.lst ws) ∧ DzAll K (L2.del H a) ws ds
theorem Cp.same {K : PySem.W.Frag} {G H H' : Hp} {v v' : V} {d : PyData} (s : Same H H') (h : Cp K G H v v' d) : Cp K G H' v v' d := by
  rcases h with h | ⟨a, ws, ds, e1, e2, n, e, D⟩
  · exact .inl h
  · exact .inr ⟨a, ws, ds, e1, e2, n, s _ _ e, D.same (del_sb (SB.of s))⟩
theorem Cp.dz {K : PySem.W.Frag} {G H : Hp} {v v' : V} {d : PyData} (h : Cp K G H v v' d) (x : Dz K H v d) : Dz K H v' d := by
  rcases h with ⟨_, rfl⟩ | ⟨a, ws, ds, rfl, rfl, n, e, D⟩
  · exact x
  · exact .lst e (D.same del_sub)
/-- _law_copy(value) -/
def spCopy (K : PySem.W.Frag) : Sp := fun vs H Q _ => ∃ v d, vs = [v] ∧ Dz K H v d ∧ Sd 6 20000 d ∧ ∀ v' H', Same H H' → Cp K H H' v v' d → Q v' H'
def tupR : PyData → PyData
  | .list es => .tuple es
  | d => d
def tupD : PyData → PyData
  | .list ds => .tuple (ds.map tupR)
  | d => d
/-- _law_tuples(value) -/
def spTuples (K : PySem.W.Frag) : Sp := fun vs H Q _ => ∃ v d, vs = [v] ∧ Dz K H v d ∧ Sd 6 20000 d ∧ ∀ v' H', Same H H' → Dz K H' v' (tupD d) → Q v' H'
theorem SdAll.wid {n : Nat} : ∀ {w : Nat} {ds : List PyData}, SdAll n w ds → ds.length ≤ w
  | _, [], _ => Nat.zero_le _
  | _, d :: ds, h => by
    obtain ⟨u, v, l, _, k⟩ := h.inv
    have := SdAll.wid k
    rw [List.length_cons]; omega
/-- _law_door(word, signs, steps, ends) -/
def spDoor (K : PySem.W.Frag) : Sp := fun vs H Q _ => ∃ (wd : List Nat) (v1 v2 v3 : V) (d1 d2 d3 : PyData), vs = [.str (S wd), v1, v2, v3] ∧ Mk K H ∧ Dz K H v1 d1 ∧ Dz K H v2 d2 ∧ Dz K H v3 d3 ∧ Sd 6 20000 d1 ∧ Sd 6 20000 d2 ∧ Sd 6 20000 d3 ∧
  ((wd = tSigns ∧ isG d1 = false) ∨ (wd = tSteps ∧ ∃ n, d1 = .int n ∧ isG d1 = true ∧ stpB n d2 = false) ∨ (wd = tEnds ∧ ∃ n, d1 = .int n ∧ isG d1 = true ∧ stpB n d2 = true ∧ ensB (seqD d2).length d3 = false)) ∧
  ∀ H', Same H H' → Q (.bl true) H'
section
variable {P : Program} {w : World} {K : PySem.W.Frag} {mg : Str → Option Value} {base : Heap} {f : Addr} {fd : FuncData}
theorem ok_lcopy (F : Fun K "_law_copy" "_law_copy" s__law_copy f fd) (z : Z mg) : FnOk P w K mg base CX0 1 f fd ["value"] (spCopy K) := by
  refine F.ok sc__law_copy (fun vs H Q E h => ?_) (fun cdv A outer s H vs Q E hr h => ?_)
  · obtain ⟨v, d, rfl, _⟩ := h; rfl
  · obtain ⟨v, d, rfl, hx, sd, k⟩ := h
    refine ⟨_, (pss_one (ps_ret (pe_ifExp (pt_val (pe_callB call_isi (by rfl) z.isinstance (by decide +kernel) (pa_cons (pv 0) (pa_cons (pe_bltn (v := .ty "list") (by rfl) z.list (by decide +kernel) rfl) pa_nil)))) (pe_lc (own := [("row", 1)]) (g := gName 1) (tt := tYes) rfl sc__law_copy.nd (pi_list (pv 0)) (blkOk_by (own := [("row", 1)]) (N := n__law_copy) (sc := defScope s__law_copy) (by decide +kernel)) (fun _ _ _ _ _ => (pg_name (i := 1) sc__law_copy.nd rfl (.inl rfl))) (fun _ _ _ _ _ => pts_nil) (fun _ _ _ _ _ => (pe_ifExp (pt_val (pe_callB (call_isiB (K := K) rfl) (by rfl) z.isinstance (by decide +kernel) (pa_cons (pv 1) (pa_cons (pe_bltn (v := .ty "list") (by rfl) z.list (by decide +kernel) rfl) pa_nil)))) (pe_callTy (call_list_ofB (K := K) rfl) (by rfl) z.list (by decide +kernel) (pa_cons (pv 1) pa_nil)) (pv 1)))) (pv 0)))), ?_⟩
    walk_at "rd"
    refine hx.isi (n := "list") (by simp) ?_
    rcases q : tyB "list" d with _ | _
    · walk_at "rd"
      exact k v H (Same.refl H) (.inl ⟨q, rfl⟩)
    · obtain ⟨ds, rfl⟩ : ∃ ds, d = .list ds := by
        cases d <;> first | exact ⟨_, rfl⟩ | cases q
      obtain ⟨a, xs, rfl, ha, hxs⟩ := hx.lstI
      have lx := hxs.len
      have ld := sd.lstI.wid
      walk_at "rd"
      refine ⟨⟨_, sqL_of ha⟩, ?_⟩
      refine go_cp (K := K) (walk_list (xs := xs)) (by omega) (fun i e => ds[i]? = some e) (fun H s => sqL_of (s _ _ ha)) (fun i v Hx Hy hi sx y R hR => ?_) mono_name (fun p ws es H6 np le hE ep D6 s6 => ?_)
      · obtain ⟨rfl, hv⟩ := y
        obtain ⟨dr, gr, hdr⟩ := hxs.get hv
        walk_at "rd"
        refine ⟨rfl, ?_⟩
        walk_at "rd"
        refine (hdr.same sx).isi (n := "list") (by simp) ?_
        rcases q : tyB "list" dr with _ | _
        · walk_at "rd"
          exact hR v dr Hy (hdr.same (bo_old sx)) gr (Same.refl _)
        · obtain ⟨rs, rfl⟩ : ∃ rs, dr = .list rs := by
            cases dr <;> first | exact ⟨_, rfl⟩ | cases q
          obtain ⟨b, ys, rfl, hb, hys⟩ := hdr.lstI
          have hbx := sx _ _ hb
          walk_at "rd"
          exact fun t nt => hR _ (.list rs) _ (.lst ((bo_new nt).trans upd_same) (hys.same (bo_old (sx.trans (same_upd nt))))) gr (same_upd nt)
      · have : es = ds := by
          apply List.ext_getElem?
          intro i
          rcases q : es[i]? with _ | e
          · rw [List.getElem?_eq_none (by have := List.getElem?_eq_none_iff.mp q; omega)]
          · rw [hE i e q]
        subst this
        exact k _ H6 s6 (.inr ⟨p, ws, es, rfl, rfl, np, ep, D6⟩)
theorem ok_tuples (F : Fun K "_law_tuples" "_law_tuples" s__law_tuples f fd) (z : Z mg) : FnOk P w K mg base CX0 1 f fd ["value"] (spTuples K) := by
  refine F.ok sc__law_tuples (fun vs H Q E h => ?_) (fun cdv A outer s H vs Q E hr h => ?_)
  · obtain ⟨v, d, rfl, _⟩ := h; rfl
  · obtain ⟨v, d, rfl, hx, sd, k⟩ := h
    refine ⟨_, (pss_one (ps_ret (pe_ifExp (pt_val (pe_callB call_isi (by rfl) z.isinstance (by decide +kernel) (pa_cons (pv 0) (pa_cons (pe_bltn (v := .ty "list") (by rfl) z.list (by decide +kernel) rfl) pa_nil)))) (pe_callTy call_tuple_of (by rfl) z.tuple (by decide +kernel) (pa_cons (pe_lc (own := [("row", 1)]) (g := gName 1) (tt := tYes) rfl sc__law_tuples.nd (pi_list (pv 0)) (blkOk_by (own := [("row", 1)]) (N := n__law_tuples) (sc := defScope s__law_tuples) (by decide +kernel)) (fun _ _ _ _ _ => (pg_name (i := 1) sc__law_tuples.nd rfl (.inl rfl))) (fun _ _ _ _ _ => pts_nil) (fun _ _ _ _ _ => (pe_ifExp (pt_val (pe_callB (call_isiB (K := K) rfl) (by rfl) z.isinstance (by decide +kernel) (pa_cons (pv 1) (pa_cons (pe_bltn (v := .ty "list") (by rfl) z.list (by decide +kernel) rfl) pa_nil)))) (pe_callTy (call_tuple_ofB (K := K) rfl) (by rfl) z.tuple (by decide +kernel) (pa_cons (pv 1) pa_nil)) (pv 1)))) pa_nil)) (pv 0)))), ?_⟩
    walk_at "rd"
    refine hx.isi (n := "list") (by simp) ?_
    rcases q : tyB "list" d with _ | _
    · walk_at "rd"
      have e : tupD d = d := by cases d <;> first | rfl | cases q
      exact k v H (Same.refl H) (by rw [e]; exact hx)
    · obtain ⟨ds, rfl⟩ : ∃ ds, d = .list ds := by
        cases d <;> first | exact ⟨_, rfl⟩ | cases q
      obtain ⟨a, xs, rfl, ha, hxs⟩ := hx.lstI
      have lx := hxs.len
      have ld := sd.lstI.wid
      walk_at "rd"
      refine ⟨⟨_, sqL_of ha⟩, ?_⟩
      refine go_cp (K := K) (walk_list (xs := xs)) (by omega) (fun i e => ∃ x, ds[i]? = some x ∧ e = tupR x) (fun H s => sqL_of (s _ _ ha)) (fun i v Hx Hy hi sx y R hR => ?_) mono_name (fun p ws es H6 np le hE ep D6 s6 => ?_)
      · obtain ⟨rfl, hv⟩ := y
        obtain ⟨dr, gr, hdr⟩ := hxs.get hv
        walk_at "rd"
        refine ⟨rfl, ?_⟩
        walk_at "rd"
        refine (hdr.same sx).isi (n := "list") (by simp) ?_
        rcases q : tyB "list" dr with _ | _
        · walk_at "rd"
          have e : tupR dr = dr := by cases dr <;> first | rfl | cases q
          exact hR v dr Hy (hdr.same (bo_old sx)) ⟨dr, gr, e.symm⟩ (Same.refl _)
        · obtain ⟨rs, rfl⟩ : ∃ rs, dr = .list rs := by
            cases dr <;> first | exact ⟨_, rfl⟩ | cases q
          obtain ⟨b, ys, rfl, hb, hys⟩ := hdr.lstI
          have hbx := sx _ _ hb
          walk_at "rd"
          refine ⟨b, ys, rfl, .inl ⟨sqL_of hbx, fun t nt => ?_⟩⟩
          exact hR _ (.tuple rs) _ (.tup (sqT_of ((bo_new nt).trans upd_same)) (hys.same (bo_old (sx.trans (same_upd nt))))) ⟨_, gr, rfl⟩ (same_upd nt)
      · have ee : es = ds.map tupR := by
          apply List.ext_getElem?
          intro i
          rw [List.getElem?_map]
          rcases q : es[i]? with _ | e
          · rw [List.getElem?_eq_none (by have := List.getElem?_eq_none_iff.mp q; omega)]; rfl
          · obtain ⟨x, e1, rfl⟩ := hE i e q; rw [e1]; rfl
        walk_at "rd"
        refine ⟨p, ws, rfl, .inl ⟨sqL_of ep, fun t nt => ?_⟩⟩
        refine k _ _ (s6.trans (same_upd nt)) (.tup (sqT_of upd_same) ?_)
        rw [← ee]
        exact (D6.same del_sub).same (same_upd nt)
theorem ok_door {C : Addr} (F : Fun K "_law_door" "_law_door" s__law_door f fd) (z : Z mg) (c__law_copy : Cal P w K mg base "_law_copy" ["value"] 1 (spCopy K)) (c__law_met : Cal P w K mg base "_law_met" ["signs", "steps", "ends"] 7 (spMetF K C)) : FnG P w K mg base CX0 8 f fd ["word", "signs", "steps", "ends"] (spDoor K) := by
  refine Sw.Fun.okG0 F sc__law_door (fun vs H Q E h => ?_) (fun cdv A outer s H vs Q E hr quiet h => ?_)
  · obtain ⟨wd, v1, v2, v3, d1, d2, d3, rfl, _⟩ := h; rfl
  · obtain ⟨wd, v1, v2, v3, d1, d2, d3, rfl, mk, h1, h2, h3, s1, s2, s3, cases3, k⟩ := h
    refine ⟨_, (pss_cons (ps_set (i := 4) sc__law_door.nd rfl (.inl rfl) (pe_lst (pa_cons (pe_cal c__law_copy hr (pa_cons (pv 1) pa_nil)) (pa_cons (pe_cal c__law_copy hr (pa_cons (pv 2) pa_nil)) (pa_cons (pe_cal c__law_copy hr (pa_cons (pv 3) pa_nil)) pa_nil)))))
      (pss_cons (ps_set (i := 5) sc__law_door.nd rfl (.inl rfl) (pe_cal c__law_met hr (pa_cons (pe_ix ix_list (pv 4) pe_int (fun _ _ => rfl)) (pa_cons (pe_ix ix_list (pv 4) pe_int (fun _ _ => rfl)) (pa_cons (pe_ix ix_list (pv 4) pe_int (fun _ _ => rfl)) pa_nil)))))
      (pss_cons (ps_set (i := 6) sc__law_door.nd rfl (.inl rfl) (pe_ix ix_list (pv 4) (pe_bm PySem.F.plainAttrs_list PySem.F.slot_list_index PySem.F.type_list_index mt_index (pe_lst (pa_cons (pe_strS (l := [115, 105, 103, 110, 115]) (by decide +kernel)) (pa_cons (pe_strS (l := [115, 116, 101, 112, 115]) (by decide +kernel)) (pa_cons (pe_strS (l := [101, 110, 100, 115]) (by decide +kernel)) pa_nil)))) (pa_cons (pv 0) pa_nil)) (fun _ _ => rfl)))
      (pss_cons (ps_if (pt_val (pe_callB call_isi (by rfl) z.isinstance (by decide +kernel) (pa_cons (pv 6) (pa_cons (pe_bltn (v := .ty "list") (by rfl) z.list (by decide +kernel) rfl) pa_nil))))
        (pss_one (ps_expr (pe_bm PySem.F.plainAttrs_list PySem.F.slot_list_append PySem.F.type_list_append mt_append (pv 6) (pa_cons (pe_strS (l := [109, 111, 114, 101]) (by decide +kernel)) pa_nil))))
        pss_nil)
      (pss_one (ps_kn (ps_ret (pe_and (pe_cmpR op_eq (pe_ix ix_list (pv 5) pe_int (fun _ _ => rfl)) (pv 0) (nomark _)) (pe_one (pe_cmpR op_eq (pe_callB (call_repE quiet hr.units) (by rfl) z.repr (by decide +kernel) (pa_cons (pe_ix ix_list (pv 5) pe_int (fun _ _ => rfl)) pa_nil)) (pe_callB (call_repE quiet hr.units) (by rfl) z.repr (by decide +kernel) (pa_cons (pv 6) pa_nil)) (nomark _))))))))))), ?_⟩
    walk_at "rd"
    refine ⟨v1, d1, rfl, h1, s1, fun c1 H1 t1 p1 => ?_⟩
    walk_at "rd"
    refine ⟨v2, d2, rfl, h2.same t1, s2, fun c2 H2 t2 p2 => ?_⟩
    walk_at "rd"
    refine ⟨v3, d3, rfl, h3.same (t1.trans t2), s3, fun c3 H3 t3 p3 => ?_⟩
    walk_at "rd"
    refine newL0 (Nat.le_of_ble_eq_true rfl) fun l4 H4 nl4 s4 e4 => ?_
    have D1 := (p1.dz (h1.same t1)).same (t2.trans (t3.trans s4))
    have D2 := (p2.dz (h2.same (t1.trans t2))).same (t3.trans s4)
    have D3 := (p3.dz (h3.same (t1.trans (t2.trans t3)))).same s4
    have s04 := t1.trans (t2.trans (t3.trans s4))
    have key : ∃ (i : Nat) (ci : V) (G : Hp) (vi : V) (di : PyData), ([c1, c2, c3] : List V)[i]? = some ci ∧ Cp K G H4 vi ci di ∧ (∀ a, G a = none → H a = none) ∧ Dz K H4 ci di ∧ Sd 6 20000 di ∧
        (∃ z, ([.str (S [115, 105, 103, 110, 115]), .str (S [115, 116, 101, 112, 115]), .str (S [101, 110, 100, 115])] : List V)[i]? = some z ∧ eqV z (.str (S wd)) = true ∧ ∀ (m : Nat) z', m < i → ([.str (S [115, 105, 103, 110, 115]), .str (S [115, 116, 101, 112, 115]), .str (S [101, 110, 100, 115])] : List V)[m]? = some z' → eqV z' (.str (S wd)) = false) ∧
        ∀ Q' : VK, (∀ t H', H4 t = none → Same H4 H' → H' t = some (.lst [.str (S wd), ci]) → Q' (.ref t) H') → spMetF K C [c1, c2, c3] H4 Q' E0 := by
      rcases cases3 with ⟨rfl, g⟩ | ⟨rfl, n, rfl, g, b⟩ | ⟨rfl, n, rfl, g, b, e⟩
      · refine ⟨0, c1, H, v1, d1, rfl, p1.same (t2.trans (t3.trans s4)), fun a h => h, D1, s1, ⟨_, rfl, by decide, fun m z' hm => by omega⟩, fun Q' hq => ⟨c1, c2, c3, d1, d2, d3, rfl, D1, D2, D3, s2, s3, fun _ => hq, fun n e0 e1 => ?_, fun n e0 e1 => ?_, fun n e0 e1 => ?_⟩⟩
        all_goals rw [g] at e1; cases e1
      · refine ⟨1, c2, H1, v2, d2, rfl, p2.same (t3.trans s4), fun a h => t1.free h, D2, s2, ⟨_, rfl, by decide, fun m z' hm e => ?_⟩, fun Q' hq => ⟨c1, c2, c3, .int n, d2, d3, rfl, D1, D2, D3, s2, s3, fun e1 => ?_, fun n' e0 e1 e2 => hq, fun n' e0 e1 e2 => ?_, fun n' e0 e1 e2 => ?_⟩⟩
        · have : m = 0 := by omega
          subst this; cases e; decide
        · rw [g] at e1; cases e1
        all_goals cases e0; rw [b] at e2; cases e2
      · refine ⟨2, c3, H2, v3, d3, rfl, p3.same s4, fun a h => (t1.trans t2).free h, D3, s3, ⟨_, rfl, by decide, fun m z' hm e => ?_⟩, fun Q' hq => ⟨c1, c2, c3, .int n, d2, d3, rfl, D1, D2, D3, s2, s3, fun e1 => ?_, fun n' e0 e1 e2 => ?_, fun n' e0 e1 e2 e3 => hq, fun n' e0 e1 e2 e3 => ?_⟩⟩
        · have : m = 0 ∨ m = 1 := by omega
          rcases this with rfl | rfl <;> cases e <;> decide
        · rw [g] at e1; cases e1
        · cases e0; rw [b] at e2; cases e2
        · cases e0; rw [e] at e3; cases e3
    obtain ⟨i, ci, G, vi, di, gci, pc, domG, Dc, sc, ⟨z0, gz, ez, nz⟩, met⟩ := key
    have i3 : i < 3 := by
      rcases Nat.lt_or_ge i 3 with h | h
      · exact h
      · rw [List.getElem?_eq_none h] at gci; cases gci
    walk_at "rd"
    refine met _ fun t H5 nt5 s5 e5 => ?_
    walk_at "rd"
    refine newL0 (Nat.le_of_ble_eq_true rfl) fun l6 H6 nl6 s6 e6 => ?_
    walk_at "rd"
    refine ⟨l6, _, _, i, z0, rfl, rfl, sqL_of e6, rfl, rfl, gz, ez, nz, ?_⟩
    have s46 := s5.trans s6
    refine i_ixLv (s46 _ _ e4) (by omega) (v := ci) (by rw [Int.toNat_natCast]; exact gci) ?_
    walk_at "rd"
    have D6 := Dc.same s46
    have e5' := s6 _ _ e5
    refine D6.isi (n := "list") (by simp) ?_
    have s06 := s04.trans s46
    have mk6 := mk.same s06
    rcases q : tyB "list" di with _ | _
    · walk_at "rd"
      rw [if_pos (by simp)]
      have kn := (‹Kn K H6› mk6)
      walk_at "rd"
      refine i_repE (D6.de kn) sc (by omega) (by omega) ?_
      walk_at "rd"
      refine i_repE (D6.de kn) sc (by omega) (by omega) ?_
      refine ⟨rfl, ?_⟩
      rw [decide_eq_true rfl]
      exact k H6 s06
    · rcases pc with ⟨q', _⟩ | ⟨a, ws, ds, rfl, rfl, na, ea, DA⟩
      · rw [q] at q'; cases q'
      have lw := DA.len
      have ld := sc.lstI.wid
      have na0 := domG a na
      have nta : t ≠ a := fun c => by rw [c, ea] at nt5; cases nt5
      have ea6 := s46 _ _ ea
      have DA6 := DA.same (del_sb (SB.of s46))
      have e46 := s46 _ _ e4
      walk_at "rd"
      refine ⟨a, ws, _, rfl, rfl, ea6, Nat.lt_of_lt_of_le (show ws.length < 100000 by omega) (Nat.le_of_ble_eq_true rfl), ?_⟩
      have s07 : Same H (upd H6 a (.lst (ws ++ [.str (S [109, 111, 114, 101])]))) := Same.set_new s06 na0
      have e7 : upd H6 a (.lst (ws ++ [.str (S [109, 111, 114, 101])])) t = _ := (upd_ne nta).trans e5'
      have ea7 : upd H6 a (.lst (ws ++ [.str (S [109, 111, 114, 101])])) a = _ := upd_same
      have DA7 := (DA6.same (del_sb (SB.upd (o := .lst (ws ++ [.str (S [109, 111, 114, 101])]))))).same del_sub
      generalize upd H6 a (.lst (ws ++ [.str (S [109, 111, 114, 101])])) = H7 at *
      have mk7 := mk.same s07
      have D7 : Dz K H7 (.ref a) (.list (ds ++ [.str (S [109, 111, 114, 101])])) := .lst ea7 (DA7.app (.cons (.str _) .nil))
      have sc7 : Sd 6 20010 (.list (ds ++ [.str (S [109, 111, 114, 101])])) := (sd_lst' (sc.lstI.app (.cons ((sd_str (l := [109, 111, 114, 101]) (by decide)).mono (Nat.zero_le 5) (Nat.le_refl _)) .nil))).mono (by omega) (by decide)
      walk_at "rd"
      rw [if_pos (by simp)]
      have kn := (‹Kn K H7› mk7)
      walk_at "rd"
      refine i_repE (D7.de kn) sc7 (by omega) (by omega) ?_
      walk_at "rd"
      refine i_repE (D7.de kn) sc7 (by omega) (by omega) ?_
      refine ⟨rfl, ?_⟩
      rw [decide_eq_true rfl]
      exact k H7 s07
end
end Sw
namespace Sw
open PySem PySem.Spec PyProof.Rows L2
local macro_rules | `(tactic| walk_at "hp") => `(tactic| first
  | (with_reducible assumption) | (with_reducible exact upd_same)
  | ((with_reducible refine' upd_old ?q1 ?q2); (case q1 => (with_reducible assumption)); (case q2 => walk_at "hp"))
  | ((with_reducible refine' Same.at ?q1 ?q2); (case q1 => (with_reducible assumption)); (case q2 => walk_at "hp"))
  | ((with_reducible refine' upd_skip ?q1 ?q2); (case q1 => walk_at "ne"); (case q2 => walk_at "hp"))
  | fail)
local macro_rules | `(tactic| walk_at "ne") => `(tactic| first
  | (with_reducible assumption) | (with_reducible exact Ne.symm (by assumption))
  | ((with_reducible refine' ne_of_none ?q1 ?q2); (case q2 => (with_reducible assumption)); (case q1 => walk_at "hp"))
  | fail)
local macro_rules | `(tactic| walk_at "ci") => `(tactic| first | assumption | (show (0 : Int) < _; first | decide | (with_reducible omega)) | exact ⟨by decide, by decide⟩ | exact .inl ⟨by decide, by decide⟩ | exact .inr ⟨by decide, by decide⟩)
local macro_rules | `(tactic| walk_at "ln") => `(tactic| first | (with_reducible assumption) | (with_reducible omega) | (simp only [List.length_append, List.length_take, List.length_drop, List.length_reverse, List.length_cons, List.length_nil]; with_reducible omega))
local macro_rules | `(tactic| walk_at "rd1") => `(tactic| first
  | (with_reducible refine i_seq ?_) | (with_reducible refine i_asg ?_) | (with_reducible refine i_ret ?_) | (with_reducible refine i_name ?_) | ((with_reducible refine' i_var ?q1 ?_); (case q1 => exact rfl)) | (with_reducible refine i_c ?_) | (with_reducible refine i_op ?_) | (with_reducible refine i_un ?_)
  | (with_reducible refine i_rI0 ?_) | (with_reducible refine i_cb ?_) | (with_reducible refine i_cons ?_) | (with_reducible refine i_nil ?_) | (with_reducible refine i_call ?_) | (with_reducible refine i_if ?_) | (with_reducible refine i_ifE ?_) | (with_reducible refine i_test ?_) | (with_reducible refine i_bl ?_)
  | (with_reducible refine i_and ?_) | (with_reducible refine i_or ?_) | (with_reducible refine i_not ?_) | (with_reducible refine i_lstM ?_) | (with_reducible refine i_lstLM ?_) | (with_reducible refine i_tupM ?_) | (with_reducible refine i_next ?_) | (with_reducible refine i_drop ?_) | (with_reducible refine i_sub ?_)
  | (with_reducible refine i_bm ?_) | (with_reducible refine i_sl ?_) | (with_reducible refine i_part ?_) | (with_reducible refine i_nopart ?_) | (with_reducible refine i_exI ?_) | (with_reducible refine i_chain ?_) | ((with_reducible refine' i_aug ?q1 ?_); (case q1 => exact rfl)) | (with_reducible refine i_ip ?_)
  | (with_reducible refine i_par ?_) | (with_reducible refine i_pair ?_) | (with_reducible refine i_andV ?_) | (with_reducible refine i_orV ?_) | (with_reducible refine i_notV ?_) | (with_reducible refine i_m1 ?_) | (with_reducible refine i_str ?_)
  | (with_reducible refine iteF ?_) | (with_reducible refine iteT ?_) | (with_reducible refine iteNT ?_) | (with_reducible refine iteNF ?_) | (with_reducible refine i_tyS ?_) | (with_reducible refine i_tB ?_) | (with_reducible refine i_retN ?_) | (with_reducible refine i_par3 ?_) | (with_reducible refine i_trip ?_) | (with_reducible refine i_gCons ?_) | (with_reducible refine i_gNil ?_) | (with_reducible refine i_lstRg ?_) | (with_reducible refine i_rg1 ?_)
  | (with_reducible refine i_lc ?_) | (with_reducible refine i_for ?_) | (with_reducible refine i_iList ?_) | (with_reducible refine i_iTup ?_) | (with_reducible refine i_iStr ?_) | (with_reducible refine i_iRng1 ?_) | (with_reducible refine i_iEnS ?_)
  | ((with_reducible refine' i_ixTH ?q1 ?q2 ?_); (case q1 => walk_at "hp"); (case q2 => exact rfl))
  | ((with_reducible refine' i_ixLH ?q1 ?q2 ?_); (case q1 => walk_at "hp"); (case q2 => exact rfl))
  | ((with_reducible refine i_addS ?q1 ?_); (case q1 => walk_at "ln")) | ((with_reducible refine i_lenSS ?q1 ?_); (case q1 => walk_at "ln")) | ((with_reducible refine i_slFrom ?q1 ?q2 ?_); (case q1 => walk_at "ln"); (case q2 => walk_at "ln")) | ((with_reducible refine i_slTo ?q1 ?q2 ?_); (case q1 => walk_at "ln"); (case q2 => walk_at "ln"))
  | ((with_reducible refine' i_tyL ?q1 ?_); (case q1 => walk_at "hp"))
  | ((with_reducible refine' i_gTupH ?q1 ?q2 ?_); (case q1 => walk_at "hp"); (case q2 => exact rfl))
  | (with_reducible refine i_dnewM ?_) | (with_reducible refine i_init ?_) | (with_reducible refine i_fst ?_) | (with_reducible refine i_mk ?_) | (with_reducible refine i_raise ?_) | (with_reducible refine i_callS ?_) | (with_reducible refine i_kwS ?_)
  | (with_reducible refine i_revT ?_) | (with_reducible refine i_kw ?_) | ((with_reducible refine' ⟨_, _, rfl, sqT_of ?q1, ?_⟩); (case q1 => walk_at "hp"))
  | (with_reducible refine i_revS ?_) | ((with_reducible refine i_revSS ?q1 ?_); (case q1 => walk_at "ln"))
  | (with_reducible refine i_startS ?_) | (with_reducible refine i_inSg ?_) | (with_reducible refine i_absN ?_) | (with_reducible refine i_min2 ?_) | (with_reducible refine i_max2 ?_) | (with_reducible refine i_min3 ?_) | (with_reducible refine i_intN ?_) | (with_reducible refine i_intNB ?_)
  | ((with_reducible refine' i_lenL ?q1 ?_); (case q1 => walk_at "hp")) | ((with_reducible refine' i_lenT ?q1 ?_); (case q1 => walk_at "hp"))
  | (with_reducible refine i_eqI ?_) | (with_reducible refine i_neI ?_) | (with_reducible refine i_eqS ?_) | (with_reducible refine i_neS ?_) | (with_reducible refine i_isNoI ?_) | (with_reducible refine i_isNoN ?_) | (with_reducible refine i_isNoR ?_)
  | ((with_reducible refine i_pow ?q1 ?q2 ?q3 ?_); (case q1 => decide); (case q2 => decide); (case q3 => (with_reducible omega)))
  | ((with_reducible refine i_rI ?q1 ?_); (case q1 => walk_at "ci"))
  | (with_reducible refine Or.inl ⟨_, rfl, ?_⟩) | (with_reducible refine Or.inr ⟨_, rfl, ?_⟩) | (with_reducible refine ⟨_, rfl, ?_⟩) | (with_reducible refine ⟨_, _, rfl, ?_⟩) | (with_reducible refine ⟨_, _, rfl, rfl, ?_⟩)
  | ((with_reducible refine' ⟨_, _, rfl, Or.inl (sqL_of ?q1), ?_⟩); (case q1 => walk_at "hp")) | ((with_reducible refine' ⟨_, _, rfl, Or.inr (sqT_of ?q1), ?_⟩); (case q1 => walk_at "hp")) | (with_reducible refine i_dget ?_) | (with_reducible refine i_disp1T ?_) | (with_reducible refine i_dcT ?_) | (with_reducible refine i_dnewT ?_) | (with_reducible refine i_fld ?_) | (with_reducible refine i_sFld ?_) | (with_reducible refine i_make ?_) | (with_reducible refine i_meth ?_) | (with_reducible refine i_star ?_) | (with_reducible refine i_isNoS ?_) | (with_reducible refine i_lc2 ?_) | fail)
local macro_rules | `(tactic| walk_at "rd") => `(tactic| repeat' walk_at "rd1")

/-! ### rows copied into lists of their own -/
theorem lt_of_get {α : Type} {l : List α} {i : Nat} {a : α} (h : l[i]? = some a) : i < l.length := by
  rcases Nat.lt_or_ge i l.length with q | q
  · exact q
  · rw [List.getElem?_eq_none q] at h; cases h
theorem nodup_get {l : List Addr} (nd : l.Nodup) {i j : Nat} {a : Addr} (hi : l[i]? = some a) (hj : l[j]? = some a) : i = j := by
  have h1 := lt_of_get hi
  have h2 := lt_of_get hj
  rw [List.getElem?_eq_getElem h1] at hi
  rw [List.getElem?_eq_getElem h2] at hj
  exact (List.getElem_inj nd).mp (by rw [Option.some.inj hi, Option.some.inj hj])
theorem DzAll.of_get {K : PySem.W.Frag} {H : Hp} : ∀ {vs : List V} {ds : List PyData}, vs.length = ds.length → (∀ (i : Nat) v d, vs[i]? = some v → ds[i]? = some d → Dz K H v d) → DzAll K H vs ds
  | [], [], _, _ => .nil
  | [], _ :: _, l, _ => by cases l
  | _ :: _, [], l, _ => by cases l
  | v :: vs, d :: ds, l, h => .cons (h 0 v d rfl rfl) (DzAll.of_get (Nat.succ.inj l) fun i v d h1 h2 => h (i + 1) v d h1 h2)
structure RW (K : PySem.W.Frag) (H : Hp) (rp : Addr) (qs : List Addr) (rss : List (List PyData)) : Prop where
  e : H rp = some (.lst (qs.map .ref))
  ln : qs.length = rss.length
  nd : qs.Nodup
  ni : rp ∉ qs
  at_ : ∀ (i : Nat) q rs, qs[i]? = some q → rss[i]? = some rs → ∃ vs, H q = some (.lst vs) ∧ DzAll K H vs rs
  fl : ∀ rs ∈ rss, flatTs rs = true
section
variable {K : PySem.W.Frag} {H H' : Hp} {rp : Addr} {qs : List Addr} {rss : List (List PyData)}
/-- the lists in question stay, and all that is no list -/
theorem RW.keep (h : RW K H rp qs rss) (s : ∀ a o, H a = some o → ((∀ xs, o ≠ .lst xs) ∨ a = rp ∨ a ∈ qs) → H' a = some o) : RW K H' rp qs rss :=
  ⟨s _ _ h.e (.inr (.inl rfl)), h.ln, h.nd, h.ni, fun i q rs hq hrs => by
    obtain ⟨vs, e, d⟩ := h.at_ i q rs hq hrs
    exact ⟨vs, s _ _ e (.inr (.inr (List.mem_of_getElem? hq))), d.nl (fun a o e n => s _ _ e (.inl n)) (h.fl rs (List.mem_of_getElem? hrs))⟩, h.fl⟩
theorem RW.same (h : RW K H rp qs rss) (s : Same H H') : RW K H' rp qs rss := h.keep fun a o e _ => s a o e
theorem RW.sb {b : Addr} {xs : List V} (h : RW K H rp qs rss) (hb : H b = some (.lst xs)) (n1 : b ≠ rp) (n2 : b ∉ qs) (s : SB b H H') : RW K H' rp qs rss := h.keep fun a o e k => s a o (fun q => by
  subst q
  rcases k with k | k | k
  · rw [hb] at e; cases e; exact k _ rfl
  · exact n1 k
  · exact n2 k) e
theorem RW.get (h : RW K H rp qs rss) {i : Nat} {rs : List PyData} (hi : rss[i]? = some rs) : ∃ q vs, qs[i]? = some q ∧ H q = some (.lst vs) ∧ DzAll K H vs rs ∧ q ∈ qs := by
  have l := lt_of_get hi
  have e : qs[i]? = some (qs[i]'(by rw [h.ln]; exact l)) := List.getElem?_eq_getElem _
  obtain ⟨vs, e3, d⟩ := h.at_ _ _ _ e hi
  exact ⟨_, vs, e, e3, d, List.mem_of_getElem? e⟩
theorem RW.put (h : RW K H rp qs rss) {i : Nat} {q : Addr} {ys : List V} {rs : List PyData} (hq : qs[i]? = some q) (d : DzAll K H ys rs) (f : flatTs rs = true) : RW K (upd H q (.lst ys)) rp qs (rss.set i rs) := by
  have mq := List.mem_of_getElem? hq
  have li := lt_of_get hq
  have ei : rss[i]? = some (rss[i]'(by rw [← h.ln]; exact li)) := List.getElem?_eq_getElem _
  obtain ⟨v0, e0, d0⟩ := h.at_ _ _ _ hq ei
  have nl : NL H (upd H q (.lst ys)) := NL.lst e0
  have nrq : rp ≠ q := fun c => h.ni (by rw [c]; exact mq)
  refine ⟨by rw [upd_ne nrq]; exact h.e, by rw [List.length_set]; exact h.ln, h.nd, h.ni, fun j p r hp hr => ?_, fun x hx => ?_⟩
  · by_cases c : j = i
    · subst c
      rw [hq] at hp; cases hp
      rw [List.getElem?_set_self (by rw [← h.ln]; exact li)] at hr; cases hr
      exact ⟨ys, upd_same, d.nl nl f⟩
    · rw [List.getElem?_set_ne (Ne.symm c)] at hr
      obtain ⟨vs, e, dd⟩ := h.at_ _ _ _ hp hr
      refine ⟨vs, ?_, dd.nl nl (h.fl _ (List.mem_of_getElem? hr))⟩
      have npq : p ≠ q := fun q' => c (nodup_get h.nd hp (by rw [q']; exact hq))
      rw [upd_ne npq]; exact e
  · rcases List.mem_or_eq_of_mem_set hx with hx | rfl
    · exact h.fl x hx
    · exact f
theorem RW.dz (h : RW K H rp qs rss) : Dz K H (.ref rp) (.list (rss.map .list)) := by
  refine .lst h.e (DzAll.of_get (by rw [List.length_map, List.length_map]; exact h.ln) fun i v d hv hd => ?_)
  rw [List.getElem?_map] at hv hd
  obtain ⟨q, hq, rfl⟩ := Option.map_eq_some_iff.mp hv
  obtain ⟨rs, hr, rfl⟩ := Option.map_eq_some_iff.mp hd
  obtain ⟨vs, e, dd⟩ := h.at_ i q rs hq hr
  exact .lst e dd
theorem RW.push (h : RW K H rp qs rss) {t : Addr} {ys : List V} {rs : List PyData} (nt : H t = none) (d : DzAll K H ys rs) (f : flatTs rs = true) : RW K (upd (upd H t (.lst ys)) rp (.lst (qs.map .ref ++ [.ref t]))) rp (qs ++ [t]) (rss ++ [rs]) := by
  have ntr : t ≠ rp := fun c => by rw [c, h.e] at nt; cases nt
  have ntq : t ∉ qs := fun c => by
    obtain ⟨i, hi⟩ := List.getElem?_of_mem c
    have li := lt_of_get hi
    have ei : rss[i]? = some (rss[i]'(by rw [← h.ln]; exact li)) := List.getElem?_eq_getElem _
    obtain ⟨v, e, _⟩ := h.at_ _ _ _ hi ei
    rw [nt] at e; cases e
  have s1 := same_upd (o := .lst ys) nt
  have nl : NL H (upd (upd H t (.lst ys)) rp (.lst (qs.map .ref ++ [.ref t]))) := (NL.of s1).trans (NL.lst (s1 _ _ h.e))
  refine ⟨by rw [upd_same, List.map_append]; rfl, by rw [List.length_append, List.length_append, h.ln]; rfl, ?_, ?_, fun i q r hq hr => ?_, fun x hx => ?_⟩
  · exact List.nodup_append.mpr ⟨h.nd, by simp, fun a ha b hb => by rw [List.mem_singleton.mp hb]; exact fun c => ntq (c ▸ ha)⟩
  · intro c
    rcases List.mem_append.mp c with c | c
    · exact h.ni c
    · exact ntr (List.mem_singleton.mp c).symm
  · by_cases c : i < qs.length
    · rw [List.getElem?_append_left c] at hq
      rw [List.getElem?_append_left (by rw [← h.ln]; exact c)] at hr
      obtain ⟨vs, e, dd⟩ := h.at_ i q r hq hr
      have mq := List.mem_of_getElem? hq
      refine ⟨vs, ?_, dd.nl nl (h.fl _ (List.mem_of_getElem? hr))⟩
      have nqr : q ≠ rp := fun c => h.ni (by rw [← c]; exact mq)
      have nqt : q ≠ t := fun c => ntq (by rw [← c]; exact mq)
      rw [upd_ne nqr, upd_ne nqt]; exact e
    · rw [List.getElem?_append_right (by omega)] at hq
      rw [List.getElem?_append_right (by rw [← h.ln]; omega)] at hr
      have li := lt_of_get hq
      have : i - qs.length = 0 := by simp at li; omega
      rw [this] at hq
      rw [← h.ln, this] at hr
      cases hq; cases hr
      exact ⟨ys, by rw [upd_ne ntr]; exact upd_same, d.nl nl f⟩
  · rcases List.mem_append.mp hx with hx | hx
    · exact h.fl x hx
    · rw [List.mem_singleton.mp hx]; exact f
/-- [list(row) for row in rows] -/
theorem go_copy {J : It} {g : TG} {te : TE} {vs : List Nat} {σ : L2.St} {H1 : Hp} {Q : VK} {a : Addr} {xs : List V} {rss : List (List PyData)} (w : Walk J xs.length (fun H => SqL K H a xs) (YAt xs)) (ha : H1 a = some (.lst xs)) (hx : DzAll K H1 xs (rss.map .list)) (hn : rss.length ≤ 1000) (fl : ∀ rs ∈ rss, flatTs rs = true)
    (hs : ∀ v rs H R, Same H1 H → Dz K H v (.list rs) → (∀ t ys, H t = none → DzAll K H ys rs → R (.ref t) (upd H t (.lst ys))) → g v (wipe σ vs) H fun σ2 H2 => wipe σ2 vs = wipe σ vs ∧ te σ2 H2 R)
    (hmono : ∀ x σ H (R R' : L2.St → Hp → Prop), (∀ σ' H', R σ' H' → R' σ' H') → g x σ H R → g x σ H R')
    (hd : ∀ p qs H, H1 p = none → (∀ q ∈ qs, H1 q = none) → RW K H p qs rss → Same H1 H → Q (.ref p) H) : LcGo J g tYes te vs σ H1 Q := by
  have lx := hx.len
  rw [List.length_map] at lx
  refine go_lc w (fun p i H => ∃ qs, RW K H p qs (rss.take i) ∧ (∀ q ∈ qs, H1 q = none) ∧ Same H1 H) (fun p np => ⟨[], ⟨upd_same, rfl, .nil, by simp, fun i q rs hq => by simp at hq, fun rs h => by simp at h⟩, by simp, same_upd np⟩) (fun p i H hi q => sqL_of (q.choose_spec.2.2 _ _ ha))
    (fun p np i x H H' hi q y => ?_) (fun p H np q => ?_)
  · obtain ⟨qs, rw_, hq, sx⟩ := q
    obtain ⟨rfl, hv⟩ := y
    obtain ⟨d, gd, hdz⟩ := hx.get hv
    rw [List.getElem?_map] at gd
    obtain ⟨rs, gr, rfl⟩ := Option.map_eq_some_iff.mp gd
    refine hmono _ _ _ _ _ (fun σ2 H2 q => ?_) (hs x rs H' (fun y H4 => ∃ acc, H4 p = some (.lst acc) ∧ acc.length < sizeLine ∧ ∃ qs, RW K (upd H4 p (.lst (acc ++ [y]))) p qs (rss.take (i + 1)) ∧ (∀ q ∈ qs, H1 q = none) ∧ Same H1 (upd H4 p (.lst (acc ++ [y])))) sx (hdz.same sx) fun t ys nt dy => ?_)
    · refine ⟨q.1, ?_⟩
      unfold tYes
      dsimp only
      rw [if_pos rfl]
      exact q.2
    · have s1 := same_upd (o := .lst ys) nt
      have lq := rw_.ln
      rw [List.length_take] at lq
      refine ⟨_, s1 _ _ rw_.e, Nat.lt_of_lt_of_le (show _ < 1001 by rw [List.length_map]; omega) (Nat.le_trans (by decide : 1001 ≤ 100000) (Nat.le_of_ble_eq_true rfl)), qs ++ [t], ?_, fun q hq' => ?_, Same.set_new (sx.trans s1) np⟩
      · rw [List.take_add_one, gr]
        exact rw_.push nt dy (fl rs (List.mem_of_getElem? gr))
      · rcases List.mem_append.mp hq' with hq' | hq'
        · exact hq q hq'
        · rw [List.mem_singleton.mp hq']; exact sx.free nt
  · obtain ⟨qs, rw_, hq, sx⟩ := q
    rw [lx, List.take_length] at rw_
    exact hd p qs H np hq rw_ sx
end
theorem PtD.rss {n : Int} {sd ed : PyData} {ds es : List PyData} (h : PtD n sd ed ds es) : ∃ rss : List (List PyData), ds = rss.map .list ∧ ∀ rs ∈ rss, (rs.length : Int) = n ∧ ∀ e ∈ rs, entB ds.length e = true ∧ Sd 1 20 e := by
  have : ∀ (m : Int) (l : List PyData), (∀ x ∈ l, RowD n m x) → ∃ rss : List (List PyData), l = rss.map .list ∧ ∀ rs ∈ rss, (rs.length : Int) = n ∧ ∀ e ∈ rs, entB m e = true ∧ Sd 1 20 e := by
    intro m l
    induction l with
    | nil => exact fun _ => ⟨[], rfl, nofun⟩
    | cons x l ih =>
      intro hx
      obtain ⟨rss, e, h1⟩ := ih fun y hy => hx y (List.mem_cons_of_mem _ hy)
      obtain ⟨rs, e2, h2, h3⟩ := hx x List.mem_cons_self
      exact ⟨rs :: rss, by rw [List.map_cons, ← e2, ← e], fun r hr => by
        rcases List.mem_cons.mp hr with rfl | hr
        · exact ⟨h2, h3⟩
        · exact h1 r hr⟩
  exact this _ ds h.row
theorem rss_flat {m n : Int} {rss : List (List PyData)} (h : ∀ rs ∈ rss, (rs.length : Int) = n ∧ ∀ e ∈ rs, entB m e = true ∧ Sd 1 20 e) : ∀ rs ∈ rss, flatTs rs = true := fun rs hr => flatTs_all fun e he => ent_flat ((h rs hr).2 e he).1
theorem PtD.of {n : Int} {rss : List (List PyData)} {es : List PyData} (n1 : 1 ≤ n) (n5 : n ≤ 5) (le : es.length = rss.length) (l1 : 1 ≤ rss.length) (l2 : rss.length ≤ 13) (h : ∀ rs ∈ rss, (rs.length : Int) = n ∧ ∀ e ∈ rs, entB rss.length e = true ∧ Sd 1 20 e) (he : ∀ e ∈ es, endB e = true ∧ Sd 0 3 e) :
    PtD n (.list (rss.map .list)) (.list es) (rss.map .list) es := by
  refine ⟨n1, n5, rfl, rfl, by rw [List.length_map]; exact le, by rw [List.length_map]; exact l1, by rw [List.length_map]; exact l2, fun x hx => ?_, he⟩
  obtain ⟨rs, hr, rfl⟩ := List.mem_map.mp hx
  rw [List.length_map]
  exact ⟨rs, rfl, h rs hr⟩
end Sw
namespace Sw
open PySem PySem.Spec PyProof.Rows L2
local macro_rules | `(tactic| walk_at "hp") => `(tactic| first
  | (with_reducible assumption) | (with_reducible exact upd_same)
  | ((with_reducible refine' upd_old ?q1 ?q2); (case q1 => (with_reducible assumption)); (case q2 => walk_at "hp"))
  | ((with_reducible refine' Same.at ?q1 ?q2); (case q1 => (with_reducible assumption)); (case q2 => walk_at "hp"))
  | ((with_reducible refine' upd_skip ?q1 ?q2); (case q1 => walk_at "ne"); (case q2 => walk_at "hp"))
  | fail)
local macro_rules | `(tactic| walk_at "ne") => `(tactic| first
  | (with_reducible assumption) | (with_reducible exact Ne.symm (by assumption))
  | ((with_reducible refine' ne_of_none ?q1 ?q2); (case q2 => (with_reducible assumption)); (case q1 => walk_at "hp"))
  | fail)
local macro_rules | `(tactic| walk_at "ci") => `(tactic| first | assumption | (show (0 : Int) < _; first | decide | (with_reducible omega)) | exact ⟨by decide, by decide⟩ | exact .inl ⟨by decide, by decide⟩ | exact .inr ⟨by decide, by decide⟩)
local macro_rules | `(tactic| walk_at "ln") => `(tactic| first | (with_reducible assumption) | (with_reducible omega) | (simp only [List.length_append, List.length_take, List.length_drop, List.length_reverse, List.length_cons, List.length_nil]; with_reducible omega))
local macro_rules | `(tactic| walk_at "rd1") => `(tactic| first
  | (with_reducible refine i_seq ?_) | (with_reducible refine i_asg ?_) | (with_reducible refine i_ret ?_) | (with_reducible refine i_name ?_) | ((with_reducible refine' i_var ?q1 ?_); (case q1 => exact rfl)) | (with_reducible refine i_c ?_) | (with_reducible refine i_op ?_) | (with_reducible refine i_un ?_)
  | (with_reducible refine i_rI0 ?_) | (with_reducible refine i_cb ?_) | (with_reducible refine i_cons ?_) | (with_reducible refine i_nil ?_) | (with_reducible refine i_call ?_) | (with_reducible refine i_if ?_) | (with_reducible refine i_ifE ?_) | (with_reducible refine i_test ?_) | (with_reducible refine i_bl ?_)
  | (with_reducible refine i_and ?_) | (with_reducible refine i_or ?_) | (with_reducible refine i_not ?_) | (with_reducible refine i_lstM ?_) | (with_reducible refine i_lstLM ?_) | (with_reducible refine i_tupM ?_) | (with_reducible refine i_next ?_) | (with_reducible refine i_drop ?_) | (with_reducible refine i_sub ?_)
  | (with_reducible refine i_bm ?_) | (with_reducible refine i_sl ?_) | (with_reducible refine i_part ?_) | (with_reducible refine i_nopart ?_) | (with_reducible refine i_exI ?_) | (with_reducible refine i_chain ?_) | ((with_reducible refine' i_aug ?q1 ?_); (case q1 => exact rfl)) | (with_reducible refine i_ip ?_)
  | (with_reducible refine i_par ?_) | (with_reducible refine i_pair ?_) | (with_reducible refine i_andV ?_) | (with_reducible refine i_orV ?_) | (with_reducible refine i_notV ?_) | (with_reducible refine i_m1 ?_) | (with_reducible refine i_str ?_)
  | (with_reducible refine iteF ?_) | (with_reducible refine iteT ?_) | (with_reducible refine iteNT ?_) | (with_reducible refine iteNF ?_) | (with_reducible refine i_tyS ?_) | (with_reducible refine i_tB ?_) | (with_reducible refine i_retN ?_) | (with_reducible refine i_par3 ?_) | (with_reducible refine i_trip ?_) | (with_reducible refine i_gCons ?_) | (with_reducible refine i_gNil ?_) | (with_reducible refine i_lstRg ?_) | (with_reducible refine i_rg1 ?_)
  | (with_reducible refine i_lc ?_) | (with_reducible refine i_for ?_) | (with_reducible refine i_iList ?_) | (with_reducible refine i_iTup ?_) | (with_reducible refine i_iStr ?_) | (with_reducible refine i_iRng1 ?_) | (with_reducible refine i_iEnS ?_)
  | ((with_reducible refine' i_ixTH ?q1 ?q2 ?_); (case q1 => walk_at "hp"); (case q2 => exact rfl))
  | ((with_reducible refine' i_ixLH ?q1 ?q2 ?_); (case q1 => walk_at "hp"); (case q2 => exact rfl))
  | ((with_reducible refine i_addS ?q1 ?_); (case q1 => walk_at "ln")) | ((with_reducible refine i_lenSS ?q1 ?_); (case q1 => walk_at "ln")) | ((with_reducible refine i_slFrom ?q1 ?q2 ?_); (case q1 => walk_at "ln"); (case q2 => walk_at "ln")) | ((with_reducible refine i_slTo ?q1 ?q2 ?_); (case q1 => walk_at "ln"); (case q2 => walk_at "ln"))
  | ((with_reducible refine' i_tyL ?q1 ?_); (case q1 => walk_at "hp"))
  | ((with_reducible refine' i_gTupH ?q1 ?q2 ?_); (case q1 => walk_at "hp"); (case q2 => exact rfl))
  | (with_reducible refine i_dnewM ?_) | (with_reducible refine i_init ?_) | (with_reducible refine i_fst ?_) | (with_reducible refine i_mk ?_) | (with_reducible refine i_raise ?_) | (with_reducible refine i_callS ?_) | (with_reducible refine i_kwS ?_)
  | (with_reducible refine i_revT ?_) | (with_reducible refine i_kw ?_) | ((with_reducible refine' ⟨_, _, rfl, sqT_of ?q1, ?_⟩); (case q1 => walk_at "hp"))
  | (with_reducible refine i_revS ?_) | ((with_reducible refine i_revSS ?q1 ?_); (case q1 => walk_at "ln"))
  | (with_reducible refine i_startS ?_) | (with_reducible refine i_inSg ?_) | (with_reducible refine i_absN ?_) | (with_reducible refine i_min2 ?_) | (with_reducible refine i_max2 ?_) | (with_reducible refine i_min3 ?_) | (with_reducible refine i_intN ?_) | (with_reducible refine i_intNB ?_)
  | ((with_reducible refine' i_lenL ?q1 ?_); (case q1 => walk_at "hp")) | ((with_reducible refine' i_lenT ?q1 ?_); (case q1 => walk_at "hp"))
  | (with_reducible refine i_eqI ?_) | (with_reducible refine i_neI ?_) | (with_reducible refine i_eqS ?_) | (with_reducible refine i_neS ?_) | (with_reducible refine i_isNoI ?_) | (with_reducible refine i_isNoN ?_) | (with_reducible refine i_isNoR ?_)
  | ((with_reducible refine i_pow ?q1 ?q2 ?q3 ?_); (case q1 => decide); (case q2 => decide); (case q3 => (with_reducible omega)))
  | ((with_reducible refine i_rI ?q1 ?_); (case q1 => walk_at "ci"))
  | (with_reducible refine Or.inl ⟨_, rfl, ?_⟩) | (with_reducible refine Or.inr ⟨_, rfl, ?_⟩) | (with_reducible refine ⟨_, rfl, ?_⟩) | (with_reducible refine ⟨_, _, rfl, ?_⟩) | (with_reducible refine ⟨_, _, rfl, rfl, ?_⟩)
  | ((with_reducible refine' ⟨_, _, rfl, Or.inl (sqL_of ?q1), ?_⟩); (case q1 => walk_at "hp")) | ((with_reducible refine' ⟨_, _, rfl, Or.inr (sqT_of ?q1), ?_⟩); (case q1 => walk_at "hp")) | (with_reducible refine i_dget ?_) | (with_reducible refine i_disp1T ?_) | (with_reducible refine i_dcT ?_) | (with_reducible refine i_dnewT ?_) | (with_reducible refine i_fld ?_) | (with_reducible refine i_sFld ?_) | (with_reducible refine i_make ?_) | (with_reducible refine i_meth ?_) | (with_reducible refine i_star ?_) | (with_reducible refine i_isNoS ?_) | (with_reducible refine i_lc2 ?_) | fail)
local macro_rules | `(tactic| walk_at "rd") => `(tactic| repeat' walk_at "rd1")

/-- _law_changed(box, parts) -/
def spChanged (K : PySem.W.Frag) : Sp := fun vs H Q _ => ∃ (b : Addr) (d : Int) (v : V) (n : Int) (sd ed : PyData) (ds es : List PyData), vs = [.ref b, v] ∧ BoxAt H b d ∧ PtAt K (L2.del H b) v n sd ed ∧ PtD n sd ed ds es ∧ ds.length ≤ 12 ∧ d + 100 ≤ 1000000 ∧
  ∀ v' sd' ed' ds' es' H', PtAt K H' v' n sd' ed' → PtD n sd' ed' ds' es' → (ds' ≠ ds ∨ es' ≠ es) → BoxAt H' b (d + 100) → SB b H H' → Q v' H'
theorem entB_mono {m m' : Int} (h : m ≤ m') {e : PyData} (k : entB m e = true) : entB m' e = true := by
  unfold entB at *
  split at k
  · rfl
  · rename_i a b
    simp only [Bool.and_eq_true] at k ⊢
    refine ⟨?_, k.2⟩
    have := k.1
    cases a with
    | int i => simp only [isX, Bool.and_eq_true, decide_eq_true_eq] at this ⊢; omega
    | _ => cases this
  · cases k
theorem ent_inv {m : Int} {e : PyData} (k : entB m e = true) (ne : e ≠ .none) : ∃ (s : Int) (l : List Nat), e = .tuple [.int s, .str (S l)] ∧ 0 ≤ s ∧ s < m ∧ azW l ∧ l.length ≤ 3 := by
  unfold entB at k
  split at k
  · exact (ne rfl).elim
  · rename_i a b
    simp only [Bool.and_eq_true] at k
    obtain ⟨k1, k2⟩ := k
    cases a with
    | int i =>
      simp only [isX, Bool.and_eq_true, decide_eq_true_eq] at k1
      cases b with
      | str z =>
        simp only [wdB, Bool.and_eq_true, decide_eq_true_eq] at k2
        exact ⟨i, z.cps.toList, by rw [← S_of], k1.1, k1.2, azS_W k2.1, by rw [Array.length_toList]; exact k2.2⟩
      | _ => cases k2
    | _ => cases k1
  · cases k
theorem ent_mk {m s : Int} {l : List Nat} (h0 : 0 ≤ s) (h1 : s < m) (hm : m ≤ 100) (az : azW l) (ll : l.length ≤ 3) : entB m (.tuple [.int s, .str (S l)]) = true ∧ Sd 1 20 (.tuple [.int s, .str (S l)]) := by
  refine ⟨?_, (sd_tup' (.cons (sd_int9 (by omega)) (.cons ((sd_str (azW_le az)).mono (Nat.le_refl _) ll) .nil))).mono (by omega) (by omega)⟩
  simp only [entB, isX, wd_of az ll, Bool.and_true, Bool.and_eq_true, decide_eq_true_eq]; omega
theorem set_ne {α : Type} {l : List α} {i : Nat} {x y : α} (h : l[i]? = some x) (ne : y ≠ x) : l.set i y ≠ l := fun q => by
  have : (l.set i y)[i]? = l[i]? := by rw [q]
  rw [List.getElem?_set_self (lt_of_get h), h] at this
  exact ne (Option.some.inj this)
theorem ixN_j {n j : Nat} (hj : j < n) : ixN n (j : Int) = some j := by
  unfold ixN
  rw [if_pos (by omega), if_pos (by omega), Int.toNat_natCast]
theorem turn_ne {s r L : Int} (s0 : 0 ≤ s) (s1 : s < L) (r0 : 0 ≤ r) (r1 : r < L - 1) : (s + 1 + r) % L ≠ s ∧ 0 ≤ (s + 1 + r) % L ∧ (s + 1 + r) % L < L := by
  have hL : 0 < L := by omega
  refine ⟨fun q => ?_, Int.emod_nonneg _ (by omega), Int.emod_lt_of_pos _ hL⟩
  by_cases c : s + 1 + r < L
  · rw [Int.emod_eq_of_lt (by omega) c] at q; omega
  · have e : (s + 1 + r) % L = s + 1 + r - L := by
      rw [show s + 1 + r = (s + 1 + r - L) + L by omega, Int.add_emod_right, Int.emod_eq_of_lt (by omega) (by omega)]
      omega
    rw [e] at q; omega
theorem map_list_inj {a b : List (List PyData)} (h : a.map PyData.list = b.map PyData.list) : a = b := by
  induction a generalizing b with
  | nil => cases b with
    | nil => rfl
    | cons _ _ => cases h
  | cons x a ih => cases b with
    | nil => cases h
    | cons y b =>
      rw [List.map_cons, List.map_cons] at h
      rw [PyData.list.inj (List.cons.inj h).1, ih (List.cons.inj h).2]
section
variable {P : Program} {w : World} {K : PySem.W.Frag} {mg : Str → Option Value} {base : Heap} {f : Addr} {fd : FuncData}
theorem ok_changed (F : Fun K "_law_changed" "_law_changed" s__law_changed f fd) (z : Z mg) (c__law_take : Cal P w K mg base "_law_take" ["box", "many"] 1 spTake) (c__law_word : Cal P w K mg base "_law_word" ["box"] 2 spWordB) (c__law_row : Cal P w K mg base "_law_row" ["box", "signs", "states"] 4 (spRow K)) (c__law_end : Cal P w K mg base "_law_end" ["box"] 3 (spEnd K))
    (c__law_other_word : Cal P w K mg base "_law_other_word" ["box", "word"] 2 spOther) : FnOk P w K mg base CX0 5 f fd ["box", "parts"] (spChanged K) := by
  refine F.ok sc__law_changed (fun vs H Q E h => ?_) (fun cdv A outer s H vs Q E hr h => ?_)
  · obtain ⟨b, d, v, n, sd, ed, ds, es, rfl, _⟩ := h; rfl
  · obtain ⟨b, d, v, n, sd, ed, ds, es, rfl, B, ⟨pp, sv, ev, rfl, hpp, hsv, hev⟩, pd, l12, hd, k⟩ := h
    obtain ⟨_, _, _, _, hb0, _⟩ := B.ex
    have n1 := pd.n1
    have n5 := pd.n5
    obtain ⟨rss, e1, hr2⟩ := pd.rss
    have lr : ds.length = rss.length := by rw [e1, List.length_map]
    have l1 := pd.l1
    have le := pd.le
    have hen := pd.en
    have hsv' := hsv
    have hev' := hev
    rw [pd.eS, e1] at hsv'
    rw [pd.eE] at hev'
    obtain ⟨sa, xs, rfl, hsa, hxs⟩ := hsv'.lstI
    obtain ⟨ea, ys, rfl, hea, hys⟩ := hev'.lstI
    have lx := hxs.len
    rw [List.length_map] at lx
    have ly := hys.len
    have nsb : sa ≠ b := fun c => by rw [c, L2.del_same] at hsa; cases hsa
    have hpp := del_sub _ _ hpp
    have hsa := del_sub _ _ hsa
    have hea := del_sub _ _ hea
    have hxs := hxs.same del_sub
    have hys := hys.same del_sub
    have flr := rss_flat hr2
    have fle : flatTs es = true := flatTs_all fun e he => end_flat (hen e he).1
    refine ⟨_, (pss_cons (ps_asg (pv 1) (pg_lst rfl (pgs_cons (pg_name (i := 2) sc__law_changed.nd rfl (.inl rfl)) (pgs_cons (pg_name (i := 3) sc__law_changed.nd rfl (.inl rfl)) (pgs_cons (pg_name (i := 4) sc__law_changed.nd rfl (.inl rfl)) pgs_nil)))))
      (pss_cons (ps_asg (pe_tup (pa_cons (pe_lc (own := [("row", 9)]) (g := gName 9) (tt := tYes) rfl sc__law_changed.nd (pi_list (pv 3)) (blkOk_by (own := [("row", 9)]) (N := n__law_changed) (sc := defScope s__law_changed) (by decide +kernel)) (fun _ _ _ _ _ => (pg_name (i := 9) sc__law_changed.nd rfl (.inl rfl))) (fun _ _ _ _ _ => pts_nil) (fun _ _ _ _ _ => (pe_callTy (call_list_ofB (K := K) rfl) (by rfl) z.list (by decide +kernel) (pa_cons (pv 9) pa_nil)))) (pa_cons (pe_callTy call_list_of (by rfl) z.list (by decide +kernel) (pa_cons (pv 4) pa_nil)) (pa_cons (pe_cal c__law_take hr (pa_cons (pv 0) (pa_cons (pe_callB call_lenQ (by rfl) z.len PySem.boot_len (pa_cons (pv 3) pa_nil)) pa_nil))) (pa_cons (pe_cal c__law_take hr (pa_cons (pv 0) (pa_cons (pv 2) pa_nil))) pa_nil))))) (pg_tup rfl (pgs_cons (pg_name (i := 5) sc__law_changed.nd rfl (.inl rfl)) (pgs_cons (pg_name (i := 6) sc__law_changed.nd rfl (.inl rfl)) (pgs_cons (pg_name (i := 7) sc__law_changed.nd rfl (.inl rfl)) (pgs_cons (pg_name (i := 8) sc__law_changed.nd rfl (.inl rfl)) pgs_nil))))))
      (pss_cons (ps_par (i := 10) (j := 11) rfl sc__law_changed.nd rfl rfl (by decide) rfl rfl (pa_cons (pe_cal c__law_take hr (pa_cons (pv 0) (pa_cons pe_int pa_nil))) (pa_cons (pe_ix ix_list (pe_ix ix_list (pv 5) (pv 7) (fun _ _ => rfl)) (pv 8) (fun _ _ => rfl)) pa_nil)) (by rfl))
      (pss_cons (ps_if (pt_cmpR op_eq (pv 10) pe_int (nomark _))
        (pss_one (ps_asg (pe_cal c__law_other_word hr (pa_cons (pv 0) (pa_cons (pe_ix ix_list (pv 6) (pv 7) (fun _ _ => rfl)) pa_nil))) (pg_sub (pv 6) (pv 7) set_list)))
        (pss_one (ps_if (pt_cmpR op_eq (pv 10) pe_int (nomark _))
          (pss_one (ps_ret (pe_lst (pa_cons (pv 2) (pa_cons (pe_op op_cat (pv 5) (pe_lst (pa_cons (pe_cal c__law_row hr (pa_cons (pv 0) (pa_cons (pv 2) (pa_cons (pe_op op_add (pe_callB call_lenQ (by rfl) z.len PySem.boot_len (pa_cons (pv 3) pa_nil)) pe_int) pa_nil)))) pa_nil))) (pa_cons (pe_op op_cat (pv 6) (pe_lst (pa_cons (pe_cal c__law_end hr (pa_cons (pv 0) pa_nil)) pa_nil))) pa_nil))))))
          (pss_one (ps_if (pt_cmpR op_isNo (pv 11) pe_non (nomark _))
            (pss_one (ps_asg (pe_tup (pa_cons (pe_cal c__law_take hr (pa_cons (pv 0) (pa_cons (pe_callB call_lenQ (by rfl) z.len PySem.boot_len (pa_cons (pv 3) pa_nil)) pa_nil))) (pa_cons (pe_cal c__law_word hr (pa_cons (pv 0) pa_nil)) pa_nil))) (pg_sub (pe_ix ix_list (pv 5) (pv 7) (fun _ _ => rfl)) (pv 8) set_list)))
            (pss_one (ps_if (PW.pt (pw_and (pt_cmpR op_eq (pv 10) pe_int (nomark _)) (pw_and1 (pt_cmpR op_gt (pe_callB call_lenQ (by rfl) z.len PySem.boot_len (pa_cons (pv 3) pa_nil)) pe_int (nomark _)))))
              (pss_one (ps_asg (pe_tup (pa_cons (pe_op op_mod (pe_callTy call_intN (by rfl) z.int (by decide +kernel) (pa_cons (pe_op op_add (pe_op op_add (pe_ix ix_tup (pv 11) pe_int (fun _ _ => rfl)) pe_int) (pe_cal c__law_take hr (pa_cons (pv 0) (pa_cons (pe_op op_sub (pe_callB call_lenQ (by rfl) z.len PySem.boot_len (pa_cons (pv 3) pa_nil)) pe_int) pa_nil)))) pa_nil)) (pe_callB call_lenQ (by rfl) z.len PySem.boot_len (pa_cons (pv 3) pa_nil))) (pa_cons (pe_ix ix_tup (pv 11) pe_int (fun _ _ => rfl)) pa_nil))) (pg_sub (pe_ix ix_list (pv 5) (pv 7) (fun _ _ => rfl)) (pv 8) set_list)))
              (pss_cons (ps_set (i := 12) sc__law_changed.nd rfl (.inl rfl) (pe_cal c__law_other_word hr (pa_cons (pv 0) (pa_cons (pe_ix ix_tup (pv 11) pe_int (fun _ _ => rfl)) pa_nil))))
              (pss_one (ps_asg (pe_ifExp (pt_cmpR op_isNo (pv 12) pe_non (nomark _)) pe_non (pe_tup (pa_cons (pe_ix ix_tup (pv 11) pe_int (fun _ _ => rfl)) (pa_cons (pv 12) pa_nil)))) (pg_sub (pe_ix ix_list (pv 5) (pv 7) (fun _ _ => rfl)) (pv 8) set_list)))))))))))
      (pss_one (ps_ret (pe_lst (pa_cons (pv 2) (pa_cons (pv 5) (pa_cons (pv 6) pa_nil)))))))))), ?_⟩
    walk_at "rd"
    refine ⟨pp, _, rfl, sqL_of hpp, rfl, ?_⟩
    walk_at "rd"
    refine ⟨⟨_, sqL_of hsa⟩, ?_⟩
    refine go_copy (K := K) (walk_list (xs := xs)) hsa hxs (by omega) flr (fun v rs Hx R sx hv hR => ?_) mono_name (fun rp qs H1 nrp nqs rw1 s1 => ?_)
    · obtain ⟨q, zs, rfl, hq, hzs⟩ := hv.lstI
      walk_at "rd"
      refine ⟨rfl, ?_⟩
      walk_at "rd"
      exact fun t nt => hR t zs nt hzs
    have nbr : b ≠ rp := fun c => by rw [← c, hb0] at nrp; cases nrp
    have nbq : b ∉ qs := fun c => by have := nqs b c; rw [hb0] at this; cases this
    walk_at "rd"
    intro wp nwp
    have nwr : wp ≠ rp := fun c => by rw [c, rw1.e] at nwp; cases nwp
    have nwq : wp ∉ qs := fun c => by
      obtain ⟨i, hi⟩ := List.getElem?_of_mem c
      have li := lt_of_get hi
      have ei : rss[i]? = some (rss[i]'(by rw [← rw1.ln]; exact li)) := List.getElem?_eq_getElem _
      obtain ⟨v, e, _⟩ := rw1.at_ _ _ _ hi ei
      rw [nwp] at e; cases e
    have hwp0 : H wp = none := s1.free nwp
    have s2 := same_upd (o := .lst ys) nwp
    have ew := upd_same (H := H1) (a := wp) (o := .lst ys)
    generalize upd H1 wp (.lst ys) = H2 at *
    have s02 := s1.trans s2
    have B2 := B.same s02
    have hb2 := s02 _ _ hb0
    have rw2 := rw1.same s2
    have hys2 := hys.same s02
    have nbw : b ≠ wp := fun c => by rw [← c] at nwp; rw [s1 _ _ hb0] at nwp; cases nwp
    walk_at "rd"
    rw [lx]
    refine ⟨b, rss.length, _, rfl, B2, by omega, by omega, by omega, fun at_ H3 a0 a1 B3 s3 => ?_⟩
    obtain ⟨i, rfl⟩ : ∃ i : Nat, at_ = i := ⟨at_.toNat, by omega⟩
    walk_at "rd"
    refine ⟨b, n, _, rfl, B3, by omega, by omega, by omega, fun aa H4 b0 b1 B4 s4 => ?_⟩
    obtain ⟨j, rfl⟩ : ∃ j : Nat, aa = j := ⟨aa.toNat, by omega⟩
    walk_at "rd"
    refine newT B4 (Nat.le_of_ble_eq_true rfl) fun t H5 B5 s5 e5 t5 => ?_
    refine ⟨t, _, rfl, sqT_of (del_sub _ _ e5), rfl, ?_⟩
    walk_at "rd"
    refine ⟨b, 5, _, rfl, B5, by omega, by omega, by omega, fun way H6 w0 w1 B6 s6 => ?_⟩
    have s26 : SB b H2 H6 := s3.trans (s4.trans ((SB.of t5).trans s6))
    have s06 : SB b H H6 := (SB.of s02).trans s26
    have rw6 := rw2.sb hb2 nbr nbq s26
    have ew6 := s26 _ _ (Ne.symm nbw) ew
    have hys6 := hys2.nl (NL.sb hb2 s26) fle
    have gi : rss[i]? = some (rss[i]'(by omega)) := List.getElem?_eq_getElem _
    generalize rss[i]'(by omega) = ri at gi
    have hri := hr2 ri (List.mem_of_getElem? gi)
    obtain ⟨q, vq, gq, eq6, dq6, mq⟩ := rw6.get gi
    have lri : j < ri.length := by omega
    have gj : ri[j]? = some ri[j] := List.getElem?_eq_getElem _
    generalize ri[j] = ej at gj
    have hej := hri.2 ej (List.mem_of_getElem? gj)
    obtain ⟨vj, gvj, hvj⟩ := dq6.get2 gj
    have nqb : q ≠ b := fun c => nbq (by rw [← c]; exact mq)
    walk_at "rd"
    refine i_ixLv rw6.e (by omega) (v := .ref q) (by rw [Int.toNat_natCast, List.getElem?_map, gq]; rfl) ?_
    walk_at "rd"
    refine i_ixLv eq6 (by omega) (v := vj) (by rw [Int.toNat_natCast]; exact gvj) ?_
    walk_at "rd"
    have hsa6 := s06 _ _ nsb hsa
    have lrs : rss.length ≤ 12 := by omega
    have lq := rw6.ln
    obtain ⟨_, _, _, _, hb6, _⟩ := B6.ex
    have nwp0 : wp ≠ b := Ne.symm nbw
    have fin : ∀ (H7 : Hp) (rss' : List (List PyData)) (zs : List V) (es' : List PyData), RW K H7 rp qs rss' → H7 wp = some (.lst zs) → DzAll K H7 zs es' → rss'.length = rss.length → es'.length = es.length → (∀ rs ∈ rss', (rs.length : Int) = n ∧ ∀ e ∈ rs, entB rss.length e = true ∧ Sd 1 20 e) → (∀ e ∈ es', endB e = true ∧ Sd 0 3 e) →
        (rss' ≠ rss ∨ es' ≠ es) → BoxAt H7 b (d + 100) → SB b H H7 → NewL [.int n, .ref rp, .ref wp] H7 Q := fun H7 rss' zs es' rw7 ew7 dz7 lr' le' hr' he' ne B7 s07 => by
      refine newL0 (Nat.le_of_ble_eq_true rfl) fun t8 H8 nt8 s8 e8 => ?_
      refine k (.ref t8) (.list (rss'.map .list)) (.list es') (rss'.map .list) es' H8 ⟨t8, .ref rp, .ref wp, rfl, e8, (rw7.same s8).dz, .lst (s8 _ _ ew7) (dz7.same s8)⟩ (PtD.of n1 n5 (by omega) (by omega) (by omega) (by rw [lr']; exact hr') he') ?_ (B7.same s8) (s07.trans (SB.of s8))
      rcases ne with ne | ne
      · exact .inl fun q => ne (map_list_inj (q.trans e1))
      · exact .inr ne
    refine iteB (fun c0 => ?_) (fun c0 => ?_)
    · walk_at "rd"
      have ge : es[i]? = some (es[i]'(by omega)) := List.getElem?_eq_getElem _
      have hee := hen _ (List.mem_of_getElem? ge)
      obtain ⟨o, eo, oo⟩ := end_o hee.1
      obtain ⟨ve, gve, hve⟩ := hys6.get2 ge
      rw [eo] at hve
      cases hve.oI
      refine i_ixLv ew6 (by omega) (v := oV o) (by rw [Int.toNat_natCast]; exact gve) ?_
      walk_at "rd"
      refine ⟨b, _, o, rfl, B6, oo, by omega, fun p H7 op np B7 s7 => ?_⟩
      have s67 := SB.trans s06 s7
      have ew7 := s7 _ _ nwp0 ew6
      have rw7 := rw6.sb hb6 nbr nbq s7
      have dz7 := hys6.nl (NL.sb hb6 s7) fle
      walk_at "rd"
      refine i_setL ew7 (j := i) (ixN_j (by omega)) ?_
      have nl8 := NL.lst (ys := ys.set i (oV p)) ew7
      have rw8 : RW K (upd H7 wp (.lst (ys.set i (oV p)))) rp qs rss := rw7.keep fun a o e q => by
        rw [upd_ne ?_]; · exact e
        rintro rfl
        rcases q with q | q | q
        · rw [ew7] at e; cases e; exact q _ rfl
        · exact nwr q
        · exact nwq q
      walk_at "rd"
      refine fin _ rss (ys.set i (oV p)) (es.set i (oD p)) rw8 upd_same ((dz7.nl nl8 fle).set i ((oD_dz p))) rfl (by rw [List.length_set]) (fun rs h => by have := hr2 rs h; rw [lr] at this; exact this) (fun e he => ?_) (.inr (set_ne ge (fun q => np (oD_inj (q.trans eo))))) ((B7.upd_ne' nwp0).mono (by omega)) (SB.set_new s67 hwp0)
      rcases List.mem_or_eq_of_mem_set he with he | rfl
      · exact hen e he
      · exact ⟨oD_end op, oD_sd op⟩
    walk_at "rd"
    refine iteB (fun c1 => ?_) (fun c1 => ?_)
    · walk_at "rd"
      rw [lx]
      refine ⟨b, n, rss.length + 1, _, rfl, B6, n1, n5, by omega, by omega, by omega, fun v x H7 Dx Rx B7 s7 => ?_⟩
      walk_at "rd"
      refine newLn B7 (Nat.le_of_ble_eq_true rfl) fun m1 H8 nm1 nmb B8 s8 e8 t8 => ?_
      have e8 := del_sub _ _ e8
      have rw8 := (rw6.sb hb6 nbr nbq s7).same t8
      have ew8 := t8 _ _ (s7 _ _ nwp0 ew6)
      refine ⟨rp, m1, _, _, rfl, rfl, rw8.e, e8, Nat.le_of_lt (sm_line (by rw [List.length_map]; simp; omega)), fun p1 np1 => ?_⟩
      have s9 := same_upd (o := .lst (qs.map V.ref ++ [v])) np1
      have e9 := upd_same (H := H8) (a := p1) (o := .lst (qs.map V.ref ++ [v]))
      generalize upd H8 p1 (.lst (qs.map V.ref ++ [v])) = H9 at *
      have B9 := B8.same s9
      walk_at "rd"
      refine ⟨b, _, rfl, B9, by omega, fun v2 e2 H10 De2 he2 Se2 B10 s10 => ?_⟩
      walk_at "rd"
      refine newLn B10 (Nat.le_of_ble_eq_true rfl) fun m2 H11 nm2 nmb2 B11 s11 e11 t11 => ?_
      have e11 := del_sub _ _ e11
      have ew11 := t11 _ _ (s10 _ _ nwp0 (s9 _ _ ew8))
      refine ⟨wp, m2, _, _, rfl, rfl, ew11, e11, Nat.le_of_lt (sm_line (by simp; omega)), fun p2 np2 => ?_⟩
      have s12 := same_upd (o := .lst (ys ++ [v2])) np2
      have e12 := upd_same (H := H11) (a := p2) (o := .lst (ys ++ [v2]))
      generalize upd H11 p2 (.lst (ys ++ [v2])) = H12 at *
      walk_at "rd"
      refine newL0 (Nat.le_of_ble_eq_true rfl) fun t13 H13 nt13 s13 e13 => ?_
      have np1b : p1 ≠ b := box_ne B8 np1
      obtain ⟨_, _, _, _, hb7, _⟩ := B7.ex
      obtain ⟨_, _, _, _, hb9, _⟩ := B9.ex
      have h0 : H6 b ≠ none := by rw [hb6]; simp
      have t9 : Same H7 H9 := t8.trans s9
      have t13 : Same H10 H13 := t11.trans (s12.trans s13)
      have Dx9 := Dx.same (Fr.kept (Kept.of t9))
      have Dx10 := Dx9.same (Fr.kept (Kept.sb hb9 h0 s10))
      have Dx13 := (Dx10.same (Fr.kept (Kept.of t13))).same fr_sub
      have rw13 := ((rw8.same s9).sb hb9 nbr nbq s10).same t13
      have nl9 : NL H6 H10 := (NL.sb hb6 s7).trans ((NL.of t9).trans (NL.sb hb9 s10))
      have dz13 := (hys6.nl nl9 fle).same t13
      obtain ⟨_, us, eus, erp, dus⟩ := rw13.dz.lstI
      cases eus
      have eus : us = qs.map V.ref := by rw [rw13.e] at erp; cases erp; rfl
      subst eus
      refine k (.ref _) (.list (rss.map .list ++ [x])) (.list (es ++ [e2])) (rss.map .list ++ [x]) (es ++ [e2]) H13 ⟨_, .ref p1, .ref p2, rfl, e13, .lst (t13 _ _ (s10 _ _ np1b e9)) (dus.app (.cons Dx13 .nil)), .lst (s13 _ _ e12) (dz13.app (.cons (De2.same t13) .nil))⟩ ⟨n1, n5, rfl, rfl, by simp; omega, by simp, by simp; omega, fun y hy => ?_, fun y hy => ?_⟩ (.inl fun q => ?_) ((B10.same t13).mono (by omega)) (s06.trans (s7.trans ((SB.of t9).trans (s10.trans (SB.of t13)))))
      · have el : ((rss.map PyData.list ++ [x]).length : Int) = rss.length + 1 := by simp
        rw [el]
        rcases List.mem_append.mp hy with hy | hy
        · obtain ⟨rs, hrs, rfl⟩ := List.mem_map.mp hy
          have := hr2 rs hrs
          exact ⟨rs, rfl, this.1, fun e he => ⟨entB_mono (by omega) (this.2 e he).1, (this.2 e he).2⟩⟩
        · rw [List.mem_singleton.mp hy]; exact Rx
      · rcases List.mem_append.mp hy with hy | hy
        · exact hen y hy
        · rw [List.mem_singleton.mp hy]; exact ⟨he2, Se2⟩
      · have := congrArg List.length q
        rw [e1] at this
        simp at this
    -- one entry is another one
    have fin2 : ∀ (v9 : V) (e9 : PyData) (H9 : Hp), Dz K H9 v9 e9 → entB rss.length e9 = true ∧ Sd 1 20 e9 → e9 ≠ ej → SB b H6 H9 → BoxAt H9 b (d + 100) → ∃ (vq' : List V), H9 q = some (.lst vq') ∧ NewL [.int n, .ref rp, .ref wp] (upd H9 q (.lst (vq'.set j v9))) Q ∧ j < vq'.length ∧ H9 rp = some (.lst (qs.map V.ref)) := fun v9 e9 H9 D9 he9 ne9 s69 B9 => by
      have rw9 := rw6.sb hb6 nbr nbq s69
      obtain ⟨q', vs9, gq', eq9, dq9, _⟩ := rw9.get gi
      rw [gq] at gq'; cases gq'
      have ew9 := s69 _ _ nwp0 ew6
      have dz9 := hys6.nl (NL.sb hb6 s69) fle
      have nl := NL.lst (ys := vs9.set j v9) eq9
      have nwq' : wp ≠ q := fun c => nwq (by rw [c]; exact mq)
      have hq0 : H q = none := nqs q mq
      refine ⟨vs9, eq9, ?_, by rw [dq9.len]; exact lri, rw9.e⟩
      refine fin _ (rss.set i (ri.set j e9)) ys es (rw9.put gq (dq9.set j D9) (flatTs_all fun x hx => ?_)) (by rw [upd_ne nwq']; exact ew9) (dz9.nl nl fle) (by rw [List.length_set]) rfl (fun rs hrs => ?_) hen (.inl (set_ne gi (set_ne gj ne9))) (B9.upd_ne' nqb) (SB.set_new (s06.trans s69) hq0)
      · rcases List.mem_or_eq_of_mem_set hx with hx | rfl
        · exact ent_flat (hri.2 x hx).1
        · exact ent_flat he9.1
      · rcases List.mem_or_eq_of_mem_set hrs with hrs | rfl
        · have := hr2 rs hrs; rw [lr] at this; exact this
        · refine ⟨by rw [List.length_set]; exact hri.1, fun e he => ?_⟩
          rcases List.mem_or_eq_of_mem_set he with he | rfl
          · have := hri.2 e he; rw [lr] at this; exact this
          · exact he9
    have hej' : entB rss.length ej = true ∧ Sd 1 20 ej := by rw [lr] at hej; exact hej
    by_cases cn : ej = .none
    · rw [cn] at hvj
      cases hvj.noneI
      walk_at "rd"
      rw [lx]
      refine ⟨b, rss.length, _, rfl, B6, by omega, by omega, by omega, fun x H7 x0 x1 B7 s7 => ?_⟩
      walk_at "rd"
      refine ⟨b, _, rfl, B7, by omega, fun l H8 az ll B8 s8 => ?_⟩
      walk_at "rd"
      refine newT B8 (Nat.le_of_ble_eq_true rfl) fun t9 H9 B9 s9 e9 t9s => ?_
      have e9 := del_sub _ _ e9
      obtain ⟨vq', eq', f2, lj, erp⟩ := fin2 (.ref t9) (.tuple [.int x, .str (S l)]) H9 (.tup (sqT_of e9) (.cons (.int _) (.cons (.str _) .nil))) (ent_mk x0 x1 (by omega) az ll) (by rw [cn]; nofun) (s7.trans (s8.trans (SB.of t9s))) (B9.mono (by omega))
      walk_at "rd"
      refine i_ixLv erp (by omega) (v := .ref q) (by rw [Int.toNat_natCast, List.getElem?_map, gq]; rfl) ?_
      walk_at "rd"
      refine i_setL eq' (j := j) (ixN_j lj) ?_
      walk_at "rd"
      exact f2
    obtain ⟨st, l, rfl, st0, st1, az, ll⟩ := ent_inv hej'.1 cn
    obtain ⟨te, us, rfl, hte, hus⟩ := hvj.tupI
    cases hus with
    | cons hu1 hus =>
    cases hus with
    | cons hu2 hus =>
    cases hus
    cases hu1.intI
    cases hu2.strI
    walk_at "rd"
    by_cases cc : way = 2 ∧ (1 : Int) < (rss.length : Int)
    · rw [decide_eq_true cc.1]
      walk_at "rd"
      rw [lx, decide_eq_true cc.2]
      walk_at "rd"
      refine i_ixTz (k := 0) hte rfl rfl ?_
      walk_at "rd"
      rw [lx]
      refine ⟨b, _, _, rfl, B6, by omega, by omega, by omega, fun x H7 x0 x1 B7 s7 => ?_⟩
      obtain ⟨ne, t0, t1⟩ := turn_ne st0 st1 x0 x1
      have hsa7 := s7 _ _ nsb hsa6
      have hte7 := (NL.sb hb6 s7).sqT hte
      walk_at "rd"
      rw [lx]
      refine i_ixTz (k := 1) hte7 rfl rfl ?_
      walk_at "rd"
      refine newT B7 (Nat.le_of_ble_eq_true rfl) fun t9 H9 B9 s9 e9 t9s => ?_
      have e9 := del_sub _ _ e9
      obtain ⟨vq', eq', f2, lj, erp⟩ := fin2 (.ref t9) (.tuple [.int ((st + 1 + x) % (rss.length : Int)), .str (S l)]) H9 (.tup (sqT_of e9) (.cons (.int _) (.cons (.str _) .nil))) (ent_mk t0 t1 (by omega) az ll) (fun q => ne (by injection q with q; injection q with q _; injection q)) (s7.trans (SB.of t9s)) (B9.mono (by omega))
      walk_at "rd"
      refine i_ixLv erp (by omega) (v := .ref q) (by rw [Int.toNat_natCast, List.getElem?_map, gq]; rfl) ?_
      walk_at "rd"
      refine i_setL eq' (j := j) (ixN_j lj) ?_
      walk_at "rd"
      exact f2
    rcases Decidable.em (way = 2) with c2 | c2
    · rw [decide_eq_true c2]
      walk_at "rd"
      rw [lx, decide_eq_false (fun q => cc ⟨c2, q⟩)]
      walk_at "rd"
      refine i_ixTz (k := 1) hte rfl rfl ?_
      walk_at "rd"
      refine ⟨b, _, some l, rfl, B6, ⟨az, ll⟩, by omega, fun p H7 op np B7 s7 => ?_⟩
      have hte7 := (NL.sb hb6 s7).sqT hte
      rcases p with _ | l2
      · simp only [oV]
        walk_at "rd"
        obtain ⟨vq', eq', f2, lj, erp⟩ := fin2 .non .none H7 .non ⟨rfl, sd_non.mono (by omega) (by omega)⟩ (by nofun) s7 (B7.mono (by omega))
        refine i_ixLv erp (by omega) (v := .ref q) (by rw [Int.toNat_natCast, List.getElem?_map, gq]; rfl) ?_
        walk_at "rd"
        refine i_setL eq' (j := j) (ixN_j lj) ?_
        walk_at "rd"
        exact f2
      · simp only [oV]
        walk_at "rd"
        refine i_ixTz (k := 0) hte7 rfl rfl ?_
        walk_at "rd"
        refine newT B7 (Nat.le_of_ble_eq_true rfl) fun t9 H9 B9 s9 e9 t9s => ?_
        have e9 := del_sub _ _ e9
        obtain ⟨vq', eq', f2, lj, erp⟩ := fin2 (.ref t9) (.tuple [.int st, .str (S l2)]) H9 (.tup (sqT_of e9) (.cons (.int _) (.cons (.str _) .nil))) (ent_mk st0 st1 (by omega) op.1 op.2) (fun q => np (by injection q with q; injection q with _ q; injection q with q _; injection q with q; rw [S_inj.mp q])) (s7.trans (SB.of t9s)) (B9.mono (by omega))
        walk_at "rd"
        refine i_ixLv erp (by omega) (v := .ref q) (by rw [Int.toNat_natCast, List.getElem?_map, gq]; rfl) ?_
        walk_at "rd"
        refine i_setL eq' (j := j) (ixN_j lj) ?_
        walk_at "rd"
        exact f2
    · rw [decide_eq_false c2]
      walk_at "rd"
      refine i_ixTz (k := 1) hte rfl rfl ?_
      walk_at "rd"
      refine ⟨b, _, some l, rfl, B6, ⟨az, ll⟩, by omega, fun p H7 op np B7 s7 => ?_⟩
      have hte7 := (NL.sb hb6 s7).sqT hte
      rcases p with _ | l2
      · simp only [oV]
        walk_at "rd"
        obtain ⟨vq', eq', f2, lj, erp⟩ := fin2 .non .none H7 .non ⟨rfl, sd_non.mono (by omega) (by omega)⟩ (by nofun) s7 (B7.mono (by omega))
        refine i_ixLv erp (by omega) (v := .ref q) (by rw [Int.toNat_natCast, List.getElem?_map, gq]; rfl) ?_
        walk_at "rd"
        refine i_setL eq' (j := j) (ixN_j lj) ?_
        walk_at "rd"
        exact f2
      · simp only [oV]
        walk_at "rd"
        refine i_ixTz (k := 0) hte7 rfl rfl ?_
        walk_at "rd"
        refine newT B7 (Nat.le_of_ble_eq_true rfl) fun t9 H9 B9 s9 e9 t9s => ?_
        have e9 := del_sub _ _ e9
        obtain ⟨vq', eq', f2, lj, erp⟩ := fin2 (.ref t9) (.tuple [.int st, .str (S l2)]) H9 (.tup (sqT_of e9) (.cons (.int _) (.cons (.str _) .nil))) (ent_mk st0 st1 (by omega) op.1 op.2) (fun q => np (by injection q with q; injection q with _ q; injection q with q _; injection q with q; rw [S_inj.mp q])) (s7.trans (SB.of t9s)) (B9.mono (by omega))
        walk_at "rd"
        refine i_ixLv erp (by omega) (v := .ref q) (by rw [Int.toNat_natCast, List.getElem?_map, gq]; rfl) ?_
        walk_at "rd"
        refine i_setL eq' (j := j) (ixN_j lj) ?_
        walk_at "rd"
        exact f2
end
end Sw
namespace Sw
open PySem PySem.Spec PyProof.Rows L2
local macro_rules | `(tactic| walk_at "hp") => `(tactic| first
  | (with_reducible assumption) | (with_reducible exact upd_same)
  | ((with_reducible refine' upd_old ?q1 ?q2); (case q1 => (with_reducible assumption)); (case q2 => walk_at "hp"))
  | ((with_reducible refine' Same.at ?q1 ?q2); (case q1 => (with_reducible assumption)); (case q2 => walk_at "hp"))
  | ((with_reducible refine' upd_skip ?q1 ?q2); (case q1 => walk_at "ne"); (case q2 => walk_at "hp"))
  | fail)
local macro_rules | `(tactic| walk_at "ne") => `(tactic| first
  | (with_reducible assumption) | (with_reducible exact Ne.symm (by assumption))
  | ((with_reducible refine' ne_of_none ?q1 ?q2); (case q2 => (with_reducible assumption)); (case q1 => walk_at "hp"))
  | fail)
local macro_rules | `(tactic| walk_at "ci") => `(tactic| first | assumption | (show (0 : Int) < _; first | decide | (with_reducible omega)) | exact ⟨by decide, by decide⟩ | exact .inl ⟨by decide, by decide⟩ | exact .inr ⟨by decide, by decide⟩)
local macro_rules | `(tactic| walk_at "ln") => `(tactic| first | (with_reducible assumption) | (with_reducible omega) | (simp only [List.length_append, List.length_take, List.length_drop, List.length_reverse, List.length_cons, List.length_nil]; with_reducible omega))
local macro_rules | `(tactic| walk_at "rd1") => `(tactic| first
  | (with_reducible refine i_seq ?_) | (with_reducible refine i_asg ?_) | (with_reducible refine i_ret ?_) | (with_reducible refine i_name ?_) | ((with_reducible refine' i_var ?q1 ?_); (case q1 => exact rfl)) | (with_reducible refine i_c ?_) | (with_reducible refine i_op ?_) | (with_reducible refine i_un ?_)
  | (with_reducible refine i_rI0 ?_) | (with_reducible refine i_cb ?_) | (with_reducible refine i_cons ?_) | (with_reducible refine i_nil ?_) | (with_reducible refine i_call ?_) | (with_reducible refine i_if ?_) | (with_reducible refine i_ifE ?_) | (with_reducible refine i_test ?_) | (with_reducible refine i_bl ?_)
  | (with_reducible refine i_and ?_) | (with_reducible refine i_or ?_) | (with_reducible refine i_not ?_) | (with_reducible refine i_lstM ?_) | (with_reducible refine i_lstLM ?_) | (with_reducible refine i_tupM ?_) | (with_reducible refine i_next ?_) | (with_reducible refine i_drop ?_) | (with_reducible refine i_sub ?_)
  | (with_reducible refine i_bm ?_) | (with_reducible refine i_sl ?_) | (with_reducible refine i_part ?_) | (with_reducible refine i_nopart ?_) | (with_reducible refine i_exI ?_) | (with_reducible refine i_chain ?_) | ((with_reducible refine' i_aug ?q1 ?_); (case q1 => exact rfl)) | (with_reducible refine i_ip ?_)
  | (with_reducible refine i_par ?_) | (with_reducible refine i_pair ?_) | (with_reducible refine i_andV ?_) | (with_reducible refine i_orV ?_) | (with_reducible refine i_notV ?_) | (with_reducible refine i_m1 ?_) | (with_reducible refine i_str ?_)
  | (with_reducible refine iteF ?_) | (with_reducible refine iteT ?_) | (with_reducible refine iteNT ?_) | (with_reducible refine iteNF ?_) | (with_reducible refine i_tyS ?_) | (with_reducible refine i_tB ?_) | (with_reducible refine i_retN ?_) | (with_reducible refine i_par3 ?_) | (with_reducible refine i_trip ?_) | (with_reducible refine i_gCons ?_) | (with_reducible refine i_gNil ?_) | (with_reducible refine i_lstRg ?_) | (with_reducible refine i_rg1 ?_)
  | (with_reducible refine i_lc ?_) | (with_reducible refine i_for ?_) | (with_reducible refine i_iList ?_) | (with_reducible refine i_iTup ?_) | (with_reducible refine i_iStr ?_) | (with_reducible refine i_iRng1 ?_) | (with_reducible refine i_iEnS ?_)
  | ((with_reducible refine' i_ixTH ?q1 ?q2 ?_); (case q1 => walk_at "hp"); (case q2 => exact rfl))
  | ((with_reducible refine' i_ixLH ?q1 ?q2 ?_); (case q1 => walk_at "hp"); (case q2 => exact rfl))
  | ((with_reducible refine i_addS ?q1 ?_); (case q1 => walk_at "ln")) | ((with_reducible refine i_lenSS ?q1 ?_); (case q1 => walk_at "ln")) | ((with_reducible refine i_slFrom ?q1 ?q2 ?_); (case q1 => walk_at "ln"); (case q2 => walk_at "ln")) | ((with_reducible refine i_slTo ?q1 ?q2 ?_); (case q1 => walk_at "ln"); (case q2 => walk_at "ln"))
  | ((with_reducible refine' i_tyL ?q1 ?_); (case q1 => walk_at "hp"))
  | ((with_reducible refine' i_gTupH ?q1 ?q2 ?_); (case q1 => walk_at "hp"); (case q2 => exact rfl))
  | (with_reducible refine i_dnewM ?_) | (with_reducible refine i_init ?_) | (with_reducible refine i_fst ?_) | (with_reducible refine i_mk ?_) | (with_reducible refine i_raise ?_) | (with_reducible refine i_callS ?_) | (with_reducible refine i_kwS ?_)
  | (with_reducible refine i_revT ?_) | (with_reducible refine i_kw ?_) | ((with_reducible refine' ⟨_, _, rfl, sqT_of ?q1, ?_⟩); (case q1 => walk_at "hp"))
  | (with_reducible refine i_revS ?_) | ((with_reducible refine i_revSS ?q1 ?_); (case q1 => walk_at "ln"))
  | (with_reducible refine i_startS ?_) | (with_reducible refine i_inSg ?_) | (with_reducible refine i_absN ?_) | (with_reducible refine i_min2 ?_) | (with_reducible refine i_max2 ?_) | (with_reducible refine i_min3 ?_) | (with_reducible refine i_intN ?_) | (with_reducible refine i_intNB ?_)
  | ((with_reducible refine' i_lenL ?q1 ?_); (case q1 => walk_at "hp")) | ((with_reducible refine' i_lenT ?q1 ?_); (case q1 => walk_at "hp"))
  | (with_reducible refine i_eqI ?_) | (with_reducible refine i_neI ?_) | (with_reducible refine i_eqS ?_) | (with_reducible refine i_neS ?_) | (with_reducible refine i_isNoI ?_) | (with_reducible refine i_isNoN ?_) | (with_reducible refine i_isNoR ?_)
  | ((with_reducible refine i_pow ?q1 ?q2 ?q3 ?_); (case q1 => decide); (case q2 => decide); (case q3 => (with_reducible omega)))
  | ((with_reducible refine i_rI ?q1 ?_); (case q1 => walk_at "ci"))
  | (with_reducible refine Or.inl ⟨_, rfl, ?_⟩) | (with_reducible refine Or.inr ⟨_, rfl, ?_⟩) | (with_reducible refine ⟨_, rfl, ?_⟩) | (with_reducible refine ⟨_, _, rfl, ?_⟩) | (with_reducible refine ⟨_, _, rfl, rfl, ?_⟩)
  | ((with_reducible refine' ⟨_, _, rfl, Or.inl (sqL_of ?q1), ?_⟩); (case q1 => walk_at "hp")) | ((with_reducible refine' ⟨_, _, rfl, Or.inr (sqT_of ?q1), ?_⟩); (case q1 => walk_at "hp")) | (with_reducible refine i_dget ?_) | (with_reducible refine i_disp1T ?_) | (with_reducible refine i_dcT ?_) | (with_reducible refine i_dnewT ?_) | (with_reducible refine i_fld ?_) | (with_reducible refine i_sFld ?_) | (with_reducible refine i_make ?_) | (with_reducible refine i_meth ?_) | (with_reducible refine i_star ?_) | (with_reducible refine i_isNoS ?_) | (with_reducible refine i_lc2 ?_) | fail)
local macro_rules | `(tactic| walk_at "rd") => `(tactic| repeat' walk_at "rd1")

/-! ### made by names, ends first -/
def mk3 {α : Type} : List α → List α → List α
  | [x], [e, s, t] => [x, s, t, e]
  | _, _ => []
theorem mk3_rel {vs : List V} {us : List Value} {zs : List V} {ws : List Value} (r : Vals vs us) (r2 : Vals zs ws) : Vals (mk3 vs zs) (mk3 us ws) := by
  cases r with
  | nil => exact .nil
  | cons a r => cases r with
    | cons _ _ => exact .nil
    | nil => cases r2 with
      | nil => exact .nil
      | cons b r2 => cases r2 with
        | nil => exact .nil
        | cons c r2 => cases r2 with
          | nil => exact .nil
          | cons d r2 => cases r2 with
            | nil => exact .cons a (.cons c (.cons d (.cons b .nil)))
            | cons _ _ => exact .nil
abbrev ksEST : List Str := ["ends", "signs", "steps"]
structure MakKw (P : Program) (w : World) (K : PySem.W.Frag) (mg : Str → Option Value) (base : Heap) (k : Nat) (x : Str) (C : Addr) (sp : Sp) : Prop where
  ex : ∃ (f : Addr) (fd : FuncData) (ps : List Str), L2.Mk K C f ∧ FnOk P w K mg base CX0 k f fd ps sp ∧ mg x = some (.ref C) ∧ KBn K fd ps 1 ksEST mk3 mk3
theorem pe_mkKw {X : Cx} {k j : Nat} {C : Addr} {x : Str} {sp : Sp} {p pos : Pos} {kws : List Keyword} {tk : TA} (c : MakKw X.prog X.w X.K X.mg X.base k x C sp) (hr : Room j X.A) (hk : k + 1 ≤ j) (ha : PK X kws tk) (hg : Gl X x := by rfl)
    (hall : (backToKw pos (keywordEach kws X.env)).all (·.1.isSome) = true := by rfl) (hks : (backToKw pos (keywordEach kws X.env)).filterMap (·.1) = ksEST := by rfl) (hdb : (x == ("__debug__" : Str)) = false := by decide)
    (hpl : ((backTo pos (starEach [] X.env)).any (·.1) || (backToKw pos (keywordEach kws X.env)).any (·.1.isNone)) = false := by rfl) : PE X (.Call (.Name x p) [] kws pos) (tMakeK C 0 3 sp mk3 E0 tNil tk) := by
  obtain ⟨f, fd, ps, M, F, hm, b⟩ := c.ex
  exact pe_makeK0 M F (hr.mono hk) hg hm b pass0 ha hall hks hdb hpl
theorem i_makeK {C : Addr} {sp : Sp} {E : XK} {tk : TA} {σ : L2.St} {H : Hp} {Q : VK} (h : tk σ H fun zs H2 => ([] : List V).length = 0 ∧ zs.length = 3 ∧ ∀ x dx, H2 x = none → H2 dx = none → dx ≠ x → sp (mk3 [.ref x] zs) (upd (upd H2 dx (.own x)) x (.ins C dx [])) (fun v H3 => v = .non ∧ Q (.ref x) H3) E) : tMakeK C 0 3 sp mk3 E tNil tk σ H Q := h
theorem i_mk3 {C : Addr} {sp : Sp} {E : XK} {e s t : V} {H2 : Hp} {Q : VK} (h : rMake C sp E [s, t, e] H2 Q) : ([] : List V).length = 0 ∧ [e, s, t].length = 3 ∧ ∀ x dx, H2 x = none → H2 dx = none → dx ≠ x → sp (mk3 [.ref x] [e, s, t]) (upd (upd H2 dx (.own x)) x (.ins C dx [])) (fun v H3 => v = .non ∧ Q (.ref x) H3) E := ⟨rfl, rfl, h⟩
section
variable {X : Cx} {k n : Nat} {C : Addr} {sp : Sp}
theorem op_eqMK {K : PySem.W.Frag} (q : X.K = K) (e : EqI X.prog X.w K X.mg X.base k C sp) (ed : EqD K C) (hr : Room n X.A) (hk : k + 1 ≤ n := by decide) : OpR X (compareOp .Eq) (rEqM K C sp) := by
  subst q; exact op_eqM e ed hr hk
theorem op_neMK {K : PySem.W.Frag} (q : X.K = K) (e : EqI X.prog X.w K X.mg X.base k C sp) (ed : EqD K C) (hr : Room n X.A) (hk : k + 1 ≤ n := by decide) : OpR X (compareOp .NotEq) (rNeM K C sp) := by
  subst q; exact op_neM e ed hr hk
end
/-! ### equal as Python says, equal -/
mutual
def plD : PyData → Bool
  | .none => true
  | .int _ => true
  | .str _ => true
  | .tuple ds => plDs ds
  | _ => false
def plDs : List PyData → Bool
  | [] => true
  | d :: ds => plD d && plDs ds
end
theorem plDs_all {ds : List PyData} (h : ∀ d ∈ ds, plD d = true) : plDs ds = true := by
  induction ds with
  | nil => simp only [plDs]
  | cons d ds ih => simp only [plDs, h d List.mem_cons_self, ih fun x hx => h x (List.mem_cons_of_mem _ hx), Bool.and_self]
mutual
theorem eqv_pl : ∀ {d e : PyData}, plD d = true → plD e = true → PyData.eqv d e = true → d = e
  | .none, .none, _, _, _ => rfl
  | .int i, .int j, _, _, h => by simp only [PyData.eqv] at h; rw [beq_iff_eq.mp h]
  | .str x, .str y, _, _, h => by simp only [PyData.eqv] at h; rw [beq_iff_eq.mp h]
  | .tuple xs, .tuple ys, h1, h2, h => by
    simp only [plD] at h1 h2
    simp only [PyData.eqv] at h
    rw [eqvs_pl h1 h2 h]
  | .none, .int _, _, _, h | .none, .str _, _, _, h | .none, .tuple _, _, _, h | .int _, .none, _, _, h | .int _, .str _, _, _, h | .int _, .tuple _, _, _, h
  | .str _, .none, _, _, h | .str _, .int _, _, _, h | .str _, .tuple _, _, _, h | .tuple _, .none, _, _, h | .tuple _, .int _, _, _, h | .tuple _, .str _, _, _, h => by simp only [PyData.eqv] at h; cases h
  | .bool _, _, h, _, _ | .list _, _, h, _, _ | .dict _, _, h, _, _ => by simp only [plD] at h; cases h
  | _, .bool _, _, h, _ | _, .list _, _, h, _ | _, .dict _, _, h, _ => by simp only [plD] at h; cases h
theorem eqvs_pl : ∀ {ds es : List PyData}, plDs ds = true → plDs es = true → PyData.eqvAll ds es = true → ds = es
  | [], [], _, _, _ => rfl
  | d :: ds, e :: es, h1, h2, h => by
    simp only [plDs, Bool.and_eq_true] at h1 h2
    simp only [PyData.eqvAll, Bool.and_eq_true] at h
    rw [eqv_pl h1.1 h2.1 h.1, eqvs_pl h1.2 h2.2 h.2]
  | [], _ :: _, _, _, h => by simp only [PyData.eqvAll] at h; cases h
  | _ :: _, [], _, _, h => by simp only [PyData.eqvAll] at h; cases h
end
mutual
theorem eqv_self : ∀ (d : PyData), d.hasDict = false → PyData.eqv d d = true
  | .none, _ => by simp only [PyData.eqv]
  | .bool b, _ => by simp only [PyData.eqv]; exact beq_self_eq_true _
  | .int i, _ => by simp only [PyData.eqv]; exact beq_self_eq_true _
  | .str x, _ => by simp only [PyData.eqv]; exact beq_self_eq_true _
  | .list ds, h => by simp only [PyData.eqv]; exact eqvs_self ds (by simpa only [PyData.hasDict] using h)
  | .tuple ds, h => by simp only [PyData.eqv]; exact eqvs_self ds (by simpa only [PyData.hasDict] using h)
  | .dict _, h => by simp only [PyData.hasDict] at h; cases h
theorem eqvs_self : ∀ (ds : List PyData), PyData.hasDictAll ds = false → PyData.eqvAll ds ds = true
  | [], _ => by simp only [PyData.eqvAll]
  | d :: ds, h => by
    simp only [PyData.hasDictAll, Bool.or_eq_false_iff] at h
    simp only [PyData.eqvAll, eqv_self d h.1, eqvs_self ds h.2, Bool.and_self]
end
theorem ent_pl {m : Int} {e : PyData} (k : entB m e = true) : plD e = true := by
  by_cases c : e = .none
  · rw [c]; simp only [plD]
  · obtain ⟨s, l, rfl, _⟩ := ent_inv k c
    simp only [plD, plDs, Bool.and_self]
theorem end_pl {e : PyData} (k : endB e = true) : plD e = true := by
  obtain ⟨o, rfl, _⟩ := end_o k
  cases o <;> simp only [oD, plD]
theorem PtD.pl1 {n : Int} {sd ed : PyData} {ds es : List PyData} (h : PtD n sd ed ds es) : plD (tupS sd) = true := by
  unfold tupS; rw [h.seq]
  simp only [plD]
  refine plDs_all fun x hx => ?_
  obtain ⟨y, hy, rfl⟩ := List.mem_map.mp hx
  obtain ⟨rs, rfl, _, he⟩ := h.row y hy
  show plD (.tuple rs) = true
  simp only [plD]
  exact plDs_all fun e h => ent_pl (he e h).1
theorem PtD.pl2 {n : Int} {sd ed : PyData} {ds es : List PyData} (h : PtD n sd ed ds es) : plD (tup1 ed) = true := by
  rw [h.eE]
  show plD (.tuple es) = true
  simp only [plD]
  exact plDs_all fun e he => end_pl (h.en e he).1
/-- unlike parts, unlike decoders -/
theorem PtD.unlike {n : Int} {sd ed sd' ed' : PyData} {ds es ds' es' : List PyData} (h : PtD n sd ed ds es) (h' : PtD n sd' ed' ds' es') (ne : ds' ≠ ds ∨ es' ≠ es) : (PyData.eqv (tupS sd) (tupS sd') && PyData.eqv (tup1 ed) (tup1 ed')) = false ∧ (PyData.eqv (tupS sd') (tupS sd) && PyData.eqv (tup1 ed') (tup1 ed)) = false := by
  have key : tupS sd = tupS sd' → tup1 ed = tup1 ed' → False := fun e1 e2 => by
    rcases ne with ne | ne
    · apply ne
      unfold tupS at e1
      rw [h.seq, h'.seq] at e1
      have e1 := PyData.tuple.inj e1
      obtain ⟨r1, rfl, _⟩ := h.rss
      obtain ⟨r2, rfl, _⟩ := h'.rss
      rw [List.map_map, List.map_map] at e1
      have : ∀ {a b : List (List PyData)}, a.map (tup1 ∘ PyData.list) = b.map (tup1 ∘ PyData.list) → a = b := by
        intro a
        induction a with
        | nil => intro b h; cases b with
          | nil => rfl
          | cons _ _ => cases h
        | cons x a ih => intro b h; cases b with
          | nil => cases h
          | cons y b =>
            rw [List.map_cons, List.map_cons] at h
            rw [show x = y from PyData.tuple.inj (List.cons.inj h).1, ih (List.cons.inj h).2]
      rw [this e1]
    · apply ne
      rw [h.eE, h'.eE] at e2
      exact (PyData.tuple.inj e2).symm
  constructor
  · rcases q : (PyData.eqv (tupS sd) (tupS sd') && PyData.eqv (tup1 ed) (tup1 ed')) with _ | _
    · rfl
    · rw [Bool.and_eq_true] at q
      exact (key (eqv_pl h.pl1 h'.pl1 q.1) (eqv_pl h.pl2 h'.pl2 q.2)).elim
  · rcases q : (PyData.eqv (tupS sd') (tupS sd) && PyData.eqv (tup1 ed') (tup1 ed)) with _ | _
    · rfl
    · rw [Bool.and_eq_true] at q
      exact (key (eqv_pl h'.pl1 h.pl1 q.1).symm (eqv_pl h'.pl2 h.pl2 q.2).symm).elim
/-- _law_equal_right(box, made, parts) -/
def spEqual (K : PySem.W.Frag) (C : Addr) : Sp := fun vs H Q _ => ∃ (b : Addr) (d : Int) (v1 v2 : V) (n : Int) (sd ed : PyData) (ds es : List PyData), vs = [.ref b, v1, v2] ∧ BoxAt H b d ∧ DAt K C H v1 n ds.length (tupS sd) (tup1 ed) ∧ PtAt K (L2.del H b) v2 n sd ed ∧ PtD n sd ed ds es ∧ ds.length ≤ 12 ∧ d + 300 ≤ 1000000 ∧
  ∀ H', BoxAt H' b (d + 300) → SB b H H' → Q (.bl true) H'
theorem map_tup1 {n : Int} {sd ed : PyData} {ds es : List PyData} (h : PtD n sd ed ds es) : (ds.map tup1).map tup1 = ds.map tup1 := by
  obtain ⟨r1, rfl, _⟩ := h.rss
  simp [List.map_map, Function.comp_def, tup1, seqD, seqL]
structure TwD (n : Int) (sd ed : PyData) (ds : List PyData) : Prop where
  a : stpB n (tupS sd) = true
  b : tupS (tupS sd) = tupS sd
  c : seqD (tupS sd) = ds.map tup1
  d : tup1 (tup1 ed) = tup1 ed
  e : ensB ds.length (tup1 ed) = true
theorem PtD.tw {n : Int} {sd ed : PyData} {ds es : List PyData} (h : PtD n sd ed ds es) : TwD n sd ed ds := by
  have e1 : tupS sd = .tuple (ds.map tup1) := by unfold tupS; rw [h.seq]
  have e2 : tup1 ed = .tuple es := by rw [h.eE]; rfl
  refine ⟨?_, ?_, by rw [e1]; rfl, by rw [e2]; rfl, ?_⟩
  · rw [e1]
    simp only [stpB, seqL, Bool.and_eq_true, decide_eq_true_eq, List.all_eq_true, List.length_map]
    refine ⟨⟨⟨h.l1, by have := h.l2; omega⟩, fun x hx => ?_⟩, fun x hx => ?_⟩
    · obtain ⟨y, hy, rfl⟩ := List.mem_map.mp hx
      obtain ⟨rs, rfl, l, he⟩ := h.row y hy
      exact decide_eq_true l
    · obtain ⟨y, hy, rfl⟩ := List.mem_map.mp hx
      obtain ⟨rs, rfl, l, he⟩ := h.row y hy
      exact List.all_eq_true.mpr fun e h => (he e h).1
  · rw [e1]
    show PyData.tuple ((ds.map tup1).map tup1) = _
    rw [map_tup1 h]
  · rw [e2]
    simp only [ensB, seqL, Bool.and_eq_true, decide_eq_true_eq, List.all_eq_true]
    exact ⟨by rw [h.le], fun e he => (h.en e he).1⟩
theorem PtD.ok {n : Int} {sd ed : PyData} {ds es : List PyData} (h : PtD n sd ed ds es) : DOk (tupS sd) (tup1 ed) := dok_of h.stp h.ens (h.s1.mono (by omega) (by omega)) (h.s2.mono (by omega) (by omega))
theorem PtD.st1 {n : Int} {sd ed : PyData} {ds es : List PyData} (h : PtD n sd ed ds es) : Sd 6 20000 (tupS sd) := by
  have e1 : tupS sd = .tuple (ds.map tup1) := by unfold tupS; rw [h.seq]
  rw [e1]
  have a := h.s1
  rw [h.eS] at a
  exact (sd_tup' (a.lstI'.tups fun x hx => by obtain ⟨rs, rfl, _⟩ := h.row x hx; exact ⟨rs, rfl⟩)).mono (by omega) (by omega)
theorem PtD.st2 {n : Int} {sd ed : PyData} {ds es : List PyData} (h : PtD n sd ed ds es) : Sd 6 20000 (tup1 ed) := by
  have a := h.s2
  rw [h.eE] at a ⊢
  exact (sd_tup' a.lstI').mono (by omega) (by omega)
section
variable {K : PySem.W.Frag} {C : Addr} {H : Hp} {v1 v2 : V} {n m : Int} {k j : Nat} {sd ed se ee : PyData} {Q : VK}
theorem i_eqMD (D1 : DAt K C H v1 n k sd ed) (o1 : DOk sd ed) (D2 : DAt K C H v2 m j se ee) (o2 : DOk se ee) (q : ∀ H', Same H H' → Q (.bl (decide (n = m) && (PyData.eqv sd se && PyData.eqv ed ee))) H') : rEqM K C (spEqD K C) v1 v2 H Q := by
  obtain ⟨a, dx, p1, p2, rfl, ha, _⟩ := id D1
  obtain ⟨b, dy, q1, q2, rfl, hb, _⟩ := id D2
  exact .inl ⟨a, dx, _, rfl, ha, .inl ⟨b, dy, _, rfl, hb⟩, _, _, n, k, sd, ed, rfl, D1, o1, .inl ⟨m, j, se, ee, D2, o2, fun H' s => ⟨_, rfl, q H' s⟩⟩⟩
theorem i_neMD (D1 : DAt K C H v1 n k sd ed) (o1 : DOk sd ed) (D2 : DAt K C H v2 m j se ee) (o2 : DOk se ee) (q : ∀ H', Same H H' → Q (.bl (!(decide (n = m) && (PyData.eqv sd se && PyData.eqv ed ee)))) H') : rNeM K C (spEqD K C) v1 v2 H Q := by
  obtain ⟨a, dx, p1, p2, rfl, ha, _⟩ := id D1
  obtain ⟨b, dy, q1, q2, rfl, hb, _⟩ := id D2
  exact ⟨a, dx, _, rfl, ha, .inl ⟨b, dy, _, rfl, hb⟩, _, _, n, k, sd, ed, rfl, D1, o1, .inl ⟨m, j, se, ee, D2, o2, fun H' s => ⟨_, rfl, q H' s⟩⟩⟩
theorem i_eqMa (D1 : DAt K C H v1 n k sd ed) (o1 : DOk sd ed) (da : Da K H v2) (q : ∀ H', Same H H' → Q (.bl false) H') : rEqM K C (spEqD K C) v1 v2 H Q := by
  obtain ⟨a, dx, p1, p2, rfl, ha, _⟩ := id D1
  exact .inl ⟨a, dx, _, rfl, ha, .inr da, _, _, n, k, sd, ed, rfl, D1, o1, .inr ⟨da, fun H' s => ⟨_, rfl, q H' s⟩⟩⟩
theorem i_eqMb (D1 : DAt K C H v1 n k sd ed) (o1 : DOk sd ed) (da : Da K H v2) (q : ∀ H', Same H H' → Q (.bl false) H') : rEqM K C (spEqD K C) v2 v1 H Q := by
  obtain ⟨a, dx, p1, p2, rfl, ha, _⟩ := id D1
  exact .inr ⟨a, dx, _, rfl, ha, da, _, _, n, k, sd, ed, rfl, D1, o1, .inr ⟨da, fun H' s => ⟨_, rfl, q H' s⟩⟩⟩
theorem i_neMa (D1 : DAt K C H v1 n k sd ed) (o1 : DOk sd ed) (da : Da K H v2) (q : ∀ H', Same H H' → Q (.bl true) H') : rNeM K C (spEqD K C) v1 v2 H Q := by
  obtain ⟨a, dx, p1, p2, rfl, ha, _⟩ := id D1
  exact ⟨a, dx, _, rfl, ha, .inr da, _, _, n, k, sd, ed, rfl, D1, o1, .inr ⟨da, fun H' s => ⟨_, rfl, q H' s⟩⟩⟩
theorem Da.same {H H' : Hp} {v : V} (s : Same H H') (h : Da K H v) : Da K H' v := by
  cases h with
  | non => exact .non
  | int i => exact .int i
  | str x => exact .str x
  | lst h1 => exact .lst (s _ _ h1)
  | tup h1 => exact .tup (Same.sqT s h1)
  | dK h1 => exact .dK (s _ _ h1)
end
section
variable {P : Program} {w : World} {K : PySem.W.Frag} {mg : Str → Option Value} {base : Heap} {f : Addr} {fd : FuncData}
theorem ok_equal {C : Addr} (F : Fun K "_law_equal_right" "_law_equal_right" s__law_equal_right f fd) (z : Z mg) (eqD : EqI P w K mg base 1 C (spEqD K C)) (ed : EqD K C) (m_Decoder : C8.Mak P w K mg base 5 "Decoder" C (spIni0 K C) []) (mk_Decoder : MakKw P w K mg base 5 "Decoder" C (spIni0 K C))
    (c__law_plain_rows : Cal P w K mg base "_law_plain_rows" ["rows"] 1 (spPlain K)) (c__law_changed : Cal P w K mg base "_law_changed" ["box", "parts"] 5 (spChanged K)) (q__law_stands : CalG P w K mg base "_law_stands" ["made", "parts"] 2 (spStands K C)) : FnG P w K mg base CX0 7 f fd ["box", "made", "parts"] (spEqual K C) := by
  refine Sw.Fun.okG0 F sc__law_equal_right (fun vs H Q E h => ?_) (fun cdv A outer s H vs Q E hr quiet h => ?_)
  · obtain ⟨b, d, v1, v2, n, sd, ed, ds, es, rfl, _⟩ := h; rfl
  · obtain ⟨b, d, v1, v2, n, sd, ee, ds, es, rfl, B, D0, pt, pd, l12, hd, k⟩ := h
    obtain ⟨_, _, _, _, hb0, _⟩ := B.ex
    obtain ⟨pp, sv, ev, rfl, hpp, hsv, hev⟩ := id pt
    have ok := pd.ok
    have tw := pd.tw
    have n1 := pd.n1
    have n5 := pd.n5
    have hev' := hev
    have hsv' := hsv
    rw [pd.eS] at hsv'
    rw [pd.eE] at hev'
    obtain ⟨sa, xs, rfl, hsa, hxs⟩ := hsv'.lstI
    obtain ⟨ea, ys, rfl, hea, hys⟩ := hev'.lstI
    have nea : ea ≠ b := fun c => by rw [c, L2.del_same] at hea; cases hea
    have lds : ds.length ≤ 20 := by omega
    have flr : ∀ x ∈ ds, ∃ rs, x = PyData.list rs ∧ flatTs rs = true := fun x hx => (pd.row x hx).flat
    have e2 : tup1 ee = .tuple es := by rw [pd.eE]; rfl
    have e1 : tupS sd = .tuple (ds.map tup1) := by unfold tupS; rw [pd.seq]
    have fle : flatTs es = true := flatTs_all fun e he => end_flat (pd.en e he).1
    refine ⟨_, (pss_cons (ps_asg (pv 2) (pg_lst rfl (pgs_cons (pg_name (i := 3) sc__law_equal_right.nd rfl (.inl rfl)) (pgs_cons (pg_name (i := 4) sc__law_equal_right.nd rfl (.inl rfl)) (pgs_cons (pg_name (i := 5) sc__law_equal_right.nd rfl (.inl rfl)) pgs_nil)))))
      (pss_cons (ps_set (i := 6) sc__law_equal_right.nd rfl (.inl rfl) (pe_mkKw mk_Decoder hr (by decide) (pk_cons (pe_callTy call_tuple_of (by rfl) z.tuple (by decide +kernel) (pa_cons (pv 5) pa_nil)) (pk_cons (pv 3) (pk_cons (pe_cal c__law_plain_rows hr (pa_cons (pv 4) pa_nil)) pk_nil)))))
      (pss_cons (ps_if (PW.pt (pw_or (pt_not (pt_cmpR (op_eqM eqD ed hr) (pv 1) (pv 6) (nomark _))) (pw_or (pt_cmpR (op_neM eqD ed hr) (pv 1) (pv 6) (nomark _)) (pw_or (pt_not (pt_cmpR (op_eqM eqD ed hr) (pv 6) (pv 1) (nomark _))) (pw_or1 (pt_not (pt_cmpR (op_eqM eqD ed hr) (pv 1) (pv 1) (nomark _))))))))
        (pss_one (ps_ret pe_bl))
        pss_nil)
      (pss_cons (ps_for PassesOwn.never rfl (pi_range1 (by rfl) z.range (pa_cons pe_int pa_nil)) (pg_name (i := 7) sc__law_equal_right.nd rfl (.inl rfl))
        (pss_cons (ps_set (i := 8) sc__law_equal_right.nd rfl (.inl rfl) (pe_cal c__law_changed hr (pa_cons (pv 0) (pa_cons (pv 2) pa_nil))))
        (pss_cons (ps_set (i := 9) sc__law_equal_right.nd rfl (.inl rfl) (C8.pe_mk m_Decoder hr (by decide) (by rfl) (pa_cons (pe_ix ix_list (pv 8) pe_int (fun _ _ => rfl)) (pa_cons (pe_ix ix_list (pv 8) pe_int (fun _ _ => rfl)) (pa_cons (pe_ix ix_list (pv 8) pe_int (fun _ _ => rfl)) pa_nil)))))
        (pss_one (ps_if (PW.pt (pw_or (pt_not (pt_val (pe_calG q__law_stands hr quiet (pa_cons (pv 9) (pa_cons (pv 8) pa_nil))))) (pw_or (pt_cmpR (op_eqM eqD ed hr) (pv 1) (pv 9) (nomark _)) (pw_or (pt_not (pt_cmpR (op_neM eqD ed hr) (pv 1) (pv 9) (nomark _))) (pw_or1 (pt_cmpR (op_eqM eqD ed hr) (pv 9) (pv 1) (nomark _)))))))
          (pss_one (ps_ret pe_bl))
          pss_nil)))))
      (pss_cons (ps_set (i := 10) sc__law_equal_right.nd rfl (.inl rfl) (pe_lst (pa_cons pe_non (pa_cons pe_int (pa_cons (pe_strS (l := []) (by decide +kernel)) (pa_cons (pv 3) (pa_cons (pe_tup (pa_cons (pv 3) (pa_cons (pe_cal c__law_plain_rows hr (pa_cons (pv 4) pa_nil)) (pa_cons (pe_callTy call_tuple_of (by rfl) z.tuple (by decide +kernel) (pa_cons (pv 5) pa_nil)) pa_nil)))) (pa_cons (pe_cal c__law_plain_rows hr (pa_cons (pv 4) pa_nil)) (pa_cons (pe_lst (pa_cons (pv 1) pa_nil)) (pa_cons pe_dnewK pa_nil))))))))))
      (pss_one (ps_ret (pe_cmpR (op_eqD hr.units) (pe_lc (own := [("thing", 11)]) (g := gName 11) (tt := _) rfl sc__law_equal_right.nd (pi_list (pv 10)) (blkOk_by (own := [("thing", 11)]) (N := n__law_equal_right) (sc := defScope s__law_equal_right) (by decide +kernel)) (fun _ _ _ _ _ => (pg_name (i := 11) sc__law_equal_right.nd rfl (.inl rfl))) (fun _ _ _ _ _ => (pts_one (PW.pt (pw_or (pt_cmpR (op_eqMK (K := K) rfl eqD ed hr) (pv 1) (pv 11) (nomark _)) (pw_or (pt_cmpR (op_eqMK (K := K) rfl eqD ed hr) (pv 11) (pv 1) (nomark _)) (pw_or1 (pt_not (pt_cmpR (op_neMK (K := K) rfl eqD ed hr) (pv 1) (pv 11) (nomark _))))))))) (fun _ _ _ _ _ => (pv 11))) (pe_lst pa_nil) (nomark _))))))))), ?_⟩
    walk_at "rd"
    refine ⟨pp, _, rfl, sqL_of (del_sub _ _ hpp), rfl, ?_⟩
    walk_at "rd"
    refine i_makeK ?_
    walk_at "rd"
    refine ⟨ea, _, rfl, .inl ⟨sqL_of (del_sub _ _ hea), fun t nt => ?_⟩⟩
    have s1 := same_upd (o := .tup ys) nt
    have et := upd_same (H := H) (a := t) (o := .tup ys)
    generalize upd H t (.tup ys) = H1 at *
    walk_at "rd"
    refine ⟨.ref sa, ds, rfl, (hsv'.same del_sub).same s1, lds, flr, fun v2 H2 D2 s2 => ?_⟩
    walk_at "rd"
    refine ⟨rfl, rfl, ?_⟩
    refine i_makeD (Q := fun v H3 => gName 6 v _ H3 _) (E := E0) (d2 := tupS sd) (d3 := tup1 ee) (by rw [e1]; exact D2) (by rw [e2]; exact .tup (sqT_of (s2 _ _ et)) ((hys.same del_sub).same (s1.trans s2))) pd.st1 pd.st2 n1 n5 tw.a (by rw [tw.c, List.length_map]; exact tw.e) (fun vt H3 s3 Dt => ?_)
    rw [tw.b, tw.d] at Dt
    have s03 := s1.trans (s2.trans s3)
    have D3 := D0.same s03
    have yes : (PyData.eqv (tupS sd) (tupS sd) && PyData.eqv (tup1 ee) (tup1 ee)) = true := by rw [eqv_self _ (flatT_noDict ok.f1), eqv_self _ (flatT_noDict ok.f2)]; rfl
    walk_at "rd"
    refine i_eqMD D3 ok Dt ok fun H4 s4 => ?_
    rw [yes, decide_eq_true rfl, Bool.and_self]
    walk_at "rd"
    refine i_neMD (D3.same s4) ok (Dt.same s4) ok fun H5 s5 => ?_
    rw [yes, decide_eq_true rfl, Bool.and_self]
    walk_at "rd"
    have s35 := s4.trans s5
    refine i_eqMD (Dt.same s35) ok (D3.same s35) ok fun H6 s6 => ?_
    rw [yes, decide_eq_true rfl, Bool.and_self]
    walk_at "rd"
    have s36 := s35.trans s6
    refine i_eqMD (D3.same s36) ok (D3.same s36) ok fun H7 s7 => ?_
    rw [yes, decide_eq_true rfl, Bool.and_self]
    have s07 := s03.trans (s36.trans s7)
    walk_at "rd"
    refine i_rng (by omega) (by omega) ?_
    refine go_for walk_rangeZ (fun i σ Hx => ∃ u7 u8 u9, σ = [some (.ref b), some v1, some (.ref pp), some (.int n), some (.ref sa), some (.ref ea), some vt, u7, u8, u9, none, none] ∧ BoxAt Hx b (d + 100 * i) ∧ SB b H Hx) ⟨none, none, none, rfl, (B.same s07).mono (by simp), SB.of s07⟩ (fun _ _ _ _ _ => trivial) (fun i v σ Hx Hy hi h y => ?_) (fun σ Hx h => ?_)
    · obtain ⟨u7, u8, u9, rfl, Bx, sx⟩ := h
      obtain ⟨rfl, rfl⟩ := y
      have i3 : i < 3 := by simpa using hi
      walk_at "rd"
      refine ⟨b, d + 100 * i, .ref pp, n, sd, ee, ds, es, rfl, Bx, pt.same (del_sb sx), pd, l12, by omega, fun v' sd' ed' ds' es' H1 pt' pd' ne B1 s1 => ?_⟩
      obtain ⟨p', sv', ev', rfl, hp', hsv', hev'⟩ := id pt'
      walk_at "rd"
      refine i_makeD hsv' hev' (pd'.s1.mono (by omega) (by omega)) (pd'.s2.mono (by omega) (by omega)) n1 n5 pd'.stp (by rw [pd'.seq]; exact pd'.ens) (fun vo H2 s2 Do => ?_)
      rw [pd'.seq] at Do
      obtain ⟨no1, no2⟩ := pd.unlike pd' ne
      have ok' := pd'.ok
      walk_at "rd"
      refine ⟨vo, .ref p', n, sd', ed', ds', es', rfl, Do, pt'.same s2, pd', fun H3 s3 => ?_⟩
      have Do := Do.same s3
      have nlx : NL H H3 := (NL.sb hb0 (sx.trans s1)).trans (NL.of (s2.trans s3))
      have D3 := D0.nl nlx ok
      walk_at "rd"
      refine i_eqMD D3 ok Do ok' fun H4 s4 => ?_
      rw [no1, Bool.and_false]
      walk_at "rd"
      refine i_neMD (D3.same s4) ok (Do.same s4) ok' fun H5 s5 => ?_
      rw [no1, Bool.and_false, Bool.not_false]
      walk_at "rd"
      have s35 := s4.trans s5
      refine i_eqMD (Do.same s35) ok' (D3.same s35) ok fun H6 s6 => ?_
      rw [no2, Bool.and_false]
      walk_at "rd"
      have s26 := s2.trans (s3.trans (s35.trans s6))
      exact ⟨_, _, _, rfl, (B1.same s26).mono (by omega), (sx.trans s1).trans (SB.of s26)⟩
    · obtain ⟨u7, u8, u9, rfl, Bx, sx⟩ := h
      have Dx := D0.nl (NL.sb hb0 sx) ok
      have hsx := (hsv'.same ((del_sb sx))).same del_sub
      have heax := sx _ _ nea (del_sub _ _ hea)
      walk_at "rd"
      refine ⟨.ref sa, ds, rfl, hsx, lds, flr, fun v2 H2 D2 s2 => ?_⟩
      obtain ⟨a2, us2, rfl, ha2, _⟩ := D2.tupI
      walk_at "rd"
      refine ⟨ea, _, rfl, .inl ⟨sqL_of (s2 _ _ heax), fun t nt => ?_⟩⟩
      have s3 := same_upd (o := .tup ys) nt
      generalize upd H2 t (.tup ys) = H3 at *
      walk_at "rd"
      refine newT0 (Nat.le_of_ble_eq_true rfl) fun t4 H4 nt4 s4 e4 => ?_
      walk_at "rd"
      refine ⟨.ref sa, ds, rfl, hsx.same (s2.trans (s3.trans s4)), lds, flr, fun v5 H5 D5 s5 => ?_⟩
      obtain ⟨a5, us5, rfl, ha5, _⟩ := D5.tupI
      walk_at "rd"
      refine newL0 (Nat.le_of_ble_eq_true rfl) fun l6 H6 nl6 s6 e6 => ?_
      walk_at "rd"
      refine newD0 fun p7 H7 np7 s7 e7 => ?_
      walk_at "rd"
      refine newL0 (Nat.le_of_ble_eq_true rfl) fun l8 H8 nl8 s8 e8 => ?_
      have s28 : Same Hx H8 := s2.trans (s3.trans (s4.trans (s5.trans (s6.trans (s7.trans s8)))))
      have D8 := Dx.same s28
      have das : ∀ v ∈ [V.non, .int 0, .str (S []), .int n, .ref t4, .ref a5, .ref l6, .ref p7], Da K H8 v := fun v hv => by
        simp only [List.mem_cons, List.not_mem_nil, or_false] at hv
        rcases hv with rfl | rfl | rfl | rfl | rfl | rfl | rfl | rfl
        · exact .non
        · exact .int _
        · exact .str _
        · exact .int _
        · exact .tup (sqT_of ((s5.trans (s6.trans (s7.trans s8))) _ _ e4))
        · exact .tup (Same.sqT (s6.trans (s7.trans s8)) ha5)
        · exact .lst ((s7.trans s8) _ _ e6)
        · exact .dK (s8 _ _ e7)
      walk_at "rd"
      refine ⟨⟨_, sqL_of e8⟩, ?_⟩
      refine go_lc (walk_list (xs := [V.non, .int 0, .str (S []), .int n, .ref t4, .ref a5, .ref l6, .ref p7])) (fun p i Hy => Hy p = some (.lst []) ∧ Same H8 Hy) (fun p np => ⟨upd_same, same_upd np⟩) (fun p i Hy hi q => sqL_of (q.2 _ _ e8)) (fun p np i v Hy Hz hi q y => ?_) (fun lp H9 nlp q => ?_)
      · obtain ⟨ep, sy⟩ := q
        obtain ⟨rfl, hv⟩ := y
        have da := (das v (List.mem_of_getElem? hv)).same sy
        have Dy := D8.same sy
        walk_at "rd"
        refine ⟨rfl, ?_⟩
        walk_at "rd"
        refine i_eqMa Dy ok da fun Ha sa' => ?_
        walk_at "rd"
        refine i_eqMb (Dy.same sa') ok (da.same sa') fun Hb sb' => ?_
        walk_at "rd"
        refine i_neMa ((Dy.same sa').same sb') ok ((da.same sa').same sb') fun Hc sc' => ?_
        walk_at "rd"
        have s' := sa'.trans (sb'.trans sc')
        exact ⟨s' _ _ ep, sy.trans s'⟩
      obtain ⟨ep, s9⟩ := q
      walk_at "rd"
      refine newL0 (Nat.le_of_ble_eq_true rfl) fun q1 H10 nq1 s10 eq1 => ?_
      walk_at "rd"
      refine i_eqZ (.lst (s10 _ _ ep) .nil) (.lst eq1 .nil) sd_nil sd_nil (by simp [PyData.hasDict, PyData.hasDictAll]) (by simp [PyData.hasDict, PyData.hasDictAll]) ?_
      rw [show PyData.eqv (.list []) (.list []) = true by simp [PyData.eqv, PyData.eqvAll]]
      have sf := s28.trans (s9.trans s10)
      exact k _ ((Bx.same sf).mono (by omega)) (sx.trans (SB.of sf))
end
end Sw
namespace Sw
open PySem PySem.Spec PyProof.Rows L2
local macro_rules | `(tactic| walk_at "hp") => `(tactic| first
  | (with_reducible assumption) | (with_reducible exact upd_same)
  | ((with_reducible refine' upd_old ?q1 ?q2); (case q1 => (with_reducible assumption)); (case q2 => walk_at "hp"))
  | ((with_reducible refine' Same.at ?q1 ?q2); (case q1 => (with_reducible assumption)); (case q2 => walk_at "hp"))
  | ((with_reducible refine' upd_skip ?q1 ?q2); (case q1 => walk_at "ne"); (case q2 => walk_at "hp"))
  | fail)
local macro_rules | `(tactic| walk_at "ne") => `(tactic| first
  | (with_reducible assumption) | (with_reducible exact Ne.symm (by assumption))
  | ((with_reducible refine' ne_of_none ?q1 ?q2); (case q2 => (with_reducible assumption)); (case q1 => walk_at "hp"))
  | fail)
local macro_rules | `(tactic| walk_at "ci") => `(tactic| first | assumption | (show (0 : Int) < _; first | decide | (with_reducible omega)) | exact ⟨by decide, by decide⟩ | exact .inl ⟨by decide, by decide⟩ | exact .inr ⟨by decide, by decide⟩)
local macro_rules | `(tactic| walk_at "ln") => `(tactic| first | (with_reducible assumption) | (with_reducible omega) | (simp only [List.length_append, List.length_take, List.length_drop, List.length_reverse, List.length_cons, List.length_nil]; with_reducible omega))
local macro_rules | `(tactic| walk_at "rd1") => `(tactic| first
  | (with_reducible refine i_seq ?_) | (with_reducible refine i_asg ?_) | (with_reducible refine i_ret ?_) | (with_reducible refine i_name ?_) | ((with_reducible refine' i_var ?q1 ?_); (case q1 => exact rfl)) | (with_reducible refine i_c ?_) | (with_reducible refine i_op ?_) | (with_reducible refine i_un ?_)
  | (with_reducible refine i_rI0 ?_) | (with_reducible refine i_cb ?_) | (with_reducible refine i_cons ?_) | (with_reducible refine i_nil ?_) | (with_reducible refine i_call ?_) | (with_reducible refine i_if ?_) | (with_reducible refine i_ifE ?_) | (with_reducible refine i_test ?_) | (with_reducible refine i_bl ?_)
  | (with_reducible refine i_and ?_) | (with_reducible refine i_or ?_) | (with_reducible refine i_not ?_) | (with_reducible refine i_lstM ?_) | (with_reducible refine i_lstLM ?_) | (with_reducible refine i_tupM ?_) | (with_reducible refine i_next ?_) | (with_reducible refine i_drop ?_) | (with_reducible refine i_sub ?_)
  | (with_reducible refine i_bm ?_) | (with_reducible refine i_sl ?_) | (with_reducible refine i_part ?_) | (with_reducible refine i_nopart ?_) | (with_reducible refine i_exI ?_) | (with_reducible refine i_chain ?_) | ((with_reducible refine' i_aug ?q1 ?_); (case q1 => exact rfl)) | (with_reducible refine i_ip ?_)
  | (with_reducible refine i_par ?_) | (with_reducible refine i_pair ?_) | (with_reducible refine i_andV ?_) | (with_reducible refine i_orV ?_) | (with_reducible refine i_notV ?_) | (with_reducible refine i_m1 ?_) | (with_reducible refine i_str ?_)
  | (with_reducible refine iteF ?_) | (with_reducible refine iteT ?_) | (with_reducible refine iteNT ?_) | (with_reducible refine iteNF ?_) | (with_reducible refine i_tyS ?_) | (with_reducible refine i_tB ?_) | (with_reducible refine i_retN ?_) | (with_reducible refine i_par3 ?_) | (with_reducible refine i_trip ?_) | (with_reducible refine i_gCons ?_) | (with_reducible refine i_gNil ?_) | (with_reducible refine i_lstRg ?_) | (with_reducible refine i_rg1 ?_)
  | (with_reducible refine i_lc ?_) | (with_reducible refine i_for ?_) | (with_reducible refine i_iList ?_) | (with_reducible refine i_iTup ?_) | (with_reducible refine i_iStr ?_) | (with_reducible refine i_iRng1 ?_) | (with_reducible refine i_iEnS ?_)
  | ((with_reducible refine' i_ixTH ?q1 ?q2 ?_); (case q1 => walk_at "hp"); (case q2 => exact rfl))
  | ((with_reducible refine' i_ixLH ?q1 ?q2 ?_); (case q1 => walk_at "hp"); (case q2 => exact rfl))
  | ((with_reducible refine i_addS ?q1 ?_); (case q1 => walk_at "ln")) | ((with_reducible refine i_lenSS ?q1 ?_); (case q1 => walk_at "ln")) | ((with_reducible refine i_slFrom ?q1 ?q2 ?_); (case q1 => walk_at "ln"); (case q2 => walk_at "ln")) | ((with_reducible refine i_slTo ?q1 ?q2 ?_); (case q1 => walk_at "ln"); (case q2 => walk_at "ln"))
  | ((with_reducible refine' i_tyL ?q1 ?_); (case q1 => walk_at "hp"))
  | ((with_reducible refine' i_gTupH ?q1 ?q2 ?_); (case q1 => walk_at "hp"); (case q2 => exact rfl))
  | (with_reducible refine i_dnewM ?_) | (with_reducible refine i_init ?_) | (with_reducible refine i_fst ?_) | (with_reducible refine i_mk ?_) | (with_reducible refine i_raise ?_) | (with_reducible refine i_callS ?_) | (with_reducible refine i_kwS ?_)
  | (with_reducible refine i_revT ?_) | (with_reducible refine i_kw ?_) | ((with_reducible refine' ⟨_, _, rfl, sqT_of ?q1, ?_⟩); (case q1 => walk_at "hp"))
  | (with_reducible refine i_revS ?_) | ((with_reducible refine i_revSS ?q1 ?_); (case q1 => walk_at "ln"))
  | (with_reducible refine i_startS ?_) | (with_reducible refine i_inSg ?_) | (with_reducible refine i_absN ?_) | (with_reducible refine i_min2 ?_) | (with_reducible refine i_max2 ?_) | (with_reducible refine i_min3 ?_) | (with_reducible refine i_intN ?_) | (with_reducible refine i_intNB ?_)
  | ((with_reducible refine' i_lenL ?q1 ?_); (case q1 => walk_at "hp")) | ((with_reducible refine' i_lenT ?q1 ?_); (case q1 => walk_at "hp"))
  | (with_reducible refine i_eqI ?_) | (with_reducible refine i_neI ?_) | (with_reducible refine i_eqS ?_) | (with_reducible refine i_neS ?_) | (with_reducible refine i_isNoI ?_) | (with_reducible refine i_isNoN ?_) | (with_reducible refine i_isNoR ?_)
  | ((with_reducible refine i_pow ?q1 ?q2 ?q3 ?_); (case q1 => decide); (case q2 => decide); (case q3 => (with_reducible omega)))
  | ((with_reducible refine i_rI ?q1 ?_); (case q1 => walk_at "ci"))
  | (with_reducible refine Or.inl ⟨_, rfl, ?_⟩) | (with_reducible refine Or.inr ⟨_, rfl, ?_⟩) | (with_reducible refine ⟨_, rfl, ?_⟩) | (with_reducible refine ⟨_, _, rfl, ?_⟩) | (with_reducible refine ⟨_, _, rfl, rfl, ?_⟩)
  | ((with_reducible refine' ⟨_, _, rfl, Or.inl (sqL_of ?q1), ?_⟩); (case q1 => walk_at "hp")) | ((with_reducible refine' ⟨_, _, rfl, Or.inr (sqT_of ?q1), ?_⟩); (case q1 => walk_at "hp")) | (with_reducible refine i_dget ?_) | (with_reducible refine i_disp1T ?_) | (with_reducible refine i_dcT ?_) | (with_reducible refine i_dnewT ?_) | (with_reducible refine i_fld ?_) | (with_reducible refine i_sFld ?_) | (with_reducible refine i_make ?_) | (with_reducible refine i_meth ?_) | (with_reducible refine i_star ?_) | (with_reducible refine i_isNoS ?_) | (with_reducible refine i_lc2 ?_) | fail)
local macro_rules | `(tactic| walk_at "rd") => `(tactic| repeat' walk_at "rd1")

/-! ### spoilt steps -/
/-- odd entries -/
def Od (K : PySem.W.Frag) (G H : Hp) (m : Int) (l : List V) : Prop := ∀ v ∈ l, ∃ e, Dz K (Fr G H) v e ∧ entB m e = false ∧ Sd 3 400 e
theorem Od.kept {K : PySem.W.Frag} {G H H' : Hp} {m : Int} {l : List V} (h : Od K G H m l) (k : Kept G H H') : Od K G H' m l := fun v hv => by
  obtain ⟨e, a, b⟩ := h v hv; exact ⟨e, a.same (Fr.kept k), b⟩
theorem Od.same {K : PySem.W.Frag} {G H H' : Hp} {m : Int} {l : List V} (h : Od K G H m l) (s : Same H H') : Od K G H' m l := h.kept (Kept.of s)
theorem Od.cons {K : PySem.W.Frag} {G H : Hp} {m : Int} {l : List V} {v : V} {e : PyData} (h : Od K G H m l) (d : Dz K (Fr G H) v e) (he : entB m e = false) (s : Sd 3 400 e) : Od K G H m (v :: l) := fun u hu => by
  rcases List.mem_cons.mp hu with rfl | hu
  · exact ⟨e, d, he, s⟩
  · exact h u hu
theorem sdS {l : List Nat} (h : ∀ c ∈ l, c ≤ 1000) (hl : l.length ≤ 10) : Sd 0 10 (.str (S l)) := (sd_str h).mono (Nat.le_refl _) hl
theorem sdo_t {w : Nat} {ds : List PyData} (h : SdAll 1 w ds) (hw : w ≤ 400) : Sd 3 400 (.tuple ds) := (sd_tup' h).mono (by omega) hw
theorem sdo_l {w : Nat} {ds : List PyData} (h : SdAll 1 w ds) (hw : w ≤ 400) : Sd 3 400 (.list ds) := (sd_lst' h).mono (by omega) hw
section
variable {K : PySem.W.Frag} {G H : Hp} {m : Int} {l : List V} {xs : List V} {ds : List PyData} {Q : VK}
theorem newTo (O : Od K G H m l) (hd : DzAll K (Fr G H) xs ds) (he : entB m (.tuple ds) = false) (sd : Sd 3 400 (.tuple ds)) (k : ∀ p H', Same H H' → Od K G H' m (.ref p :: l) → Q (.ref p) H') (lx : xs.length ≤ 100 := by simp) : NewT xs H Q :=
  ⟨Nat.le_of_lt (sm_line (by omega)), fun p n => k p _ (same_upd n) ((O.same (same_upd n)).cons (Dz.newT hd n) he sd)⟩
theorem newTi (O : Od K G H m l) (hd : DzAll K (Fr G H) xs ds) (k : ∀ p H', Same H H' → Dz K (Fr G H') (.ref p) (.tuple ds) → Od K G H' m l → Q (.ref p) H') (lx : xs.length ≤ 100 := by simp) : NewT xs H Q :=
  ⟨Nat.le_of_lt (sm_line (by omega)), fun p n => k p _ (same_upd n) (Dz.newT hd n) (O.same (same_upd n))⟩
theorem newLo (O : Od K G H m l) (hd : DzAll K (Fr G H) xs ds) (he : entB m (.list ds) = false) (sd : Sd 3 400 (.list ds)) (k : ∀ p H', Same H H' → Od K G H' m (.ref p :: l) → Q (.ref p) H') (dom : ∀ a, H a = none → G a = none) (lx : xs.length ≤ 100 := by simp) : NewL xs H Q :=
  ⟨Nat.le_of_lt (sm_line (by omega)), fun p n => k p _ (same_upd n) ((O.same (same_upd n)).cons (Dz.newL hd n (dom p n)) he sd)⟩
end
theorem all_no {α : Type} {f : α → Bool} {l : List α} {x : α} (h : x ∈ l) (e : f x = false) : l.all f = false := by
  rcases q : l.all f with _ | _
  · rfl
  · rw [List.all_eq_true] at q; rw [q x h] at e; cases e
theorem sd_set {n w u : Nat} {ds : List PyData} (h : ∀ d ∈ ds, Sd n w d) {i : Nat} {d : PyData} (s : Sd n u d) (hi : i < ds.length) : Sd (n + 1) (ds.length * (w + 1) + u + 1) (.list (ds.set i d)) := by
  have a := sd_all (ds := ds.take i) fun d hd => h d (List.mem_of_mem_take hd)
  have c := sd_all (ds := ds.drop (i + 1)) fun d hd => h d (List.mem_of_mem_drop hd)
  rw [List.set_eq_take_append_cons_drop, if_pos hi]
  refine (sd_lst' (a.app (.cons s c))).mono (Nat.le_refl _) ?_
  rw [List.length_take, List.length_drop, Nat.min_eq_left (by omega)]
  have e : i * (w + 1) + (ds.length - (i + 1)) * (w + 1) ≤ ds.length * (w + 1) := by rw [← Nat.add_mul]; exact Nat.mul_le_mul_right _ (by omega)
  omega
theorem mem_set {α : Type} {l : List α} {i : Nat} {x : α} (h : i < l.length) : x ∈ l.set i x := List.mem_of_getElem? (List.getElem?_set_self h)
theorem stp_no1 {n : Int} {l : List PyData} {i : Nat} {d : PyData} (h : i < l.length) (e : rowB n d = false) : stpB n (.list (l.set i d)) = false := by
  simp only [stpB, seqL]
  rw [all_no (mem_set h) e]; simp
theorem stp_no2 {n : Int} {l : List PyData} {i : Nat} {d : PyData} (h : i < l.length) (e : rowEB l.length d = false) : stpB n (.list (l.set i d)) = false := by
  simp only [stpB, seqL]
  rw [all_no (f := rowEB _) (mem_set h) (by rw [List.length_set]; exact e)]; simp
section
variable {K : PySem.W.Frag} {H0 G H : Hp} {rp : Addr} {qs : List Addr} {rss : List (List PyData)} {b : Addr}
/-- all in Fr H0, where the rows are new -/
theorem RW.fdz (h : RW K H rp qs rss) (nq : ∀ q ∈ qs, H0 q = none) {i : Nat} {q : Addr} {rs : List PyData} (hq : qs[i]? = some q) (hr : rss[i]? = some rs) : Dz K (Fr H0 H) (.ref q) (.list rs) := by
  obtain ⟨vs, e, d⟩ := h.at_ _ _ _ hq hr
  exact .lst (fr_at e (.inr (nq q (List.mem_of_getElem? hq)))) (d.fr (h.fl rs (List.mem_of_getElem? hr)))
theorem RW.fall (h : RW K H rp qs rss) (nr : H0 rp = none) (nq : ∀ q ∈ qs, H0 q = none) : Dz K (Fr H0 H) (.ref rp) (.list (rss.map .list)) := by
  refine .lst (fr_at h.e (.inr nr)) (DzAll.of_get (by rw [List.length_map, List.length_map]; exact h.ln) fun i v d hv hd => ?_)
  rw [List.getElem?_map] at hv hd
  obtain ⟨q, hq, rfl⟩ := Option.map_eq_some_iff.mp hv
  obtain ⟨rs, hr, rfl⟩ := Option.map_eq_some_iff.mp hd
  exact h.fdz nq hq hr
/-- one row is another thing -/
theorem RW.setRow (h : RW K H rp qs rss) (nr : H0 rp = none) (nq : ∀ q ∈ qs, H0 q = none) {i : Nat} {v : V} {d : PyData} (D : Dz K (Fr H0 (upd H rp (.lst ((qs.map V.ref).set i v)))) v d) : Dz K (Fr H0 (upd H rp (.lst ((qs.map V.ref).set i v)))) (.ref rp) (.list ((rss.map .list).set i d)) := by
  refine .lst (fr_at upd_same (.inr nr)) (DzAll.of_get (by rw [List.length_set, List.length_set, List.length_map, List.length_map]; exact h.ln) fun j u e hu he => ?_)
  by_cases c : j = i
  · subst c
    have lt := lt_of_get hu
    rw [List.length_set] at lt
    rw [List.getElem?_set_self lt] at hu
    have lt2 := lt_of_get he
    rw [List.length_set] at lt2
    rw [List.getElem?_set_self lt2] at he
    cases hu; cases he
    exact D
  · rw [List.getElem?_set_ne (Ne.symm c), List.getElem?_map] at hu he
    obtain ⟨q, hq, rfl⟩ := Option.map_eq_some_iff.mp hu
    obtain ⟨rs, hr, rfl⟩ := Option.map_eq_some_iff.mp he
    obtain ⟨vs, e, dd⟩ := h.at_ _ _ _ hq hr
    have mq := List.mem_of_getElem? hq
    have nqr : q ≠ rp := fun c => h.ni (by rw [← c]; exact mq)
    exact .lst (fr_at (by rw [upd_ne nqr]; exact e) (.inr (nq q mq))) ((dd.nl (NL.lst h.e) (h.fl rs (List.mem_of_getElem? hr))).fr (h.fl rs (List.mem_of_getElem? hr)))
/-- one entry is another thing -/
theorem RW.setEnt (h : RW K H rp qs rss) (nr : H0 rp = none) (nq : ∀ q ∈ qs, H0 q = none) {i j : Nat} {q : Addr} {vs : List V} {rs : List PyData} {v : V} {d : PyData} (hq : qs[i]? = some q) (hr : rss[i]? = some rs) (eq : H q = some (.lst vs)) (hd : DzAll K H vs rs)
    (D : Dz K (Fr H0 (upd H q (.lst (vs.set j v)))) v d) : Dz K (Fr H0 (upd H q (.lst (vs.set j v)))) (.ref rp) (.list ((rss.map .list).set i (.list (rs.set j d)))) := by
  have mq := List.mem_of_getElem? hq
  have nrq : rp ≠ q := fun c => h.ni (by rw [c]; exact mq)
  have nl := NL.lst (ys := vs.set j v) eq
  refine .lst (fr_at (by rw [upd_ne nrq]; exact h.e) (.inr nr)) (DzAll.of_get (by rw [List.length_set, List.length_map, List.length_map]; exact h.ln) fun k u e hu he => ?_)
  rw [List.getElem?_map] at hu
  obtain ⟨p, hp, rfl⟩ := Option.map_eq_some_iff.mp hu
  by_cases c : k = i
  · subst c
    rw [hq] at hp; cases hp
    have lt2 := lt_of_get he
    rw [List.length_set] at lt2
    rw [List.getElem?_set_self lt2] at he
    cases he
    have fl := h.fl rs (List.mem_of_getElem? hr)
    exact .lst (fr_at upd_same (.inr (nq q mq))) (((hd.nl nl fl).fr fl).set j D)
  · rw [List.getElem?_set_ne (Ne.symm c), List.getElem?_map] at he
    obtain ⟨r2, hr2, rfl⟩ := Option.map_eq_some_iff.mp he
    obtain ⟨us, e, dd⟩ := h.at_ _ _ _ hp hr2
    have fl := h.fl r2 (List.mem_of_getElem? hr2)
    have npq : p ≠ q := fun q' => c (nodup_get h.nd hp (by rw [q']; exact hq))
    exact .lst (fr_at (by rw [upd_ne npq]; exact e) (.inr (nq p (List.mem_of_getElem? hp)))) ((dd.nl nl fl).fr fl)
end
section
variable {K : PySem.W.Frag} {G H : Hp} {m : Int} {l : List V} {xs ys : List V} {Q : VK}
theorem newOdd (O : Od K G H m l) (k : ∀ p H', Same H H' → H' p = some (.lst xs) → Od K G H' m l → Q (.ref p) H') (lx : xs.length ≤ 100 := by simp) : NewL xs H Q :=
  ⟨Nat.le_of_lt (sm_line (by omega)), fun p n => k p _ (same_upd n) upd_same (O.same (same_upd n))⟩
theorem catOdd {a c : Addr} (O : Od K G H m l) (h : H a = some (.lst xs)) (h2 : H c = some (.lst ys)) (k : ∀ p H', Same H H' → H' p = some (.lst (xs ++ ys)) → Od K G H' m l → Q (.ref p) H') (lx : xs.length + ys.length ≤ 1000 := by simp) : rCat (.ref a) (.ref c) H Q :=
  ⟨a, c, xs, ys, rfl, rfl, h, h2, Nat.le_trans lx (Nat.le_of_ble_eq_true rfl), fun p np => k p _ (same_upd np) upd_same (O.same (same_upd np))⟩
theorem i_catN {a c : Addr} (h : H a = some (.lst xs)) (h2 : H c = some (.lst ys)) (l : xs.length + ys.length ≤ 1000) (k : ∀ t H', H t = none → Same H H' → H' t = some (.lst (xs ++ ys)) → Q (.ref t) H') : rCat (.ref a) (.ref c) H Q :=
  ⟨a, c, xs, ys, rfl, rfl, h, h2, Nat.le_trans l (Nat.le_of_ble_eq_true rfl), fun p np => k p _ np (same_upd np) upd_same⟩
theorem i_slLT {a : Addr} {n : Nat} (h : H a = some (.lst xs)) (k : ∀ t H', H t = none → Same H H' → H' t = some (.lst (xs.take n)) → Q (.ref t) H') : rSlL K (.ref a) none (some (n : Int)) H Q := by
  refine ⟨a, xs, rfl, sqL_of h, fun p np => ?_⟩
  have : cutV xs none (some (n : Int)) = xs.take n := by
    unfold cutV
    rw [HT.sIx_nat, HT.sIx_none, List.drop_zero, Nat.sub_zero]
    by_cases hk : n ≤ xs.length
    · rw [Nat.min_eq_left hk]
    · rw [Nat.min_eq_right (by omega), List.take_length, List.take_of_length_le (by omega)]
  rw [this]
  exact k p _ np (same_upd np) upd_same
theorem i_slLF {a : Addr} {n : Int} {n' : Nat} (e : n = n') (h : H a = some (.lst xs)) (k : ∀ t H', H t = none → Same H H' → H' t = some (.lst (xs.drop n')) → Q (.ref t) H') : rSlL K (.ref a) (some n) none H Q := by
  subst e
  refine ⟨a, xs, rfl, sqL_of h, fun p np => ?_⟩
  have : cutV xs (some (n' : Int)) none = xs.drop n' := by
    unfold cutV
    rw [HT.sIx_nat, HT.sIx_none]
    by_cases hk : n' ≤ xs.length
    · rw [Nat.min_eq_left hk, List.take_of_length_le (by rw [List.length_drop]; omega)]
    · rw [Nat.min_eq_right (by omega), List.drop_of_length_le (by omega), List.drop_of_length_le (by omega), List.take_nil]
  rw [this]
  exact k p _ np (same_upd np) upd_same
end
/-- _law_spoilt_steps(box, signs, steps) -/
def spSpSteps (K : PySem.W.Frag) : Sp := fun vs H Q _ => ∃ (b : Addr) (d : Int) (v : V) (n : Int) (sd ed : PyData) (ds es : List PyData), vs = [.ref b, .int n, v] ∧ BoxAt H b d ∧ Dz K (L2.del H b) v sd ∧ PtD n sd ed ds es ∧ ds.length ≤ 12 ∧ d + 20 ≤ 1000000 ∧
  ∀ v' d' H', Dz K (Fr H H') v' d' → stpB n d' = false → Sd 6 20000 d' → BoxAt H' b (d + 20) → SB b H H' → Q v' H'
theorem i_mulR {n : Nat} {x : Nat} {H : Hp} {Q : VK} {i : Int} (e : i = n) (hn : n ≤ 1000) (h : Q (.str (S (List.replicate n x))) H) : rMulS (.str (S [x])) (.int i) H Q := by
  subst e
  have fl : (List.replicate n [x]).flatten = List.replicate n x := by
    clear h hn
    induction n with
    | zero => rfl
    | succ n ih => rw [List.replicate_succ, List.replicate_succ, List.flatten_cons, ih]; rfl
  exact i_mulS (n := n) (by simp) (by omega) (by rw [fl]; exact h)
section
variable {P : Program} {w : World} {K : PySem.W.Frag} {mg : Str → Option Value} {base : Heap} {f : Addr} {fd : FuncData}
theorem ok_spst (F : Fun K "_law_spoilt_steps" "_law_spoilt_steps" s__law_spoilt_steps f fd) (z : Z mg) (c__law_take : Cal P w K mg base "_law_take" ["box", "many"] 1 spTake) : FnOk P w K mg base CX0 2 f fd ["box", "signs", "steps"] (spSpSteps K) := by
  refine F.ok sc__law_spoilt_steps (fun vs H Q E h => ?_) (fun cdv A outer s H vs Q E hr h => ?_)
  · obtain ⟨b, d, v, n, sd, ed, ds, es, rfl, _⟩ := h; rfl
  · obtain ⟨b, d, v, n, sd, ed, ds, es, rfl, B, hsv, pd, l12, hd, k⟩ := h
    obtain ⟨_, _, _, _, hb0, _⟩ := B.ex
    have n1 := pd.n1
    have n5 := pd.n5
    obtain ⟨rss, e1, hr2⟩ := pd.rss
    have lr : ds.length = rss.length := by rw [e1, List.length_map]
    have l1 := pd.l1
    have hsv' := hsv
    rw [pd.eS, e1] at hsv'
    obtain ⟨sa, xs, rfl, hsa, hxs⟩ := hsv'.lstI
    have lx := hxs.len
    rw [List.length_map] at lx
    have nsb : sa ≠ b := fun c => by rw [c, L2.del_same] at hsa; cases hsa
    have hsa := del_sub _ _ hsa
    have hxs := hxs.same del_sub
    have flr := rss_flat hr2
    refine ⟨_, (pss_cons (ps_par3 (i := 3) (j := 4) (l := 5) rfl sc__law_spoilt_steps.nd rfl rfl rfl (by decide) (by decide) (by decide) rfl rfl rfl (pa_cons (pe_lc (own := [("row", 6)]) (g := gName 6) (tt := tYes) rfl sc__law_spoilt_steps.nd (pi_list (pv 2)) (blkOk_by (own := [("row", 6)]) (N := n__law_spoilt_steps) (sc := defScope s__law_spoilt_steps) (by decide +kernel)) (fun _ _ _ _ _ => (pg_name (i := 6) sc__law_spoilt_steps.nd rfl (.inl rfl))) (fun _ _ _ _ _ => pts_nil) (fun _ _ _ _ _ => (pe_callTy (call_list_ofB (K := K) rfl) (by rfl) z.list (by decide +kernel) (pa_cons (pv 6) pa_nil)))) (pa_cons (pe_callB call_lenQ (by rfl) z.len PySem.boot_len (pa_cons (pv 2) pa_nil)) (pa_cons (pe_cal c__law_take hr (pa_cons (pv 0) (pa_cons pe_int pa_nil))) pa_nil))) (by rfl))
      (pss_cons (ps_par (i := 7) (j := 8) rfl sc__law_spoilt_steps.nd rfl rfl (by decide) rfl rfl (pa_cons (pe_cal c__law_take hr (pa_cons (pv 0) (pa_cons (pv 4) pa_nil))) (pa_cons (pe_cal c__law_take hr (pa_cons (pv 0) (pa_cons (pv 1) pa_nil))) pa_nil)) (by rfl))
      (pss_cons (ps_set (i := 9) sc__law_spoilt_steps.nd rfl (.inl rfl) (pe_op op_addS (pe_ix ix_list (pe_lst (pa_cons (pe_strS (l := [32]) (by decide +kernel)) (pa_cons (pe_strS (l := [65]) (by decide +kernel)) (pa_cons (pe_strS (l := [96]) (by decide +kernel)) (pa_cons (pe_strS (l := [123]) (by decide +kernel)) (pa_cons (pe_strS (l := [97, 32, 98]) (by decide +kernel)) (pa_cons (pe_strS (l := [49]) (by decide +kernel)) (pa_cons (pe_strS (l := [45]) (by decide +kernel)) (pa_cons (pe_strS (l := [10]) (by decide +kernel)) pa_nil))))))))) (pe_cal c__law_take hr (pa_cons (pv 0) (pa_cons pe_int pa_nil))) (fun _ _ => rfl)) (pe_op op_mulS (pe_strS (l := [97]) (by decide +kernel)) (pe_cal c__law_take hr (pa_cons (pv 0) (pa_cons pe_int pa_nil))))))
      (pss_cons (ps_set (i := 10) sc__law_spoilt_steps.nd rfl (.inl rfl) (pe_lst (pa_cons (pe_tup (pa_cons (pv 4) (pa_cons (pe_strS (l := []) (by decide +kernel)) pa_nil))) (pa_cons (pe_tup (pa_cons (pe_un un_neg pe_int) (pa_cons (pe_strS (l := [97]) (by decide +kernel)) pa_nil))) (pa_cons (pe_tup (pa_cons pe_bl (pa_cons (pe_strS (l := [97]) (by decide +kernel)) pa_nil))) (pa_cons (pe_tup (pa_cons pe_int (pa_cons (pe_strS (l := [97, 98, 99, 100]) (by decide +kernel)) pa_nil))) (pa_cons (pe_tup (pa_cons pe_int (pa_cons (pv 9) pa_nil))) (pa_cons (pe_tup (pa_cons pe_int (pa_cons pe_non pa_nil))) (pa_cons (pe_tup (pa_cons pe_int pa_nil)) (pa_cons (pe_tup (pa_cons pe_int (pa_cons (pe_strS (l := [97]) (by decide +kernel)) (pa_cons (pe_strS (l := []) (by decide +kernel)) pa_nil)))) (pa_cons (pe_lst (pa_cons pe_int (pa_cons (pe_strS (l := [97]) (by decide +kernel)) pa_nil))) pa_nil)))))))))))
      (pss_cons (ps_set (i := 10) sc__law_spoilt_steps.nd rfl (.inl rfl) (pe_op op_cat (pv 10) (pe_lst (pa_cons (pe_strS (l := [48, 58, 97]) (by decide +kernel)) (pa_cons (pe_tup (pa_cons pe_non (pa_cons (pe_strS (l := [97]) (by decide +kernel)) pa_nil))) (pa_cons (pe_tup (pa_cons (pe_strS (l := [48]) (by decide +kernel)) (pa_cons (pe_strS (l := [97]) (by decide +kernel)) pa_nil))) (pa_cons (pe_tup (pa_cons pe_int (pa_cons (pe_tup (pa_cons (pe_strS (l := [97]) (by decide +kernel)) pa_nil)) pa_nil))) (pa_cons (pe_tup (pa_cons (pe_tup (pa_cons pe_int pa_nil)) (pa_cons (pe_strS (l := []) (by decide +kernel)) pa_nil))) (pa_cons (pe_tup pa_nil) (pa_cons pe_bl (pa_cons (pe_strS (l := []) (by decide +kernel)) (pa_cons (pe_tup (pa_cons pe_int (pa_cons pe_int pa_nil))) (pa_cons (pe_tup (pa_cons (pe_op op_pow pe_int pe_int) (pa_cons (pe_strS (l := [97]) (by decide +kernel)) pa_nil))) pa_nil)))))))))))))
      (pss_cons (ps_set (i := 10) sc__law_spoilt_steps.nd rfl (.inl rfl) (pe_op op_cat (pv 10) (pe_lst (pa_cons pe_int (pa_cons (pe_tup (pa_cons pe_int (pa_cons (pe_op op_addS (pe_strS (l := [97]) (by decide +kernel)) (pv 9)) pa_nil))) (pa_cons (pe_tup (pa_cons pe_int (pa_cons (pe_op op_addS (pv 9) (pe_strS (l := [98]) (by decide +kernel))) pa_nil))) (pa_cons (pe_tup (pa_cons (pe_op op_add (pv 4) pe_int) (pa_cons (pe_strS (l := []) (by decide +kernel)) pa_nil))) (pa_cons (pe_tup (pa_cons (pe_un un_neg (pv 4)) (pa_cons (pe_strS (l := [97]) (by decide +kernel)) pa_nil))) pa_nil))))))))
      (pss_cons (ps_if (pt_cmpR op_eq (pv 5) pe_int (nomark _))
        (pss_one (ps_asg (pe_op op_cat (pe_ix ix_list (pv 3) (pv 7) (fun _ _ => rfl)) (pe_lst (pa_cons pe_non pa_nil))) (pg_sub (pv 3) (pv 7) set_list)))
        (pss_one (ps_if (pt_cmpR op_eq (pv 5) pe_int (nomark _))
          (pss_one (ps_asg (pe_op op_cat (pe_slice sl_list (pe_ix ix_list (pv 3) (pv 7) (fun _ _ => rfl)) po_none (po_some (pv 8))) (pe_slice sl_list (pe_ix ix_list (pv 3) (pv 7) (fun _ _ => rfl)) (po_some (pe_op op_add (pv 8) pe_int)) po_none)) (pg_sub (pv 3) (pv 7) set_list)))
          (pss_one (ps_if (pt_cmpR op_eq (pv 5) pe_int (nomark _))
            (pss_one (ps_asg (pe_ix ix_list (pe_lst (pa_cons pe_non (pa_cons (pe_op op_mulS (pe_strS (l := [97]) (by decide +kernel)) (pv 1)) (pa_cons (pv 1) (pa_cons pe_dnewK pa_nil))))) (pe_cal c__law_take hr (pa_cons (pv 0) (pa_cons pe_int pa_nil))) (fun _ _ => rfl)) (pg_sub (pv 3) (pv 7) set_list)))
            (pss_one (ps_if (pt_cmpR op_eq (pv 5) pe_int (nomark _))
              (pss_one (ps_ret (pe_ix ix_list (pe_lst (pa_cons (pe_lst pa_nil) (pa_cons pe_non (pa_cons (pe_op op_mulS (pe_strS (l := [97]) (by decide +kernel)) (pv 4)) (pa_cons pe_dnewK (pa_cons pe_int (pa_cons (pe_tup pa_nil) pa_nil))))))) (pe_cal c__law_take hr (pa_cons (pv 0) (pa_cons pe_int pa_nil))) (fun _ _ => rfl))))
              (pss_one (ps_asg (pe_ix ix_list (pv 10) (pe_cal c__law_take hr (pa_cons (pv 0) (pa_cons (pe_callB call_lenQ (by rfl) z.len PySem.boot_len (pa_cons (pv 10) pa_nil)) pa_nil))) (fun _ _ => rfl)) (pg_sub (pe_ix ix_list (pv 3) (pv 7) (fun _ _ => rfl)) (pv 8) set_list))))))))))
      (pss_one (ps_ret (pv 3)))))))))), ?_⟩
    walk_at "rd"
    refine ⟨⟨_, sqL_of hsa⟩, ?_⟩
    refine go_copy (K := K) (walk_list (xs := xs)) hsa hxs (by omega) flr (fun v rs Hx R sx hv hR => ?_) mono_name (fun rp qs H1 nrp nqs rw1 s1 => ?_)
    · obtain ⟨q, zs, rfl, hq, hzs⟩ := hv.lstI
      walk_at "rd"
      refine ⟨rfl, ?_⟩
      walk_at "rd"
      exact fun t nt => hR t zs nt hzs
    have nbr : b ≠ rp := fun c => by rw [← c, hb0] at nrp; cases nrp
    have nbq : b ∉ qs := fun c => by have := nqs b c; rw [hb0] at this; cases this
    have hsa1 := s1 _ _ hsa
    obtain ⟨m, em⟩ : ∃ m : Nat, m = rss.length := ⟨_, rfl⟩
    have hb1 := s1 _ _ hb0
    walk_at "rd"
    rw [lx, ← em]
    refine ⟨b, 12, _, rfl, B.same s1, by omega, by omega, by omega, fun way H2 w0 w1 B2 s2 => ?_⟩
    walk_at "rd"
    refine ⟨b, m, _, rfl, B2, by omega, by omega, by omega, fun at_ H3 a0 a1 B3 s3 => ?_⟩
    obtain ⟨i, rfl⟩ : ∃ i : Nat, at_ = i := ⟨at_.toNat, by omega⟩
    walk_at "rd"
    refine ⟨b, n, _, rfl, B3, by omega, by omega, by omega, fun aa H4 b0 b1 B4 s4 => ?_⟩
    obtain ⟨j, rfl⟩ : ∃ j : Nat, aa = j := ⟨aa.toNat, by omega⟩
    walk_at "rd"
    refine newLn B4 (Nat.le_of_ble_eq_true rfl) fun wl0 H5 nwl nwlb B5 s5 e5 t5 => ?_
    have e5 := del_sub _ _ e5
    walk_at "rd"
    refine ⟨b, 8, _, rfl, B5, by omega, by omega, by omega, fun r H6 r0 r1 B6 s6 => ?_⟩
    obtain ⟨w1, ew1, zw1, lw1, cw1⟩ : ∃ w1 : List Nat, ([.str (S [32]), .str (S [65]), .str (S [96]), .str (S [123]), .str (S [97, 32, 98]), .str (S [49]), .str (S [45]), .str (S [10])] : List V)[r.toNat]? = some (.str (S w1)) ∧ azB w1 = false ∧ w1.length ≤ 3 ∧ ∀ c ∈ w1, c ≤ 1000 := by
      have hr : r = 0 ∨ r = 1 ∨ r = 2 ∨ r = 3 ∨ r = 4 ∨ r = 5 ∨ r = 6 ∨ r = 7 := by omega
      rcases hr with rfl | rfl | rfl | rfl | rfl | rfl | rfl | rfl
      all_goals exact ⟨_, rfl, rfl, by decide, by decide⟩
    refine i_ixLv (s6 _ _ nwlb e5) r0 ew1 ?_
    walk_at "rd"
    refine ⟨b, 3, _, rfl, B6, by omega, by omega, by omega, fun x H7 x0 x1 B7 s7 => ?_⟩
    obtain ⟨xn, rfl⟩ : ∃ xn : Nat, x = xn := ⟨x.toNat, by omega⟩
    walk_at "rd"
    refine i_mulR rfl (by omega) ?_
    walk_at "rd"
    obtain ⟨wd, ewd⟩ : ∃ wd, wd = w1 ++ List.replicate xn 97 := ⟨_, rfl⟩
    have wz : azS (S wd) = false := by
      unfold azS
      rw [show (S wd).cps.toList = wd by simp [S], ewd, azB_app, zw1, Bool.false_and]
    have wz1 : azS (S ([97] ++ wd)) = false := by
      unfold azS at wz ⊢
      rw [show (S wd).cps.toList = wd by simp [S]] at wz
      rw [show (S ([97] ++ wd)).cps.toList = [97] ++ wd by simp [S], azB_app, wz, Bool.and_false]
    have wz2 : azS (S (wd ++ [98])) = false := by
      unfold azS at wz ⊢
      rw [show (S wd).cps.toList = wd by simp [S]] at wz
      rw [show (S (wd ++ [98])).cps.toList = wd ++ [98] by simp [S], azB_app, wz, Bool.false_and]
    have wc : ∀ c ∈ wd, c ≤ 1000 := fun c hc => by
      rw [ewd] at hc
      rcases List.mem_append.mp hc with hc | hc
      · exact cw1 c hc
      · rw [List.eq_of_mem_replicate hc]; omega
    have wlen : wd.length ≤ 6 := by rw [ewd]; simp; omega
    have wl := wc
    have wl1 : ∀ c ∈ [97] ++ wd, c ≤ 1000 := fun c hc => by
      rcases List.mem_append.mp hc with hc | hc
      · rw [List.mem_singleton.mp hc]; omega
      · exact wc c hc
    have wl2 : ∀ c ∈ wd ++ [98], c ≤ 1000 := fun c hc => by
      rcases List.mem_append.mp hc with hc | hc
      · exact wc c hc
      · rw [List.mem_singleton.mp hc]; omega
    have wlen1 : ([97] ++ wd).length ≤ 7 := by simp; omega
    have wlen2 : (wd ++ [98]).length ≤ 7 := by simp; omega
    refine i_addS (by rw [List.length_replicate]; omega) ?_
    rw [← ewd]
    walk_at "rd"
    have s17 : SB b H1 H7 := s2.trans (s3.trans (s4.trans ((SB.of t5).trans (s6.trans s7))))
    have u1 := s1
    have u17 := s17
    have O : Od K H1 H7 m [] := nofun
    obtain ⟨_, _, _, _, hb7, _⟩ := B7.ex
    have dom7 : ∀ a, H7 a = none → H1 a = none := s17.dom hb7
    refine newTo (G := H1) O (.cons (.int _) (.cons (.str _) .nil)) (ds := [.int (m : Int), .str (S [])]) (by simp [entB, isX]) (sdo_t (SdAll.cons ((sd_int (by omega)).mono (Nat.zero_le 1) (Nat.le_refl _)) (SdAll.cons (((sdS (l := []) (by decide) (by decide))).mono (Nat.zero_le 1) (Nat.le_refl _)) SdAll.nil)) (by omega)) (fun t0 H100 s0 O => ?_)
    have SS := s0
    walk_at "rd"
    refine i_rU ?_
    walk_at "rd"
    refine newTo (G := H1) O (.cons (.int _) (.cons (.str _) .nil)) (ds := [.int (-1), .str (S [97])]) (by simp [entB, isX]) (sdo_t (SdAll.cons ((sd_int (by decide)).mono (Nat.zero_le 1) (Nat.le_refl _)) (SdAll.cons (((sdS (l := [97]) (by decide) (by decide))).mono (Nat.zero_le 1) (Nat.le_refl _)) SdAll.nil)) (by omega)) (fun t1 H101 s1 O => ?_)
    have SS := SS.trans s1
    walk_at "rd"
    refine newTo (G := H1) O (.cons (.bl _) (.cons (.str _) .nil)) (ds := [.bool false, .str (S [97])]) (by simp [entB, isX]) (sdo_t (SdAll.cons (((sd_bl _)).mono (Nat.zero_le 1) (Nat.le_refl _)) (SdAll.cons (((sdS (l := [97]) (by decide) (by decide))).mono (Nat.zero_le 1) (Nat.le_refl _)) SdAll.nil)) (by omega)) (fun t2 H102 s2 O => ?_)
    have SS := SS.trans s2
    walk_at "rd"
    refine newTo (G := H1) O (.cons (.int _) (.cons (.str _) .nil)) (ds := [.int 0, .str (S [97, 98, 99, 100])]) (by simp [entB, wdB, S_size]) (sdo_t (SdAll.cons ((sd_int (by decide)).mono (Nat.zero_le 1) (Nat.le_refl _)) (SdAll.cons (((sdS (l := [97, 98, 99, 100]) (by decide) (by decide))).mono (Nat.zero_le 1) (Nat.le_refl _)) SdAll.nil)) (by omega)) (fun t3 H103 s3 O => ?_)
    have SS := SS.trans s3
    walk_at "rd"
    refine newTo (G := H1) O (.cons (.int _) (.cons (.str _) .nil)) (ds := [.int 0, .str (S wd)]) (by simp [entB, wdB, wz]) (sdo_t (SdAll.cons ((sd_int (by decide)).mono (Nat.zero_le 1) (Nat.le_refl _)) (SdAll.cons (((sdS wl (by omega))).mono (Nat.zero_le 1) (Nat.le_refl _)) SdAll.nil)) (by omega)) (fun t4 H104 s4 O => ?_)
    have SS := SS.trans s4
    walk_at "rd"
    refine newTo (G := H1) O (.cons (.int _) (.cons .non .nil)) (ds := [.int 0, .none]) (by simp [entB, wdB]) (sdo_t (SdAll.cons ((sd_int (by decide)).mono (Nat.zero_le 1) (Nat.le_refl _)) (SdAll.cons ((sd_non).mono (Nat.zero_le 1) (Nat.le_refl _)) SdAll.nil)) (by omega)) (fun t5 H105 s5 O => ?_)
    have SS := SS.trans s5
    walk_at "rd"
    refine newTo (G := H1) O (.cons (.int _) .nil) (ds := [.int 0]) (rfl) (sdo_t (SdAll.cons ((sd_int (by decide)).mono (Nat.zero_le 1) (Nat.le_refl _)) SdAll.nil) (by omega)) (fun t6 H106 s6 O => ?_)
    have SS := SS.trans s6
    walk_at "rd"
    refine newTo (G := H1) O (.cons (.int _) (.cons (.str _) (.cons (.str _) .nil))) (ds := [.int 0, .str (S [97]), .str (S [])]) (rfl) (sdo_t (SdAll.cons ((sd_int (by decide)).mono (Nat.zero_le 1) (Nat.le_refl _)) (SdAll.cons (((sdS (l := [97]) (by decide) (by decide))).mono (Nat.zero_le 1) (Nat.le_refl _)) (SdAll.cons (((sdS (l := []) (by decide) (by decide))).mono (Nat.zero_le 1) (Nat.le_refl _)) SdAll.nil))) (by omega)) (fun t7 H107 s7 O => ?_)
    have SS := SS.trans s7
    walk_at "rd"
    refine newLo (G := H1) O (.cons (.int _) (.cons (.str _) .nil)) (ds := [.int 0, .str (S [97])]) (rfl) (sdo_l (SdAll.cons ((sd_int (by decide)).mono (Nat.zero_le 1) (Nat.le_refl _)) (SdAll.cons (((sdS (l := [97]) (by decide) (by decide))).mono (Nat.zero_le 1) (Nat.le_refl _)) SdAll.nil)) (by omega)) (fun t8 H108 s8 O => ?_) (dom := fun a e => dom7 a (Sw.Same.dom SS a e))
    have SS := SS.trans s8
    walk_at "rd"
    refine newOdd O fun l1 HA sA eA O => ?_
    have SS1 := SS.trans sA
    walk_at "rd"
    refine newTo (G := H1) O (.cons .non (.cons (.str _) .nil)) (ds := [.none, .str (S [97])]) (by simp [entB, isX]) (sdo_t (SdAll.cons ((sd_non).mono (Nat.zero_le 1) (Nat.le_refl _)) (SdAll.cons (((sdS (l := [97]) (by decide) (by decide))).mono (Nat.zero_le 1) (Nat.le_refl _)) SdAll.nil)) (by omega)) (fun t9 H109 s9 O => ?_)
    have SS := s9
    walk_at "rd"
    refine newTo (G := H1) O (.cons (.str _) (.cons (.str _) .nil)) (ds := [.str (S [48]), .str (S [97])]) (by simp [entB, isX]) (sdo_t (SdAll.cons (((sdS (l := [48]) (by decide) (by decide))).mono (Nat.zero_le 1) (Nat.le_refl _)) (SdAll.cons (((sdS (l := [97]) (by decide) (by decide))).mono (Nat.zero_le 1) (Nat.le_refl _)) SdAll.nil)) (by omega)) (fun t10 H110 s10 O => ?_)
    have SS := SS.trans s10
    walk_at "rd"
    refine newTi (G := H1) O (.cons (.str _) .nil) (ds := [.str (S [97])]) fun t11 H111 s11 D11 O => ?_
    have SS := SS.trans s11
    walk_at "rd"
    refine newTo (G := H1) O (.cons (.int _) (.cons D11 .nil)) (ds := [.int 0, .tuple [.str (S [97])]]) (by simp [entB, wdB]) (sdo_t (SdAll.cons ((sd_int (by decide)).mono (Nat.zero_le 1) (Nat.le_refl _)) (SdAll.cons (((sd_tup' (SdAll.cons (sdS (l := [97]) (by decide) (by decide)) SdAll.nil))).mono (by omega) (Nat.le_refl _)) SdAll.nil)) (by omega)) fun t12 H112 s12 O => ?_
    have SS := SS.trans s12
    walk_at "rd"
    refine newTi (G := H1) O (.cons (.int _) .nil) (ds := [.int 0]) fun t13 H113 s13 D13 O => ?_
    have SS := SS.trans s13
    walk_at "rd"
    refine newTo (G := H1) O (.cons D13 (.cons (.str _) .nil)) (ds := [.tuple [.int 0], .str (S [])]) (by simp [entB, isX]) (sdo_t (SdAll.cons (((sd_tup' (SdAll.cons (sd_int (by decide)) SdAll.nil))).mono (by omega) (Nat.le_refl _)) (SdAll.cons (((sdS (l := []) (by decide) (by decide))).mono (Nat.zero_le 1) (Nat.le_refl _)) SdAll.nil)) (by omega)) fun t14 H114 s14 O => ?_
    have SS := SS.trans s14
    walk_at "rd"
    refine newTo (G := H1) O .nil (ds := []) (rfl) (sdo_t SdAll.nil (by omega)) (fun t15 H115 s15 O => ?_)
    have SS := SS.trans s15
    walk_at "rd"
    refine newTo (G := H1) O (.cons (.int _) (.cons (.int _) .nil)) (ds := [.int 0, .int 1]) (by simp [entB, wdB]) (sdo_t (SdAll.cons ((sd_int (by decide)).mono (Nat.zero_le 1) (Nat.le_refl _)) (SdAll.cons ((sd_int (by decide)).mono (Nat.zero_le 1) (Nat.le_refl _)) SdAll.nil)) (by omega)) (fun t16 H116 s16 O => ?_)
    have SS := SS.trans s16
    walk_at "rd"
    refine newTo (G := H1) O (.cons (.int _) (.cons (.str _) .nil)) (ds := [.int (10 ^ 18), .str (S [97])]) (by simp [entB, isX]; omega) (sdo_t (SdAll.cons ((sd_int (by decide)).mono (Nat.zero_le 1) (Nat.le_refl _)) (SdAll.cons (((sdS (l := [97]) (by decide) (by decide))).mono (Nat.zero_le 1) (Nat.le_refl _)) SdAll.nil)) (by omega)) (fun t17 H117 s17 O => ?_)
    have SS := SS.trans s17
    walk_at "rd"
    refine newOdd O fun l2 HB sB eB O => ?_
    have SS := SS.trans sB
    refine catOdd O (SS _ _ eA) eB (fun l3 HC sC eC O => ?_)
    have SS2 := SS1.trans (SS.trans sC)
    walk_at "rd"
    refine newTo (G := H1) O (.cons (.int _) (.cons (.str _) .nil)) (ds := [.int 0, .str (S ([97] ++ wd))]) (by simp only [entB, wdB, wz1, Bool.false_and, Bool.and_false]) (sdo_t (SdAll.cons ((sd_int (by decide)).mono (Nat.zero_le 1) (Nat.le_refl _)) (SdAll.cons (((sdS wl1 (by omega))).mono (Nat.zero_le 1) (Nat.le_refl _)) SdAll.nil)) (by omega)) (fun t18 H118 s18 O => ?_)
    have SS := s18
    walk_at "rd"
    refine newTo (G := H1) O (.cons (.int _) (.cons (.str _) .nil)) (ds := [.int 0, .str (S (wd ++ [98]))]) (by simp only [entB, wdB, wz2, Bool.false_and, Bool.and_false]) (sdo_t (SdAll.cons ((sd_int (by decide)).mono (Nat.zero_le 1) (Nat.le_refl _)) (SdAll.cons (((sdS wl2 (by omega))).mono (Nat.zero_le 1) (Nat.le_refl _)) SdAll.nil)) (by omega)) (fun t19 H119 s19 O => ?_)
    have SS := SS.trans s19
    walk_at "rd"
    refine newTo (G := H1) O (.cons (.int _) (.cons (.str _) .nil)) (ds := [.int ((m : Int) + 1), .str (S [])]) (by simp [entB, isX]; omega) (sdo_t (SdAll.cons ((sd_int (by omega)).mono (Nat.zero_le 1) (Nat.le_refl _)) (SdAll.cons (((sdS (l := []) (by decide) (by decide))).mono (Nat.zero_le 1) (Nat.le_refl _)) SdAll.nil)) (by omega)) (fun t20 H120 s20 O => ?_)
    have SS := SS.trans s20
    walk_at "rd"
    refine i_rU ?_
    walk_at "rd"
    refine newTo (G := H1) O (.cons (.int _) (.cons (.str _) .nil)) (ds := [.int (-(m : Int)), .str (S [97])]) (by simp [entB, isX]; omega) (sdo_t (SdAll.cons ((sd_int (by omega)).mono (Nat.zero_le 1) (Nat.le_refl _)) (SdAll.cons (((sdS (l := [97]) (by decide) (by decide))).mono (Nat.zero_le 1) (Nat.le_refl _)) SdAll.nil)) (by omega)) (fun t21 H121 s21 O => ?_)
    have SS := SS.trans s21
    walk_at "rd"
    refine newOdd O fun l4 HD sD eD O => ?_
    have SS := SS.trans sD
    refine catOdd O (SS _ _ eC) eD (fun l5 HE sE eE O => ?_)
    have S17 : Same H7 HE := SS2.trans (SS.trans sE)
    obtain ⟨ol, eol, lol, OE⟩ : ∃ ol : List V, HE l5 = some (.lst ol) ∧ ol.length = 24 ∧ Od K H1 HE (m : Int) ol := ⟨_, eE, rfl, fun v hv => by
      clear SS1 SS2 SS S17 eA eB eC eD eE
      simp only [List.mem_append, List.mem_cons, List.not_mem_nil, or_false] at hv
      repeat' (refine Or.elim hv (fun hv => ?_) (fun hv => ?_))
      all_goals first | (refine O v ?_; rw [hv]; simp; done) | subst hv
      all_goals first | exact ⟨_, .str _, rfl, (sdS (by decide) (by decide)).mono (by omega) (by omega)⟩ | exact ⟨_, .bl _, rfl, (sd_bl _).mono (by omega) (by omega)⟩ | exact ⟨_, .int _, rfl, (sd_int (by decide)).mono (by omega) (by omega)⟩⟩
    clear O SS1 SS2 SS eA eB eC eD eE
    have B8 := (B7.same S17).mono (d' := d + 20) (by omega)
    have s18 : SB b H1 HE := u17.trans (SB.of S17)
    have rw8 : RW K HE rp qs rss := rw1.sb hb1 nbr nbq s18
    have s08 : SB b H HE := (SB.of u1).trans s18
    have nrb : rp ≠ b := Ne.symm nbr
    obtain ⟨_, _, _, _, hb8, _⟩ := B8.ex
    have gi : rss[i]? = some (rss[i]'(by omega)) := List.getElem?_eq_getElem _
    generalize rss[i]'(by omega) = ri at gi
    have hri := hr2 ri (List.mem_of_getElem? gi)
    obtain ⟨q, vq, gq, eq8, dq8, mq⟩ := rw8.get gi
    have lq := rw8.ln
    have lvq := dq8.len
    have nq0 : H q = none := nqs q mq
    have lri : j < ri.length := by omega
    have fri := rw8.fl ri (List.mem_of_getElem? gi)
    have nqb : q ≠ b := fun c => nbq (by rw [← c]; exact mq)
    have frs : ∀ e ∈ ri, flatT e = true := fun e he => ent_flat (hri.2 e he).1
    have ixi : (qs.map V.ref)[((i : Nat) : Int).toNat]? = some (.ref q) := by rw [Int.toNat_natCast, List.getElem?_map, gq]; rfl
    have rowSd : ∀ rs ∈ rss, Sd 5 105 (.list rs) := fun rs h => by
      have := hr2 rs h
      exact (sd_lst fun e he => (this.2 e he).2).mono (by omega) (by omega)
    have rowsSd : ∀ x ∈ rss.map PyData.list, Sd 5 105 x := fun x hx => by
      obtain ⟨rs, hrs, rfl⟩ := List.mem_map.mp hx
      exact rowSd rs hrs
    have fin1 : ∀ (H9 : Hp) (v9 : V) (d9 : PyData), SB b H H9 → BoxAt H9 b (d + 20) → RW K H9 rp qs rss → Dz K (Fr H (upd H9 rp (.lst ((qs.map V.ref).set i v9)))) v9 d9 → rowB n d9 = false → Sd 5 3000 d9 → Q (.ref rp) (upd H9 rp (.lst ((qs.map V.ref).set i v9))) := fun H9 v9 d9 s9 B9 rw9 D9 e9 sd9 => by
      refine k _ _ _ (rw9.setRow nrp nqs D9) (stp_no1 (by rw [List.length_map]; omega) e9) ((sd_set rowsSd sd9 (by rw [List.length_map]; omega)).mono (by omega) (by rw [List.length_map]; omega)) (B9.upd_ne' nrb) (SB.set_new s9 nrp)
    have fin2 : ∀ (H9 : Hp) (v9 : V) (e9 : PyData), SB b HE H9 → BoxAt H9 b (d + 20) → Dz K (Fr H1 H9) v9 e9 → entB m e9 = false → Sd 3 400 e9 → H9 q = some (.lst vq) ∧ H9 rp = some (.lst (qs.map V.ref)) ∧ Q (.ref rp) (upd H9 q (.lst (vq.set j v9))) := fun H9 v9 e9 s9 B9 D9 he9 sd9 => by
      have eq9 := s9 _ _ nqb eq8
      have rw9 := rw8.sb hb8 nbr nbq s9
      have dq9 := dq8.nl (NL.sb hb8 s9) fri
      have dom1 : ∀ a, H1 a = none → H a = none := Sw.Same.dom u1
      have h1q : H1 q ≠ none := by
        obtain ⟨q', vs, gq', e, _⟩ := rw1.get gi
        rw [gq] at gq'; cases gq'
        rw [e]; nofun
      have D9' : Dz K (Fr H (upd H9 q (.lst (vq.set j v9)))) v9 e9 := (D9.same (Fr.kept (Kept.lst eq9 h1q))).same (Fr.weak dom1)
      refine ⟨eq9, rw9.e, k _ _ _ (rw9.setEnt nrp nqs gq gi eq9 dq9 D9') (stp_no2 (by rw [List.length_map]; omega) ?_) ((sd_set rowsSd (u := 510) ((sd_set (fun e he => ((hri.2 e he).2.mono (by omega) (Nat.le_refl _) : Sd 3 20 e)) sd9 lri).mono (by omega) (by omega)) (by rw [List.length_map]; omega)).mono (by omega) (by rw [List.length_map]; omega)) (B9.upd_ne' nqb) (SB.set_new (s08.trans s9) nq0)⟩
      rw [List.length_map, ← em]
      exact all_no (mem_set lri) he9
    have newR : ∀ (H9 : Hp) (t : Addr) (zs : List V) (ds' : List PyData) (v9 : V), SB b HE H9 → BoxAt H9 b (d + 20) → HE t = none → H9 t = some (.lst zs) → DzAll K H9 zs ds' → (∀ e ∈ ds', e = .none ∨ e ∈ ri) → ds'.length ≤ 6 → (ds'.length : Int) ≠ n → Q (.ref rp) (upd H9 rp (.lst ((qs.map V.ref).set i (.ref t)))) := fun H9 t zs ds' v9 s9 B9 nt et dz mem l6 ne => by
      have rw9 := rw8.sb hb8 nbr nbq s9
      have ntr : t ≠ rp := fun c => by rw [c, rw8.e] at nt; cases nt
      have nt0 : H t = none := SB.dom s08 hb8 t nt
      have fl : flatTs ds' = true := flatTs_all fun e he => by
        rcases mem e he with rfl | h
        · rfl
        · exact frs e h
      refine fin1 H9 (.ref t) (.list ds') (s08.trans s9) B9 rw9 (.lst (fr_at (by rw [upd_ne ntr]; exact et) (.inr nt0)) ((dz.nl (NL.lst rw9.e) fl).fr fl)) (by simp only [rowB, seqL]; exact decide_eq_false ne) ((sd_lst (n := 1) (w := 20) fun e he => ?_).mono (by omega) (by omega))
      rcases mem e he with rfl | h
      · exact sd_non.mono (by omega) (by omega)
      · exact (hri.2 e h).2
    walk_at "rd"
    refine iteB (fun c0 => ?_) (fun c0 => ?_)
    · walk_at "rd"
      refine i_ixLv rw8.e (by omega) ixi ?_
      walk_at "rd"
      refine newL0 (Nat.le_of_ble_eq_true rfl) fun t1 H9 nt1 s9 e9 => ?_
      refine i_catN (s9 _ _ eq8) e9 (by simp; omega) fun t2 H10 nt2 s10 e10 => ?_
      walk_at "rd"
      refine i_setL (s10 _ _ (s9 _ _ rw8.e)) (j := i) (ixN_j (by rw [List.length_map]; omega)) ?_
      walk_at "rd"
      exact newR H10 t2 _ (ri ++ [.none]) .non (SB.of (s9.trans s10)) (B8.same (s9.trans s10)) (s9.free nt2) e10 ((dq8.same (s9.trans s10)).app (.cons .non .nil)) (fun e he => (List.mem_append.mp he).elim .inr (fun h => .inl (List.mem_singleton.mp h))) (by simp; omega) (by simp; omega)
    walk_at "rd"
    refine iteB (fun c1 => ?_) (fun c1 => ?_)
    · walk_at "rd"
      refine i_ixLv rw8.e (by omega) ixi ?_
      walk_at "rd"
      refine i_slLT eq8 fun t1 H9 nt1 s9 e9 => ?_
      walk_at "rd"
      refine i_ixLv (s9 _ _ rw8.e) (by omega) ixi ?_
      walk_at "rd"
      refine i_slLF (n' := j + 1) (by omega) (s9 _ _ eq8) fun t2 H10 nt2 s10 e10 => ?_
      refine i_catN (s10 _ _ e9) e10 (by simp; omega) fun t3 H11 nt3 s11 e11 => ?_
      have s811 := s9.trans (s10.trans s11)
      walk_at "rd"
      refine i_setL (s811 _ _ rw8.e) (j := i) (ixN_j (by rw [List.length_map]; omega)) ?_
      walk_at "rd"
      have dq11 := dq8.same s811
      exact newR H11 t3 _ (ri.take j ++ ri.drop (j + 1)) .non (SB.of s811) (B8.same s811) ((s9.trans s10).free nt3) e11 ((dq11.take j).app (dq11.drop (j + 1))) (fun e he => .inr ((List.mem_append.mp he).elim List.mem_of_mem_take List.mem_of_mem_drop)) (by simp; omega) (by simp; omega)
    walk_at "rd"
    have B8 := (B7.same S17).mono (d' := d + 15) (by omega)
    refine iteB (fun c2 => ?_) (fun c2 => ?_)
    · walk_at "rd"
      refine i_mulR (n := n.toNat) (by omega) (by omega) ?_
      walk_at "rd"
      refine newD0 fun t1 H9 nt1 s9 e9 => ?_
      walk_at "rd"
      refine newL0 (Nat.le_of_ble_eq_true rfl) fun t2 H10 nt2 s10 e10 => ?_
      have nt2b : t2 ≠ b := fun c => by rw [c, s9 _ _ hb8] at nt2; cases nt2
      walk_at "rd"
      refine ⟨b, 4, _, rfl, B8.same (s9.trans s10), by omega, by omega, by omega, fun r2 H11 r20 r21 B11 s11 => ?_⟩
      have e11 := s11 _ _ nt2b e10
      have e9' := (SB.of s10 |>.trans s11) _ _ (fun c => by rw [c, hb8] at nt1; cases nt1) e9
      obtain ⟨v9, d9, ev9, D9, r9, sd9⟩ : ∃ v9 d9, ([.non, .str (S (List.replicate n.toNat 97)), .int n, .ref t1] : List V)[r2.toNat]? = some v9 ∧ (∀ H', NL H11 H' → Dz K (Fr H H') v9 d9) ∧ rowB n d9 = false ∧ Sd 5 3000 d9 := by
        have hr : r2 = 0 ∨ r2 = 1 ∨ r2 = 2 ∨ r2 = 3 := by omega
        rcases hr with rfl | rfl | rfl | rfl
        · exact ⟨_, _, rfl, fun _ _ => .non, rfl, sd_non.mono (by omega) (by omega)⟩
        · refine ⟨_, _, rfl, fun _ _ => .str _, rfl, (sd_str fun c hc => ?_).mono (by omega) (by simp; omega)⟩
          rw [List.eq_of_mem_replicate hc]; omega
        · exact ⟨_, _, rfl, fun _ _ => .int _, rfl, (sd_int (by omega)).mono (by omega) (by omega)⟩
        · exact ⟨_, _, rfl, fun H' nl => .emp (fr_at (nl _ _ e9' nofun) (.inl nofun)), rfl, sd_emp.mono (by omega) (by omega)⟩
      refine i_ixLv e11 r20 ev9 ?_
      have s811 : SB b HE H11 := (SB.of (s9.trans s10)).trans s11
      have rw11 := rw8.sb hb8 nbr nbq s811
      walk_at "rd"
      refine i_setL rw11.e (j := i) (ixN_j (by rw [List.length_map]; omega)) ?_
      walk_at "rd"
      exact fin1 H11 v9 d9 (s08.trans s811) (B11.mono (by omega)) rw11 (D9 _ (NL.lst rw11.e)) r9 sd9
    walk_at "rd"
    refine iteB (fun c3 => ?_) (fun c3 => ?_)
    · walk_at "rd"
      refine newL0 (Nat.le_of_ble_eq_true rfl) fun t0 HF nt0 sF eF => ?_
      walk_at "rd"
      refine i_mulR (n := m) (by omega) (by omega) ?_
      walk_at "rd"
      refine newD0 fun t1 H9 nt1 s9 e9 => ?_
      walk_at "rd"
      refine newT0 (Nat.le_of_ble_eq_true rfl) fun t3 HG nt3 sG eG => ?_
      walk_at "rd"
      refine newL0 (Nat.le_of_ble_eq_true rfl) fun t2 H10 nt2 s10 e10 => ?_
      have nt2b : t2 ≠ b := fun c => by rw [c, sG _ _ (s9 _ _ (sF _ _ hb8))] at nt2; cases nt2
      have nt1b : t1 ≠ b := fun c => by rw [c, sF _ _ hb8] at nt1; cases nt1
      have nt0b : t0 ≠ b := fun c => by rw [c, hb8] at nt0; cases nt0
      have nt3b : t3 ≠ b := fun c => by rw [c, s9 _ _ (sF _ _ hb8)] at nt3; cases nt3
      have s810 := sF.trans (s9.trans (sG.trans s10))
      walk_at "rd"
      refine ⟨b, 6, _, rfl, B8.same s810, by omega, by omega, by omega, fun r2 H11 r20 r21 B11 s11 => ?_⟩
      have e11 := s11 _ _ nt2b e10
      have e1' := s11 _ _ nt1b (s10 _ _ (sG _ _ e9))
      have e0' := s11 _ _ nt0b (s10 _ _ (sG _ _ (s9 _ _ eF)))
      have e3' := s11 _ _ nt3b (s10 _ _ eG)
      obtain ⟨v9, d9, ev9, D9, r9, sd9⟩ : ∃ v9 d9, ([.ref t0, .non, .str (S (List.replicate m 97)), .ref t1, .int 0, .ref t3] : List V)[r2.toNat]? = some v9 ∧ Dz K (Fr H H11) v9 d9 ∧ stpB n d9 = false ∧ Sd 6 20000 d9 := by
        have hr : r2 = 0 ∨ r2 = 1 ∨ r2 = 2 ∨ r2 = 3 ∨ r2 = 4 ∨ r2 = 5 := by omega
        rcases hr with rfl | rfl | rfl | rfl | rfl | rfl
        · exact ⟨_, _, rfl, .lst (fr_at e0' (.inr (SB.dom s08 hb8 t0 nt0))) .nil, by simp [stpB, seqL], sd_nil.mono (by omega) (by omega)⟩
        · exact ⟨_, _, rfl, .non, rfl, sd_non.mono (by omega) (by omega)⟩
        · refine ⟨_, _, rfl, .str _, rfl, (sd_str fun c hc => ?_).mono (by omega) (by simp; omega)⟩
          rw [List.eq_of_mem_replicate hc]; omega
        · exact ⟨_, _, rfl, .emp (fr_at e1' (.inl nofun)), rfl, sd_emp.mono (by omega) (by omega)⟩
        · exact ⟨_, _, rfl, .int _, rfl, (sd_int (by decide)).mono (by omega) (by omega)⟩
        · exact ⟨_, _, rfl, .tup (sqT_of (fr_at e3' (.inl nofun))) .nil, by simp [stpB, seqL], (sd_tup' (n := 0) SdAll.nil).mono (by omega) (by omega)⟩
      refine i_ixLv e11 r20 ev9 ?_
      walk_at "rd"
      exact k v9 d9 H11 D9 r9 sd9 (B11.mono (by omega)) (s08.trans ((SB.of s810).trans s11))
    walk_at "rd"
    rw [lol]
    refine ⟨b, 24, _, rfl, B8, by omega, by omega, by omega, fun r2 H9 r20 r21 B9 s9 => ?_⟩
    have l5b : l5 ≠ b := fun c => by rw [c, hb8] at eol; cases eol; simp at lol
    have gv : ol[r2.toNat]? = some (ol[r2.toNat]'(by omega)) := List.getElem?_eq_getElem _
    obtain ⟨e9, D9, he9, sd9⟩ := OE _ (List.mem_of_getElem? gv)
    generalize ol[r2.toNat]'(by omega) = v9 at *
    have h1b : H1 b ≠ none := by rw [hb1]; nofun
    obtain ⟨eq9, er9, q9⟩ := fin2 H9 v9 e9 s9 (B9.mono (by omega)) (D9.same (Fr.kept (Kept.sb hb8 h1b s9))) he9 sd9
    refine i_ixLv (s9 _ _ l5b eol) r20 gv ?_
    walk_at "rd"
    refine i_ixLv er9 (by omega) ixi ?_
    walk_at "rd"
    refine i_setL eq9 (j := j) (ixN_j (by omega)) ?_
    walk_at "rd"
    exact q9
end
end Sw
namespace Sw
open PySem PySem.Spec PyProof.Rows L2
local macro_rules | `(tactic| walk_at "hp") => `(tactic| first
  | (with_reducible assumption) | (with_reducible exact upd_same)
  | ((with_reducible refine' upd_old ?q1 ?q2); (case q1 => (with_reducible assumption)); (case q2 => walk_at "hp"))
  | ((with_reducible refine' Same.at ?q1 ?q2); (case q1 => (with_reducible assumption)); (case q2 => walk_at "hp"))
  | ((with_reducible refine' upd_skip ?q1 ?q2); (case q1 => walk_at "ne"); (case q2 => walk_at "hp"))
  | fail)
local macro_rules | `(tactic| walk_at "ne") => `(tactic| first
  | (with_reducible assumption) | (with_reducible exact Ne.symm (by assumption))
  | ((with_reducible refine' ne_of_none ?q1 ?q2); (case q2 => (with_reducible assumption)); (case q1 => walk_at "hp"))
  | fail)
local macro_rules | `(tactic| walk_at "ci") => `(tactic| first | assumption | (show (0 : Int) < _; first | decide | (with_reducible omega)) | exact ⟨by decide, by decide⟩ | exact .inl ⟨by decide, by decide⟩ | exact .inr ⟨by decide, by decide⟩)
local macro_rules | `(tactic| walk_at "ln") => `(tactic| first | (with_reducible assumption) | (with_reducible omega) | (simp only [List.length_append, List.length_take, List.length_drop, List.length_reverse, List.length_cons, List.length_nil]; with_reducible omega))
local macro_rules | `(tactic| walk_at "rd1") => `(tactic| first
  | (with_reducible refine i_seq ?_) | (with_reducible refine i_asg ?_) | (with_reducible refine i_ret ?_) | (with_reducible refine i_name ?_) | ((with_reducible refine' i_var ?q1 ?_); (case q1 => exact rfl)) | (with_reducible refine i_c ?_) | (with_reducible refine i_op ?_) | (with_reducible refine i_un ?_)
  | (with_reducible refine i_rI0 ?_) | (with_reducible refine i_cb ?_) | (with_reducible refine i_cons ?_) | (with_reducible refine i_nil ?_) | (with_reducible refine i_call ?_) | (with_reducible refine i_if ?_) | (with_reducible refine i_ifE ?_) | (with_reducible refine i_test ?_) | (with_reducible refine i_bl ?_)
  | (with_reducible refine i_and ?_) | (with_reducible refine i_or ?_) | (with_reducible refine i_not ?_) | (with_reducible refine i_lstM ?_) | (with_reducible refine i_lstLM ?_) | (with_reducible refine i_tupM ?_) | (with_reducible refine i_next ?_) | (with_reducible refine i_drop ?_) | (with_reducible refine i_sub ?_)
  | (with_reducible refine i_bm ?_) | (with_reducible refine i_sl ?_) | (with_reducible refine i_part ?_) | (with_reducible refine i_nopart ?_) | (with_reducible refine i_exI ?_) | (with_reducible refine i_chain ?_) | ((with_reducible refine' i_aug ?q1 ?_); (case q1 => exact rfl)) | (with_reducible refine i_ip ?_)
  | (with_reducible refine i_par ?_) | (with_reducible refine i_pair ?_) | (with_reducible refine i_andV ?_) | (with_reducible refine i_orV ?_) | (with_reducible refine i_notV ?_) | (with_reducible refine i_m1 ?_) | (with_reducible refine i_str ?_)
  | (with_reducible refine iteF ?_) | (with_reducible refine iteT ?_) | (with_reducible refine iteNT ?_) | (with_reducible refine iteNF ?_) | (with_reducible refine i_tyS ?_) | (with_reducible refine i_tB ?_) | (with_reducible refine i_retN ?_) | (with_reducible refine i_par3 ?_) | (with_reducible refine i_trip ?_) | (with_reducible refine i_gCons ?_) | (with_reducible refine i_gNil ?_) | (with_reducible refine i_lstRg ?_) | (with_reducible refine i_rg1 ?_)
  | (with_reducible refine i_lc ?_) | (with_reducible refine i_for ?_) | (with_reducible refine i_iList ?_) | (with_reducible refine i_iTup ?_) | (with_reducible refine i_iStr ?_) | (with_reducible refine i_iRng1 ?_) | (with_reducible refine i_iEnS ?_)
  | ((with_reducible refine' i_ixTH ?q1 ?q2 ?_); (case q1 => walk_at "hp"); (case q2 => exact rfl))
  | ((with_reducible refine' i_ixLH ?q1 ?q2 ?_); (case q1 => walk_at "hp"); (case q2 => exact rfl))
  | ((with_reducible refine i_addS ?q1 ?_); (case q1 => walk_at "ln")) | ((with_reducible refine i_lenSS ?q1 ?_); (case q1 => walk_at "ln")) | ((with_reducible refine i_slFrom ?q1 ?q2 ?_); (case q1 => walk_at "ln"); (case q2 => walk_at "ln")) | ((with_reducible refine i_slTo ?q1 ?q2 ?_); (case q1 => walk_at "ln"); (case q2 => walk_at "ln"))
  | ((with_reducible refine' i_tyL ?q1 ?_); (case q1 => walk_at "hp"))
  | ((with_reducible refine' i_gTupH ?q1 ?q2 ?_); (case q1 => walk_at "hp"); (case q2 => exact rfl))
  | (with_reducible refine i_dnewM ?_) | (with_reducible refine i_init ?_) | (with_reducible refine i_fst ?_) | (with_reducible refine i_mk ?_) | (with_reducible refine i_raise ?_) | (with_reducible refine i_callS ?_) | (with_reducible refine i_kwS ?_)
  | (with_reducible refine i_revT ?_) | (with_reducible refine i_kw ?_) | ((with_reducible refine' ⟨_, _, rfl, sqT_of ?q1, ?_⟩); (case q1 => walk_at "hp"))
  | (with_reducible refine i_revS ?_) | ((with_reducible refine i_revSS ?q1 ?_); (case q1 => walk_at "ln"))
  | (with_reducible refine i_startS ?_) | (with_reducible refine i_inSg ?_) | (with_reducible refine i_absN ?_) | (with_reducible refine i_min2 ?_) | (with_reducible refine i_max2 ?_) | (with_reducible refine i_min3 ?_) | (with_reducible refine i_intN ?_) | (with_reducible refine i_intNB ?_)
  | ((with_reducible refine' i_lenL ?q1 ?_); (case q1 => walk_at "hp")) | ((with_reducible refine' i_lenT ?q1 ?_); (case q1 => walk_at "hp"))
  | (with_reducible refine i_eqI ?_) | (with_reducible refine i_neI ?_) | (with_reducible refine i_eqS ?_) | (with_reducible refine i_neS ?_) | (with_reducible refine i_isNoI ?_) | (with_reducible refine i_isNoN ?_) | (with_reducible refine i_isNoR ?_)
  | ((with_reducible refine i_pow ?q1 ?q2 ?q3 ?_); (case q1 => decide); (case q2 => decide); (case q3 => (with_reducible omega)))
  | ((with_reducible refine i_rI ?q1 ?_); (case q1 => walk_at "ci"))
  | (with_reducible refine Or.inl ⟨_, rfl, ?_⟩) | (with_reducible refine Or.inr ⟨_, rfl, ?_⟩) | (with_reducible refine ⟨_, rfl, ?_⟩) | (with_reducible refine ⟨_, _, rfl, ?_⟩) | (with_reducible refine ⟨_, _, rfl, rfl, ?_⟩)
  | ((with_reducible refine' ⟨_, _, rfl, Or.inl (sqL_of ?q1), ?_⟩); (case q1 => walk_at "hp")) | ((with_reducible refine' ⟨_, _, rfl, Or.inr (sqT_of ?q1), ?_⟩); (case q1 => walk_at "hp")) | (with_reducible refine i_dget ?_) | (with_reducible refine i_disp1T ?_) | (with_reducible refine i_dcT ?_) | (with_reducible refine i_dnewT ?_) | (with_reducible refine i_fld ?_) | (with_reducible refine i_sFld ?_) | (with_reducible refine i_make ?_) | (with_reducible refine i_meth ?_) | (with_reducible refine i_star ?_) | (with_reducible refine i_isNoS ?_) | (with_reducible refine i_lc2 ?_) | fail)
local macro_rules | `(tactic| walk_at "rd") => `(tactic| repeat' walk_at "rd1")

/-! ### as many states as there may be -/
def manyR (r : Int) (i : Nat) : PyData := .list [.tuple [.int (((i : Int) + r) % 40), .str (S [97])]]
/-- _law_many_right(box) -/
def spMany (K : PySem.W.Frag) : Sp := fun vs H Q _ => ∃ (b : Addr) (d : Int), vs = [.ref b] ∧ BoxAt H b d ∧ d + 5 ≤ 1000000 ∧ Mk K H ∧ ∀ H', BoxAt H' b (d + 5) → SB b H H' → Q (.bl true) H'
theorem DzAll.rep {K : PySem.W.Frag} {H : Hp} {v : V} {d : PyData} (h : Dz K H v d) : ∀ n : Nat, DzAll K H (List.replicate n v) (List.replicate n d)
  | 0 => .nil
  | n + 1 => .cons h (DzAll.rep h n)
theorem ix_r40 {r : Int} {i : Nat} : (0 : Int) ≤ ((i : Int) + r) % 40 ∧ ((i : Int) + r) % 40 < 40 := by omega
theorem ent40 {r : Int} {i : Nat} : entB 40 (.tuple [.int (((i : Int) + r) % 40), .str (S [97])]) = true ∧ Sd 1 20 (.tuple [.int (((i : Int) + r) % 40), .str (S [97])]) :=
  ent_mk ix_r40.1 ix_r40.2 (by omega) (by unfold azW; decide) (by decide)
theorem rep_end (n : Nat) : ∀ e ∈ List.replicate n (PyData.str (S [])), endB e = true ∧ Sd 0 3 e := fun e he => by
  rw [List.eq_of_mem_replicate he]
  exact ⟨by decide, (sd_str (l := []) (by decide)).mono (by omega) (by decide)⟩
section
variable {P : Program} {w : World} {K : PySem.W.Frag} {mg : Str → Option Value} {base : Heap} {f : Addr} {fd : FuncData}
theorem ok_many {C : Addr} (F : Fun K "_law_many_right" "_law_many_right" s__law_many_right f fd) (z : Z mg) (dc : DcC K C) (c__law_take : Cal P w K mg base "_law_take" ["box", "many"] 1 spTake) (m_Decoder : C8.Mak P w K mg base 5 "Decoder" C (spIni0 K C) []) (q__law_door : CalG P w K mg base "_law_door" ["word", "signs", "steps", "ends"] 8 (spDoor K)) : FnG P w K mg base CX0 9 f fd ["box"] (spMany K) := by
  refine Sw.Fun.okG0 F sc__law_many_right (fun vs H Q E h => ?_) (fun cdv A outer s H vs Q E hr quiet h => ?_)
  · obtain ⟨b, d, rfl, _⟩ := h; rfl
  · obtain ⟨b, d, rfl, B, hd, mk, k⟩ := h
    obtain ⟨_, _, _, _, hb0, _⟩ := B.ex
    refine ⟨_, (pss_cons (ps_set (i := 1) sc__law_many_right.nd rfl (.inr rfl) (pe_cal c__law_take hr (pa_cons (pv 0) (pa_cons pe_int pa_nil))))
      (pss_cons (ps_setLc (i := 2) (own := [("k", 3)]) (g := gName 3) (tt := tYes) rfl sc__law_many_right.nd rfl rfl (sw_true rfl rfl rfl (by decide +kernel)) (pi_range1 (by rfl) z.range (pa_cons pe_int pa_nil)) (blkOk_by (own := [("k", 3)]) (N := n__law_many_right) (sc := defScope s__law_many_right) (by decide +kernel)) (fun _ _ _ _ _ => (pg_name (i := 3) sc__law_many_right.nd rfl (.inl rfl))) (fun _ _ _ _ _ => pts_nil) (fun _ _ _ _ _ => (pe_lst (pa_cons (pe_tup (pa_cons (pe_op op_mod (pe_callTy call_intN (by rfl) z.int (by decide +kernel) (pa_cons (pe_op op_add (pv 3) (pv 1)) pa_nil)) pe_int) (pa_cons (pe_strS (l := [97]) (by decide +kernel)) pa_nil))) pa_nil))))
      (pss_cons (ps_set (i := 4) sc__law_many_right.nd rfl (.inl rfl) (C8.pe_mk m_Decoder hr (by decide) (by rfl) (pa_cons pe_int (pa_cons (pv 2) (pa_cons (pe_op op_rep (pe_lst (pa_cons (pe_strS (l := []) (by decide +kernel)) pa_nil)) pe_int) pa_nil)))))
      (pss_cons (ps_if (PW.pt (pw_or (pt_cmpR op_ne (pe_fld (pv 4) (by rfl)) pe_int (nomark _)) (pw_or1 (pt_cmpR (op_neD hr.units) (pe_ix ix_tup (pe_fld (pv 4) (by rfl)) pe_int (fun _ _ => rfl)) (pe_tup (pa_cons (pe_tup (pa_cons (pe_op op_mod (pe_callTy call_intN (by rfl) z.int (by decide +kernel) (pa_cons (pe_op op_add pe_int (pv 1)) pa_nil)) pe_int) (pa_cons (pe_strS (l := [97]) (by decide +kernel)) pa_nil))) pa_nil)) (nomark _)))))
        (pss_one (ps_ret pe_bl))
        pss_nil)
      (pss_one (ps_ret (pe_and (pe_calG q__law_door hr quiet (pa_cons (pe_strS (l := [115, 116, 101, 112, 115]) (by decide +kernel)) (pa_cons pe_int (pa_cons (pe_op op_cat (pv 2) (pe_lst (pa_cons (pe_lst (pa_cons pe_non pa_nil)) pa_nil))) (pa_cons (pe_op op_rep (pe_lst (pa_cons (pe_strS (l := []) (by decide +kernel)) pa_nil)) pe_int) pa_nil))))) (pe_one (pe_calG q__law_door hr quiet (pa_cons (pe_strS (l := [101, 110, 100, 115]) (by decide +kernel)) (pa_cons pe_int (pa_cons (pv 2) (pa_cons (pe_op op_rep (pe_lst (pa_cons (pe_strS (l := []) (by decide +kernel)) pa_nil)) pe_int) pa_nil))))))))))))), ?_⟩
    walk_at "rd"
    refine ⟨b, 40, _, rfl, B, by omega, by omega, by omega, fun r H1 r0 r1 B1 s1 => ?_⟩
    walk_at "rd"
    refine i_rng (by omega) (by omega) ?_
    refine go_nw (K := K) walk_rangeZ (by decide) (fun i e => e = manyR r i) (fun _ _ => trivial) (fun i x Hx Hy hi sx y R hR => ?_) mono_name (fun p ws es H2 np le hE ep D2 s2 => ?_)
    · obtain ⟨rfl, rfl⟩ := y
      walk_at "rd"
      refine ⟨rfl, ?_⟩
      walk_at "rd"
      refine newT0 (Nat.le_of_ble_eq_true rfl) fun t H3 nt s3 e3 => ?_
      walk_at "rd"
      refine newL0 (Nat.le_of_ble_eq_true rfl) fun t2 H4 nt2 s4 e4 => ?_
      exact hR _ (manyR r i) _ (.lst (fr_at e4 (.inr (s3.free nt2))) (.cons (.tup (fr_sqT (sqT_of (s4 _ _ e3))) (.cons (.int _) (.cons (.str _) .nil))) .nil)) rfl (s3.trans s4)
    have hes : ∀ e ∈ es, ∃ i : Nat, e = manyR r i := fun e he => by
      obtain ⟨i, hi⟩ := List.getElem?_of_mem he
      exact ⟨i, hE i e hi⟩
    have s02 : SB b H H2 := s1.trans (SB.of s2)
    have mk2 := mk.sb hb0 s02
    have B2 := B1.same s2
    have Drows : Dz K H2 (.ref p) (.list es) := .lst ep (D2.same fr_sub)
    have g1 : isG (.int 1) = true := by decide
    have stp1 : stpB 1 (.list es) = true := by
      simp only [stpB, seqL, Bool.and_eq_true, decide_eq_true_eq, List.all_eq_true]
      refine ⟨⟨by omega, fun x hx => ?_⟩, fun x hx => ?_⟩
      · obtain ⟨i, rfl⟩ := hes x hx; rfl
      · obtain ⟨i, rfl⟩ := hes x hx
        rw [show es.length = 40 from le]
        simp only [manyR, rowEB, seqL, List.all_cons, List.all_nil, Bool.and_true]
        exact ent40.1
    have sdR : ∀ e ∈ es, Sd 5 30 e := fun x hx => by
      obtain ⟨i, rfl⟩ := hes x hx
      exact (sd_lst' (.cons (ent40 (r := r) (i := i)).2 .nil)).mono (by omega) (by omega)
    have sdS1 : Sd 6 20000 (.list es) := (sd_lst sdR).mono (by omega) (by omega)
    have sdE : ∀ n : Nat, n ≤ 41 → Sd 6 20000 (.list (List.replicate n (.str (S [])))) := fun n hn => (sd_lst fun e he => (rep_end n e he).2).mono (by omega) (by rw [List.length_replicate]; omega)
    have reps : ∀ n : Nat, n ≤ 41 → ∀ (l : Addr) (Hk : Hp) (R : VK), Hk l = some (.lst [.str (S [])]) → (∀ q H', Same Hk H' → H' q = some (.lst (List.replicate n (V.str (S [])))) → R (.ref q) H') → rRep (.ref l) (.int (n : Int)) Hk R := fun n hn l Hk R e kk =>
      ⟨l, n, _, rfl, rfl, e, by omega, by omega, Nat.le_trans (show 1 * (n : Int).toNat ≤ 100000 by omega) (Nat.le_of_ble_eq_true rfl), fun q nq => by
        rw [Int.toNat_natCast, List.flatten_replicate_singleton]
        exact kk q _ (same_upd nq) upd_same⟩
    walk_at "rd"
    refine newL0 (Nat.le_of_ble_eq_true rfl) fun l3 H3 nl3 s3 e3 => ?_
    walk_at "rd"
    refine reps 40 (by omega) _ _ _ e3 fun q H4 s4 e4 => ?_
    walk_at "rd"
    have ens40 : ensB (seqD (.list es)).length (.list (List.replicate 40 (.str (S [])))) = true := by
      rw [show (seqD (.list es)).length = 40 from le]; decide
    refine i_makeD (Q := fun v H3 => gName 4 v _ H3 _) (E := E0) (d2 := .list es) (d3 := .list (List.replicate 40 (.str (S [])))) (Drows.same (s3.trans s4)) (.lst e4 (DzAll.rep (.str _) 40)) sdS1 (sdE 40 (by omega)) (by omega) (by omega) stp1 ens40 fun v H5 s5 Dm => ?_
    rw [show (seqD (.list es)).length = 40 from le] at Dm
    obtain ⟨a, dx, p1, p2, rfl, ha, hp1, hp2⟩ := Dm
    have hp1 : Dz K H5 (.ref p1) (.tuple (es.map tup1)) := hp1
    obtain ⟨_, zs, ez, hz, hzs⟩ := hp1.tupI
    cases ez
    have e39 : es[39]? = some (manyR r 39) := by
      rw [List.getElem?_eq_getElem (show 39 < es.length by omega)]
      rw [hE 39 _ (List.getElem?_eq_getElem (show 39 < es.length by omega))]
    obtain ⟨vx, gx, Dx⟩ := hzs.get2 (i := 39) (d := tup1 (manyR r 39)) (by rw [List.getElem?_map, e39]; rfl)
    have Dx : Dz K H5 vx (.tuple [.tuple [.int ((39 + r) % 40), .str (S [97])]]) := Dx
    have sdx : Sd 2 30 (.tuple [.tuple [.int ((39 + r) % 40), .str (S [97])]]) := (sd_tup' (.cons (ent40 (r := r) (i := 39)).2 .nil)).mono (by omega) (by omega)
    walk_at "rd"
    refine i_fldD dc.cl dc.a2 ha rfl ?_
    walk_at "rd"
    rw [show (!decide (((40 : Nat) : Int) = 40)) = false from by decide]
    walk_at "rd"
    refine i_fldD dc.cl dc.a3 ha rfl ?_
    walk_at "rd"
    refine i_ixTz (k := 39) hz rfl gx ?_
    walk_at "rd"
    refine newT0 (Nat.le_of_ble_eq_true rfl) fun t6 H6 nt6 s6 e6 => ?_
    walk_at "rd"
    refine newT0 (Nat.le_of_ble_eq_true rfl) fun t7 H7 nt7 s7 e7 => ?_
    have Dy : Dz K H7 (.ref t7) (.tuple [.tuple [.int ((39 + r) % 40), .str (S [97])]]) := .tup (sqT_of e7) (.cons (.tup (sqT_of (s7 _ _ e6)) (.cons (.int _) (.cons (.str _) .nil))) .nil)
    refine i_neZ (Dx.same (s6.trans s7)) Dy sdx sdx (by simp [PyData.hasDict, PyData.hasDictAll]) (by simp [PyData.hasDict, PyData.hasDictAll]) ?_
    rw [eqv_self _ (by simp [PyData.hasDict, PyData.hasDictAll])]
    walk_at "rd"
    have s27 := s3.trans (s4.trans (s5.trans (s6.trans s7)))
    refine newL0 (Nat.le_of_ble_eq_true rfl) fun l8 H8 nl8 s8 e8 => ?_
    walk_at "rd"
    refine newL0 (Nat.le_of_ble_eq_true rfl) fun l9 H9 nl9 s9 e9 => ?_
    have lw := D2.len
    have s29 := s27.trans (s8.trans s9)
    refine i_catN (s29 _ _ ep) e9 (by simp; omega) fun l10 H10 nl10 s10 e10 => ?_
    walk_at "rd"
    refine newL0 (Nat.le_of_ble_eq_true rfl) fun l11 H11 nl11 s11 e11 => ?_
    walk_at "rd"
    refine reps 41 (by omega) _ _ _ e11 fun l12 H12 s12 e12 => ?_
    walk_at "rd"
    have s1012 := s11.trans s12
    have s212 := s29.trans (s10.trans s1012)
    have Dc : Dz K H12 (.ref l10) (.list (es ++ [.list [.none]])) := .lst (s1012 _ _ e10) (((D2.same fr_sub).same s212).app (.cons (.lst ((s9.trans (s10.trans s1012)) _ _ e8) (.cons .non .nil)) .nil))
    have bad1 : stpB 1 (.list (es ++ [.list [.none]])) = false := by
      simp only [stpB, seqL]
      rw [show (es ++ [PyData.list [.none]]).length = 41 by simp; omega]
      simp
    have sdC : Sd 6 20000 (.list (es ++ [.list [.none]])) := (sd_lst (n := 5) (w := 30) fun e he => (List.mem_append.mp he).elim (sdR e) (fun h => by rw [List.mem_singleton.mp h]; exact (sd_lst' (.cons sd_non .nil)).mono (by omega) (by omega))).mono (by omega) (by simp; omega)
    have s1 : Sd 6 20000 (.int 1) := (sd_int (by decide)).mono (by omega) (by omega)
    refine ⟨tSteps, .int 1, _, _, .int 1, .list (es ++ [.list [.none]]), .list (List.replicate 41 (.str (S []))), rfl, mk2.same s212, .int _, Dc, .lst e12 (DzAll.rep (.str _) 41), s1, sdC, sdE 41 (by omega), .inr (.inl ⟨rfl, 1, rfl, g1, bad1⟩), fun H13 s13 => ?_⟩
    walk_at "rd"
    refine newL0 (Nat.le_of_ble_eq_true rfl) fun l14 H14 nl14 s14 e14 => ?_
    walk_at "rd"
    refine reps 41 (by omega) _ _ _ e14 fun l15 H15 s15 e15 => ?_
    walk_at "rd"
    have s215 := s212.trans (s13.trans (s14.trans s15))
    have bad2 : ensB (seqD (.list es)).length (.list (List.replicate 41 (.str (S [])))) = false := by
      rw [show (seqD (.list es)).length = 40 from le]; decide
    refine ⟨tEnds, .int 1, _, _, .int 1, .list es, .list (List.replicate 41 (.str (S []))), rfl, mk2.same s215, .int _, Drows.same s215, .lst e15 (DzAll.rep (.str _) 41), s1, sdS1, sdE 41 (by omega), .inr (.inr ⟨rfl, 1, rfl, g1, stp1, bad2⟩), fun H16 s16 => ?_⟩
    have s216 := s215.trans s16
    exact k H16 ((B2.same s216).mono (by omega)) (s02.trans (SB.of s216))
end
end Sw
namespace Sw
open PySem PySem.Spec PyProof.Rows L2
local macro_rules | `(tactic| walk_at "hp") => `(tactic| first
  | (with_reducible assumption) | (with_reducible exact upd_same)
  | ((with_reducible refine' upd_old ?q1 ?q2); (case q1 => (with_reducible assumption)); (case q2 => walk_at "hp"))
  | ((with_reducible refine' Same.at ?q1 ?q2); (case q1 => (with_reducible assumption)); (case q2 => walk_at "hp"))
  | ((with_reducible refine' upd_skip ?q1 ?q2); (case q1 => walk_at "ne"); (case q2 => walk_at "hp"))
  | fail)
local macro_rules | `(tactic| walk_at "ne") => `(tactic| first
  | (with_reducible assumption) | (with_reducible exact Ne.symm (by assumption))
  | ((with_reducible refine' ne_of_none ?q1 ?q2); (case q2 => (with_reducible assumption)); (case q1 => walk_at "hp"))
  | fail)
local macro_rules | `(tactic| walk_at "ci") => `(tactic| first | assumption | (show (0 : Int) < _; first | decide | (with_reducible omega)) | exact ⟨by decide, by decide⟩ | exact .inl ⟨by decide, by decide⟩ | exact .inr ⟨by decide, by decide⟩)
local macro_rules | `(tactic| walk_at "ln") => `(tactic| first | (with_reducible assumption) | (with_reducible omega) | (simp only [List.length_append, List.length_take, List.length_drop, List.length_reverse, List.length_cons, List.length_nil]; with_reducible omega))
local macro_rules | `(tactic| walk_at "rd1") => `(tactic| first
  | (with_reducible refine i_seq ?_) | (with_reducible refine i_asg ?_) | (with_reducible refine i_ret ?_) | (with_reducible refine i_name ?_) | ((with_reducible refine' i_var ?q1 ?_); (case q1 => exact rfl)) | (with_reducible refine i_c ?_) | (with_reducible refine i_op ?_) | (with_reducible refine i_un ?_)
  | (with_reducible refine i_rI0 ?_) | (with_reducible refine i_cb ?_) | (with_reducible refine i_cons ?_) | (with_reducible refine i_nil ?_) | (with_reducible refine i_call ?_) | (with_reducible refine i_if ?_) | (with_reducible refine i_ifE ?_) | (with_reducible refine i_test ?_) | (with_reducible refine i_bl ?_)
  | (with_reducible refine i_and ?_) | (with_reducible refine i_or ?_) | (with_reducible refine i_not ?_) | (with_reducible refine i_lstM ?_) | (with_reducible refine i_lstLM ?_) | (with_reducible refine i_tupM ?_) | (with_reducible refine i_next ?_) | (with_reducible refine i_drop ?_) | (with_reducible refine i_sub ?_)
  | (with_reducible refine i_bm ?_) | (with_reducible refine i_sl ?_) | (with_reducible refine i_part ?_) | (with_reducible refine i_nopart ?_) | (with_reducible refine i_exI ?_) | (with_reducible refine i_chain ?_) | ((with_reducible refine' i_aug ?q1 ?_); (case q1 => exact rfl)) | (with_reducible refine i_ip ?_)
  | (with_reducible refine i_par ?_) | (with_reducible refine i_pair ?_) | (with_reducible refine i_andV ?_) | (with_reducible refine i_orV ?_) | (with_reducible refine i_notV ?_) | (with_reducible refine i_m1 ?_) | (with_reducible refine i_str ?_)
  | (with_reducible refine iteF ?_) | (with_reducible refine iteT ?_) | (with_reducible refine iteNT ?_) | (with_reducible refine iteNF ?_) | (with_reducible refine i_tyS ?_) | (with_reducible refine i_tB ?_) | (with_reducible refine i_retN ?_) | (with_reducible refine i_par3 ?_) | (with_reducible refine i_trip ?_) | (with_reducible refine i_gCons ?_) | (with_reducible refine i_gNil ?_) | (with_reducible refine i_lstRg ?_) | (with_reducible refine i_rg1 ?_)
  | (with_reducible refine i_lc ?_) | (with_reducible refine i_for ?_) | (with_reducible refine i_iList ?_) | (with_reducible refine i_iTup ?_) | (with_reducible refine i_iStr ?_) | (with_reducible refine i_iRng1 ?_) | (with_reducible refine i_iEnS ?_)
  | ((with_reducible refine' i_ixTH ?q1 ?q2 ?_); (case q1 => walk_at "hp"); (case q2 => exact rfl))
  | ((with_reducible refine' i_ixLH ?q1 ?q2 ?_); (case q1 => walk_at "hp"); (case q2 => exact rfl))
  | ((with_reducible refine i_addS ?q1 ?_); (case q1 => walk_at "ln")) | ((with_reducible refine i_lenSS ?q1 ?_); (case q1 => walk_at "ln")) | ((with_reducible refine i_slFrom ?q1 ?q2 ?_); (case q1 => walk_at "ln"); (case q2 => walk_at "ln")) | ((with_reducible refine i_slTo ?q1 ?q2 ?_); (case q1 => walk_at "ln"); (case q2 => walk_at "ln"))
  | ((with_reducible refine' i_tyL ?q1 ?_); (case q1 => walk_at "hp"))
  | ((with_reducible refine' i_gTupH ?q1 ?q2 ?_); (case q1 => walk_at "hp"); (case q2 => exact rfl))
  | (with_reducible refine i_dnewM ?_) | (with_reducible refine i_init ?_) | (with_reducible refine i_fst ?_) | (with_reducible refine i_mk ?_) | (with_reducible refine i_raise ?_) | (with_reducible refine i_callS ?_) | (with_reducible refine i_kwS ?_)
  | (with_reducible refine i_revT ?_) | (with_reducible refine i_kw ?_) | ((with_reducible refine' ⟨_, _, rfl, sqT_of ?q1, ?_⟩); (case q1 => walk_at "hp"))
  | (with_reducible refine i_revS ?_) | ((with_reducible refine i_revSS ?q1 ?_); (case q1 => walk_at "ln"))
  | (with_reducible refine i_startS ?_) | (with_reducible refine i_inSg ?_) | (with_reducible refine i_absN ?_) | (with_reducible refine i_min2 ?_) | (with_reducible refine i_max2 ?_) | (with_reducible refine i_min3 ?_) | (with_reducible refine i_intN ?_) | (with_reducible refine i_intNB ?_)
  | ((with_reducible refine' i_lenL ?q1 ?_); (case q1 => walk_at "hp")) | ((with_reducible refine' i_lenT ?q1 ?_); (case q1 => walk_at "hp"))
  | (with_reducible refine i_eqI ?_) | (with_reducible refine i_neI ?_) | (with_reducible refine i_eqS ?_) | (with_reducible refine i_neS ?_) | (with_reducible refine i_isNoI ?_) | (with_reducible refine i_isNoN ?_) | (with_reducible refine i_isNoR ?_)
  | ((with_reducible refine i_pow ?q1 ?q2 ?q3 ?_); (case q1 => decide); (case q2 => decide); (case q3 => (with_reducible omega)))
  | ((with_reducible refine i_rI ?q1 ?_); (case q1 => walk_at "ci"))
  | (with_reducible refine Or.inl ⟨_, rfl, ?_⟩) | (with_reducible refine Or.inr ⟨_, rfl, ?_⟩) | (with_reducible refine ⟨_, rfl, ?_⟩) | (with_reducible refine ⟨_, _, rfl, ?_⟩) | (with_reducible refine ⟨_, _, rfl, rfl, ?_⟩)
  | ((with_reducible refine' ⟨_, _, rfl, Or.inl (sqL_of ?q1), ?_⟩); (case q1 => walk_at "hp")) | ((with_reducible refine' ⟨_, _, rfl, Or.inr (sqT_of ?q1), ?_⟩); (case q1 => walk_at "hp")) | (with_reducible refine i_dget ?_) | (with_reducible refine i_disp1T ?_) | (with_reducible refine i_dcT ?_) | (with_reducible refine i_dnewT ?_) | (with_reducible refine i_fld ?_) | (with_reducible refine i_sFld ?_) | (with_reducible refine i_make ?_) | (with_reducible refine i_meth ?_) | (with_reducible refine i_star ?_) | (with_reducible refine i_isNoS ?_) | (with_reducible refine i_lc2 ?_) | fail)
local macro_rules | `(tactic| walk_at "rd") => `(tactic| repeat' walk_at "rd1")

/-! ### spoilt ends -/
/-- _law_spoilt_ends(box, ends) -/
def spSpEnds (K : PySem.W.Frag) : Sp := fun vs H Q _ => ∃ (b : Addr) (d : Int) (v : V) (n : Int) (sd ed : PyData) (ds es : List PyData), vs = [.ref b, v] ∧ BoxAt H b d ∧ Dz K (L2.del H b) v ed ∧ PtD n sd ed ds es ∧ ds.length ≤ 12 ∧ d + 20 ≤ 1000000 ∧
  ∀ v' d' H', Dz K (Fr H H') v' d' → ensB ds.length d' = false → Sd 6 20000 d' → BoxAt H' b (d + 20) → SB b H H' → Q v' H'
theorem ensB_len {m : Int} {es : List PyData} (h : (es.length : Int) ≠ m) : ensB m (.list es) = false := by
  simp only [ensB, seqL]
  rw [decide_eq_false h, Bool.false_and]
theorem ensB_one {m : Int} {es : List PyData} {e : PyData} (h : e ∈ es) (k : endB e = false) : ensB m (.list es) = false := by
  simp only [ensB, seqL]
  rw [all_no h k, Bool.and_false]
section
variable {P : Program} {w : World} {K : PySem.W.Frag} {mg : Str → Option Value} {base : Heap} {f : Addr} {fd : FuncData}
theorem ok_spen (F : Fun K "_law_spoilt_ends" "_law_spoilt_ends" s__law_spoilt_ends f fd) (z : Z mg) (c__law_take : Cal P w K mg base "_law_take" ["box", "many"] 1 spTake) : FnOk P w K mg base CX0 2 f fd ["box", "ends"] (spSpEnds K) := by
  refine F.ok sc__law_spoilt_ends (fun vs H Q E h => ?_) (fun cdv A outer s H vs Q E hr h => ?_)
  · obtain ⟨b, d, v, n, sd, ed, ds, es, rfl, _⟩ := h; rfl
  · obtain ⟨b, d, v, n, sd, ed, ds, es, rfl, B, hev, pd, l12, hd, k⟩ := h
    obtain ⟨_, _, _, _, hb0, _⟩ := B.ex
    have l1 := pd.l1
    have le := pd.le
    have hen := pd.en
    have hev' := hev
    rw [pd.eE] at hev'
    obtain ⟨ea, ys, rfl, hea, hys⟩ := hev'.lstI
    have ly := hys.len
    have neb : ea ≠ b := fun c => by rw [c, L2.del_same] at hea; cases hea
    have hea := del_sub _ _ hea
    have hys := hys.same del_sub
    have fle : flatTs es = true := flatTs_all fun e he => end_flat (hen e he).1
    refine ⟨_, (pss_cons (ps_par3 (i := 2) (j := 3) (l := 4) rfl sc__law_spoilt_ends.nd rfl rfl rfl (by decide) (by decide) (by decide) rfl rfl rfl (pa_cons (pe_callTy call_list_of (by rfl) z.list (by decide +kernel) (pa_cons (pv 1) pa_nil)) (pa_cons (pe_cal c__law_take hr (pa_cons (pv 0) (pa_cons (pe_callB call_lenQ (by rfl) z.len PySem.boot_len (pa_cons (pv 1) pa_nil)) pa_nil))) (pa_cons (pe_cal c__law_take hr (pa_cons (pv 0) (pa_cons pe_int pa_nil))) pa_nil))) (by rfl))
      (pss_cons (ps_set (i := 5) sc__law_spoilt_ends.nd rfl (.inl rfl) (pe_lst (pa_cons (pe_strS (l := [97, 98, 99, 100]) (by decide +kernel)) (pa_cons (pe_strS (l := [65]) (by decide +kernel)) (pa_cons (pe_strS (l := [96]) (by decide +kernel)) (pa_cons (pe_strS (l := [97, 123]) (by decide +kernel)) (pa_cons pe_int (pa_cons pe_bl (pa_cons (pe_lst (pa_cons (pe_strS (l := [97]) (by decide +kernel)) pa_nil)) (pa_cons (pe_tup (pa_cons (pe_strS (l := [97]) (by decide +kernel)) pa_nil)) (pa_cons (pe_tup (pa_cons pe_int (pa_cons (pe_strS (l := [97]) (by decide +kernel)) pa_nil))) (pa_cons (pe_strS (l := [32]) (by decide +kernel)) (pa_cons (pe_strS (l := [45]) (by decide +kernel)) (pa_cons (pe_strS (l := [97, 32, 98]) (by decide +kernel)) (pa_cons (pe_tup pa_nil) (pa_cons pe_int (pa_cons (pe_strS (l := [97, 10]) (by decide +kernel)) (pa_cons (pe_strS (l := [10]) (by decide +kernel)) pa_nil))))))))))))))))))
      (pss_cons (ps_if (pt_cmpR op_eq (pv 4) pe_int (nomark _))
        (pss_one (ps_set (i := 2) sc__law_spoilt_ends.nd rfl (.inl rfl) (pe_op op_cat (pv 2) (pe_lst (pa_cons (pe_ix ix_list (pe_lst (pa_cons pe_non (pa_cons (pe_strS (l := []) (by decide +kernel)) pa_nil))) (pe_cal c__law_take hr (pa_cons (pv 0) (pa_cons pe_int pa_nil))) (fun _ _ => rfl)) pa_nil)))))
        (pss_one (ps_if (pt_cmpR op_eq (pv 4) pe_int (nomark _))
          (pss_one (ps_set (i := 2) sc__law_spoilt_ends.nd rfl (.inl rfl) (pe_op op_cat (pe_slice sl_list (pv 2) po_none (po_some (pv 3))) (pe_slice sl_list (pv 2) (po_some (pe_op op_add (pv 3) pe_int)) po_none))))
          (pss_one (ps_if (pt_cmpR op_eq (pv 4) pe_int (nomark _))
            (pss_one (ps_ret (pe_ix ix_list (pe_lst (pa_cons pe_non (pa_cons (pe_op op_mulS (pe_strS (l := [97]) (by decide +kernel)) (pe_callB call_lenQ (by rfl) z.len PySem.boot_len (pa_cons (pv 1) pa_nil))) (pa_cons pe_dnewK (pa_cons pe_int pa_nil))))) (pe_cal c__law_take hr (pa_cons (pv 0) (pa_cons pe_int pa_nil))) (fun _ _ => rfl))))
            (pss_one (ps_asg (pe_ix ix_list (pv 5) (pe_cal c__law_take hr (pa_cons (pv 0) (pa_cons (pe_callB call_lenQ (by rfl) z.len PySem.boot_len (pa_cons (pv 5) pa_nil)) pa_nil))) (fun _ _ => rfl)) (pg_sub (pv 2) (pv 3) set_list))))))))
      (pss_one (ps_ret (pv 2)))))), ?_⟩
    walk_at "rd"
    intro wp nwp
    have s1 := same_upd (o := .lst ys) nwp
    have ew := upd_same (H := H) (a := wp) (o := .lst ys)
    generalize upd H wp (.lst ys) = H1 at *
    have B1 := B.same s1
    have hb1 := s1 _ _ hb0
    have hea1 := s1 _ _ hea
    have nwb : wp ≠ b := fun c => by rw [c, hb0] at nwp; cases nwp
    walk_at "rd"
    rw [ly, le]
    refine ⟨b, ds.length, _, rfl, B1, by omega, by omega, by omega, fun at_ H2 a0 a1 B2 s2 => ?_⟩
    obtain ⟨i, rfl⟩ : ∃ i : Nat, at_ = i := ⟨at_.toNat, by omega⟩
    walk_at "rd"
    refine ⟨b, 6, _, rfl, B2, by omega, by omega, by omega, fun way H3 w0 w1 B3 s3 => ?_⟩
    obtain ⟨_, _, _, _, hb3, _⟩ := B3.ex
    have s13 := s2.trans s3
    have ew3 := s13 _ _ nwb ew
    have hea3 := s13 _ _ neb hea1
    walk_at "rd"
    refine newL0 (Nat.le_of_ble_eq_true rfl) fun t0 H4 nt0 s4 e4 => ?_
    walk_at "rd"
    refine newT0 (Nat.le_of_ble_eq_true rfl) fun t1 H5 nt1 s5 e5 => ?_
    walk_at "rd"
    refine newT0 (Nat.le_of_ble_eq_true rfl) fun t2 H6 nt2 s6 e6 => ?_
    walk_at "rd"
    refine newT0 (Nat.le_of_ble_eq_true rfl) fun t3 H7 nt3 s7 e7 => ?_
    walk_at "rd"
    refine newL0 (Nat.le_of_ble_eq_true rfl) fun t4 H8 nt4 s8 e8 => ?_
    have s38 := s4.trans (s5.trans (s6.trans (s7.trans s8)))
    have B8 := B3.same s38
    obtain ⟨_, _, _, _, hb8, _⟩ := B8.ex
    have s08 : SB b H H8 := (SB.of s1).trans (s13.trans (SB.of s38))
    have ew8 := s38 _ _ ew3
    have hea8 := s38 _ _ hea3
    have hys8 : DzAll K (Fr H H8) ys es := (hys.nl (NL.sb hb0 s08) fle).fr fle
    have es2 : ∀ e ∈ es, Sd 3 400 e := fun e he => (hen e he).2.mono (by omega) (by omega)
    have fin : ∀ (H9 : Hp) (t : Addr) (zs : List V) (es' : List PyData), SB b H H9 → BoxAt H9 b (d + 20) → H t = none → H9 t = some (.lst zs) → DzAll K (Fr H H9) zs es' → ensB ds.length (.list es') = false → (∀ e ∈ es', Sd 3 400 e) → es'.length ≤ 14 → Q (.ref t) H9 := fun H9 t zs es' s9 B9 nt et dz bad sd l =>
      k _ _ _ (.lst (fr_at et (.inr nt)) dz) bad ((sd_lst sd).mono (by omega) (by omega)) B9 s9
    walk_at "rd"
    refine iteB (fun c0 => ?_) (fun c0 => ?_)
    · walk_at "rd"
      refine newL0 (Nat.le_of_ble_eq_true rfl) fun t5 H9 nt5 s9 e9 => ?_
      have nt5b : t5 ≠ b := fun c => by rw [c, hb8] at nt5; cases nt5
      walk_at "rd"
      refine ⟨b, 2, _, rfl, B8.same s9, by omega, by omega, by omega, fun r H10 r0 r1 B10 s10 => ?_⟩
      obtain ⟨v9, d9, ev9, D9, sd9⟩ : ∃ v9 d9, ([.non, .str (S [])] : List V)[r.toNat]? = some v9 ∧ (∀ H', Dz K H' v9 d9) ∧ Sd 0 10 d9 := by
        have hr : r = 0 ∨ r = 1 := by omega
        rcases hr with rfl | rfl
        · exact ⟨_, _, rfl, fun _ => .non, sd_non.mono (by omega) (by omega)⟩
        · exact ⟨_, _, rfl, fun _ => .str _, sdS (by decide) (by decide)⟩
      refine i_ixLv (s10 _ _ nt5b e9) r0 ev9 ?_
      walk_at "rd"
      have s810 : SB b H8 H10 := (SB.of s9).trans s10
      obtain ⟨_, _, _, _, hb10, _⟩ := B10.ex
      refine newL0 (Nat.le_of_ble_eq_true rfl) fun t6 H11 nt6 s11 e11 => ?_
      refine i_catN (s11 _ _ (s810 _ _ nwb ew8)) e11 (by simp; omega) fun t7 H12 nt7 s12 e12 => ?_
      walk_at "rd"
      have s1012 := s11.trans s12
      have s010 := s08.trans s810
      have s012 := s010.trans (SB.of s1012)
      have hys12 : DzAll K (Fr H H12) ys es := (hys.nl (NL.sb hb0 s012) fle).fr fle
      refine fin H12 t7 _ (es ++ [d9]) s012 ((B10.same s1012).mono (by omega)) (SB.dom s010 hb10 _ (s11.free nt7)) e12 (hys12.app (.cons (D9 _) .nil)) (ensB_len (by simp; omega)) (fun e he => ?_) (by simp; omega)
      rcases List.mem_append.mp he with he | he
      · exact es2 e he
      · rw [List.mem_singleton.mp he]; exact sd9.mono (by omega) (by omega)
    walk_at "rd"
    refine iteB (fun c1 => ?_) (fun c1 => ?_)
    · walk_at "rd"
      refine i_slLT ew8 fun t5 H9 nt5 s9 e9 => ?_
      walk_at "rd"
      refine i_slLF (n' := i + 1) (by omega) (s9 _ _ ew8) fun t6 H10 nt6 s10 e10 => ?_
      refine i_catN (s10 _ _ e9) e10 (by simp; omega) fun t7 H11 nt7 s11 e11 => ?_
      have s811 := s9.trans (s10.trans s11)
      walk_at "rd"
      have s011 := s08.trans (SB.of s811)
      have hys11 : DzAll K (Fr H H11) ys es := (hys.nl (NL.sb hb0 s011) fle).fr fle
      exact fin H11 t7 _ (es.take i ++ es.drop (i + 1)) s011 ((B8.same s811).mono (by omega)) (SB.dom s08 hb8 _ ((s9.trans s10).free nt7)) e11 ((hys11.take i).app (hys11.drop (i + 1))) (ensB_len (by simp; omega)) (fun e he => es2 e ((List.mem_append.mp he).elim List.mem_of_mem_take List.mem_of_mem_drop)) (by simp; omega)
    walk_at "rd"
    refine iteB (fun c2 => ?_) (fun c2 => ?_)
    · walk_at "rd"
      rw [ly, le]
      refine i_mulR (n := ds.length) (by omega) (by omega) ?_
      walk_at "rd"
      refine newD0 fun t5 H9 nt5 s9 e9 => ?_
      walk_at "rd"
      refine newL0 (Nat.le_of_ble_eq_true rfl) fun t6 H10 nt6 s10 e10 => ?_
      have nt5b : t5 ≠ b := fun c => by rw [c, hb8] at nt5; cases nt5
      have nt6b : t6 ≠ b := fun c => by rw [c, s9 _ _ hb8] at nt6; cases nt6
      walk_at "rd"
      refine ⟨b, 4, _, rfl, B8.same (s9.trans s10), by omega, by omega, by omega, fun r2 H11 r20 r21 B11 s11 => ?_⟩
      have e11 := s11 _ _ nt6b e10
      have e5' := s11 _ _ nt5b (s10 _ _ e9)
      obtain ⟨v9, d9, ev9, D9, r9, sd9⟩ : ∃ v9 d9, ([.non, .str (S (List.replicate ds.length 97)), .ref t5, .int 0] : List V)[r2.toNat]? = some v9 ∧ Dz K (Fr H H11) v9 d9 ∧ ensB ds.length d9 = false ∧ Sd 6 20000 d9 := by
        have hr : r2 = 0 ∨ r2 = 1 ∨ r2 = 2 ∨ r2 = 3 := by omega
        rcases hr with rfl | rfl | rfl | rfl
        · exact ⟨_, _, rfl, .non, rfl, sd_non.mono (by omega) (by omega)⟩
        · refine ⟨_, _, rfl, .str _, rfl, (sd_str fun c hc => ?_).mono (by omega) (by simp; omega)⟩
          rw [List.eq_of_mem_replicate hc]; omega
        · exact ⟨_, _, rfl, .emp (fr_at e5' (.inl nofun)), rfl, sd_emp.mono (by omega) (by omega)⟩
        · exact ⟨_, _, rfl, .int _, rfl, (sd_int (by decide)).mono (by omega) (by omega)⟩
      refine i_ixLv e11 r20 ev9 ?_
      walk_at "rd"
      exact k v9 d9 H11 D9 r9 sd9 (B11.mono (by omega)) (s08.trans ((SB.of (s9.trans s10)).trans s11))
    walk_at "rd"
    have n0 := nt0
    have t0b : t0 ≠ b := fun c => by rw [c, hb3] at nt0; cases nt0
    have t1b : t1 ≠ b := fun c => by rw [c, s4 _ _ hb3] at nt1; cases nt1
    have t2b : t2 ≠ b := fun c => by rw [c, s5 _ _ (s4 _ _ hb3)] at nt2; cases nt2
    have t3b : t3 ≠ b := fun c => by rw [c, s6 _ _ (s5 _ _ (s4 _ _ hb3))] at nt3; cases nt3
    have t4b : t4 ≠ b := fun c => by rw [c, s7 _ _ (s6 _ _ (s5 _ _ (s4 _ _ hb3)))] at nt4; cases nt4
    have t0w : t0 ≠ wp := fun c => by rw [c, ew3] at nt0; cases nt0
    refine ⟨b, 16, _, rfl, B8, by omega, by omega, by omega, fun r H9 r0 r1 B9 s9 => ?_⟩
    have s09 := s08.trans s9
    have hys9 : DzAll K H9 ys es := hys.nl (NL.sb hb0 s09) fle
    have ew9 := s9 _ _ nwb ew8
    have nH0 : H t0 = none := SB.dom ((SB.of s1).trans s13) hb3 _ nt0
    obtain ⟨v9, d9, ev9, D9, r9, sd9⟩ : ∃ v9 d9, ([.str (S [97, 98, 99, 100]), .str (S [65]), .str (S [96]), .str (S [97, 123]), .int 0, .bl false, .ref t0, .ref t1, .ref t2, .str (S [32]), .str (S [45]), .str (S [97, 32, 98]), .ref t3, .int 1, .str (S [97, 10]), .str (S [10])] : List V)[r.toNat]? = some v9 ∧
        (∀ xs : List V, Dz K (Fr H (upd H9 wp (.lst xs))) v9 d9) ∧ endB d9 = false ∧ Sd 3 400 d9 := by
      have hr : r = 0 ∨ r = 1 ∨ r = 2 ∨ r = 3 ∨ r = 4 ∨ r = 5 ∨ r = 6 ∨ r = 7 ∨ r = 8 ∨ r = 9 ∨ r = 10 ∨ r = 11 ∨ r = 12 ∨ r = 13 ∨ r = 14 ∨ r = 15 := by omega
      have nw : ∀ (t : Addr) (o : HO) (xs : List V), H9 t = some o → (∀ ys, o ≠ .lst ys) → Fr H (upd H9 wp (.lst xs)) t = some o := fun t o xs e no => fr_at (by rw [upd_ne (fun c => by rw [c, ew9] at e; cases e; exact no _ rfl)]; exact e) (.inl no)
      rcases hr with rfl | rfl | rfl | rfl | rfl | rfl | rfl | rfl | rfl | rfl | rfl | rfl | rfl | rfl | rfl | rfl
      · exact ⟨_, _, rfl, fun _ => .str _, by decide, (sdS (by decide) (by decide)).mono (by omega) (by omega)⟩
      · exact ⟨_, _, rfl, fun _ => .str _, by decide, (sdS (by decide) (by decide)).mono (by omega) (by omega)⟩
      · exact ⟨_, _, rfl, fun _ => .str _, by decide, (sdS (by decide) (by decide)).mono (by omega) (by omega)⟩
      · exact ⟨_, _, rfl, fun _ => .str _, by decide, (sdS (by decide) (by decide)).mono (by omega) (by omega)⟩
      · exact ⟨_, _, rfl, fun _ => .int _, rfl, (sd_int (by decide)).mono (by omega) (by omega)⟩
      · exact ⟨_, _, rfl, fun _ => .bl _, rfl, (sd_bl _).mono (by omega) (by omega)⟩
      · exact ⟨_, _, rfl, fun xs => .lst (fr_at (by rw [upd_ne t0w]; exact s9 _ _ t0b ((s5.trans (s6.trans (s7.trans s8))) _ _ e4)) (.inr nH0)) (.cons (.str _) .nil), rfl, sdo_l (.cons ((sdS (l := [97]) (by decide) (by decide)).mono (by omega) (Nat.le_refl _)) .nil) (by omega)⟩
      · exact ⟨_, _, rfl, fun xs => .tup (sqT_of (nw _ _ xs (s9 _ _ t1b ((s6.trans (s7.trans s8)) _ _ e5)) nofun)) (.cons (.str _) .nil), rfl, sdo_t (.cons ((sdS (l := [97]) (by decide) (by decide)).mono (by omega) (Nat.le_refl _)) .nil) (by omega)⟩
      · exact ⟨_, _, rfl, fun xs => .tup (sqT_of (nw _ _ xs (s9 _ _ t2b ((s7.trans s8) _ _ e6)) nofun)) (.cons (.int _) (.cons (.str _) .nil)), rfl, sdo_t (.cons ((sd_int (i := 0) (by decide)).mono (by omega) (Nat.le_refl _)) (.cons ((sdS (l := [97]) (by decide) (by decide)).mono (by omega) (Nat.le_refl _)) .nil)) (by omega)⟩
      · exact ⟨_, _, rfl, fun _ => .str _, by decide, (sdS (by decide) (by decide)).mono (by omega) (by omega)⟩
      · exact ⟨_, _, rfl, fun _ => .str _, by decide, (sdS (by decide) (by decide)).mono (by omega) (by omega)⟩
      · exact ⟨_, _, rfl, fun _ => .str _, by decide, (sdS (by decide) (by decide)).mono (by omega) (by omega)⟩
      · exact ⟨_, _, rfl, fun xs => .tup (sqT_of (nw _ _ xs (s9 _ _ t3b (s8 _ _ e7)) nofun)) .nil, rfl, sdo_t .nil (by omega)⟩
      · exact ⟨_, _, rfl, fun _ => .int _, rfl, (sd_int (by decide)).mono (by omega) (by omega)⟩
      · exact ⟨_, _, rfl, fun _ => .str _, by decide, (sdS (by decide) (by decide)).mono (by omega) (by omega)⟩
      · exact ⟨_, _, rfl, fun _ => .str _, by decide, (sdS (by decide) (by decide)).mono (by omega) (by omega)⟩
    refine i_ixLv (s9 _ _ t4b e8) r0 ev9 ?_
    walk_at "rd"
    refine i_setL ew9 (j := i) (ixN_j (by omega)) ?_
    walk_at "rd"
    refine fin _ wp _ (es.set i d9) (SB.set_new s09 nwp) ((B9.upd_ne' nwb).mono (by omega)) nwp upd_same (DzAll.set i ((hys9.nl (NL.lst ew9) fle).fr fle) (D9 _)) (ensB_one (mem_set (by omega)) r9) (fun e he => ?_) (by rw [List.length_set]; omega)
    rcases List.mem_or_eq_of_mem_set he with he | rfl
    · exact es2 e he
    · exact sd9
end
end Sw
namespace Sw
open PySem PySem.Spec PyProof.Rows L2
local macro_rules | `(tactic| walk_at "hp") => `(tactic| first
  | (with_reducible assumption) | (with_reducible exact upd_same)
  | ((with_reducible refine' upd_old ?q1 ?q2); (case q1 => (with_reducible assumption)); (case q2 => walk_at "hp"))
  | ((with_reducible refine' Same.at ?q1 ?q2); (case q1 => (with_reducible assumption)); (case q2 => walk_at "hp"))
  | ((with_reducible refine' upd_skip ?q1 ?q2); (case q1 => walk_at "ne"); (case q2 => walk_at "hp"))
  | fail)
local macro_rules | `(tactic| walk_at "ne") => `(tactic| first
  | (with_reducible assumption) | (with_reducible exact Ne.symm (by assumption))
  | ((with_reducible refine' ne_of_none ?q1 ?q2); (case q2 => (with_reducible assumption)); (case q1 => walk_at "hp"))
  | fail)
local macro_rules | `(tactic| walk_at "ci") => `(tactic| first | assumption | (show (0 : Int) < _; first | decide | (with_reducible omega)) | exact ⟨by decide, by decide⟩ | exact .inl ⟨by decide, by decide⟩ | exact .inr ⟨by decide, by decide⟩)
local macro_rules | `(tactic| walk_at "ln") => `(tactic| first | (with_reducible assumption) | (with_reducible omega) | (simp only [List.length_append, List.length_take, List.length_drop, List.length_reverse, List.length_cons, List.length_nil]; with_reducible omega))
local macro_rules | `(tactic| walk_at "rd1") => `(tactic| first
  | (with_reducible refine i_seq ?_) | (with_reducible refine i_asg ?_) | (with_reducible refine i_ret ?_) | (with_reducible refine i_name ?_) | ((with_reducible refine' i_var ?q1 ?_); (case q1 => exact rfl)) | (with_reducible refine i_c ?_) | (with_reducible refine i_op ?_) | (with_reducible refine i_un ?_)
  | (with_reducible refine i_rI0 ?_) | (with_reducible refine i_cb ?_) | (with_reducible refine i_cons ?_) | (with_reducible refine i_nil ?_) | (with_reducible refine i_call ?_) | (with_reducible refine i_if ?_) | (with_reducible refine i_ifE ?_) | (with_reducible refine i_test ?_) | (with_reducible refine i_bl ?_)
  | (with_reducible refine i_and ?_) | (with_reducible refine i_or ?_) | (with_reducible refine i_not ?_) | (with_reducible refine i_lstM ?_) | (with_reducible refine i_lstLM ?_) | (with_reducible refine i_tupM ?_) | (with_reducible refine i_next ?_) | (with_reducible refine i_drop ?_) | (with_reducible refine i_sub ?_)
  | (with_reducible refine i_bm ?_) | (with_reducible refine i_sl ?_) | (with_reducible refine i_part ?_) | (with_reducible refine i_nopart ?_) | (with_reducible refine i_exI ?_) | (with_reducible refine i_chain ?_) | ((with_reducible refine' i_aug ?q1 ?_); (case q1 => exact rfl)) | (with_reducible refine i_ip ?_)
  | (with_reducible refine i_par ?_) | (with_reducible refine i_pair ?_) | (with_reducible refine i_andV ?_) | (with_reducible refine i_orV ?_) | (with_reducible refine i_notV ?_) | (with_reducible refine i_m1 ?_) | (with_reducible refine i_str ?_)
  | (with_reducible refine iteF ?_) | (with_reducible refine iteT ?_) | (with_reducible refine iteNT ?_) | (with_reducible refine iteNF ?_) | (with_reducible refine i_tyS ?_) | (with_reducible refine i_tB ?_) | (with_reducible refine i_retN ?_) | (with_reducible refine i_par3 ?_) | (with_reducible refine i_trip ?_) | (with_reducible refine i_gCons ?_) | (with_reducible refine i_gNil ?_) | (with_reducible refine i_lstRg ?_) | (with_reducible refine i_rg1 ?_)
  | (with_reducible refine i_lc ?_) | (with_reducible refine i_for ?_) | (with_reducible refine i_iList ?_) | (with_reducible refine i_iTup ?_) | (with_reducible refine i_iStr ?_) | (with_reducible refine i_iRng1 ?_) | (with_reducible refine i_iEnS ?_)
  | ((with_reducible refine' i_ixTH ?q1 ?q2 ?_); (case q1 => walk_at "hp"); (case q2 => exact rfl))
  | ((with_reducible refine' i_ixLH ?q1 ?q2 ?_); (case q1 => walk_at "hp"); (case q2 => exact rfl))
  | ((with_reducible refine i_addS ?q1 ?_); (case q1 => walk_at "ln")) | ((with_reducible refine i_lenSS ?q1 ?_); (case q1 => walk_at "ln")) | ((with_reducible refine i_slFrom ?q1 ?q2 ?_); (case q1 => walk_at "ln"); (case q2 => walk_at "ln")) | ((with_reducible refine i_slTo ?q1 ?q2 ?_); (case q1 => walk_at "ln"); (case q2 => walk_at "ln"))
  | ((with_reducible refine' i_tyL ?q1 ?_); (case q1 => walk_at "hp"))
  | ((with_reducible refine' i_gTupH ?q1 ?q2 ?_); (case q1 => walk_at "hp"); (case q2 => exact rfl))
  | (with_reducible refine i_dnewM ?_) | (with_reducible refine i_init ?_) | (with_reducible refine i_fst ?_) | (with_reducible refine i_mk ?_) | (with_reducible refine i_raise ?_) | (with_reducible refine i_callS ?_) | (with_reducible refine i_kwS ?_)
  | (with_reducible refine i_revT ?_) | (with_reducible refine i_kw ?_) | ((with_reducible refine' ⟨_, _, rfl, sqT_of ?q1, ?_⟩); (case q1 => walk_at "hp"))
  | (with_reducible refine i_revS ?_) | ((with_reducible refine i_revSS ?q1 ?_); (case q1 => walk_at "ln"))
  | (with_reducible refine i_startS ?_) | (with_reducible refine i_inSg ?_) | (with_reducible refine i_absN ?_) | (with_reducible refine i_min2 ?_) | (with_reducible refine i_max2 ?_) | (with_reducible refine i_min3 ?_) | (with_reducible refine i_intN ?_) | (with_reducible refine i_intNB ?_)
  | ((with_reducible refine' i_lenL ?q1 ?_); (case q1 => walk_at "hp")) | ((with_reducible refine' i_lenT ?q1 ?_); (case q1 => walk_at "hp"))
  | (with_reducible refine i_eqI ?_) | (with_reducible refine i_neI ?_) | (with_reducible refine i_eqS ?_) | (with_reducible refine i_neS ?_) | (with_reducible refine i_isNoI ?_) | (with_reducible refine i_isNoN ?_) | (with_reducible refine i_isNoR ?_)
  | ((with_reducible refine i_pow ?q1 ?q2 ?q3 ?_); (case q1 => decide); (case q2 => decide); (case q3 => (with_reducible omega)))
  | ((with_reducible refine i_rI ?q1 ?_); (case q1 => walk_at "ci"))
  | (with_reducible refine Or.inl ⟨_, rfl, ?_⟩) | (with_reducible refine Or.inr ⟨_, rfl, ?_⟩) | (with_reducible refine ⟨_, rfl, ?_⟩) | (with_reducible refine ⟨_, _, rfl, ?_⟩) | (with_reducible refine ⟨_, _, rfl, rfl, ?_⟩)
  | ((with_reducible refine' ⟨_, _, rfl, Or.inl (sqL_of ?q1), ?_⟩); (case q1 => walk_at "hp")) | ((with_reducible refine' ⟨_, _, rfl, Or.inr (sqT_of ?q1), ?_⟩); (case q1 => walk_at "hp")) | (with_reducible refine i_dget ?_) | (with_reducible refine i_disp1T ?_) | (with_reducible refine i_dcT ?_) | (with_reducible refine i_dnewT ?_) | (with_reducible refine i_fld ?_) | (with_reducible refine i_sFld ?_) | (with_reducible refine i_make ?_) | (with_reducible refine i_meth ?_) | (with_reducible refine i_star ?_) | (with_reducible refine i_isNoS ?_) | (with_reducible refine i_lc2 ?_) | fail)
local macro_rules | `(tactic| walk_at "rd") => `(tactic| repeat' walk_at "rd1")

/-! ### what is refused -/
theorem seqL_tupR (d : PyData) : seqL (tupR d) = seqL d := by cases d <;> rfl
theorem rowB_tupR (n : Int) (d : PyData) : rowB n (tupR d) = rowB n d := by unfold rowB; rw [seqL_tupR]
theorem rowEB_tupR (m : Int) (d : PyData) : rowEB m (tupR d) = rowEB m d := by unfold rowEB; rw [seqL_tupR]
theorem endB_tupR (d : PyData) : endB (tupR d) = endB d := by cases d <;> rfl
theorem all_map_eq {α : Type} {f g : α → Bool} {h : α → α} (e : ∀ x, f (h x) = g x) : ∀ l : List α, (l.map h).all f = l.all g
  | [] => rfl
  | a :: l => by rw [List.map_cons, List.all_cons, List.all_cons, e, all_map_eq e l]
theorem stpB_tupD (n : Int) (d : PyData) : stpB n (tupD d) = stpB n d := by
  cases d <;> try rfl
  rename_i ds
  simp only [tupD, stpB, seqL, List.length_map]
  rw [all_map_eq (rowB_tupR n) ds, all_map_eq (rowEB_tupR ds.length) ds]
theorem ensB_tupD (m : Int) (d : PyData) : ensB m (tupD d) = ensB m d := by
  cases d <;> try rfl
  rename_i ds
  simp only [tupD, ensB, seqL, List.length_map]
  rw [all_map_eq endB_tupR ds]
theorem len_tupD (d : PyData) : (seqD (tupD d)).length = (seqD d).length := by
  cases d <;> try rfl
  rename_i ds
  simp only [tupD, seqD, seqL, Option.getD_some, List.length_map]
theorem Sd.tupR {n w : Nat} {d : PyData} (s : Sd (n + 1) w d) : Sd (n + 1) w (tupR d) := by
  cases d <;> first | exact s | exact sd_tup' s.lstI
theorem SdAll.tupR {n : Nat} : ∀ {w : Nat} {ds : List PyData}, SdAll (n + 1) w ds → SdAll (n + 1) w (ds.map tupR)
  | _, [], h => h
  | _, d :: ds, h => by
    obtain ⟨u, v, l, a, b⟩ := h.inv
    exact (SdAll.cons a.tupR (SdAll.tupR b)).mono (Nat.le_refl _) l
theorem Sd.tupD {n w : Nat} {d : PyData} (s : Sd (n + 2) w d) : Sd (n + 2) w (tupD d) := by
  cases d <;> first | exact s | exact sd_tup' s.lstI.tupR
/-- _law_refused_right(box, parts) -/
def spRef (K : PySem.W.Frag) : Sp := fun vs H Q _ => ∃ (b : Addr) (d : Int) (v2 : V) (n : Int) (sd ed : PyData) (ds es : List PyData), vs = [.ref b, v2] ∧ BoxAt H b d ∧ PtAt K (L2.del H b) v2 n sd ed ∧ PtD n sd ed ds es ∧ ds.length ≤ 12 ∧ d + 50 ≤ 1000000 ∧ Mk K H ∧
  ∀ H', BoxAt H' b (d + 50) → SB b H H' → Q (.bl true) H'
theorem str_int {n : Int} (h1 : 1 ≤ n) (h5 : n ≤ 5) : ∃ x : Str, Str.ofString (toString n) = x ∧ Sd 0 10 (.str x) := by
  have : n = 1 ∨ n = 2 ∨ n = 3 ∨ n = 4 ∨ n = 5 := by omega
  rcases this with rfl | rfl | rfl | rfl | rfl
  · exact ⟨S [49], by decide +kernel, sdS (by decide) (by decide)⟩
  · exact ⟨S [50], by decide +kernel, sdS (by decide) (by decide)⟩
  · exact ⟨S [51], by decide +kernel, sdS (by decide) (by decide)⟩
  · exact ⟨S [52], by decide +kernel, sdS (by decide) (by decide)⟩
  · exact ⟨S [53], by decide +kernel, sdS (by decide) (by decide)⟩
section
variable {P : Program} {w : World} {K : PySem.W.Frag} {mg : Str → Option Value} {base : Heap} {f : Addr} {fd : FuncData}
theorem ok_ref {C : Addr} (F : Fun K "_law_refused_right" "_law_refused_right" s__law_refused_right f fd) (z : Z mg) (c__law_take : Cal P w K mg base "_law_take" ["box", "many"] 1 spTake) (c__law_spoilt_steps : Cal P w K mg base "_law_spoilt_steps" ["box", "signs", "steps"] 2 (spSpSteps K)) (c__law_spoilt_ends : Cal P w K mg base "_law_spoilt_ends" ["box", "ends"] 2 (spSpEnds K))
    (c__law_tuples : Cal P w K mg base "_law_tuples" ["value"] 1 (spTuples K)) (c__law_met : Cal P w K mg base "_law_met" ["signs", "steps", "ends"] 7 (spMetF K C)) (q__law_door : CalG P w K mg base "_law_door" ["word", "signs", "steps", "ends"] 8 (spDoor K)) (q__law_stands : CalG P w K mg base "_law_stands" ["made", "parts"] 2 (spStands K C)) : FnG P w K mg base CX0 9 f fd ["box", "parts"] (spRef K) := by
  refine Sw.Fun.okG0 F sc__law_refused_right (fun vs H Q E h => ?_) (fun cdv A outer s H vs Q E hr quiet h => ?_)
  · obtain ⟨b, d, v2, n, sd, ed, ds, es, rfl, _⟩ := h; rfl
  · obtain ⟨b, d, v2, n, sd, ee, ds, es, rfl, B, pt, pd, l12, hd, mk, k⟩ := h
    obtain ⟨_, _, _, _, hb0, _⟩ := B.ex
    obtain ⟨pp, sv, ev, rfl, hpp, hsv, hev⟩ := id pt
    have n1 := pd.n1
    have n5 := pd.n5
    have npp : pp ≠ b := fun c => by rw [c, L2.del_same] at hpp; cases hpp
    have hpp := del_sub _ _ hpp
    obtain ⟨sn, esn, ssn⟩ := str_int n1 n5
    have gn : isG (.int n) = true := by simp only [isG, Bool.and_eq_true, decide_eq_true_eq]; exact ⟨n1, n5⟩
    have stp := pd.stp
    have ens := pd.ens
    have s1 := pd.s1.mono (n' := 6) (w' := 20000) (by omega) (by omega)
    have s2 := pd.s2.mono (n' := 6) (w' := 20000) (by omega) (by omega)
    have sI : ∀ i : Int, i.natAbs < 10 ^ 40 → Sd 6 20000 (.int i) := fun i h => (sd_int h).mono (by omega) (by omega)
    refine ⟨_, (pss_cons (ps_asg (pv 1) (pg_lst rfl (pgs_cons (pg_name (i := 2) sc__law_refused_right.nd rfl (.inl rfl)) (pgs_cons (pg_name (i := 3) sc__law_refused_right.nd rfl (.inl rfl)) (pgs_cons (pg_name (i := 4) sc__law_refused_right.nd rfl (.inl rfl)) pgs_nil)))))
      (pss_cons (ps_set (i := 5) sc__law_refused_right.nd rfl (.inl rfl) (pe_lst (pa_cons pe_int (pa_cons pe_int (pa_cons (pe_un un_neg pe_int) (pa_cons pe_non (pa_cons (pe_callTy call_str_int (by rfl) z.str (by decide +kernel) (pa_cons (pv 2) pa_nil)) (pa_cons pe_bl (pa_cons (pe_lst (pa_cons (pv 2) pa_nil)) (pa_cons (pe_tup (pa_cons (pv 2) pa_nil)) (pa_cons (pe_op op_pow pe_int pe_int) (pa_cons pe_bl (pa_cons (pe_un un_neg (pv 2)) (pa_cons pe_dnewK (pa_cons (pe_strS (l := []) (by decide +kernel)) (pa_cons pe_int pa_nil))))))))))))))))
      (pss_cons (ps_par3 (i := 6) (j := 7) (l := 8) rfl sc__law_refused_right.nd rfl rfl rfl (by decide) (by decide) (by decide) rfl rfl rfl (pa_cons (pe_ix ix_list (pv 5) (pe_cal c__law_take hr (pa_cons (pv 0) (pa_cons pe_int pa_nil))) (fun _ _ => rfl)) (pa_cons (pe_cal c__law_spoilt_steps hr (pa_cons (pv 0) (pa_cons (pv 2) (pa_cons (pv 3) pa_nil)))) (pa_cons (pe_cal c__law_spoilt_ends hr (pa_cons (pv 0) (pa_cons (pv 4) pa_nil))) pa_nil))) (by rfl))
      (pss_cons (ps_if (PW.pt (pw_or (pt_not (pt_val (pe_calG q__law_door hr quiet (pa_cons (pe_strS (l := [115, 105, 103, 110, 115]) (by decide +kernel)) (pa_cons (pv 6) (pa_cons (pv 3) (pa_cons (pv 4) pa_nil))))))) (pw_or1 (pt_not (pt_val (pe_calG q__law_door hr quiet (pa_cons (pe_strS (l := [115, 105, 103, 110, 115]) (by decide +kernel)) (pa_cons (pv 6) (pa_cons (pv 7) (pa_cons (pv 8) pa_nil))))))))))
        (pss_one (ps_ret pe_bl))
        pss_nil)
      (pss_cons (ps_if (PW.pt (pw_or (pt_not (pt_val (pe_calG q__law_door hr quiet (pa_cons (pe_strS (l := [115, 116, 101, 112, 115]) (by decide +kernel)) (pa_cons (pv 2) (pa_cons (pv 7) (pa_cons (pv 4) pa_nil))))))) (pw_or1 (pt_not (pt_val (pe_calG q__law_door hr quiet (pa_cons (pe_strS (l := [115, 116, 101, 112, 115]) (by decide +kernel)) (pa_cons (pv 2) (pa_cons (pv 7) (pa_cons (pv 8) pa_nil))))))))))
        (pss_one (ps_ret pe_bl))
        pss_nil)
      (pss_cons (ps_if (PW.pt (pw_or (pt_not (pt_val (pe_calG q__law_door hr quiet (pa_cons (pe_strS (l := [101, 110, 100, 115]) (by decide +kernel)) (pa_cons (pv 2) (pa_cons (pv 3) (pa_cons (pv 8) pa_nil))))))) (pw_or1 (pt_not (pt_val (pe_calG q__law_door hr quiet (pa_cons (pe_strS (l := [115, 116, 101, 112, 115]) (by decide +kernel)) (pa_cons (pe_op op_add pe_int (pe_op op_mod (pe_callTy call_intN (by rfl) z.int (by decide +kernel) (pa_cons (pv 2) pa_nil)) pe_int)) (pa_cons (pv 3) (pa_cons (pv 4) pa_nil))))))))))
        (pss_one (ps_ret pe_bl))
        pss_nil)
      (pss_cons (ps_if (pt_not (pt_val (pe_calG q__law_door hr quiet (pa_cons (pe_strS (l := [115, 116, 101, 112, 115]) (by decide +kernel)) (pa_cons (pv 2) (pa_cons (pe_cal c__law_tuples hr (pa_cons (pv 7) pa_nil)) (pa_cons (pe_cal c__law_tuples hr (pa_cons (pv 8) pa_nil)) pa_nil)))))))
        (pss_one (ps_ret pe_bl))
        pss_nil)
      (pss_cons (ps_if (pt_not (pt_val (pe_calG q__law_door hr quiet (pa_cons (pe_strS (l := [101, 110, 100, 115]) (by decide +kernel)) (pa_cons (pv 2) (pa_cons (pe_cal c__law_tuples hr (pa_cons (pv 3) pa_nil)) (pa_cons (pe_cal c__law_tuples hr (pa_cons (pv 8) pa_nil)) pa_nil)))))))
        (pss_one (ps_ret pe_bl))
        pss_nil)
      (pss_cons (ps_set (i := 9) sc__law_refused_right.nd rfl (.inl rfl) (pe_cal c__law_met hr (pa_cons (pv 2) (pa_cons (pv 3) (pa_cons (pv 4) pa_nil)))))
      (pss_one (ps_ret (pe_and (pe_cmpR op_eq (pe_ix ix_list (pv 9) pe_int (fun _ _ => rfl)) (pe_strS (l := [109, 97, 100, 101]) (by decide +kernel)) (nomark _)) (pe_one (pe_calG q__law_stands hr quiet (pa_cons (pe_ix ix_list (pv 9) pe_int (fun _ _ => rfl)) (pa_cons (pv 1) pa_nil)))))))))))))))), ?_⟩
    walk_at "rd"
    refine ⟨pp, _, rfl, sqL_of hpp, rfl, ?_⟩
    walk_at "rd"
    refine i_rU ?_
    walk_at "rd"
    refine ⟨Nat.lt_of_le_of_lt (Nat.log2_le_self _) (by omega), ?_⟩
    rw [esn]
    walk_at "rd"
    refine newL0 (Nat.le_of_ble_eq_true rfl) fun t1 H1 nt1 u1 e1 => ?_
    walk_at "rd"
    refine newT0 (Nat.le_of_ble_eq_true rfl) fun t2 H2 nt2 u2 e2 => ?_
    walk_at "rd"
    refine i_rU ?_
    walk_at "rd"
    refine newD0 fun t3 H3 nt3 u3 e3 => ?_
    walk_at "rd"
    refine newL0 (Nat.le_of_ble_eq_true rfl) fun t4 H4 nt4 u4 e4 => ?_
    have u04 := u1.trans (u2.trans (u3.trans u4))
    have t1b : t1 ≠ b := fun c => by rw [c, hb0] at nt1; cases nt1
    have t2b : t2 ≠ b := fun c => by rw [c, u1 _ _ hb0] at nt2; cases nt2
    have t3b : t3 ≠ b := fun c => by rw [c, u2 _ _ (u1 _ _ hb0)] at nt3; cases nt3
    have t4b : t4 ≠ b := fun c => by rw [c, u3 _ _ (u2 _ _ (u1 _ _ hb0))] at nt4; cases nt4
    walk_at "rd"
    have B4 := B.same u04
    refine ⟨b, 14, _, rfl, B4, by omega, by omega, by omega, fun r H5 r0 r1 B5 s5 => ?_⟩
    have dn : ∀ {p : Addr} {o : HO}, p ≠ b → H4 p = some o → L2.del H5 b p = some o := fun np e => (L2.del_ne np).trans (s5 _ _ np e)
    obtain ⟨bv, bd, ebv, Db, gb, sb⟩ : ∃ v9 d9, ([.int 0, .int 6, .int (-1), .non, .str sn, .bl true, .ref t1, .ref t2, .int (10 ^ (18 : Int).toNat), .bl false, .int (-n), .ref t3, .str (S []), .int 7] : List V)[r.toNat]? = some v9 ∧ Dz K (L2.del H5 b) v9 d9 ∧ isG d9 = false ∧ Sd 6 20000 d9 := by
      have hr : r = 0 ∨ r = 1 ∨ r = 2 ∨ r = 3 ∨ r = 4 ∨ r = 5 ∨ r = 6 ∨ r = 7 ∨ r = 8 ∨ r = 9 ∨ r = 10 ∨ r = 11 ∨ r = 12 ∨ r = 13 := by omega
      rcases hr with rfl | rfl | rfl | rfl | rfl | rfl | rfl | rfl | rfl | rfl | rfl | rfl | rfl | rfl
      · exact ⟨_, _, rfl, .int _, by decide, sI _ (by decide)⟩
      · exact ⟨_, _, rfl, .int _, by decide, sI _ (by decide)⟩
      · exact ⟨_, _, rfl, .int _, by decide, sI _ (by decide)⟩
      · exact ⟨_, _, rfl, .non, rfl, sd_non.mono (by omega) (by omega)⟩
      · exact ⟨_, _, rfl, .str _, rfl, ssn.mono (by omega) (by omega)⟩
      · exact ⟨_, _, rfl, .bl _, rfl, (sd_bl _).mono (by omega) (by omega)⟩
      · exact ⟨_, _, rfl, .lst (dn t1b ((u2.trans (u3.trans u4)) _ _ e1)) (.cons (.int _) .nil), rfl, (sd_lst' (.cons (sd_int (i := n) (by omega)) .nil)).mono (by omega) (by omega)⟩
      · exact ⟨_, _, rfl, .tup (sqT_of (dn t2b ((u3.trans u4) _ _ e2))) (.cons (.int _) .nil), rfl, (sd_tup' (.cons (sd_int (i := n) (by omega)) .nil)).mono (by omega) (by omega)⟩
      · exact ⟨_, _, rfl, .int _, by decide, sI _ (by decide)⟩
      · exact ⟨_, _, rfl, .bl _, rfl, (sd_bl _).mono (by omega) (by omega)⟩
      · exact ⟨_, _, rfl, .int _, by simp only [isG]; rw [decide_eq_false (by omega), Bool.false_and], sI _ (by omega)⟩
      · exact ⟨_, _, rfl, .emp (dn t3b (u4 _ _ e3)), rfl, sd_emp.mono (by omega) (by omega)⟩
      · exact ⟨_, _, rfl, .str _, rfl, (sdS (by decide) (by decide)).mono (by omega) (by omega)⟩
      · exact ⟨_, _, rfl, .int _, by decide, sI _ (by decide)⟩
    refine i_ixLv (s5 _ _ t4b e4) r0 ebv ?_
    have s05 : SB b H H5 := (SB.of u04).trans s5
    walk_at "rd"
    refine ⟨b, _, sv, n, sd, ee, ds, es, rfl, B5, hsv.same (del_sb s05), pd, l12, by omega, fun rv rd H6 DR bR sR B6 s6 => ?_⟩
    have s06 := s05.trans s6
    walk_at "rd"
    refine ⟨b, _, ev, n, sd, ee, ds, es, rfl, B6, hev.same (del_sb s06), pd, l12, by omega, fun wv wd H7 DW bW sW B7 s7 => ?_⟩
    have s07 := s06.trans s7
    obtain ⟨_, _, _, _, hb5, _⟩ := B5.ex
    obtain ⟨_, _, _, _, hb6, _⟩ := B6.ex
    have Dr : Dz K H7 rv rd := (DR.same (Fr.kept (Kept.sb hb6 (by rw [hb5]; simp) s7))).same fr_sub
    have Dw : Dz K H7 wv wd := DW.same fr_sub
    have Db : Dz K H7 bv bd := (Db.same (del_sb (s6.trans s7))).same del_sub
    have Ds : Dz K H7 sv sd := (hsv.same (del_sb s07)).same del_sub
    have De : Dz K H7 ev ee := (hev.same (del_sb s07)).same del_sub
    have pt7 : PtAt K H7 (.ref pp) n sd ee := (pt.same (del_sb s07)).same del_sub
    have mk7 := mk.sb hb0 s07
    clear DR DW
    have door : ∀ (Hk : Hp) (Q' : VK) (wd : List Nat) (v1 v2 v3 : V) (d1 d2 d3 : PyData), Same H7 Hk → Dz K Hk v1 d1 → Dz K Hk v2 d2 → Dz K Hk v3 d3 → Sd 6 20000 d1 → Sd 6 20000 d2 → Sd 6 20000 d3 →
        ((wd = tSigns ∧ isG d1 = false) ∨ (wd = tSteps ∧ ∃ n, d1 = .int n ∧ isG d1 = true ∧ stpB n d2 = false) ∨ (wd = tEnds ∧ ∃ n, d1 = .int n ∧ isG d1 = true ∧ stpB n d2 = true ∧ ensB (seqD d2).length d3 = false)) →
        (∀ H', Same H7 H' → Q' (.bl true) H') → spDoor K [.str (S wd), v1, v2, v3] Hk Q' E0 := fun Hk Q' wd v1 v2 v3 d1 d2 d3 u D1 D2 D3 s1 s2 s3 cs q => ⟨wd, v1, v2, v3, d1, d2, d3, rfl, mk7.same u, D1, D2, D3, s1, s2, s3, cs, fun H' s => q H' (u.trans s)⟩
    have sn7 := sI n (by omega)
    walk_at "rd"
    refine door _ _ tSigns _ _ _ bd sd ee (Same.refl _) Db Ds De sb s1 s2 (.inl ⟨rfl, gb⟩) fun H8 u8 => ?_
    walk_at "rd"
    refine door _ _ tSigns _ _ _ bd rd wd u8 (Db.same u8) (Dr.same u8) (Dw.same u8) sb sR sW (.inl ⟨rfl, gb⟩) fun H9 u9 => ?_
    walk_at "rd"
    refine door _ _ tSteps _ _ _ (.int n) rd ee u9 (.int _) (Dr.same u9) (De.same u9) sn7 sR s2 (.inr (.inl ⟨rfl, n, rfl, gn, bR⟩)) fun H10 u10 => ?_
    walk_at "rd"
    refine door _ _ tSteps _ _ _ (.int n) rd wd u10 (.int _) (Dr.same u10) (Dw.same u10) sn7 sR sW (.inr (.inl ⟨rfl, n, rfl, gn, bR⟩)) fun H11 u11 => ?_
    walk_at "rd"
    refine door _ _ tEnds _ _ _ (.int n) sd wd u11 (.int _) (Ds.same u11) (Dw.same u11) sn7 s1 sW (.inr (.inr ⟨rfl, n, rfl, gn, stp, by rw [pd.seq]; exact bW⟩)) fun H12 u12 => ?_
    walk_at "rd"
    have gn' : isG (.int (1 + n % 5)) = true := by simp only [isG, Bool.and_eq_true, decide_eq_true_eq]; omega
    have stp' : stpB (1 + n % 5) sd = false := by
      have l1 := pd.l1
      rw [pd.eS]
      simp only [stpB, seqL]
      obtain ⟨rs, ers, lrs, _⟩ := pd.row _ (List.getElem_mem (show 0 < ds.length by omega))
      rw [all_no (f := rowB (1 + n % 5)) (List.getElem_mem (show 0 < ds.length by omega)) (by rw [ers]; simp only [rowB, seqL]; exact decide_eq_false (by omega))]
      simp
    refine door _ _ tSteps _ _ _ (.int (1 + n % 5)) sd ee u12 (.int _) (Ds.same u12) (De.same u12) (sI _ (by omega)) s1 s2 (.inr (.inl ⟨rfl, _, rfl, gn', stp'⟩)) fun H13 u13 => ?_
    walk_at "rd"
    refine ⟨rv, rd, rfl, Dr.same u13, sR, fun v14 H14 u14 D14 => ?_⟩
    walk_at "rd"
    refine ⟨wv, wd, rfl, Dw.same (u13.trans u14), sW, fun v15 H15 u15 D15 => ?_⟩
    walk_at "rd"
    have u15' := u13.trans (u14.trans u15)
    refine door _ _ tSteps _ _ _ (.int n) (tupD rd) (tupD wd) u15' (.int _) (D14.same u15) D15 sn7 sR.tupD sW.tupD (.inr (.inl ⟨rfl, n, rfl, gn, by rw [stpB_tupD]; exact bR⟩)) fun H16 u16 => ?_
    walk_at "rd"
    refine ⟨sv, sd, rfl, Ds.same u16, s1, fun v17 H17 u17 D17 => ?_⟩
    walk_at "rd"
    refine ⟨wv, wd, rfl, Dw.same (u16.trans u17), sW, fun v18 H18 u18 D18 => ?_⟩
    walk_at "rd"
    have u18' := u16.trans (u17.trans u18)
    refine door _ _ tEnds _ _ _ (.int n) (tupD sd) (tupD wd) u18' (.int _) (D17.same u18) D18 sn7 s1.tupD sW.tupD (.inr (.inr ⟨rfl, n, rfl, gn, by rw [stpB_tupD]; exact stp, by rw [ensB_tupD, len_tupD, pd.seq]; exact bW⟩)) fun H19 u19 => ?_
    walk_at "rd"
    refine ⟨.int n, sv, ev, .int n, sd, ee, rfl, .int _, Ds.same u19, De.same u19, s1, s2, (fun q => by rw [gn] at q; cases q), fun m em _ q => (by cases em; rw [stp] at q; cases q), fun m em _ _ q => (by cases em; rw [pd.seq, ens] at q; cases q), fun m em _ _ _ t v H20 nt u20 D20 e20 => ?_⟩
    cases em
    rw [pd.seq] at D20
    have u20' := u19.trans u20
    walk_at "rd"
    rw [if_pos (decide_eq_true rfl)]
    walk_at "rd"
    refine ⟨v, _, n, sd, ee, ds, es, rfl, D20, pt7.same u20', pd, fun H21 u21 => ?_⟩
    have u721 := u20'.trans u21
    exact k H21 ((B7.same u721).mono (by omega)) (s07.trans (SB.of u721))
end
end Sw
namespace Sw
open PySem PySem.Spec PyProof.Rows L2
local macro_rules | `(tactic| walk_at "hp") => `(tactic| first
  | (with_reducible assumption) | (with_reducible exact upd_same)
  | ((with_reducible refine' upd_old ?q1 ?q2); (case q1 => (with_reducible assumption)); (case q2 => walk_at "hp"))
  | ((with_reducible refine' Same.at ?q1 ?q2); (case q1 => (with_reducible assumption)); (case q2 => walk_at "hp"))
  | ((with_reducible refine' upd_skip ?q1 ?q2); (case q1 => walk_at "ne"); (case q2 => walk_at "hp"))
  | fail)
local macro_rules | `(tactic| walk_at "ne") => `(tactic| first
  | (with_reducible assumption) | (with_reducible exact Ne.symm (by assumption))
  | ((with_reducible refine' ne_of_none ?q1 ?q2); (case q2 => (with_reducible assumption)); (case q1 => walk_at "hp"))
  | fail)
local macro_rules | `(tactic| walk_at "ci") => `(tactic| first | assumption | (show (0 : Int) < _; first | decide | (with_reducible omega)) | exact ⟨by decide, by decide⟩ | exact .inl ⟨by decide, by decide⟩ | exact .inr ⟨by decide, by decide⟩)
local macro_rules | `(tactic| walk_at "ln") => `(tactic| first | (with_reducible assumption) | (with_reducible omega) | (simp only [List.length_append, List.length_take, List.length_drop, List.length_reverse, List.length_cons, List.length_nil]; with_reducible omega))
local macro_rules | `(tactic| walk_at "rd1") => `(tactic| first
  | (with_reducible refine i_seq ?_) | (with_reducible refine i_asg ?_) | (with_reducible refine i_ret ?_) | (with_reducible refine i_name ?_) | ((with_reducible refine' i_var ?q1 ?_); (case q1 => exact rfl)) | (with_reducible refine i_c ?_) | (with_reducible refine i_op ?_) | (with_reducible refine i_un ?_)
  | (with_reducible refine i_rI0 ?_) | (with_reducible refine i_cb ?_) | (with_reducible refine i_cons ?_) | (with_reducible refine i_nil ?_) | (with_reducible refine i_call ?_) | (with_reducible refine i_if ?_) | (with_reducible refine i_ifE ?_) | (with_reducible refine i_test ?_) | (with_reducible refine i_bl ?_)
  | (with_reducible refine i_and ?_) | (with_reducible refine i_or ?_) | (with_reducible refine i_not ?_) | (with_reducible refine i_lstM ?_) | (with_reducible refine i_lstLM ?_) | (with_reducible refine i_tupM ?_) | (with_reducible refine i_next ?_) | (with_reducible refine i_drop ?_) | (with_reducible refine i_sub ?_)
  | (with_reducible refine i_bm ?_) | (with_reducible refine i_sl ?_) | (with_reducible refine i_part ?_) | (with_reducible refine i_nopart ?_) | (with_reducible refine i_exI ?_) | (with_reducible refine i_chain ?_) | ((with_reducible refine' i_aug ?q1 ?_); (case q1 => exact rfl)) | (with_reducible refine i_ip ?_)
  | (with_reducible refine i_par ?_) | (with_reducible refine i_pair ?_) | (with_reducible refine i_andV ?_) | (with_reducible refine i_orV ?_) | (with_reducible refine i_notV ?_) | (with_reducible refine i_m1 ?_) | (with_reducible refine i_str ?_)
  | (with_reducible refine iteF ?_) | (with_reducible refine iteT ?_) | (with_reducible refine iteNT ?_) | (with_reducible refine iteNF ?_) | (with_reducible refine i_tyS ?_) | (with_reducible refine i_tB ?_) | (with_reducible refine i_retN ?_) | (with_reducible refine i_par3 ?_) | (with_reducible refine i_trip ?_) | (with_reducible refine i_gCons ?_) | (with_reducible refine i_gNil ?_) | (with_reducible refine i_lstRg ?_) | (with_reducible refine i_rg1 ?_)
  | (with_reducible refine i_lc ?_) | (with_reducible refine i_for ?_) | (with_reducible refine i_iList ?_) | (with_reducible refine i_iTup ?_) | (with_reducible refine i_iStr ?_) | (with_reducible refine i_iRng1 ?_) | (with_reducible refine i_iEnS ?_)
  | ((with_reducible refine' i_ixTH ?q1 ?q2 ?_); (case q1 => walk_at "hp"); (case q2 => exact rfl))
  | ((with_reducible refine' i_ixLH ?q1 ?q2 ?_); (case q1 => walk_at "hp"); (case q2 => exact rfl))
  | ((with_reducible refine i_addS ?q1 ?_); (case q1 => walk_at "ln")) | ((with_reducible refine i_lenSS ?q1 ?_); (case q1 => walk_at "ln")) | ((with_reducible refine i_slFrom ?q1 ?q2 ?_); (case q1 => walk_at "ln"); (case q2 => walk_at "ln")) | ((with_reducible refine i_slTo ?q1 ?q2 ?_); (case q1 => walk_at "ln"); (case q2 => walk_at "ln"))
  | ((with_reducible refine' i_tyL ?q1 ?_); (case q1 => walk_at "hp"))
  | ((with_reducible refine' i_gTupH ?q1 ?q2 ?_); (case q1 => walk_at "hp"); (case q2 => exact rfl))
  | (with_reducible refine i_dnewM ?_) | (with_reducible refine i_init ?_) | (with_reducible refine i_fst ?_) | (with_reducible refine i_mk ?_) | (with_reducible refine i_raise ?_) | (with_reducible refine i_callS ?_) | (with_reducible refine i_kwS ?_)
  | (with_reducible refine i_revT ?_) | (with_reducible refine i_kw ?_) | ((with_reducible refine' ⟨_, _, rfl, sqT_of ?q1, ?_⟩); (case q1 => walk_at "hp"))
  | (with_reducible refine i_revS ?_) | ((with_reducible refine i_revSS ?q1 ?_); (case q1 => walk_at "ln"))
  | (with_reducible refine i_startS ?_) | (with_reducible refine i_inSg ?_) | (with_reducible refine i_absN ?_) | (with_reducible refine i_min2 ?_) | (with_reducible refine i_max2 ?_) | (with_reducible refine i_min3 ?_) | (with_reducible refine i_intN ?_) | (with_reducible refine i_intNB ?_)
  | ((with_reducible refine' i_lenL ?q1 ?_); (case q1 => walk_at "hp")) | ((with_reducible refine' i_lenT ?q1 ?_); (case q1 => walk_at "hp"))
  | (with_reducible refine i_eqI ?_) | (with_reducible refine i_neI ?_) | (with_reducible refine i_eqS ?_) | (with_reducible refine i_neS ?_) | (with_reducible refine i_isNoI ?_) | (with_reducible refine i_isNoN ?_) | (with_reducible refine i_isNoR ?_)
  | ((with_reducible refine i_pow ?q1 ?q2 ?q3 ?_); (case q1 => decide); (case q2 => decide); (case q3 => (with_reducible omega)))
  | ((with_reducible refine i_rI ?q1 ?_); (case q1 => walk_at "ci"))
  | (with_reducible refine Or.inl ⟨_, rfl, ?_⟩) | (with_reducible refine Or.inr ⟨_, rfl, ?_⟩) | (with_reducible refine ⟨_, rfl, ?_⟩) | (with_reducible refine ⟨_, _, rfl, ?_⟩) | (with_reducible refine ⟨_, _, rfl, rfl, ?_⟩)
  | ((with_reducible refine' ⟨_, _, rfl, Or.inl (sqL_of ?q1), ?_⟩); (case q1 => walk_at "hp")) | ((with_reducible refine' ⟨_, _, rfl, Or.inr (sqT_of ?q1), ?_⟩); (case q1 => walk_at "hp")) | (with_reducible refine i_dget ?_) | (with_reducible refine i_disp1T ?_) | (with_reducible refine i_dcT ?_) | (with_reducible refine i_dnewT ?_) | (with_reducible refine i_fld ?_) | (with_reducible refine i_sFld ?_) | (with_reducible refine i_make ?_) | (with_reducible refine i_meth ?_) | (with_reducible refine i_star ?_) | (with_reducible refine i_isNoS ?_) | (with_reducible refine i_lc2 ?_) | fail)
local macro_rules | `(tactic| walk_at "rd") => `(tactic| repeat' walk_at "rd1")

/-! ### one box -/
/-- _law_right(box) -/
def spRight (K : PySem.W.Frag) : Sp := fun vs H Q _ => ∃ (b : Addr) (d : Int), vs = [.ref b] ∧ BoxAt H b d ∧ d + 1000 ≤ 1000000 ∧ Mk K H ∧ ∀ H', BoxAt H' b (d + 1000) → SB b H H' → Q (.bl true) H'
/-- what stays while handed lists change -/
structure Ch (H1 Hk : Hp) (b kp : Addr) (d : Int) (ks : List V) (H : Hp) : Prop where
  sb : SB b H1 H
  nl : NL Hk H
  ek : H kp = some (.lst ks)
  B : BoxAt H b d
section
variable {H1 Hk H H' : Hp} {b kp : Addr} {d d' : Int} {ks : List V}
theorem Ch.set {a : Addr} {xs ys : List V} (h : Ch H1 Hk b kp d ks H) (e : H a = some (.lst xs)) (n1 : H1 a = none) (nk : a ≠ kp) (nb : a ≠ b) : Ch H1 Hk b kp d ks (upd H a (.lst ys)) :=
  ⟨SB.set_new h.sb n1, h.nl.trans (NL.lst e), by rw [upd_ne (Ne.symm nk)]; exact h.ek, h.B.upd_ne' nb⟩
theorem Ch.same (h : Ch H1 Hk b kp d ks H) (s : Same H H') : Ch H1 Hk b kp d ks H' := ⟨h.sb.trans (SB.of s), h.nl.trans (NL.of s), s _ _ h.ek, h.B.same s⟩
theorem Ch.box (h : Ch H1 Hk b kp d ks H) (s : SB b H H') (B : BoxAt H' b d') (nk : kp ≠ b) : Ch H1 Hk b kp d' ks H' := by
  obtain ⟨_, _, _, _, hb, _⟩ := h.B.ex
  exact ⟨h.sb.trans s, h.nl.trans (NL.sb hb s), s _ _ nk h.ek, B⟩
end
theorem listed_tup {ds ds' : List PyData} {d' sd : PyData} (h1 : seqL d' = some ds') (h2 : ds'.map tup1 = ds.map tup1) (hs : seqD sd = ds) : tupS d' = tupS sd := by
  unfold tupS; rw [hs, ← h2]; unfold seqD; rw [h1]; rfl
theorem listed_stp {n : Int} {sd ed d' : PyData} {ds es ds' : List PyData} (pd : PtD n sd ed ds es) (h1 : seqL d' = some ds') (hl : ds'.length = ds.length) (h3 : ∀ e ∈ ds', ∃ rs : List PyData, PyData.list rs ∈ ds ∧ (e = PyData.list rs ∨ e = PyData.tuple rs)) : stpB n d' = true ∧ Sd 6 20000 d' := by
  have l1 := pd.l1
  have l2 := pd.l2
  have n5 := pd.n5
  have rowE : ∀ e ∈ ds', rowB n e = true ∧ rowEB ds.length e = true ∧ Sd 3 105 e := fun e he => by
    obtain ⟨rs, hm, h⟩ := h3 e he
    have r := pd.row _ hm
    have rr := r.row
    have sr := r.sd n5
    rcases h with rfl | rfl
    · exact ⟨rr.1, rr.2, sr.mono (by omega) (by omega)⟩
    · exact ⟨rr.1, rr.2, (sd_tup' (n := 1) sr.lstI).mono (by omega) (by omega)⟩
  refine ⟨?_, ?_⟩
  · unfold stpB
    rw [h1]
    simp only [Bool.and_eq_true, decide_eq_true_eq, List.all_eq_true]
    rw [hl]
    exact ⟨⟨⟨by omega, by omega⟩, fun x hx => (rowE x hx).1⟩, fun x hx => (rowE x hx).2.1⟩
  · have sl := sd_lst fun e he => (rowE e he).2.2
    have st := sd_tup fun e he => (rowE e he).2.2
    cases d' <;> first | (cases h1; done) | skip
    · cases h1; exact sl.mono (by omega) (by omega)
    · cases h1; exact st.mono (by omega) (by omega)
section
variable {P : Program} {w : World} {K : PySem.W.Frag} {mg : Str → Option Value} {base : Heap} {f : Addr} {fd : FuncData}
theorem ok_right {C : Addr} (F : Fun K "_law_right" "_law_right" s__law_right f fd) (z : Z mg) (eqD : EqI P w K mg base 1 C (spEqD K C)) (ed : EqD K C) (c__law_take : Cal P w K mg base "_law_take" ["box", "many"] 1 spTake) (c__law_parts : Cal P w K mg base "_law_parts" ["box"] 5 (spParts K)) (c__law_listed : Cal P w K mg base "_law_listed" ["box", "rows"] 2 (spListed K))
    (m_Decoder : C8.Mak P w K mg base 5 "Decoder" C (spIni0 K C) []) (q__law_stands : CalG P w K mg base "_law_stands" ["made", "parts"] 2 (spStands K C)) (q__law_equal_right : CalG P w K mg base "_law_equal_right" ["box", "made", "parts"] 7 (spEqual K C)) (q__law_refused_right : CalG P w K mg base "_law_refused_right" ["box", "parts"] 9 (spRef K)) : FnG P w K mg base CX0 10 f fd ["box"] (spRight K) := by
  refine Sw.Fun.okG0 F sc__law_right (fun vs H Q E h => ?_) (fun cdv A outer s H vs Q E hr quiet h => ?_)
  · obtain ⟨b, d, rfl, _⟩ := h; rfl
  · obtain ⟨b, d, rfl, B, hd, mk, k⟩ := h
    obtain ⟨_, _, _, _, hb0, _⟩ := B.ex
    refine ⟨_, (pss_cons (ps_set (i := 1) sc__law_right.nd rfl (.inl rfl) (pe_cal c__law_parts hr (pa_cons (pv 0) pa_nil)))
      (pss_cons (ps_asg (pv 1) (pg_lst rfl (pgs_cons (pg_name (i := 2) sc__law_right.nd rfl (.inl rfl)) (pgs_cons (pg_name (i := 3) sc__law_right.nd rfl (.inl rfl)) (pgs_cons (pg_name (i := 4) sc__law_right.nd rfl (.inl rfl)) pgs_nil)))))
      (pss_cons (ps_par (i := 5) (j := 6) rfl sc__law_right.nd rfl rfl (by decide) rfl rfl (pa_cons (pe_lc (own := [("row", 7)]) (g := gName 7) (tt := tYes) rfl sc__law_right.nd (pi_list (pv 3)) (blkOk_by (own := [("row", 7)]) (N := n__law_right) (sc := defScope s__law_right) (by decide +kernel)) (fun _ _ _ _ _ => (pg_name (i := 7) sc__law_right.nd rfl (.inl rfl))) (fun _ _ _ _ _ => pts_nil) (fun _ _ _ _ _ => (pe_callTy (call_list_ofB (K := K) rfl) (by rfl) z.list (by decide +kernel) (pa_cons (pv 7) pa_nil)))) (pa_cons (pe_callTy call_list_of (by rfl) z.list (by decide +kernel) (pa_cons (pv 4) pa_nil)) pa_nil)) (by rfl))
      (pss_cons (ps_set (i := 8) sc__law_right.nd rfl (.inl rfl) (pe_lst (pa_cons (C8.pe_mk m_Decoder hr (by decide) (by rfl) (pa_cons (pv 2) (pa_cons (pv 5) (pa_cons (pv 6) pa_nil)))) (pa_cons (C8.pe_mk m_Decoder hr (by decide) (by rfl) (pa_cons (pv 2) (pa_cons (pe_cal c__law_listed hr (pa_cons (pv 0) (pa_cons (pv 3) pa_nil))) (pa_cons (pe_callTy call_tuple_of (by rfl) z.tuple (by decide +kernel) (pa_cons (pv 4) pa_nil)) pa_nil)))) pa_nil))))
      (pss_cons (ps_set (i := 7) sc__law_right.nd rfl (.inl rfl) (pe_ix ix_list (pv 5) (pe_cal c__law_take hr (pa_cons (pv 0) (pa_cons (pe_callB call_lenQ (by rfl) z.len PySem.boot_len (pa_cons (pv 5) pa_nil)) pa_nil))) (fun _ _ => rfl)))
      (pss_cons (ps_asg (pe_tup (pa_cons pe_int (pa_cons (pe_strS (l := [122, 122, 122]) (by decide +kernel)) pa_nil))) (pg_sub (pv 7) (pe_cal c__law_take hr (pa_cons (pv 0) (pa_cons (pv 2) pa_nil))) set_list))
      (pss_cons (ps_expr (pe_bm PySem.F.plainAttrs_list PySem.F.slot_list_append PySem.F.type_list_append mt_append (pv 7) (pa_cons pe_non pa_nil)))
      (pss_cons (ps_expr (pe_bm PySem.F.plainAttrs_list PySem.F.slot_list_append PySem.F.type_list_append mt_append (pv 5) (pa_cons (pe_lst pa_nil) pa_nil)))
      (pss_cons (ps_expr (pe_bm PySem.F.plainAttrs_list PySem.F.slot_list_append PySem.F.type_list_append mt_append (pv 6) (pa_cons (pe_strS (l := [122, 122]) (by decide +kernel)) pa_nil)))
      (pss_cons (ps_asg (pe_strS (l := [122]) (by decide +kernel)) (pg_sub (pv 6) pe_int set_list))
      (pss_cons (ps_if (PW.pt (pw_or (pt_not (pt_val (pe_calG q__law_stands hr quiet (pa_cons (pe_ix ix_list (pv 8) pe_int (fun _ _ => rfl)) (pa_cons (pv 1) pa_nil))))) (pw_or (pt_not (pt_val (pe_calG q__law_stands hr quiet (pa_cons (pe_ix ix_list (pv 8) pe_int (fun _ _ => rfl)) (pa_cons (pv 1) pa_nil))))) (pw_or1 (pt_not (pt_cmpR (op_eqM eqD ed hr) (pe_ix ix_list (pv 8) pe_int (fun _ _ => rfl)) (pe_ix ix_list (pv 8) pe_int (fun _ _ => rfl)) (nomark _)))))))
        (pss_one (ps_ret pe_bl))
        pss_nil)
      (pss_cons (ps_if (PW.pt (pw_or (pt_not (pt_val (pe_calG q__law_equal_right hr quiet (pa_cons (pv 0) (pa_cons (pe_ix ix_list (pv 8) pe_int (fun _ _ => rfl)) (pa_cons (pv 1) pa_nil)))))) (pw_or1 (pt_not (pt_val (pe_calG q__law_refused_right hr quiet (pa_cons (pv 0) (pa_cons (pv 1) pa_nil))))))))
        (pss_one (ps_ret pe_bl))
        pss_nil)
      (pss_one (ps_ret (pe_and (pe_calG q__law_stands hr quiet (pa_cons (pe_ix ix_list (pv 8) pe_int (fun _ _ => rfl)) (pa_cons (pv 1) pa_nil))) (pe_one (pe_calG q__law_stands hr quiet (pa_cons (pe_ix ix_list (pv 8) pe_int (fun _ _ => rfl)) (pa_cons (pv 1) pa_nil))))))))))))))))))), ?_⟩
    walk_at "rd"
    refine ⟨b, _, rfl, B, by omega, fun v n sd ee ds es H1 pt pd l12 B1 s1 => ?_⟩
    obtain ⟨_, _, _, _, hb1, _⟩ := B1.ex
    have h0n : H b ≠ none := by rw [hb0]; simp
    have pt := pt.same (Fr.del hb1 h0n)
    have mk1 := mk.sb hb0 s1
    obtain ⟨pp, sv, ev, rfl, hpp, hsv, hev⟩ := id pt
    have n1 := pd.n1
    have n5 := pd.n5
    have ok := pd.ok
    have l1 := pd.l1
    have le := pd.le
    obtain ⟨rss, e1, hr2⟩ := pd.rss
    have lr : ds.length = rss.length := by rw [e1, List.length_map]
    have hsv' := hsv
    have hev' := hev
    rw [pd.eS, e1] at hsv'
    rw [pd.eE] at hev'
    obtain ⟨sa, xs, rfl, hsa, hxs⟩ := hsv'.lstI
    obtain ⟨ea, ys, rfl, hea, hys⟩ := hev'.lstI
    have neb : ea ≠ b := fun c => by rw [c, L2.del_same] at hea; cases hea
    have lx := hxs.len
    rw [List.length_map] at lx
    have ly := hys.len
    have hpp := del_sub _ _ hpp
    have hsa := del_sub _ _ hsa
    have hea := del_sub _ _ hea
    have hxs := hxs.same del_sub
    have hys := hys.same del_sub
    have flr := rss_flat hr2
    have fle : flatTs es = true := flatTs_all fun e he => end_flat (pd.en e he).1
    walk_at "rd"
    refine ⟨pp, _, rfl, sqL_of hpp, rfl, ?_⟩
    walk_at "rd"
    refine ⟨⟨_, sqL_of hsa⟩, ?_⟩
    refine go_copy (K := K) (walk_list (xs := xs)) hsa hxs (by omega) flr (fun v rs Hx R sx hv hR => ?_) mono_name (fun rp qs H2 nrp nqs rw2 s2 => ?_)
    · obtain ⟨q, zs, rfl, hq, hzs⟩ := hv.lstI
      walk_at "rd"
      refine ⟨rfl, ?_⟩
      walk_at "rd"
      exact fun t nt => hR t zs nt hzs
    have nrb : rp ≠ b := fun c => by rw [c, hb1] at nrp; cases nrp
    have nqb : ∀ q ∈ qs, q ≠ b := fun q hq c => by have := nqs q hq; rw [c, hb1] at this; cases this
    have hea2 := s2 _ _ hea
    walk_at "rd"
    intro gp ngp
    have g3 := same_upd (o := .lst ys) ngp
    have eg := upd_same (H := H2) (a := gp) (o := .lst ys)
    generalize upd H2 gp (.lst ys) = H3 at *
    have s13 := s2.trans g3
    have ngr : gp ≠ rp := fun c => by rw [c, rw2.e] at ngp; cases ngp
    have ngq : gp ∉ qs := fun c => by
      obtain ⟨i, hi⟩ := List.getElem?_of_mem c
      have li := lt_of_get hi
      have ei : rss[i]? = some (rss[i]'(by rw [← rw2.ln]; exact li)) := List.getElem?_eq_getElem _
      obtain ⟨v, e, _⟩ := rw2.at_ _ _ _ hi ei
      rw [ngp] at e; cases e
    have ngp1 : H1 gp = none := s2.free ngp
    have ngb : gp ≠ b := fun c => by rw [c, hb1] at ngp1; cases ngp1
    have rw3 := rw2.same g3
    have esd : PyData.list (rss.map .list) = sd := by rw [pd.eS, e1]
    have eed : PyData.list es = ee := pd.eE.symm
    have dR := rw3.dz
    rw [esd] at dR
    have dE : Dz K H3 (.ref gp) ee := by rw [← eed]; exact .lst eg (hys.same s13)
    have S1 := pd.s1.mono (n' := 6) (w' := 20000) (by omega) (by omega)
    have S2 := pd.s2.mono (n' := 6) (w' := 20000) (by omega) (by omega)
    walk_at "rd"
    refine i_makeD (Q := fun v H3 => tCons _ _ _ H3 (fun xs H2 => NewL (v :: xs) H2 _)) (E := E0) (d2 := sd) (d3 := ee) dR dE S1 S2 n1 n5 pd.stp (by rw [pd.seq]; exact pd.ens) (fun v1 H4 s4 D1 => ?_)
    rw [pd.seq] at D1
    have s14 := s13.trans s4
    have B4 := B1.same s14
    walk_at "rd"
    refine ⟨b, _, .ref sa, n, ds.length, ds, rfl, B4, ?_, by omega, pd.row, n5, by omega, fun v5 d5 ds5 H5 D5 q5 l5 m5 r5 B5 s5 => ?_⟩
    · exact hsv.same (del_sb (SB.of s14)) |> fun h => by rw [← pd.eS]; exact h
    have s15 := (SB.of s14).trans s5
    obtain ⟨_, _, _, _, hb4, _⟩ := B4.ex
    have hea5 := s15 _ _ neb hea
    obtain ⟨st5, sd5⟩ := listed_stp pd q5 l5 r5
    have ls5 : seqD d5 = ds5 := by unfold seqD; rw [q5]; rfl
    walk_at "rd"
    refine ⟨ea, _, rfl, .inl ⟨sqL_of hea5, fun t6 nt6 => ?_⟩⟩
    have s6 := same_upd (o := .tup ys) nt6
    have e6 := upd_same (H := H5) (a := t6) (o := .tup ys)
    generalize upd H5 t6 (.tup ys) = H6 at *
    have s16 := s15.trans (SB.of s6)
    have Dt6 : Dz K H6 (.ref t6) (.tuple es) := .tup (sqT_of e6) (hys.nl (NL.sb hb1 s16) fle)
    have sdt : Sd 6 20000 (.tuple es) := by
      have := pd.s2
      rw [pd.eE] at this
      exact (sd_tup' (n := 0) this.lstI).mono (by omega) (by omega)
    have enst : ensB (seqD d5).length (.tuple es) = true := by
      rw [ls5, l5]
      have := pd.ens
      rw [pd.eE] at this
      exact this
    walk_at "rd"
    refine i_makeD (Q := fun v H3 => tNil _ H3 (fun xs H2 => NewL (v1 :: v :: xs) H2 _)) (E := E0) (d2 := d5) (d3 := .tuple es) (D5.same s6) Dt6 sd5 sdt n1 n5 st5 enst (fun v2 H7 s7 D2 => ?_)
    rw [ls5, l5, listed_tup q5 m5 pd.seq, show tup1 (.tuple es) = tup1 ee by rw [pd.eE]; rfl] at D2
    have s57 := s6.trans s7
    walk_at "rd"
    refine newL0 (Nat.le_of_ble_eq_true rfl) fun kp H8 nkp s8 e8 => ?_
    have s58 := s57.trans s8
    have rw8 := (((rw3.same s4).sb hb4 (Ne.symm nrb) (fun c => nqb _ c rfl) s5)).same s58
    have eg5 := s5 _ _ ngb (s4 _ _ eg)
    have eg8 := s58 _ _ eg5
    have nl48 : NL H4 H8 := (NL.sb hb4 s5).trans (NL.of s58)
    have D1 := D1.nl nl48 ok
    have D2 := D2.same s8
    have B8 := B5.same s58
    have s18 : SB b H1 H8 := s15.trans (SB.of s58)
    have kb : kp ≠ b := fun c => by
      obtain ⟨_, _, _, _, hb5, _⟩ := B5.ex
      rw [c, s57 _ _ hb5] at nkp; cases nkp
    have rkp : rp ≠ kp := fun c => by
      have := ((((rw3.same s4).sb hb4 (Ne.symm nrb) (fun c => nqb _ c rfl) s5)).same s57).e
      rw [c, nkp] at this; cases this
    have gkp : gp ≠ kp := fun c => by
      have := s57 _ _ eg5
      rw [c, nkp] at this; cases this
    have qkp : ∀ q ∈ qs, q ≠ kp := fun q hq c => by
      obtain ⟨i, hi⟩ := List.getElem?_of_mem hq
      have li := lt_of_get hi
      have ei : rss[i]? = some (rss[i]'(by rw [← rw8.ln]; exact li)) := List.getElem?_eq_getElem _
      obtain ⟨v, e, _⟩ := ((((rw3.same s4).sb hb4 (Ne.symm nrb) (fun c => nqb _ c rfl) s5)).same s57).at_ _ _ _ hi ei
      rw [c, nkp] at e; cases e
    have ch8 : Ch H1 H8 b kp (d + 500 + 50) [v1, v2] H8 := ⟨s18, NL.of (fun _ _ e => e), e8, B8⟩
    have er8 := rw8.e
    have lq := rw8.ln
    walk_at "rd"
    rw [List.length_map, lq]
    refine ⟨b, rss.length, _, rfl, B8, by omega, by omega, by omega, fun at_ H9 a0 a1 B9 s9 => ?_⟩
    obtain ⟨i, rfl⟩ : ∃ i : Nat, at_ = i := ⟨at_.toNat, by omega⟩
    obtain ⟨_, _, _, _, hb8, _⟩ := B8.ex
    have ch9 := ch8.box s9 B9 kb
    have rw9 := rw8.sb hb8 (Ne.symm nrb) (fun c => nqb _ c rfl) s9
    have eg9 := s9 _ _ ngb eg8
    have gi : rss[i]? = some (rss[i]'(by omega)) := List.getElem?_eq_getElem _
    generalize rss[i]'(by omega) = ri at gi
    obtain ⟨q, vq, gq, eq9, dq9, mq⟩ := rw9.get gi
    have hri := hr2 ri (List.mem_of_getElem? gi)
    have lvq := dq9.len
    have nqb' := nqb q mq
    refine i_ixLv rw9.e (by omega) (v := .ref q) (by rw [Int.toNat_natCast, List.getElem?_map, gq]; rfl) ?_
    walk_at "rd"
    refine newT0 (Nat.le_of_ble_eq_true rfl) fun t10 H10 nt10 s10 e10 => ?_
    have ch10 := ch9.same s10
    walk_at "rd"
    refine ⟨b, n, _, rfl, ch10.B, by omega, by omega, by omega, fun aa H11 b0 b1 B11 s11 => ?_⟩
    obtain ⟨j, rfl⟩ : ∃ j : Nat, aa = j := ⟨aa.toNat, by omega⟩
    have ch11 := ch10.box s11 B11 kb
    have eq11 := s11 _ _ nqb' (s10 _ _ eq9)
    have er11 := s11 _ _ nrb (s10 _ _ rw9.e)
    have eg11 := s11 _ _ ngb (s10 _ _ eg9)
    have nqr : q ≠ rp := fun c => rw9.ni (by rw [← c]; exact mq)
    have nqg : q ≠ gp := fun c => ngq (by rw [← c]; exact mq)
    refine i_setL eq11 (j := j) (ixN_j (by omega)) ?_
    have ch12 := ch11.set (ys := vq.set j (.ref t10)) eq11 (nqs q mq) (qkp q mq) nqb'
    have eq12 : upd H11 q (.lst (vq.set j (.ref t10))) q = _ := upd_same
    have er12 : upd H11 q (.lst (vq.set j (.ref t10))) rp = _ := (upd_ne (Ne.symm nqr)).trans er11
    have eg12 : upd H11 q (.lst (vq.set j (.ref t10))) gp = _ := (upd_ne (Ne.symm nqg)).trans eg11
    generalize upd H11 q (.lst (vq.set j (.ref t10))) = H12 at *
    walk_at "rd"
    refine ⟨q, _, _, rfl, rfl, eq12, Nat.lt_of_lt_of_le (show _ < 100000 by rw [List.length_set]; omega) (Nat.le_of_ble_eq_true rfl), ?_⟩
    have ch13 := ch12.set (ys := vq.set j (.ref t10) ++ [.non]) eq12 (nqs q mq) (qkp q mq) nqb'
    have er13 : upd H12 q (.lst (vq.set j (.ref t10) ++ [.non])) rp = _ := (upd_ne (Ne.symm nqr)).trans er12
    have eg13 : upd H12 q (.lst (vq.set j (.ref t10) ++ [.non])) gp = _ := (upd_ne (Ne.symm nqg)).trans eg12
    generalize upd H12 q (.lst (vq.set j (.ref t10) ++ [.non])) = H13 at *
    walk_at "rd"
    refine newL0 (Nat.le_of_ble_eq_true rfl) fun l14 H14 nl14 s14' e14 => ?_
    have ch14 := ch13.same s14'
    have er14 := s14' _ _ er13
    have eg14 := s14' _ _ eg13
    refine ⟨rp, _, _, rfl, rfl, er14, Nat.lt_of_lt_of_le (show _ < 100000 by rw [List.length_map]; omega) (Nat.le_of_ble_eq_true rfl), ?_⟩
    have ch15 := ch14.set (ys := qs.map V.ref ++ [.ref l14]) er14 nrp rkp nrb
    have eg15 : upd H14 rp (.lst (qs.map V.ref ++ [.ref l14])) gp = _ := (upd_ne ngr).trans eg14
    generalize upd H14 rp (.lst (qs.map V.ref ++ [.ref l14])) = H15 at *
    walk_at "rd"
    refine ⟨gp, _, _, rfl, rfl, eg15, Nat.lt_of_lt_of_le (show _ < 100000 by omega) (Nat.le_of_ble_eq_true rfl), ?_⟩
    have ch16 := ch15.set (ys := ys ++ [.str (S [122, 122])]) eg15 ngp1 gkp ngb
    have eg16 : upd H15 gp (.lst (ys ++ [.str (S [122, 122])])) gp = _ := upd_same
    generalize upd H15 gp (.lst (ys ++ [.str (S [122, 122])])) = H16 at *
    walk_at "rd"
    refine i_setL eg16 (j := 0) (ixN_j (n := (ys ++ [V.str (S [122, 122])]).length) (j := 0) (by simp)) ?_
    have ch17 := ch16.set (ys := (ys ++ [V.str (S [122, 122])]).set 0 (.str (S [122]))) eg16 ngp1 gkp ngb
    generalize upd H16 gp (.lst ((ys ++ [V.str (S [122, 122])]).set 0 (.str (S [122])))) = H17 at *
    have D1 := D1.nl ch17.nl ok
    have D2 := D2.nl ch17.nl ok
    have e17 := ch17.ek
    have B17 := ch17.B
    have pt17 : PtAt K (L2.del H17 b) (.ref pp) n sd ee := pt.same (del_sb ch17.sb)
    have ptd := pt17.same del_sub
    have sb17 := ch17.sb
    clear eg8 eg5 er8 eg9 eq9 eq11 er11 eg11
    walk_at "rd"
    refine ⟨v1, _, n, sd, ee, ds, es, rfl, D1, ptd, pd, fun H18 u18 => ?_⟩
    walk_at "rd"
    refine ⟨v2, _, n, sd, ee, ds, es, rfl, D2.same u18, ptd.same u18, pd, fun H19 u19 => ?_⟩
    have w19 := u18.trans u19
    have yes : (PyData.eqv (tupS sd) (tupS sd) && PyData.eqv (tup1 ee) (tup1 ee)) = true := by rw [eqv_self _ (flatT_noDict ok.f1), eqv_self _ (flatT_noDict ok.f2)]; rfl
    walk_at "rd"
    refine i_eqMD (D1.same w19) ok (D2.same w19) ok fun H20 u20 => ?_
    rw [yes, decide_eq_true rfl, Bool.and_self]
    have w20 := w19.trans u20
    clear w19
    walk_at "rd"
    refine ⟨b, _, v1, _, n, sd, ee, ds, es, rfl, B17.same w20, D1.same w20, pt17.same (del_sb (SB.of w20)), pd, l12, by omega, fun H21 B21 u21 => ?_⟩
    have sb21 : SB b H17 H21 := (SB.of w20).trans u21
    have pt21 := pt17.same (del_sb sb21)
    have e21 := sb21 _ _ kb e17
    obtain ⟨_, _, _, _, hb17, _⟩ := B17.ex
    have D1' := D1.nl (NL.sb hb17 sb21) ok
    have D2' := D2.nl (NL.sb hb17 sb21) ok
    have mk21 := mk1.sb hb1 (sb17.trans sb21)
    clear w20 u20 u19 u18 u21
    walk_at "rd"
    refine ⟨b, _, _, n, sd, ee, ds, es, rfl, B21, pt21, pd, l12, by omega, mk21, fun H22 B22 u22 => ?_⟩
    obtain ⟨_, _, _, _, hb21, _⟩ := B21.ex
    have e22 := u22 _ _ kb e21
    have D1' := D1'.nl (NL.sb hb21 u22) ok
    have D2' := D2'.nl (NL.sb hb21 u22) ok
    have pt22 := (pt21.same (del_sb u22)).same del_sub
    walk_at "rd"
    refine ⟨v1, _, n, sd, ee, ds, es, rfl, D1', pt22, pd, fun H23 u23 => ?_⟩
    walk_at "rd"
    refine ⟨v2, _, n, sd, ee, ds, es, rfl, D2'.same u23, pt22.same u23, pd, fun H24 u24 => ?_⟩
    have w24 := u23.trans u24
    exact k H24 ((B22.same w24).mono (by omega)) (s1.trans (sb17.trans (sb21.trans (u22.trans (SB.of w24)))))
end
end Sw
namespace Sw
open PySem PySem.Spec PyProof.Rows L2
local macro_rules | `(tactic| walk_at "hp") => `(tactic| first
  | (with_reducible assumption) | (with_reducible exact upd_same)
  | ((with_reducible refine' upd_old ?q1 ?q2); (case q1 => (with_reducible assumption)); (case q2 => walk_at "hp"))
  | ((with_reducible refine' Same.at ?q1 ?q2); (case q1 => (with_reducible assumption)); (case q2 => walk_at "hp"))
  | ((with_reducible refine' upd_skip ?q1 ?q2); (case q1 => walk_at "ne"); (case q2 => walk_at "hp"))
  | fail)
local macro_rules | `(tactic| walk_at "ne") => `(tactic| first
  | (with_reducible assumption) | (with_reducible exact Ne.symm (by assumption))
  | ((with_reducible refine' ne_of_none ?q1 ?q2); (case q2 => (with_reducible assumption)); (case q1 => walk_at "hp"))
  | fail)
local macro_rules | `(tactic| walk_at "ci") => `(tactic| first | assumption | (show (0 : Int) < _; first | decide | (with_reducible omega)) | exact ⟨by decide, by decide⟩ | exact .inl ⟨by decide, by decide⟩ | exact .inr ⟨by decide, by decide⟩)
local macro_rules | `(tactic| walk_at "ln") => `(tactic| first | (with_reducible assumption) | (with_reducible omega) | (simp only [List.length_append, List.length_take, List.length_drop, List.length_reverse, List.length_cons, List.length_nil]; with_reducible omega))
local macro_rules | `(tactic| walk_at "rd1") => `(tactic| first
  | (with_reducible refine i_seq ?_) | (with_reducible refine i_asg ?_) | (with_reducible refine i_ret ?_) | (with_reducible refine i_name ?_) | ((with_reducible refine' i_var ?q1 ?_); (case q1 => exact rfl)) | (with_reducible refine i_c ?_) | (with_reducible refine i_op ?_) | (with_reducible refine i_un ?_)
  | (with_reducible refine i_rI0 ?_) | (with_reducible refine i_cb ?_) | (with_reducible refine i_cons ?_) | (with_reducible refine i_nil ?_) | (with_reducible refine i_call ?_) | (with_reducible refine i_if ?_) | (with_reducible refine i_ifE ?_) | (with_reducible refine i_test ?_) | (with_reducible refine i_bl ?_)
  | (with_reducible refine i_and ?_) | (with_reducible refine i_or ?_) | (with_reducible refine i_not ?_) | (with_reducible refine i_lstM ?_) | (with_reducible refine i_lstLM ?_) | (with_reducible refine i_tupM ?_) | (with_reducible refine i_next ?_) | (with_reducible refine i_drop ?_) | (with_reducible refine i_sub ?_)
  | (with_reducible refine i_bm ?_) | (with_reducible refine i_sl ?_) | (with_reducible refine i_part ?_) | (with_reducible refine i_nopart ?_) | (with_reducible refine i_exI ?_) | (with_reducible refine i_chain ?_) | ((with_reducible refine' i_aug ?q1 ?_); (case q1 => exact rfl)) | (with_reducible refine i_ip ?_)
  | (with_reducible refine i_par ?_) | (with_reducible refine i_pair ?_) | (with_reducible refine i_andV ?_) | (with_reducible refine i_orV ?_) | (with_reducible refine i_notV ?_) | (with_reducible refine i_m1 ?_) | (with_reducible refine i_str ?_)
  | (with_reducible refine iteF ?_) | (with_reducible refine iteT ?_) | (with_reducible refine iteNT ?_) | (with_reducible refine iteNF ?_) | (with_reducible refine i_tyS ?_) | (with_reducible refine i_tB ?_) | (with_reducible refine i_retN ?_) | (with_reducible refine i_par3 ?_) | (with_reducible refine i_trip ?_) | (with_reducible refine i_gCons ?_) | (with_reducible refine i_gNil ?_) | (with_reducible refine i_lstRg ?_) | (with_reducible refine i_rg1 ?_)
  | (with_reducible refine i_lc ?_) | (with_reducible refine i_for ?_) | (with_reducible refine i_iList ?_) | (with_reducible refine i_iTup ?_) | (with_reducible refine i_iStr ?_) | (with_reducible refine i_iRng1 ?_) | (with_reducible refine i_iEnS ?_)
  | ((with_reducible refine' i_ixTH ?q1 ?q2 ?_); (case q1 => walk_at "hp"); (case q2 => exact rfl))
  | ((with_reducible refine' i_ixLH ?q1 ?q2 ?_); (case q1 => walk_at "hp"); (case q2 => exact rfl))
  | ((with_reducible refine i_addS ?q1 ?_); (case q1 => walk_at "ln")) | ((with_reducible refine i_lenSS ?q1 ?_); (case q1 => walk_at "ln")) | ((with_reducible refine i_slFrom ?q1 ?q2 ?_); (case q1 => walk_at "ln"); (case q2 => walk_at "ln")) | ((with_reducible refine i_slTo ?q1 ?q2 ?_); (case q1 => walk_at "ln"); (case q2 => walk_at "ln"))
  | ((with_reducible refine' i_tyL ?q1 ?_); (case q1 => walk_at "hp"))
  | ((with_reducible refine' i_gTupH ?q1 ?q2 ?_); (case q1 => walk_at "hp"); (case q2 => exact rfl))
  | (with_reducible refine i_dnewM ?_) | (with_reducible refine i_init ?_) | (with_reducible refine i_fst ?_) | (with_reducible refine i_mk ?_) | (with_reducible refine i_raise ?_) | (with_reducible refine i_callS ?_) | (with_reducible refine i_kwS ?_)
  | (with_reducible refine i_revT ?_) | (with_reducible refine i_kw ?_) | ((with_reducible refine' ⟨_, _, rfl, sqT_of ?q1, ?_⟩); (case q1 => walk_at "hp"))
  | (with_reducible refine i_revS ?_) | ((with_reducible refine i_revSS ?q1 ?_); (case q1 => walk_at "ln"))
  | (with_reducible refine i_startS ?_) | (with_reducible refine i_inSg ?_) | (with_reducible refine i_absN ?_) | (with_reducible refine i_min2 ?_) | (with_reducible refine i_max2 ?_) | (with_reducible refine i_min3 ?_) | (with_reducible refine i_intN ?_) | (with_reducible refine i_intNB ?_)
  | ((with_reducible refine' i_lenL ?q1 ?_); (case q1 => walk_at "hp")) | ((with_reducible refine' i_lenT ?q1 ?_); (case q1 => walk_at "hp"))
  | (with_reducible refine i_eqI ?_) | (with_reducible refine i_neI ?_) | (with_reducible refine i_eqS ?_) | (with_reducible refine i_neS ?_) | (with_reducible refine i_isNoI ?_) | (with_reducible refine i_isNoN ?_) | (with_reducible refine i_isNoR ?_)
  | ((with_reducible refine i_pow ?q1 ?q2 ?q3 ?_); (case q1 => decide); (case q2 => decide); (case q3 => (with_reducible omega)))
  | ((with_reducible refine i_rI ?q1 ?_); (case q1 => walk_at "ci"))
  | (with_reducible refine Or.inl ⟨_, rfl, ?_⟩) | (with_reducible refine Or.inr ⟨_, rfl, ?_⟩) | (with_reducible refine ⟨_, rfl, ?_⟩) | (with_reducible refine ⟨_, _, rfl, ?_⟩) | (with_reducible refine ⟨_, _, rfl, rfl, ?_⟩)
  | ((with_reducible refine' ⟨_, _, rfl, Or.inl (sqL_of ?q1), ?_⟩); (case q1 => walk_at "hp")) | ((with_reducible refine' ⟨_, _, rfl, Or.inr (sqT_of ?q1), ?_⟩); (case q1 => walk_at "hp")) | (with_reducible refine i_dget ?_) | (with_reducible refine i_disp1T ?_) | (with_reducible refine i_dcT ?_) | (with_reducible refine i_dnewT ?_) | (with_reducible refine i_fld ?_) | (with_reducible refine i_sFld ?_) | (with_reducible refine i_make ?_) | (with_reducible refine i_meth ?_) | (with_reducible refine i_star ?_) | (with_reducible refine i_isNoS ?_) | (with_reducible refine i_lc2 ?_) | fail)
local macro_rules | `(tactic| walk_at "rd") => `(tactic| repeat' walk_at "rd1")

/-- law(script) -/
def spLaw (K : PySem.W.Frag) : Sp := fun vs H Q _ => ∃ (a : Addr) (ns : List Int), vs = [.ref a] ∧ Mk K H ∧ SqL K H a (ns.map V.int) ∧ ns.length ≤ 100 ∧ ∀ H', Same H H' → Q (.bl true) H'
section
variable {P : Program} {w : World} {K : PySem.W.Frag} {mg : Str → Option Value} {base : Heap} {f : Addr} {fd : FuncData}
theorem ok_law (F : Fun K "law" "law" s_law f fd) (z : Z mg) (q__law_right : CalG P w K mg base "_law_right" ["box"] 10 (spRight K)) (q__law_many_right : CalG P w K mg base "_law_many_right" ["box"] 9 (spMany K))
    (c__law_box : Cal P w K mg base "_law_box" ["great"] 1 spBox) (c__law_cell : Cal P w K mg base "_law_cell" ["script", "k"] 1 (spCell K)) : FnG P w K mg base CX0 11 f fd ["script"] (spLaw K) := by
  refine Sw.Fun.okG0 F sc_law (fun vs H Q E h => ?_) (fun cdv A outer s H vs Q E hr quiet h => ?_)
  · obtain ⟨a, ns, rfl, _⟩ := h; rfl
  · obtain ⟨a, ns, rfl, mk, L, ln, k⟩ := h
    refine ⟨_, (pss_cons (ps_for PassesOwn.never rfl (pi_range1 (by rfl) z.range (pa_cons (pe_callB (call_max2N rfl) (by rfl) z.max_ (by decide +kernel) (pa_cons pe_int (pa_cons (pe_callB (call_min2N rfl) (by rfl) z.min_ (by decide +kernel) (pa_cons pe_int (pa_cons (pe_callB call_lenQ (by rfl) z.len PySem.boot_len (pa_cons (pv 0) pa_nil)) pa_nil))) pa_nil))) pa_nil)) (pg_name (i := 1) sc_law.nd rfl (.inl rfl))
        (pss_cons (ps_set (i := 2) sc_law.nd rfl (.inl rfl) (pe_cal c__law_box hr (pa_cons (pe_cal c__law_cell hr (pa_cons (pv 0) (pa_cons (pv 1) pa_nil))) pa_nil)))
        (pss_one (ps_if (PW.pt (pw_or (pt_not (pt_val (pe_calG q__law_right hr quiet (pa_cons (pv 2) pa_nil)))) (pw_or1 (pt_not (pt_val (pe_calG q__law_many_right hr quiet (pa_cons (pv 2) pa_nil)))))))
          (pss_one (ps_ret pe_bl))
          pss_nil))))
      (pss_one (ps_ret pe_bl))), ?_⟩
    walk_at "rd"
    refine i_lenK L ?_
    walk_at "rd"
    rw [List.length_map]
    refine i_rng (by omega) (by omega) ?_
    refine go_for walk_rangeZ (fun i σ H2 => ∃ u1 u2, σ = [some (.ref a), u1, u2] ∧ Same H H2) ⟨none, none, rfl, Same.refl _⟩ (fun _ _ _ _ _ => trivial) (fun i v σ H2 H3 hi p y => ?_) (fun σ H2 p => ?_)
    · obtain ⟨u1, u2, rfl, s2⟩ := p
      obtain ⟨rfl, rfl⟩ := y
      walk_at "rd"
      refine ⟨a, ns, i, rfl, Same.sqL s2 L, by omega, by omega, fun v H4 s4 => ?_⟩
      walk_at "rd"
      refine ⟨v, rfl, fun b H5 nb s5 B5 => ?_⟩
      have s05 := s2.trans (s4.trans s5)
      walk_at "rd"
      refine ⟨b, 0, rfl, B5, by omega, mk.same s05, fun H6 B6 s6 => ?_⟩
      obtain ⟨_, _, _, _, hb5, _⟩ := B5.ex
      walk_at "rd"
      refine ⟨b, _, rfl, B6, by omega, (mk.same s05).sb hb5 s6, fun H7 B7 s7 => ?_⟩
      have keep : Same H H7 := fun x o e => by
        have e4 := s4 _ _ (s2 _ _ e)
        have nxb : x ≠ b := ne_of_none e4 nb
        exact s7 _ _ nxb (s6 _ _ nxb (s5 _ _ e4))
      walk_at "rd"
      exact keep
    · obtain ⟨u1, u2, rfl, s2⟩ := p
      walk_at "rd"
      exact k _ s2
end
end Sw
namespace Sw
open PySem PySem.Spec PyProof.Rows L2
theorem def_mk {K : PySem.W.Frag} {h : Heap} {mg : Str → Option Value} {x : Str} {st : Stmt} {f : Addr} {od an : Option Addr} {sl : Array (Option Value)} {oc kV dc pm cd ct : Value} (X : K.In h) (G : h.Ns mainGlobals mg)
    (a : PySem.W.nsIn K mainGlobals x = some (some (.ref f))) (l : K.lookup f = some ⟨oc, od, .func (PySem.W.fnOf x x (defArgs st) (defBody st) (defScope st) .none kV dc pm an cd ct), sl⟩) (c : PySem.W.codeIn K cd x = true) (k : PySem.W.keepIn K (.ref f) = true) : Def K mg x st :=
  ⟨f, _, fun_mk l c k, PySem.W.mg_of X G a⟩
theorem oex_mk {K : PySem.W.Frag} {C B N : Addr} {nm q : Str} {bs : List Value} {sn : List Str} {sub : List Value} {ab : Bool} {col : Option Bool} {dd : Option Addr} {k0 k1 k2 k3 k5 : Option Value}
    (h : K.lookup C = some (excClassObj nm q C N bs [.ref B, .type "Exception", .type "BaseException", .type "object"] true sn sub ab col dd k0 k1 k2 k3 k5 "Exception.__new__")) (sa : PySem.W.findIn K (.ref C) "__setattr__" = some (some (.builtin "object.__setattr__"))) (exC : PySem.W.subIn K (.ref C) (.type "BaseException") = some true)
    (tyC : PySem.W.typeIn K (.ref C) = some (.type "type")) (kC : PySem.W.keepIn K (.ref C) = true) : OexE K C := ⟨⟨nm, q, N, bs, [B], sn, sub, ab, col, dd, k0, k1, k2, k3, k5, h⟩, sa, exC, tyC, kC⟩
theorem exm_mk {K : PySem.W.Frag} {c : Value} (h1 : PySem.W.subIn K c (.type "BaseException") = some true) (h2 : PySem.W.kitCls K c c = some true) : PySem.W.exmOne K c c = some true := by
  unfold PySem.W.exmOne
  rw [h1]
  exact h2
theorem exn_mk {K : PySem.W.Frag} {d c : Value} (h1 : PySem.W.subIn K c (.type "BaseException") = some true) (h2 : PySem.W.kitCls K d c = some false) : PySem.W.exmOne K d c = some false := by
  unfold PySem.W.exmOne
  rw [h1]
  exact h2
/-- an own exception class, its __init__ apart -/
structure XI (x q : Str) (st : Stmt) (K : PySem.W.Frag) (mg : Str → Option Value) (C : Addr) : Prop where
  T : OexE K C
  xf : XfC K C
  no : PySem.W.findIn K (.ref C) "given" = some none
  hm : mg x = some (.ref C)
  me : PySem.W.exmOne K (.ref C) (.ref C) = some true
  ini : ∃ (fI : Addr) (fd : FuncData), PySem.W.findIn K (.ref C) "__init__" = some (some (.ref fI)) ∧ PySem.W.typeIn K (.ref fI) = some (.type "function") ∧ Fun K "__init__" q st fI fd
theorem iniq_mk {K : PySem.W.Frag} {q : Str} {st : Stmt} {C fI : Addr} {od an : Option Addr} {sl : Array (Option Value)} {oc kV dc pm cd ct : Value} (i : PySem.W.findIn K (.ref C) "__init__" = some (some (.ref fI))) (t : PySem.W.typeIn K (.ref fI) = some (.type "function"))
    (l : K.lookup fI = some ⟨oc, od, .func (PySem.W.fnOf "__init__" q (defArgs st) (defBody st) (defScope st) .none kV dc pm an cd ct), sl⟩) (c : PySem.W.codeIn K cd q = true) (k : PySem.W.keepIn K (.ref fI) = true) :
    ∃ (fI : Addr) (fd : FuncData), PySem.W.findIn K (.ref C) "__init__" = some (some (.ref fI)) ∧ PySem.W.typeIn K (.ref fI) = some (.type "function") ∧ Fun K "__init__" q st fI fd := ⟨fI, _, i, t, fun_mk l c k⟩
/-- the class Decoder -/
structure XD_Decoder (K : PySem.W.Frag) (mg : Str → Option Value) (C : Addr) : Prop where
  hm : mg "Decoder" = some (.ref C)
  dc : DcC K C
  ic : C8.InsC K C
  mks : PySem.W.makesIn K C = true
  kc : PySem.W.keepIn K (.ref C) = true
  m_ini : ∃ (f : Addr) (fd : FuncData), PySem.W.findIn K (.ref C) "__init__" = some (some (.ref f)) ∧ PySem.W.isFn K (.ref f) = true ∧ PySem.W.keepIn K (.ref f) = true ∧ Fun K "__init__" "Decoder.__init__" s_Decoder___init__ f fd
  m_eq : ∃ (f : Addr) (fd : FuncData), PySem.W.findIn K (.ref C) "__eq__" = some (some (.ref f)) ∧ PySem.W.isFn K (.ref f) = true ∧ PySem.W.keepIn K (.ref f) = true ∧ Fun K "__eq__" "Decoder.__eq__" s_Decoder___eq__ f fd
  nc : NoC K C
  ne : PySem.W.findIn K (.ref C) "__ne__" = some (some (.builtin "object.__ne__"))
  sub : PySem.W.subIn K (.ref C) (.type "object") = some true
theorem mth_mk_Decoder {K : PySem.W.Frag} {m q : Str} {st : Stmt} {C f : Addr} {od an : Option Addr} {sl : Array (Option Value)} {oc kV dc pm cd ct : Value} (i : PySem.W.findIn K (.ref C) m = some (some (.ref f))) (t : PySem.W.isFn K (.ref f) = true)
    (l : K.lookup f = some ⟨oc, od, .func (PySem.W.fnOf m q (defArgs st) (defBody st) (defScope st) .none kV dc pm an cd ct), sl⟩) (c : PySem.W.codeIn K cd q = true) (k : PySem.W.keepIn K (.ref f) = true) :
    ∃ (f : Addr) (fd : FuncData), PySem.W.findIn K (.ref C) m = some (some (.ref f)) ∧ PySem.W.isFn K (.ref f) = true ∧ PySem.W.keepIn K (.ref f) = true ∧ Fun K m q st f fd := ⟨f, _, i, t, k, fun_mk l c k⟩
theorem dc_mk_Decoder {K : PySem.W.Frag} {C : Addr} (pg : PySem.W.plainGet K C Str.empty = true) (hd : PySem.W.hasDictIn K C = true) (po : PySem.W.plainOver K C = true) (sa : PySem.W.findIn K (.ref C) "__setattr__" = some (some (.builtin "object.__setattr__")))
    (a_signs : PySem.W.findIn K (.ref C) "signs" = some none) (a_states : PySem.W.findIn K (.ref C) "states" = some none) (a_steps : PySem.W.findIn K (.ref C) "steps" = some none) (a_ends : PySem.W.findIn K (.ref C) "ends" = some none) : DcC K C := ⟨⟨pg, hd, po, sa⟩, a_signs, a_states, a_steps, a_ends⟩
theorem ic_mk_Decoder {K : PySem.W.Frag} {C : Addr} (c : Cls K C) (ha : PySem.W.findIn K (.ref C) "__class__" = some (some (.builtin "object.__class__"))) (hn : PySem.W.specialIn K (.builtin "object.__class__") "__get__" = some (some (.builtin "getset_descriptor.__get__")))
    (htk : PySem.W.takesIn K (.builtin "object.__class__") = some true) (hm : PySem.W.mroIn K C (.type "object") = some true) (me : PySem.W.kitOne K (.ref C) (.ref C) = some true) : C8.InsC K C := ⟨c, ha, hn, htk, hm, me⟩
theorem kini_mk {K : PySem.W.Frag} {q : Str} {st : Stmt} {fI : Addr} {fd : FuncData} (F : Fun K "__init__" q st fI fd)
    (b : ∀ (kV doc pm : Value) (an : Option Addr) (cdv ct a v1 v2 v3 : Value), bindArgs (PySem.W.fnOf "__init__" q (defArgs st) (defBody st) (defScope st) .none kV doc pm an cdv ct) ⟨[a], [("ends", v1), ("signs", v2), ("steps", v3)]⟩ = pure [(("self" : Str), a), ("signs", v2), ("steps", v3), ("ends", v1)]) : KBn K fd ["self", "signs", "steps", "ends"] 1 ksEST mk3 mk3 := by
  obtain ⟨oc, od, kV, doc, pm, an, cdv, ct, osl, rfl, lk, hcd⟩ := F.ex
  refine ⟨fun s us ws _ h1 h2 => ?_, fun a b => mk3_rel a b⟩
  match us, ws, h1, h2 with
  | [a], [v1, v2, v3], _, _ => exact .of_eq (b kV doc pm an cdv ct a v1 v2 v3)
theorem all_mk {l : PySem.W.OpenLaw} {w : World} {K : PySem.W.Frag} {mg : Str → Option Value} {fa : Addr} (hfa : mg "law" = some (.ref fa)) (z : Z mg) {t_MOST_SIGNS : Tok} (g_MOST_SIGNS : mg "MOST_SIGNS" = some (.int 5 t_MOST_SIGNS)) {t_MOST_LETTERS : Tok} (g_MOST_LETTERS : mg "MOST_LETTERS" = some (.int 3 t_MOST_LETTERS)) {t_MOST_STATES : Tok} (g_MOST_STATES : mg "MOST_STATES" = some (.int 40 t_MOST_STATES)) {t_LETTERS : Tok} (g_LETTERS : mg "LETTERS" = some (.str (("abcdefghijklmnopqrstuvwxyz" : Str)) t_LETTERS)) {B : Addr} (ov : Over K mg B) {XS : Addr} (xi_XS : XI "InvalidSigns" "InvalidSigns.__init__" s_initS K mg XS) {XT : Addr} (xi_XT : XI "InvalidSteps" "InvalidSteps.__init__" s_initT K mg XT) {XE : Addr} (xi_XE : XI "InvalidEnds" "InvalidEnds.__init__" s_initE K mg XE) {CD : Addr} (xd_CD : XD_Decoder K mg CD) (ed_CD : EqD K CD) (hTS : PySem.W.exmOne K (.ref XT) (.ref XS) = some false) (hES : PySem.W.exmOne K (.ref XE) (.ref XS) = some false) (hET : PySem.W.exmOne K (.ref XE) (.ref XT) = some false) 
    (d_is_integer : Def K mg "is_integer" s_is_integer) (d_is_index : Def K mg "is_index" s_is_index) (d_is_signs : Def K mg "is_signs" s_is_signs) (d_is_list : Def K mg "is_list" s_is_list) (d_check_signs : Def K mg "check_signs" s_check_signs) (d_is_text : Def K mg "is_text" s_is_text) (d_is_word : Def K mg "is_word" s_is_word) (d_is_entry : Def K mg "is_entry" s_is_entry) (d_are_steps : Def K mg "are_steps" s_are_steps) (d_are_ends : Def K mg "are_ends" s_are_ends) (d__law_cell : Def K mg "_law_cell" s__law_cell) (d__law_box : Def K mg "_law_box" s__law_box) (d__law_take : Def K mg "_law_take" s__law_take) (d__law_word : Def K mg "_law_word" s__law_word) (d__law_entry : Def K mg "_law_entry" s__law_entry) (d__law_row : Def K mg "_law_row" s__law_row) (d__law_end : Def K mg "_law_end" s__law_end) (d__law_parts : Def K mg "_law_parts" s__law_parts) (d__law_plain_rows : Def K mg "_law_plain_rows" s__law_plain_rows) (d__law_listed : Def K mg "_law_listed" s__law_listed) (d__law_stands : Def K mg "_law_stands" s__law_stands) (d__law_other_word : Def K mg "_law_other_word" s__law_other_word) (d__law_met : Def K mg "_law_met" s__law_met) (d__law_changed : Def K mg "_law_changed" s__law_changed) (d__law_equal_right : Def K mg "_law_equal_right" s__law_equal_right) (d__law_spoilt_steps : Def K mg "_law_spoilt_steps" s__law_spoilt_steps) (d__law_spoilt_ends : Def K mg "_law_spoilt_ends" s__law_spoilt_ends) (d__law_copy : Def K mg "_law_copy" s__law_copy) (d__law_tuples : Def K mg "_law_tuples" s__law_tuples) (d__law_door : Def K mg "_law_door" s__law_door) (d__law_refused_right : Def K mg "_law_refused_right" s__law_refused_right) (d__law_many_right : Def K mg "_law_many_right" s__law_many_right) (d__law_right : Def K mg "_law_right" s__law_right) (d_law : Def K mg "law" s_law) :
    ∃ fd : FuncData, (∀ (s : Shared) (v : Value), BindsTo s fd ⟨[v], []⟩ [("script", v)]) ∧ ∀ base : Heap, K.In base → base.Ns mainGlobals mg → FnG l.prog w K mg base CX0 11 fa fd ["script"] (spLaw K) := by
  obtain ⟨f, fd, F, e⟩ := d_law
  cases hfa.symm.trans e
  have F0 := F
  obtain ⟨oc, od, kV, doc, pm, an, cdv, ct, osl, rfl, lk, hcd⟩ := F.ex
  refine ⟨PySem.W.fnOf "law" "law" (defArgs s_law) (defBody s_law) (defScope s_law) .none kV doc pm an cdv ct, fun s v => .of_eq rfl, fun base _ _ => ?_⟩
  have xq_XS : XQ "InvalidSigns" l.prog w K mg base XS := by
    obtain ⟨fI, fdI, i1, i2, FI⟩ := xi_XS.ini
    exact ⟨xi_XS.T, xi_XS.xf, xi_XS.no, xi_XS.hm, xi_XS.me, fI, fdI, i1, i2, ok_initS FI ov, FI.binds fun _ _ _ _ _ _ us hl => match us, hl with | [_, _], _ => rfl⟩
  have xq_XT : XQ "InvalidSteps" l.prog w K mg base XT := by
    obtain ⟨fI, fdI, i1, i2, FI⟩ := xi_XT.ini
    exact ⟨xi_XT.T, xi_XT.xf, xi_XT.no, xi_XT.hm, xi_XT.me, fI, fdI, i1, i2, ok_initT FI ov, FI.binds fun _ _ _ _ _ _ us hl => match us, hl with | [_, _], _ => rfl⟩
  have xq_XE : XQ "InvalidEnds" l.prog w K mg base XE := by
    obtain ⟨fI, fdI, i1, i2, FI⟩ := xi_XE.ini
    exact ⟨xi_XE.T, xi_XE.xf, xi_XE.no, xi_XE.hm, xi_XE.me, fI, fdI, i1, i2, ok_initE FI ov, FI.binds fun _ _ _ _ _ _ us hl => match us, hl with | [_, _], _ => rfl⟩
  obtain ⟨f_ini, fd_ini, m1_ini, m2_ini, m3_ini, F_ini⟩ := xd_CD.m_ini
  obtain ⟨f_eq, fd_eq, m1_eq, m2_eq, m3_eq, F_eq⟩ := xd_CD.m_eq
  have c_int := Sw.Def.cal (P := l.prog) (w := w) (base := base) d_is_integer (ps := ["value"]) (k := 1) (sp := (spInt K)) (fun _ _ _ _ _ _ us hl => match us, hl with | [_], _ => rfl) fun f fd F => ok_integer F z
  have c_idx := Sw.Def.cal (P := l.prog) (w := w) (base := base) d_is_index (ps := ["value", "many"]) (k := 2) (sp := (spIdx K)) (fun _ _ _ _ _ _ us hl => match us, hl with | [_, _], _ => rfl) fun f fd F => ok_index F c_int
  have c_sgs := Sw.Def.cal (P := l.prog) (w := w) (base := base) d_is_signs (ps := ["value"]) (k := 2) (sp := (spSg K)) (fun _ _ _ _ _ _ us hl => match us, hl with | [_], _ => rfl) fun f fd F => ok_signs F c_int g_MOST_SIGNS
  have c_list := Sw.Def.cal (P := l.prog) (w := w) (base := base) d_is_list (ps := ["value"]) (k := 1) (sp := (spSeq K)) (fun _ _ _ _ _ _ us hl => match us, hl with | [_], _ => rfl) fun f fd F => ok_list F z
  have x_cks := Sw.Def.calX (P := l.prog) (w := w) (base := base) d_check_signs (ps := ["signs"]) (k := 3) (sp := (spCkS K XS)) (fun _ _ _ _ _ _ us hl => match us, hl with | [_], _ => rfl) fun f fd F => ok_ckS F xq_XS c_sgs
  have c_txt := Sw.Def.cal (P := l.prog) (w := w) (base := base) d_is_text (ps := ["value"]) (k := 1) (sp := (spTxt K txB)) (fun _ _ _ _ _ _ us hl => match us, hl with | [_], _ => rfl) fun f fd F => ok_text F z g_LETTERS
  have c_wd := Sw.Def.cal (P := l.prog) (w := w) (base := base) d_is_word (ps := ["value"]) (k := 2) (sp := (spTxt K wdB)) (fun _ _ _ _ _ _ us hl => match us, hl with | [_], _ => rfl) fun f fd F => ok_word F z g_MOST_LETTERS c_txt
  have c_ent := Sw.Def.cal (P := l.prog) (w := w) (base := base) d_is_entry (ps := ["value", "states"]) (k := 3) (sp := (spEnt K)) (fun _ _ _ _ _ _ us hl => match us, hl with | [_, _], _ => rfl) fun f fd F => ok_entry F z c_idx c_wd
  have c_stp := Sw.Def.cal (P := l.prog) (w := w) (base := base) d_are_steps (ps := ["value", "signs"]) (k := 4) (sp := (spStp K)) (fun _ _ _ _ _ _ us hl => match us, hl with | [_, _], _ => rfl) fun f fd F => ok_steps F z g_MOST_STATES c_list c_ent
  have c_ens := Sw.Def.cal (P := l.prog) (w := w) (base := base) d_are_ends (ps := ["value", "states"]) (k := 3) (sp := (spEns K)) (fun _ _ _ _ _ _ us hl => match us, hl with | [_, _], _ => rfl) fun f fd F => ok_ends F z c_list c_wd
  have kIni := ok_ini (P := l.prog) (w := w) (base := base) F_ini z xd_CD.dc xq_XT xq_XE x_cks c_stp c_ens
  have m_Dec : C8.Mak l.prog w K mg base 5 "Decoder" CD (spIni0 K CD) [] := ⟨f_ini, fd_ini, ["self", "signs", "steps", "ends"], [], ⟨xd_CD.mks, m1_ini, m2_ini, xd_CD.kc⟩, ini0 kIni, xd_CD.hm, F_ini.binds (fun _ _ _ _ _ _ us hl => match us, hl with | [_, _, _, _], _ => rfl), .nil⟩
  have mX_Dec : MakX l.prog w K mg base 5 "Decoder" CD (spIni K CD XS XT XE) := ⟨f_ini, fd_ini, ["self", "signs", "steps", "ends"], ⟨xd_CD.mks, m1_ini, m2_ini, xd_CD.kc⟩, kIni, xd_CD.hm, F_ini.binds (fun _ _ _ _ _ _ us hl => match us, hl with | [_, _, _, _], _ => rfl)⟩
  have mK_Dec : MakKw l.prog w K mg base 5 "Decoder" CD (spIni0 K CD) := ⟨f_ini, fd_ini, ["self", "signs", "steps", "ends"], ⟨xd_CD.mks, m1_ini, m2_ini, xd_CD.kc⟩, ini0 kIni, xd_CD.hm, kini_mk F_ini fun _ _ _ _ _ _ _ _ _ _ => rfl⟩
  have eqD : EqI l.prog w K mg base 1 CD (spEqD K CD) := ⟨⟨f_eq, fd_eq, ["self", "other"], m1_eq, m2_eq, ok_eq F_eq z xd_CD.hm xd_CD.dc xd_CD.ic xd_CD.nc, F_eq.binds (fun _ _ _ _ _ _ us hl => match us, hl with | [_, _], _ => rfl)⟩, xd_CD.ne, xd_CD.sub⟩
  have c_cell := Sw.Def.cal (P := l.prog) (w := w) (base := base) d__law_cell (ps := ["script", "k"]) (k := 1) (sp := (spCell K)) (fun _ _ _ _ _ _ us hl => match us, hl with | [_, _], _ => rfl) fun f fd F => ok__law_cell F z
  have c_box := Sw.Def.cal (P := l.prog) (w := w) (base := base) d__law_box (ps := ["great"]) (k := 1) (sp := spBox) (fun _ _ _ _ _ _ us hl => match us, hl with | [_], _ => rfl) fun f fd F => ok__law_box F z
  have c_take := Sw.Def.cal (P := l.prog) (w := w) (base := base) d__law_take (ps := ["box", "many"]) (k := 1) (sp := spTake) (fun _ _ _ _ _ _ us hl => match us, hl with | [_, _], _ => rfl) fun f fd F => ok__law_take F z
  have c_lw := Sw.Def.cal (P := l.prog) (w := w) (base := base) d__law_word (ps := ["box"]) (k := 2) (sp := spWordB) (fun _ _ _ _ _ _ us hl => match us, hl with | [_], _ => rfl) fun f fd F => ok_lword F z c_take
  have c_le := Sw.Def.cal (P := l.prog) (w := w) (base := base) d__law_entry (ps := ["box", "states"]) (k := 3) (sp := (spEntry K)) (fun _ _ _ _ _ _ us hl => match us, hl with | [_, _], _ => rfl) fun f fd F => ok_lentry F z c_take c_lw
  have c_lr := Sw.Def.cal (P := l.prog) (w := w) (base := base) d__law_row (ps := ["box", "signs", "states"]) (k := 4) (sp := (spRow K)) (fun _ _ _ _ _ _ us hl => match us, hl with | [_, _, _], _ => rfl) fun f fd F => ok_lrow F z c_le
  have c_ln := Sw.Def.cal (P := l.prog) (w := w) (base := base) d__law_end (ps := ["box"]) (k := 3) (sp := (spEnd K)) (fun _ _ _ _ _ _ us hl => match us, hl with | [_], _ => rfl) fun f fd F => ok_lend F z c_take c_lw
  have c_lp := Sw.Def.cal (P := l.prog) (w := w) (base := base) d__law_parts (ps := ["box"]) (k := 5) (sp := (spParts K)) (fun _ _ _ _ _ _ us hl => match us, hl with | [_], _ => rfl) fun f fd F => ok_lparts F z c_take c_lr c_ln
  have c_pl := Sw.Def.cal (P := l.prog) (w := w) (base := base) d__law_plain_rows (ps := ["rows"]) (k := 1) (sp := (spPlain K)) (fun _ _ _ _ _ _ us hl => match us, hl with | [_], _ => rfl) fun f fd F => ok_plain F z
  have c_li := Sw.Def.cal (P := l.prog) (w := w) (base := base) d__law_listed (ps := ["box", "rows"]) (k := 2) (sp := (spListed K)) (fun _ _ _ _ _ _ us hl => match us, hl with | [_, _], _ => rfl) fun f fd F => ok_listed F z c_take
  have q_st := Sw.Def.calG (P := l.prog) (w := w) (base := base) d__law_stands (ps := ["made", "parts"]) (k := 2) (sp := (spStands K CD)) (fun _ _ _ _ _ _ us hl => match us, hl with | [_, _], _ => rfl) fun f fd F => ok_stands F z xd_CD.dc c_pl
  have c_ot := Sw.Def.cal (P := l.prog) (w := w) (base := base) d__law_other_word (ps := ["box", "word"]) (k := 2) (sp := spOther) (fun _ _ _ _ _ _ us hl => match us, hl with | [_, _], _ => rfl) fun f fd F => ok_other F z c_take
  have c_met := Sw.Def.cal (P := l.prog) (w := w) (base := base) d__law_met (ps := ["signs", "steps", "ends"]) (k := 7) (sp := (spMetF K CD)) (fun _ _ _ _ _ _ us hl => match us, hl with | [_, _, _], _ => rfl) fun f fd F => ok_metF F xq_XS xq_XT xq_XE hTS hES hET mX_Dec
  have c_ch := Sw.Def.cal (P := l.prog) (w := w) (base := base) d__law_changed (ps := ["box", "parts"]) (k := 5) (sp := (spChanged K)) (fun _ _ _ _ _ _ us hl => match us, hl with | [_, _], _ => rfl) fun f fd F => ok_changed F z c_take c_lw c_lr c_ln c_ot
  have q_eq := Sw.Def.calG (P := l.prog) (w := w) (base := base) d__law_equal_right (ps := ["box", "made", "parts"]) (k := 7) (sp := (spEqual K CD)) (fun _ _ _ _ _ _ us hl => match us, hl with | [_, _, _], _ => rfl) fun f fd F => ok_equal F z eqD ed_CD m_Dec mK_Dec c_pl c_ch q_st
  have c_ss := Sw.Def.cal (P := l.prog) (w := w) (base := base) d__law_spoilt_steps (ps := ["box", "signs", "steps"]) (k := 2) (sp := (spSpSteps K)) (fun _ _ _ _ _ _ us hl => match us, hl with | [_, _, _], _ => rfl) fun f fd F => ok_spst F z c_take
  have c_se := Sw.Def.cal (P := l.prog) (w := w) (base := base) d__law_spoilt_ends (ps := ["box", "ends"]) (k := 2) (sp := (spSpEnds K)) (fun _ _ _ _ _ _ us hl => match us, hl with | [_, _], _ => rfl) fun f fd F => ok_spen F z c_take
  have c_cp := Sw.Def.cal (P := l.prog) (w := w) (base := base) d__law_copy (ps := ["value"]) (k := 1) (sp := (spCopy K)) (fun _ _ _ _ _ _ us hl => match us, hl with | [_], _ => rfl) fun f fd F => ok_lcopy F z
  have c_tu := Sw.Def.cal (P := l.prog) (w := w) (base := base) d__law_tuples (ps := ["value"]) (k := 1) (sp := (spTuples K)) (fun _ _ _ _ _ _ us hl => match us, hl with | [_], _ => rfl) fun f fd F => ok_tuples F z
  have q_do := Sw.Def.calG (P := l.prog) (w := w) (base := base) d__law_door (ps := ["word", "signs", "steps", "ends"]) (k := 8) (sp := (spDoor K)) (fun _ _ _ _ _ _ us hl => match us, hl with | [_, _, _, _], _ => rfl) fun f fd F => ok_door F z c_cp c_met
  have q_re := Sw.Def.calG (P := l.prog) (w := w) (base := base) d__law_refused_right (ps := ["box", "parts"]) (k := 9) (sp := (spRef K)) (fun _ _ _ _ _ _ us hl => match us, hl with | [_, _], _ => rfl) fun f fd F => ok_ref F z c_take c_ss c_se c_tu c_met q_do q_st
  have q_ma := Sw.Def.calG (P := l.prog) (w := w) (base := base) d__law_many_right (ps := ["box"]) (k := 9) (sp := (spMany K)) (fun _ _ _ _ _ _ us hl => match us, hl with | [_], _ => rfl) fun f fd F => ok_many F z xd_CD.dc c_take m_Dec q_do
  have q_ri := Sw.Def.calG (P := l.prog) (w := w) (base := base) d__law_right (ps := ["box"]) (k := 10) (sp := (spRight K)) (fun _ _ _ _ _ _ us hl => match us, hl with | [_], _ => rfl) fun f fd F => ok_right F z eqD ed_CD c_take c_lp c_li m_Dec q_st q_eq q_re
  exact ok_law F0 z q_ri q_ma c_box c_cell
end Sw
open PySem PySem.W PyProof.Rows
set_option maxHeartbeats 0 in
theorem PySem.Challenge.cw_spoiltways_k01_decoders_and_their_parts_holds : PySem.Challenge.rw_spoiltways_k01_decoders_and_their_parts.Holds := by
  w_on; o_law; k_head; (case hw => w_witness2)
  k_fill
  refine Sw.walk_GM (l := PySem.Challenge.rw_spoiltways_k01_decoders_and_their_parts) (n := 63) (k := 11) (x := "script") (sp := Sw.spLaw) rfl (by decide) rfl ⟨rfl, by decide, by decide⟩ (by decide +kernel) (fun w h Y => PySem.W.kIn_of Y) ?F (fun _ _ a ns hl mk hS => ⟨a, ns, rfl, mk, hS, by omega, fun _ _ => rfl⟩)
  case F =>
    intro w mg fa h KX G hmg
    have z : Sw.Z mg := by
      refine' ⟨PySem.W.mg_none_of KX G ?z0, PySem.W.mg_none_of KX G ?z1, PySem.W.mg_none_of KX G ?z2, PySem.W.mg_none_of KX G ?z3, PySem.W.mg_none_of KX G ?z4, PySem.W.mg_none_of KX G ?z5, PySem.W.mg_none_of KX G ?z6, PySem.W.mg_none_of KX G ?z7, PySem.W.mg_none_of KX G ?z8, PySem.W.mg_none_of KX G ?z9, PySem.W.mg_none_of KX G ?z10, PySem.W.mg_none_of KX G ?z11, PySem.W.mg_none_of KX G ?z12, PySem.W.mg_none_of KX G ?z13, PySem.W.mg_none_of KX G ?z14⟩
      (case z0 => k_is)
      (case z1 => k_is)
      (case z2 => k_is)
      (case z3 => k_is)
      (case z4 => k_is)
      (case z5 => k_is)
      (case z6 => k_is)
      (case z7 => k_is)
      (case z8 => k_is)
      (case z9 => k_is)
      (case z10 => k_is)
      (case z11 => k_is)
      (case z12 => k_is)
      (case z13 => k_is)
      (case z14 => k_is)
    obtain ⟨v_MOST_SIGNS, gv_MOST_SIGNS, t_MOST_SIGNS, rfl⟩ : ∃ v, mg "MOST_SIGNS" = some v ∧ ∃ t, v = .int 5 t := by
      refine' ⟨_, PySem.W.mg_of KX G ?a, ?b⟩
      (case a => k_is)
      (case b => exact ⟨_, rfl⟩)
    obtain ⟨v_MOST_LETTERS, gv_MOST_LETTERS, t_MOST_LETTERS, rfl⟩ : ∃ v, mg "MOST_LETTERS" = some v ∧ ∃ t, v = .int 3 t := by
      refine' ⟨_, PySem.W.mg_of KX G ?a, ?b⟩
      (case a => k_is)
      (case b => exact ⟨_, rfl⟩)
    obtain ⟨v_MOST_STATES, gv_MOST_STATES, t_MOST_STATES, rfl⟩ : ∃ v, mg "MOST_STATES" = some v ∧ ∃ t, v = .int 40 t := by
      refine' ⟨_, PySem.W.mg_of KX G ?a, ?b⟩
      (case a => k_is)
      (case b => exact ⟨_, rfl⟩)
    obtain ⟨v_LETTERS, gv_LETTERS, t_LETTERS, rfl⟩ : ∃ v, mg "LETTERS" = some v ∧ ∃ t, v = .str (("abcdefghijklmnopqrstuvwxyz" : Str)) t := by
      refine' ⟨_, PySem.W.mg_of KX G ?a, ?b⟩
      (case a => k_is)
      (case b => first | exact ⟨_, rfl⟩ | exact ⟨_, congrArg (fun y => PySem.Value.str y _) (by decide +kernel)⟩)
    refine' Sw.all_mk hmg z gv_MOST_SIGNS gv_MOST_LETTERS gv_MOST_STATES gv_LETTERS ?ov ?xi_XS ?xi_XT ?xi_XE ?xd_CD ?ed_CD ?hTS ?hES ?hET ?d_is_integer ?d_is_index ?d_is_signs ?d_is_list ?d_check_signs ?d_is_text ?d_is_word ?d_is_entry ?d_are_steps ?d_are_ends ?d__law_cell ?d__law_box ?d__law_take ?d__law_word ?d__law_entry ?d__law_row ?d__law_end ?d__law_parts ?d__law_plain_rows ?d__law_listed ?d__law_stands ?d__law_other_word ?d__law_met ?d__law_changed ?d__law_equal_right ?d__law_spoilt_steps ?d__law_spoilt_ends ?d__law_copy ?d__law_tuples ?d__law_door ?d__law_refused_right ?d__law_many_right ?d__law_right ?d_law
    case xi_XS =>
      refine' ⟨Sw.oex_mk ?h1 ?h2 ?h3 ?h4 ?h5, ⟨?f1, ?f2, ?f3, ?f4⟩, ?no, PySem.W.mg_of KX G ?hm, Sw.exm_mk ?me1 ?me2, Sw.iniq_mk ?i1 ?i2 ?i3 ?i4 ?i5⟩
      (case hm => k_is)
      (case h1 => k_is)
      (case h2 => k_is)
      (case h3 => k_is)
      (case h4 => k_is)
      (case h5 => k_is)
      (case f1 => k_is)
      (case f2 => k_is)
      (case f3 => k_is)
      (case f4 => k_is)
      (case no => k_is)
      (case me1 => k_is)
      (case me2 => first | k_is | rfl | decide +kernel)
      (case i1 => k_is)
      (case i2 => k_is)
      (case i3 => k_is)
      (case i4 => k_is)
      (case i5 => k_is)
    case xi_XT =>
      refine' ⟨Sw.oex_mk ?h1 ?h2 ?h3 ?h4 ?h5, ⟨?f1, ?f2, ?f3, ?f4⟩, ?no, PySem.W.mg_of KX G ?hm, Sw.exm_mk ?me1 ?me2, Sw.iniq_mk ?i1 ?i2 ?i3 ?i4 ?i5⟩
      (case hm => k_is)
      (case h1 => k_is)
      (case h2 => k_is)
      (case h3 => k_is)
      (case h4 => k_is)
      (case h5 => k_is)
      (case f1 => k_is)
      (case f2 => k_is)
      (case f3 => k_is)
      (case f4 => k_is)
      (case no => k_is)
      (case me1 => k_is)
      (case me2 => first | k_is | rfl | decide +kernel)
      (case i1 => k_is)
      (case i2 => k_is)
      (case i3 => k_is)
      (case i4 => k_is)
      (case i5 => k_is)
    case xi_XE =>
      refine' ⟨Sw.oex_mk ?h1 ?h2 ?h3 ?h4 ?h5, ⟨?f1, ?f2, ?f3, ?f4⟩, ?no, PySem.W.mg_of KX G ?hm, Sw.exm_mk ?me1 ?me2, Sw.iniq_mk ?i1 ?i2 ?i3 ?i4 ?i5⟩
      (case hm => k_is)
      (case h1 => k_is)
      (case h2 => k_is)
      (case h3 => k_is)
      (case h4 => k_is)
      (case h5 => k_is)
      (case f1 => k_is)
      (case f2 => k_is)
      (case f3 => k_is)
      (case f4 => k_is)
      (case no => k_is)
      (case me1 => k_is)
      (case me2 => first | k_is | rfl | decide +kernel)
      (case i1 => k_is)
      (case i2 => k_is)
      (case i3 => k_is)
      (case i4 => k_is)
      (case i5 => k_is)
    case xd_CD =>
      refine' ⟨PySem.W.mg_of KX G ?hm, Sw.dc_mk_Decoder ?pg ?hd ?po ?sa ?a_signs ?a_states ?a_steps ?a_ends, Sw.ic_mk_Decoder ⟨?pg2, ?hd2, ?po2, ?sa2⟩ ?ha ?hn ?htk ?hmo ?me, ?mk, ?kc, Sw.mth_mk_Decoder ?i_ini ?t_ini ?l_ini ?c_ini ?k_ini, Sw.mth_mk_Decoder ?i_eq ?t_eq ?l_eq ?c_eq ?k_eq, ⟨?nc1, ?nc2, ?nc3, ?nc4, ?nc5, ?nc6, ?nc7⟩, ?ne, ?sub⟩
      (case hm => k_is)
      (case pg => k_is)
      (case hd => k_is)
      (case po => k_is)
      (case sa => k_is)
      (case a_signs => k_is)
      (case a_states => k_is)
      (case a_steps => k_is)
      (case a_ends => k_is)
      (case pg2 => k_is)
      (case hd2 => k_is)
      (case po2 => k_is)
      (case sa2 => k_is)
      (case ha => k_is)
      (case hn => k_is)
      (case htk => k_is)
      (case hmo => k_is)
      (case me => first | k_is | rfl | decide +kernel)
      (case nc1 => first | k_is | rfl | decide +kernel)
      (case nc2 => first | k_is | rfl | decide +kernel)
      (case nc3 => first | k_is | rfl | decide +kernel)
      (case nc4 => first | k_is | rfl | decide +kernel)
      (case nc5 => first | k_is | rfl | decide +kernel)
      (case nc6 => first | k_is | rfl | decide +kernel)
      (case nc7 => first | k_is | rfl | decide +kernel)
      (case mk => k_is)
      (case kc => k_is)
      (case i_ini => k_is)
      (case t_ini => k_is)
      (case l_ini => k_is)
      (case c_ini => k_is)
      (case k_ini => k_is)
      (case i_eq => k_is)
      (case t_eq => k_is)
      (case l_eq => k_is)
      (case c_eq => k_is)
      (case k_eq => k_is)
      (case ne => k_is)
      (case sub => k_is)
    case ed_CD =>
      refine' ⟨?e1, ?e2, ?e3, ?e4, ?e5, ?e6, ?e7, ?e8, ?e9, ?e10, ?e11, ?e12⟩
      (case e1 => k_is)
      (case e2 => k_is)
      (case e3 => k_is)
      (case e4 => k_is)
      (case e5 => k_is)
      (case e6 => k_is)
      (case e7 => k_is)
      (case e8 => k_is)
      (case e9 => k_is)
      (case e10 => k_is)
      (case e11 => k_is)
      (case e12 => k_is)
    case ov =>
      refine' ⟨PySem.W.mg_of KX G ?b1, ?b2, ?b3, ?b4, ?b5⟩
      (case b1 => k_is)
      (case b2 => k_is)
      (case b3 => k_is)
      (case b4 => k_is)
      (case b5 => k_is)
    case hTS =>
      refine' Sw.exn_mk ?n1 ?n2
      (case n1 => k_is)
      (case n2 => first | k_is | rfl | decide +kernel)
    case hES =>
      refine' Sw.exn_mk ?n1 ?n2
      (case n1 => k_is)
      (case n2 => first | k_is | rfl | decide +kernel)
    case hET =>
      refine' Sw.exn_mk ?n1 ?n2
      (case n1 => k_is)
      (case n2 => first | k_is | rfl | decide +kernel)
    case d_is_integer =>
      refine' Sw.def_mk KX G ?a ?l ?c ?k
      (case a => k_is)
      (case l => k_is)
      (case c => k_is)
      (case k => k_is)
    case d_is_index =>
      refine' Sw.def_mk KX G ?a ?l ?c ?k
      (case a => k_is)
      (case l => k_is)
      (case c => k_is)
      (case k => k_is)
    case d_is_signs =>
      refine' Sw.def_mk KX G ?a ?l ?c ?k
      (case a => k_is)
      (case l => k_is)
      (case c => k_is)
      (case k => k_is)
    case d_is_list =>
      refine' Sw.def_mk KX G ?a ?l ?c ?k
      (case a => k_is)
      (case l => k_is)
      (case c => k_is)
      (case k => k_is)
    case d_check_signs =>
      refine' Sw.def_mk KX G ?a ?l ?c ?k
      (case a => k_is)
      (case l => k_is)
      (case c => k_is)
      (case k => k_is)
    case d_is_text =>
      refine' Sw.def_mk KX G ?a ?l ?c ?k
      (case a => k_is)
      (case l => k_is)
      (case c => k_is)
      (case k => k_is)
    case d_is_word =>
      refine' Sw.def_mk KX G ?a ?l ?c ?k
      (case a => k_is)
      (case l => k_is)
      (case c => k_is)
      (case k => k_is)
    case d_is_entry =>
      refine' Sw.def_mk KX G ?a ?l ?c ?k
      (case a => k_is)
      (case l => k_is)
      (case c => k_is)
      (case k => k_is)
    case d_are_steps =>
      refine' Sw.def_mk KX G ?a ?l ?c ?k
      (case a => k_is)
      (case l => k_is)
      (case c => k_is)
      (case k => k_is)
    case d_are_ends =>
      refine' Sw.def_mk KX G ?a ?l ?c ?k
      (case a => k_is)
      (case l => k_is)
      (case c => k_is)
      (case k => k_is)
    case d__law_cell =>
      refine' Sw.def_mk KX G ?a ?l ?c ?k
      (case a => k_is)
      (case l => k_is)
      (case c => k_is)
      (case k => k_is)
    case d__law_box =>
      refine' Sw.def_mk KX G ?a ?l ?c ?k
      (case a => k_is)
      (case l => k_is)
      (case c => k_is)
      (case k => k_is)
    case d__law_take =>
      refine' Sw.def_mk KX G ?a ?l ?c ?k
      (case a => k_is)
      (case l => k_is)
      (case c => k_is)
      (case k => k_is)
    case d__law_word =>
      refine' Sw.def_mk KX G ?a ?l ?c ?k
      (case a => k_is)
      (case l => k_is)
      (case c => k_is)
      (case k => k_is)
    case d__law_entry =>
      refine' Sw.def_mk KX G ?a ?l ?c ?k
      (case a => k_is)
      (case l => k_is)
      (case c => k_is)
      (case k => k_is)
    case d__law_row =>
      refine' Sw.def_mk KX G ?a ?l ?c ?k
      (case a => k_is)
      (case l => k_is)
      (case c => k_is)
      (case k => k_is)
    case d__law_end =>
      refine' Sw.def_mk KX G ?a ?l ?c ?k
      (case a => k_is)
      (case l => k_is)
      (case c => k_is)
      (case k => k_is)
    case d__law_parts =>
      refine' Sw.def_mk KX G ?a ?l ?c ?k
      (case a => k_is)
      (case l => k_is)
      (case c => k_is)
      (case k => k_is)
    case d__law_plain_rows =>
      refine' Sw.def_mk KX G ?a ?l ?c ?k
      (case a => k_is)
      (case l => k_is)
      (case c => k_is)
      (case k => k_is)
    case d__law_listed =>
      refine' Sw.def_mk KX G ?a ?l ?c ?k
      (case a => k_is)
      (case l => k_is)
      (case c => k_is)
      (case k => k_is)
    case d__law_stands =>
      refine' Sw.def_mk KX G ?a ?l ?c ?k
      (case a => k_is)
      (case l => k_is)
      (case c => k_is)
      (case k => k_is)
    case d__law_other_word =>
      refine' Sw.def_mk KX G ?a ?l ?c ?k
      (case a => k_is)
      (case l => k_is)
      (case c => k_is)
      (case k => k_is)
    case d__law_met =>
      refine' Sw.def_mk KX G ?a ?l ?c ?k
      (case a => k_is)
      (case l => k_is)
      (case c => k_is)
      (case k => k_is)
    case d__law_changed =>
      refine' Sw.def_mk KX G ?a ?l ?c ?k
      (case a => k_is)
      (case l => k_is)
      (case c => k_is)
      (case k => k_is)
    case d__law_equal_right =>
      refine' Sw.def_mk KX G ?a ?l ?c ?k
      (case a => k_is)
      (case l => k_is)
      (case c => k_is)
      (case k => k_is)
    case d__law_spoilt_steps =>
      refine' Sw.def_mk KX G ?a ?l ?c ?k
      (case a => k_is)
      (case l => k_is)
      (case c => k_is)
      (case k => k_is)
    case d__law_spoilt_ends =>
      refine' Sw.def_mk KX G ?a ?l ?c ?k
      (case a => k_is)
      (case l => k_is)
      (case c => k_is)
      (case k => k_is)
    case d__law_copy =>
      refine' Sw.def_mk KX G ?a ?l ?c ?k
      (case a => k_is)
      (case l => k_is)
      (case c => k_is)
      (case k => k_is)
    case d__law_tuples =>
      refine' Sw.def_mk KX G ?a ?l ?c ?k
      (case a => k_is)
      (case l => k_is)
      (case c => k_is)
      (case k => k_is)
    case d__law_door =>
      refine' Sw.def_mk KX G ?a ?l ?c ?k
      (case a => k_is)
      (case l => k_is)
      (case c => k_is)
      (case k => k_is)
    case d__law_refused_right =>
      refine' Sw.def_mk KX G ?a ?l ?c ?k
      (case a => k_is)
      (case l => k_is)
      (case c => k_is)
      (case k => k_is)
    case d__law_many_right =>
      refine' Sw.def_mk KX G ?a ?l ?c ?k
      (case a => k_is)
      (case l => k_is)
      (case c => k_is)
      (case k => k_is)
    case d__law_right =>
      refine' Sw.def_mk KX G ?a ?l ?c ?k
      (case a => k_is)
      (case l => k_is)
      (case c => k_is)
      (case k => k_is)
    case d_law =>
      refine' Sw.def_mk KX G ?a ?l ?c ?k
      (case a => k_is)
      (case l => k_is)
      (case c => k_is)
      (case k => k_is)
