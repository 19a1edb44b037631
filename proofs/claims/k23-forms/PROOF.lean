import PyProof.Rows.All
import Wide.All
import OpenK.AllK
import Wide.FinOn
import HandS.ForSpec
import HandS.ExcInit
import HandS.ExcField
import HandS.IsInst
import HandS.Comp
import HandS.Iter
import HandS.Zip
import HandS.Walk
import HandS.Conv
import HandS.HotCalls
import HandS.Wide
import KE.IntBitsLaws
import HandS.TupAny
import HandS.Zip0
import HandS.Nested
import HandS.FStr
import HandS.WordsExc
import KE.KExcSuper
import HandS.ExcIs
import HandS.Steps
import PyProof.P3Eq
import PySem.Challenge.RW_mixproof_k23_forms_and_inverse
set_option Elab.async false
set_option linter.all false
set_option maxRecDepth 100000
set_option maxHeartbeats 4000000
/-! my own layer over HandS: readings told step by step, calls by name, more rules -/
namespace Y
open PySem PySem.Spec PyProof.Rows L2

/-! ### heaps: what is kept -/
/-- all that was tracked stands, but at the addresses of S -/
def Xt (S : List Addr) (H H' : Hp) : Prop := ∀ a o, a ∉ S → H a = some o → H' a = some o
abbrev Ex (H H' : Hp) : Prop := Xt [] H H'
theorem Xt.refl {S : List Addr} (H : Hp) : Xt S H H := fun _ _ _ h => h
theorem Xt.trans {S : List Addr} {H H1 H2 : Hp} (a : Xt S H H1) (b : Xt S H1 H2) : Xt S H H2 := fun x o n h => b x o n (a x o n h)
theorem Ex.at {H H' : Hp} (e : Ex H H') {a : Addr} {o : HO} (h : H a = some o) : H' a = some o := e a o (by simp) h
theorem Xt.at {S : List Addr} {H H' : Hp} (e : Xt S H H') {a : Addr} {o : HO} (h : H a = some o) (n : a ∉ S) : H' a = some o := e a o n h
theorem Ex.xt {S : List Addr} {H H' : Hp} (e : Ex H H') : Xt S H H' := fun a o _ h => e a o (by simp) h
theorem Ex.rfl' {H : Hp} : Ex H H := Xt.refl H
theorem Xt.sub {S T : List Addr} {H H' : Hp} (e : Xt S H H') (h : ∀ a ∈ S, a ∈ T) : Xt T H H' := fun a o n q => e a o (fun z => n (h a z)) q
theorem ex_new {H : Hp} {p : Addr} {o : HO} (h : H p = none) : Ex H (upd H p o) := fun a u _ e => by
  rw [upd_ne (ne_of_none e h)]; exact e
theorem xt_upd {S : List Addr} {H : Hp} {p : Addr} {o : HO} (h : p ∈ S) : Xt S H (upd H p o) := fun a u n e => by
  rw [upd_ne (fun z => n (by rw [z]; exact h))]; exact e
/-- what S names was not tracked at first -/
theorem Xt.fresh {S : List Addr} {H H1 H2 : Hp} (a : Ex H H1) (b : Xt S H1 H2) (h : ∀ x ∈ S, H x = none) : Ex H H2 := fun x o _ q =>
  b x o (fun z => by rw [h x z] at q; cases q) (a x o (by simp) q)
theorem fresh_of {S : List Addr} {H H' : Hp} (e : Xt S H H') {p : Addr} (h : H' p = none) (n : p ∉ S) : H p = none := by
  cases q : H p with
  | none => rfl
  | some o => rw [e p o n q] at h; cases h
theorem Ex.back {H H' : Hp} (e : Ex H H') {p : Addr} (h : H' p = none) : H p = none := fresh_of e h (by simp)
theorem Ex.sql {K : PySem.W.Frag} {H H' : Hp} {a : Addr} {xs : List V} (e : Ex H H') (h : SqL K H a xs) : SqL K H' a xs := by
  rcases h with (h | ⟨o, h⟩) | h
  · exact .inl (.inl (e.at h))
  · exact .inl (.inr ⟨o, e.at h⟩)
  · exact .inr h

/-! ### calls by name -/
structure Cl (P : Program) (w : World) (K : PySem.W.Frag) (mg : Str → Option Value) (base : Heap) (CX : CXT) (k : Nat) (x : Str) (ps : List Str) (sp : Sp) : Prop where
  ex : ∃ (f : Addr) (fd : FuncData), FnOk P w K mg base CX k f fd ps sp ∧ mg x = some (.ref f) ∧ PySem.W.keepIn K (.ref f) = true ∧ Binds K fd ps []
theorem pe_y {X : Cx} {CX : CXT} {k j : Nat} {x : Str} {ps : List Str} {sp : Sp} {E : XK} {p pos : Pos} {e : Expr} {es : List Expr} {t : TA} (c : Cl X.prog X.w X.K X.mg X.base CX k x ps sp) (hr : Room j X.A) (hk : k ≤ j) (hx : Passes CX X E) (hg : Gl X x) (ha : PA X (e :: es) t)
    (hdb : (x == ("__debug__" : Str)) = false := by decide) (he : starEach (e :: es) X.env = (false, eval e X.env) :: starEach es X.env := by rfl) (hpl : (backTo pos (starEach es X.env)).any (·.1) = false := by rfl) :
    PE X (.Call (.Name x p) (e :: es) [] pos) (tCall sp [] E t) := by
  obtain ⟨f, fd, F, hm, kp, b⟩ := c.ex
  exact pe_call F (hr.mono hk) hg hm kp b .nil hx ha hdb he hpl

/-! ### readings, told by lemmas -/
section
variable {K : PySem.W.Frag} {σ : L2.St} {H : Hp} {ta tb te tc : TE} {t u : TT} {tu tw tz : TS} {Q : VK} {R : Bool → Hp → Prop} {D : Ends} {g : TG}
theorem rd_seq (h : tu { D with nx := tz D } σ H) : tSeq tu tz D σ H := h
theorem rd_asg (h : te σ H fun x H1 => g x σ H1 D.nx) : tAsg te g D σ H := h
theorem rd_name {i : Nat} {v : V} {q : L2.St → Hp → Prop} (h : q (σ.set i (some v)) H) : gName i v σ H q := h
theorem rd_var {i : Nat} {v : V} (e : σ[i]? = some (some v)) (h : Q v H) : tVar i σ H Q := ⟨v, e, h⟩
theorem rd_c {v : V} (h : Q v H) : tC v σ H Q := h
theorem rd_op {r : R2} (h : ta σ H fun x H1 => tb σ H1 fun y H2 => r x y H2 Q) : tOp r ta tb σ H Q := h
theorem rd_un {r : V → Hp → VK → Prop} (h : ta σ H fun x H1 => r x H1 Q) : tUn r ta σ H Q := h
theorem rd_I0 {f : Int → Int → V} {i j : Int} (h : Q (f i j) H) : rI0 f (.int i) (.int j) H Q := ⟨i, j, rfl, rfl, h⟩
theorem rd_I {C : Int → Int → Prop} {f : Int → Int → V} {i j : Int} (c : C i j) (h : Q (f i j) H) : rI C f (.int i) (.int j) H Q := ⟨i, j, rfl, rfl, c, h⟩
theorem rd_U {f : Int → V} {i : Int} (h : Q (f i) H) : rU f (.int i) H Q := ⟨i, rfl, h⟩
theorem rd_eq {x y : V} (c : scal x y = true) (h : Q (.bl (decide (x = y))) H) : rEq x y H Q := ⟨c, h⟩
theorem rd_ne {x y : V} (c : scal x y = true) (h : Q (.bl (!decide (x = y))) H) : rNe x y H Q := ⟨c, h⟩
theorem rd_eqI {i j : Int} (h : Q (.bl (decide (i = j))) H) : rEq (.int i) (.int j) H Q := ⟨rfl, by
  have e : decide (V.int i = V.int j) = decide (i = j) := decide_eq_decide.mpr ⟨fun z => by injection z, fun z => by rw [z]⟩
  rw [e]; exact h⟩
theorem rd_neI {i j : Int} (h : Q (.bl (!decide (i = j))) H) : rNe (.int i) (.int j) H Q := ⟨rfl, by
  have e : decide (V.int i = V.int j) = decide (i = j) := decide_eq_decide.mpr ⟨fun z => by injection z, fun z => by rw [z]⟩
  rw [e]; exact h⟩
theorem rd_test (h : te σ H fun x H' => ∃ k, x = .bl k ∧ R k H') : tTest te σ H R := h
theorem rd_tB (h : te σ H fun x H' => ∃ k, x = .bl k ∧ R k H') : tB te σ H R := h
theorem rd_bl {b : Bool} (h : R b H) : ∃ k, V.bl b = .bl k ∧ R k H := ⟨b, rfl, h⟩
theorem rd_not (h : t σ H fun c H1 => R (!c) H1) : tNot t σ H R := h
theorem rd_and (h : t σ H fun c H1 => if c = true then u σ H1 R else R false H1) : tAnd t u σ H R := h
theorem rd_or (h : t σ H fun c H1 => if c = true then R true H1 else u σ H1 R) : tOr t u σ H R := h
theorem rd_ifS (h : t σ H fun b H1 => if b = true then tu D σ H1 else tw D σ H1) : tIfS t tu tw D σ H := h
theorem rd_if (h : t σ H fun c H1 => if c = true then ta σ H1 Q else tb σ H1 Q) : tIf t ta tb σ H Q := h
theorem rd_andV (h : ta σ H fun x H1 => ∃ c, x = .bl c ∧ if c = true then tb σ H1 Q else Q (.bl false) H1) : tAndV ta tb σ H Q := h
theorem rd_orV (h : ta σ H fun x H1 => ∃ c, x = .bl c ∧ if c = true then Q (.bl true) H1 else tb σ H1 Q) : tOrV ta tb σ H Q := h
theorem rd_notV (h : ta σ H fun x H1 => ∃ c, x = .bl c ∧ Q (.bl (!c)) H1) : tNotV ta σ H Q := h
theorem rd_blV {b : Bool} {A : Bool → Prop} (h : A b) : ∃ k, V.bl b = .bl k ∧ A k := ⟨b, rfl, h⟩
theorem rd_next (h : D.nx σ H) : tNext D σ H := h
theorem rd_ret (h : te σ H D.rt) : tRet te D σ H := h
theorem rd_drop (h : te σ H fun _ H1 => D.nx σ H1) : tDrop te D σ H := h
theorem rd_nil {A : List V → Hp → Prop} (h : A [] H) : tNil σ H A := h
theorem rd_cons {tr : TA} {A : List V → Hp → Prop} (h : ta σ H fun x H1 => tr σ H1 fun xs H2 => A (x :: xs) H2) : tCons ta tr σ H A := h
theorem rd_cb {r : List V → Hp → VK → Prop} {tr : TA} (h : tr σ H fun vs H1 => r vs H1 Q) : tCB r tr σ H Q := h
theorem rd_call {sp : Sp} {E : XK} {tr : TA} (h : tr σ H fun vs H1 => sp vs H1 Q E) : tCall sp [] E tr σ H Q := by
  show tr σ H fun vs H1 => sp (vs ++ []) H1 Q E
  simp only [List.append_nil]
  exact h
/-- a new object -/
theorem new_tup {xs : List V} (hl : xs.length ≤ sizeLine) (h : ∀ p H2, H p = none → Ex H H2 → H2 p = some (.tup xs) → Q (.ref p) H2) : xs.length ≤ sizeLine ∧ ∀ p, H p = none → Q (.ref p) (upd H p (.tup xs)) :=
  ⟨hl, fun p hp => h p _ hp (ex_new hp) upd_same⟩
theorem new_lst {xs : List V} (hl : xs.length ≤ sizeLine) (h : ∀ p H2, H p = none → Ex H H2 → H2 p = some (.lst xs) → Q (.ref p) H2) : xs.length ≤ sizeLine ∧ ∀ p, H p = none → Q (.ref p) (upd H p (.lst xs)) :=
  ⟨hl, fun p hp => h p _ hp (ex_new hp) upd_same⟩
theorem newL {xs : List V} (h : ∀ p H2, H p = none → Ex H H2 → H2 p = some (.lst xs) → Q (.ref p) H2) : ∀ p, H p = none → Q (.ref p) (upd H p (.lst xs)) :=
  fun p hp => h p _ hp (ex_new hp) upd_same
theorem newT {xs : List V} (h : ∀ p H2, H p = none → Ex H H2 → H2 p = some (.tup xs) → Q (.ref p) H2) : ∀ p, H p = none → Q (.ref p) (upd H p (.tup xs)) :=
  fun p hp => h p _ hp (ex_new hp) upd_same
theorem rd_tup {tr : TA} (h : tr σ H fun xs H1 => xs.length ≤ sizeLine ∧ ∀ p, H1 p = none → Q (.ref p) (upd H1 p (.tup xs))) : tTup tr σ H Q := h
theorem rd_lst {tr : TA} (h : tr σ H fun xs H1 => xs.length ≤ sizeLine ∧ ∀ p, H1 p = none → Q (.ref p) (upd H1 p (.lst xs))) : tLst tr σ H Q := h
theorem rd_bm {T : String} {r : V → List V → Hp → VK → Prop} {tr : TA} (h : ta σ H fun x H1 => tyV K T x H1 ∧ tr σ H1 fun xs H2 => r x xs H2 Q) : tBM K T r ta tr σ H Q := h
theorem rd_sl {r : V → Option Int → Option Int → Hp → VK → Prop} {tl th : TO} (h : te σ H fun x H1 => tl σ H1 fun l H2 => th σ H2 fun u H3 => r x l u H3 Q) : tSl r te tl th σ H Q := h
theorem rd_nopart {A : Option Int → Hp → Prop} (h : A none H) : tNoPart σ H A := h
theorem rd_part {A : Option Int → Hp → Prop} (h : te σ H fun x H1 => ∃ i, x = .int i ∧ A (some i) H1) : tPart te σ H A := h
theorem rd_iv {i : Int} {A : Int → Prop} (h : A i) : ∃ j, V.int i = .int j ∧ A j := ⟨i, rfl, h⟩
end
/-! ### named readings of calls -/
def rInt : List V → Hp → VK → Prop := fun xs H Q => (∃ i, xs = [.int i] ∧ Q (.int i) H) ∨ ∃ k, xs = [.bl k] ∧ Q (.int (if k then 1 else 0)) H
def rLen (K : PySem.W.Frag) : List V → Hp → VK → Prop := fun xs H Q => ∃ p ys, xs = [.ref p] ∧ (SqL K H p ys ∨ SqT K H p ys) ∧ Q (.int ys.length) H
def rAbs : List V → Hp → VK → Prop := fun xs H Q => ∃ i, xs = [.int i] ∧ Q (.int (if i < 0 then -i else i)) H
def rTupOf (K : PySem.W.Frag) : List V → Hp → VK → Prop := fun xs H Q => ∃ p ys, xs = [.ref p] ∧ ((SqL K H p ys ∧ ∀ l, H l = none → Q (.ref l) (upd H l (.tup ys))) ∨ (SqT K H p ys ∧ Q (.ref p) H))
def rLstOf (K : PySem.W.Frag) : List V → Hp → VK → Prop := fun xs H Q => ∃ p ys, xs = [.ref p] ∧ (SqL K H p ys ∨ SqT K H p ys) ∧ ∀ l, H l = none → Q (.ref l) (upd H l (.lst ys))
def rMx2 : List V → Hp → VK → Prop := fun xs H Q => ∃ i j, xs = [.int i, .int j] ∧ Q (.int (if j > i then j else i)) H
def rMn2 : List V → Hp → VK → Prop := fun xs H Q => ∃ i j, xs = [.int i, .int j] ∧ Q (.int (if j < i then j else i)) H
section
variable {X : Cx}
theorem cr_int : CallR X (.type "int") rInt := call_int1
theorem cr_len : CallR X (.builtin "len") (rLen X.K) := call_len_seq
theorem cr_abs : CallR X (.builtin "abs") rAbs := call_abs
theorem cr_tupOf : CallR X (.type "tuple") (rTupOf X.K) := call_tuple_of
theorem cr_lstOf : CallR X (.type "list") (rLstOf X.K) := call_list_of
theorem cr_mx2 (hc : X.calm = true) : CallR X (.builtin "max") rMx2 := call_max2 hc
theorem cr_mn2 (hc : X.calm = true) : CallR X (.builtin "min") rMn2 := call_min2 hc
end
section
variable {K : PySem.W.Frag} {σ : L2.St} {H : Hp} {Q : VK}
theorem rd_int {i : Int} (h : Q (.int i) H) : rInt [.int i] H Q := .inl ⟨i, rfl, h⟩
theorem rd_intb {b : Bool} (h : Q (.int (if b then 1 else 0)) H) : rInt [.bl b] H Q := .inr ⟨b, rfl, h⟩
theorem rd_abs {i : Int} (h : Q (.int (if i < 0 then -i else i)) H) : rAbs [.int i] H Q := ⟨i, rfl, h⟩
theorem rd_mx2 {i j : Int} (h : Q (.int (if j > i then j else i)) H) : rMx2 [.int i, .int j] H Q := ⟨i, j, rfl, h⟩
theorem rd_mn2 {i j : Int} (h : Q (.int (if j < i then j else i)) H) : rMn2 [.int i, .int j] H Q := ⟨i, j, rfl, h⟩
theorem rd_lenL {p : Addr} {ys : List V} (e : H p = some (.lst ys)) (h : Q (.int ys.length) H) : rLen K [.ref p] H Q := ⟨p, ys, rfl, .inl (SqL.of e), h⟩
theorem rd_lenT {p : Addr} {ys : List V} (e : H p = some (.tup ys)) (h : Q (.int ys.length) H) : rLen K [.ref p] H Q := ⟨p, ys, rfl, .inr (SqT.of e), h⟩
theorem rd_tupL {p : Addr} {ys : List V} (e : H p = some (.lst ys)) (h : ∀ l H2, H l = none → Ex H H2 → H2 l = some (.tup ys) → Q (.ref l) H2) : rTupOf K [.ref p] H Q := ⟨p, ys, rfl, .inl ⟨SqL.of e, fun l hl => h l _ hl (ex_new hl) upd_same⟩⟩
theorem rd_tupT {p : Addr} {ys : List V} (e : H p = some (.tup ys)) (h : Q (.ref p) H) : rTupOf K [.ref p] H Q := ⟨p, ys, rfl, .inr ⟨SqT.of e, h⟩⟩
theorem rd_lstL {p : Addr} {ys : List V} (e : H p = some (.lst ys)) (h : ∀ l H2, H l = none → Ex H H2 → H2 l = some (.lst ys) → Q (.ref l) H2) : rLstOf K [.ref p] H Q := ⟨p, ys, rfl, .inl (SqL.of e), fun l hl => h l _ hl (ex_new hl) upd_same⟩
theorem rd_lstT {p : Addr} {ys : List V} (e : H p = some (.tup ys)) (h : ∀ l H2, H l = none → Ex H H2 → H2 l = some (.lst ys) → Q (.ref l) H2) : rLstOf K [.ref p] H Q := ⟨p, ys, rfl, .inr (SqT.of e), fun l hl => h l _ hl (ex_new hl) upd_same⟩
theorem rd_ixL {p : Addr} {xs : List V} {i : Int} {v : V} (e : H p = some (.lst xs)) (a : atI xs i = some v) (h : Q v H) : rIxL K (.ref p) (.int i) H Q := ⟨p, xs, i, v, rfl, rfl, SqL.of e, a, h⟩
theorem rd_ixT {p : Addr} {xs : List V} {i : Int} {v : V} (e : H p = some (.tup xs)) (a : atI xs i = some v) (h : Q v H) : rIxT K (.ref p) (.int i) H Q := ⟨p, xs, i, v, rfl, rfl, SqT.of e, a, h⟩
theorem atI_of {α : Type} {xs : List α} {i : Int} {j : Nat} {v : α} (e : i = (j : Int)) (h : xs[j]? = some v) : atI xs i = some v := by rw [e]; exact atI_nat h
theorem rd_ixLn {p : Addr} {xs : List V} {i : Int} (j : Nat) {v : V} (e : H p = some (.lst xs)) (ei : i = (j : Int)) (a : xs[j]? = some v) (h : Q v H) : rIxL K (.ref p) (.int i) H Q := rd_ixL e (atI_of ei a) h
theorem rd_ixTn {p : Addr} {xs : List V} {i : Int} (j : Nat) {v : V} (e : H p = some (.tup xs)) (ei : i = (j : Int)) (a : xs[j]? = some v) (h : Q v H) : rIxT K (.ref p) (.int i) H Q := rd_ixT e (atI_of ei a) h
/-- a store into a list -/
theorem rd_sub {ta tb : TE} {t : TSet} {v : V} {q : L2.St → Hp → Prop} (h : ta σ H fun o H1 => tb σ H1 fun i H2 => t o i v H2 fun H3 => q σ H3) : gSub ta tb t v σ H q := h
theorem rd_setL {p : Addr} {xs : List V} {i : Int} (j : Nat) {v : V} {q : Hp → Prop} (e : H p = some (.lst xs)) (ei : i = (j : Int)) (hj : j < xs.length) (h : ∀ H2, Xt [p] H H2 → H2 p = some (.lst (xs.set j v)) → q H2) : rSetL (.ref p) (.int i) v H q :=
  ⟨p, xs, i, j, rfl, rfl, e, by unfold ixN; rw [ei, if_pos (by omega), if_pos (by omega)]; simp, h _ (xt_upd (by simp)) upd_same⟩
theorem rd_append {p : Addr} {xs : List V} {v : V} (e : H p = some (.lst xs)) (hz : xs.length < sizeLine) (h : ∀ H2, Xt [p] H H2 → H2 p = some (.lst (xs ++ [v])) → Q .non H2) : rAppend (.ref p) [v] H Q :=
  ⟨p, xs, v, rfl, rfl, e, hz, h _ (xt_upd (by simp)) upd_same⟩
theorem tyL {p : Addr} {xs : List V} (e : H p = some (.lst xs)) : tyV K "list" (.ref p) H := .inl ⟨rfl, _, SqL.of e⟩
/-- cutting: xs[lo:hi] -/
theorem rd_slL {p : Addr} {xs : List V} {lo hi : Option Int} (e : H p = some (.lst xs)) (h : ∀ l H2, H l = none → Ex H H2 → H2 l = some (.lst (cutV xs lo hi)) → Q (.ref l) H2) : rSlL K (.ref p) lo hi H Q := ⟨p, xs, rfl, SqL.of e, fun l hl => h l _ hl (ex_new hl) upd_same⟩
theorem rd_sum {p : Addr} {ns : List Int} (e : H p = some (.lst (ns.map V.int))) (h : Q (.int ns.sum) H) : rSum K [.ref p] H Q := ⟨p, ns, rfl, SqL.of e, h⟩
theorem rd_all {p : Addr} {bs : List Bool} (e : H p = some (.lst (bs.map V.bl))) (h : Q (.bl (bs.all id)) H) : rAll K [.ref p] H Q := ⟨p, bs, rfl, SqL.of e, h⟩
theorem rd_cat {p q : Addr} {xs ys : List V} (e : H p = some (.lst xs)) (f : H q = some (.lst ys)) (hz : xs.length + ys.length ≤ sizeLine) (h : ∀ l H2, H l = none → Ex H H2 → H2 l = some (.lst (xs ++ ys)) → Q (.ref l) H2) : rCat (.ref p) (.ref q) H Q :=
  ⟨p, q, xs, ys, rfl, rfl, e, f, hz, fun l hl => h l _ hl (ex_new hl) upd_same⟩
theorem sz {n : Nat} (h : n ≤ 100000) : n ≤ sizeLine := Nat.le_trans h (by decide)
theorem szl {n : Nat} (h : n < 100000) : n < sizeLine := Nat.lt_of_lt_of_le h (by decide)
end
/-- a decided test -/
theorem if_dec {p : Prop} [Decidable p] {A B : Prop} (h1 : p → A) (h2 : ¬ p → B) : if decide p = true then A else B := by
  by_cases h : p
  · rw [decide_eq_true h]; exact iteT (h1 h)
  · rw [decide_eq_false h]; exact iteF (h2 h)
theorem if_ndec {p : Prop} [Decidable p] {A B : Prop} (h1 : ¬ p → A) (h2 : p → B) : if (!decide p) = true then A else B := by
  by_cases h : p
  · rw [decide_eq_true h]; exact iteF (h2 h)
  · rw [decide_eq_false h]; exact iteT (h1 h)

/-! ### more rules -/
section
variable {X : Cx}
/-- int(x) of an int -/
theorem int_small {i : Int} (h1 : -(2 ^ 64) < i) (h2 : i < 2 ^ 64) : -(2 ^ 64) < i ∧ i < 2 ^ 64 := ⟨h1, h2⟩
theorem op_mulB : OpR X (binaryOp .Mult) (rI IntMulOk fun i j => .int (i * j)) := opI fun _ _ _ _ _ _ _ hc q => mul_int q hc
theorem op_modG : OpR X (binaryOp .Mod) (rI (fun _ j => j ≠ 0) fun i j => .int (i.fmod j)) := op_modN
theorem mulok_r {i j : Int} (h1 : -(2 ^ 63) ≤ j) (h2 : j < 2 ^ 63) : IntMulOk i j := .of_right (intBits_le_64 (by omega) (by omega))
theorem mulok_l {i j : Int} (h1 : -(2 ^ 63) ≤ i) (h2 : i < 2 ^ 63) : IntMulOk i j := .of_left (intBits_le_64 (by omega) (by omega))
end
end Y
/-! loops and comprehensions, told by what each turn does -/
namespace Y
open PySem PySem.Spec PyProof.Rows L2
def LcB (J : It) (g : TG) (tt : TT) (te : TE) (vs : List Nat) (σ : L2.St) (H1 : Hp) (Q : VK) : Prop := ∀ D, H1 D = none → ∃ W : Nat → Nat → Hp → Prop, (∃ m, W 0 m (upd H1 D (.lst []))) ∧ ∀ i m H, W i m H →
  (J.stop i H ∧ Q (.ref D) H) ∨ (J.go i H ∧ ∃ Nx : Hp → Prop, (∀ H', Nx H' → ∃ m', m' < m ∧ W (i + 1) m' H') ∧ ∀ x H', J.yld i H x H' → g x (wipe σ vs) H' fun σ2 H2 => wipe σ2 vs = wipe σ vs ∧ tt σ2 H2 fun b H3 =>
    if b = true then te σ2 H3 fun y H4 => ∃ acc, H4 D = some (.lst acc) ∧ acc.length < sizeLine ∧ Nx (upd H4 D (.lst (acc ++ [y]))) else Nx H3)
def ForB (J : It) (g : TG) (tb : TS) (D : Ends) (σ : L2.St) (H1 : Hp) : Prop := ∃ W : Nat → Nat → L2.St → Hp → Prop, (∃ m, W 0 m σ H1) ∧ ∀ i m σ H, W i m σ H →
  (J.stop i H ∧ D.nx σ H) ∨ (J.go i H ∧ ∃ N : L2.St → Hp → Prop, (∀ σ' H', N σ' H' → ∃ m', m' < m ∧ W (i + 1) m' σ' H') ∧ ∀ x H', J.yld i H x H' → g x σ H' fun σ2 H2 => tb { D with nx := N, ct := N, bk := D.nx } σ2 H2)
def ItL (K : PySem.W.Frag) (x : V) (H : Hp) (R : It → Hp → Prop) : Prop := ∃ a, x = .ref a ∧ (∃ xs, SqL K H a xs) ∧ R (Itl K a) H
def ItT (K : PySem.W.Frag) (x : V) (H : Hp) (R : It → Hp → Prop) : Prop := ∃ a, x = .ref a ∧ (∃ xs, SqT K H a xs) ∧ R (Itt K a) H
def Rg1 (vs : List V) (H : Hp) (R : It → Hp → Prop) : Prop := ∃ j : Int, vs = [.int j] ∧ -(2 ^ 62) ≤ j ∧ j < 2 ^ 62 ∧ R (Itr 0 j.toNat) H
def Rg2 (vs : List V) (H : Hp) (R : It → Hp → Prop) : Prop := ∃ i j : Int, vs = [.int i, .int j] ∧ (-(2 ^ 62) ≤ i ∧ i < 2 ^ 62 ∧ -(2 ^ 62) ≤ j ∧ j < 2 ^ 62) ∧ R (Itr i (j - i).toNat) H
def Zp (K : PySem.W.Frag) (vs : List V) (H : Hp) (R : It → Hp → Prop) : Prop := ∃ a b xs ys, vs = [.ref a, .ref b] ∧ SqL K H a xs ∧ SqL K H b ys ∧ R (Itz K a b) H
section
variable {K : PySem.W.Frag} {σ : L2.St} {H : Hp} {ta tl te : TE} {tr : TA} {tt : TT} {tb : TS} {wi : TI} {g : TG} {vs : List Nat} {Q : VK} {R : It → Hp → Prop} {D : Ends} {J : It} {n : Nat} {G : Hp → Prop} {Y : Nat → Hp → V → Hp → Prop} {p q : Addr} {xs ys : List V}
theorem rd_lc (h : wi σ H fun J H1 => LcB J g tt te vs σ H1 Q) : tLc wi g tt te vs σ H Q := h
theorem rd_for (h : wi σ H fun J H1 => ForB J g tb D σ H1) : tFor wi g tb D σ H := h
theorem rd_iL (h : tl σ H fun x H1 => ItL K x H1 R) : iList K tl σ H R := h
theorem rd_iT (h : tl σ H fun x H1 => ItT K x H1 R) : iTup K tl σ H R := h
theorem rd_r1 (h : tr σ H fun vs H1 => Rg1 vs H1 R) : iRng1 tr σ H R := h
theorem rd_r2 (h : tr σ H fun vs H1 => Rg2 vs H1 R) : iRng2 tr σ H R := h
theorem rd_iZ (h : tr σ H fun vs H1 => Zp K vs H1 R) : iZip K tr σ H R := h
theorem rd_itL (e : H p = some (.lst xs)) (h : R (Itl K p) H) : ItL K (.ref p) H R := ⟨p, rfl, ⟨_, SqL.of e⟩, h⟩
theorem rd_itT (e : H p = some (.tup xs)) (h : R (Itt K p) H) : ItT K (.ref p) H R := ⟨p, rfl, ⟨_, SqT.of e⟩, h⟩
theorem rd_rg1 (n : Nat) {j : Int} (e : j = (n : Int)) (hn : n ≤ 1000000) (h : R (Itr 0 n) H) : Rg1 [.int j] H R := ⟨j, rfl, by omega, by omega, by rw [e]; exact h⟩
theorem rd_rg2 (lo n : Nat) {i j : Int} (ei : i = (lo : Int)) (ej : j = ((lo + n : Nat) : Int)) (hn : lo + n ≤ 1000000) (h : R (Itr i n) H) : Rg2 [.int i, .int j] H R := ⟨i, j, rfl, ⟨by omega, by omega, by omega, by omega⟩, by
  rw [show (j - i).toNat = n by omega]; exact h⟩
theorem rd_zp (e : H p = some (.lst xs)) (f : H q = some (.lst ys)) (h : R (Itz K p q) H) : Zp K [.ref p, .ref q] H R := ⟨p, q, xs, ys, rfl, SqL.of e, SqL.of f, h⟩
/-! ### walks over what is tracked -/
theorem wkL : Walk (Itl K p) xs.length (fun H => H p = some (.lst xs)) (YAt xs) := walk_list.mono (fun _ h => SqL.of h) fun _ _ _ _ _ _ y => y
theorem wkT : Walk (Itt K p) xs.length (fun H => H p = some (.tup xs)) (YAt xs) := walk_tup.mono (fun _ h => SqT.of h) fun _ _ _ _ _ _ y => y
theorem wkR {lo : Int} : Walk (Itr lo n) n (fun _ => True) (YFn fun i => .int (lo + i)) := walk_range
theorem wkZ (hl : xs.length = ys.length) : Walk (Itz K p q) xs.length (fun H => H p = some (.lst xs) ∧ H q = some (.lst ys)) (YPair (fun i => xs[i]?) (fun i => ys[i]?)) :=
  (walk_zip (by omega)).mono (fun _ h => ⟨SqL.of h.1, SqL.of h.2⟩) fun _ _ _ _ _ _ y => y
/-- a for: a word for each turn -/
theorem for_w (w : Walk J n G Y) (Pv : Nat → L2.St → Hp → Prop) (h0 : Pv 0 σ H) (hG : ∀ i σ H, i ≤ n → Pv i σ H → G H)
    (hs : ∀ i x σ H H', i < n → Pv i σ H → Y i H x H' → g x σ H' fun σ2 H2 => tb { D with nx := Pv (i + 1), ct := Pv (i + 1), bk := D.nx } σ2 H2) (hd : ∀ σ H, Pv n σ H → D.nx σ H) : ForB J g tb D σ H :=
  for_it w Pv h0 hG hs hd
/-- a comprehension that makes objects alone: its items are vals -/
theorem lc_pure (w : Walk J n G Y) (vals : Nat → V) (hn : n ≤ 100000) (hG : ∀ H', Ex H H' → G H')
    (hs : ∀ i x H1 H2, i < n → Ex H H1 → Y i H1 x H2 → ∀ P : VK, (∀ H4, Ex H1 H4 → P (vals i) H4) → g x (wipe σ vs) H2 fun σ2 H3 => wipe σ2 vs = wipe σ vs ∧ te σ2 H3 P)
    (hd : ∀ D H', H D = none → Ex H H' → H' D = some (.lst ((List.range n).map vals)) → Q (.ref D) H') : LcB J g tYes te vs σ H Q := fun D hD =>
  lc_it w (fun i H' => Ex H H' ∧ H' D = some (.lst ((List.range i).map vals))) ⟨ex_new hD, upd_same⟩ (fun i H' _ h => hG H' h.1) (fun i x H1 H2 hi h y => by
    refine hs i x H1 H2 hi h.1 y _ fun H4 e4 => ⟨_, e4.at h.2, szl (by rw [List.length_map, List.length_range]; omega), ?_, ?_⟩
    · exact Xt.fresh (S := [D]) (Xt.trans h.1 e4) (xt_upd (by simp)) (by simp [hD])
    · rw [List.range_succ, List.map_append]; exact upd_same) fun H' h => hd D H' hD h.1 h.2
/-- .. with a test: the items are those of vals that are there -/
theorem lc_some (w : Walk J n G Y) (vals : Nat → Option V) (hn : n ≤ 100000) (hG : ∀ H', Ex H H' → G H')
    (hs : ∀ i x H1 H2, i < n → Ex H H1 → Y i H1 x H2 → ∀ (P : VK) (N : Hp → Prop), (∀ v H4, vals i = some v → Ex H1 H4 → P v H4) → (vals i = none → ∀ H4, Ex H1 H4 → N H4) →
      g x (wipe σ vs) H2 fun σ2 H3 => wipe σ2 vs = wipe σ vs ∧ tt σ2 H3 fun b H4 => if b = true then te σ2 H4 P else N H4)
    (hd : ∀ D H', H D = none → Ex H H' → H' D = some (.lst ((List.range n).filterMap vals)) → Q (.ref D) H') : LcB J g tt te vs σ H Q := fun D hD =>
  lc_it w (fun i H' => Ex H H' ∧ H' D = some (.lst ((List.range i).filterMap vals))) ⟨ex_new hD, upd_same⟩ (fun i H' _ h => hG H' h.1) (fun i x H1 H2 hi h y => by
    have hlen : ((List.range i).filterMap vals).length ≤ i := by
      have := List.length_filterMap_le vals (List.range i)
      rw [List.length_range] at this; exact this
    refine hs i x H1 H2 hi h.1 y _ _ (fun v H4 ev e4 => ⟨_, e4.at h.2, szl (by omega), ?_, ?_⟩) fun ev H4 e4 => ⟨Xt.trans h.1 e4, ?_⟩
    · exact Xt.fresh (S := [D]) (Xt.trans h.1 e4) (xt_upd (by simp)) (by simp [hD])
    · rw [List.range_succ, List.filterMap_append, List.filterMap_cons, ev]; exact upd_same
    · rw [List.range_succ, List.filterMap_append, List.filterMap_cons, ev]
      show H4 D = some (.lst (_ ++ []))
      rw [List.append_nil]; exact e4.at h.2) fun H' h => hd D H' hD h.1 h.2
/-- a comprehension whose element changes what S names: R keeps the books -/
theorem lc_eff (w : Walk J n G Y) (S : List Addr) (R : Nat → List V → Hp → Prop) (hS : ∀ a ∈ S, H a ≠ none) (hn : n ≤ 100000) (hG : ∀ i acc H', i ≤ n → Xt S H H' → R i acc H' → G H')
    (hR : ∀ i acc H1 H2 D, H D = none → R i acc H1 → Xt [D] H1 H2 → R i acc H2) (h0 : R 0 [] H)
    (hs : ∀ i x acc H1 H2, i < n → acc.length = i → Xt S H H1 → R i acc H1 → Y i H1 x H2 → ∀ P : VK, (∀ y H4, Xt S H1 H4 → R (i + 1) (acc ++ [y]) H4 → P y H4) → g x (wipe σ vs) H2 fun σ2 H3 => wipe σ2 vs = wipe σ vs ∧ te σ2 H3 P)
    (hd : ∀ D acc H', H D = none → acc.length = n → Xt S H H' → R n acc H' → H' D = some (.lst acc) → Q (.ref D) H') : LcB J g tYes te vs σ H Q := fun D hD => by
  have hDS : D ∉ S := fun z => hS D z hD
  refine lc_it w (fun i H' => ∃ acc : List V, acc.length = i ∧ Xt S H H' ∧ R i acc H' ∧ H' D = some (.lst acc)) ⟨[], rfl, Ex.xt (ex_new hD), hR 0 [] H _ D hD h0 (Ex.xt (ex_new hD)), upd_same⟩ (fun i H' hi h => ?_) (fun i x H1 H2 hi h y => ?_) fun H' h => ?_
  · obtain ⟨acc, _, e, r, _⟩ := h
    exact hG i acc H' hi e r
  · obtain ⟨acc, el, e, r, ed⟩ := h
    refine hs i x acc H1 H2 hi el e r y _ fun z H4 e4 r4 => ⟨acc, e4.at ed hDS, szl (by omega), acc ++ [z], by rw [List.length_append, el]; rfl, ?_, hR _ _ H4 _ D hD r4 (xt_upd (by simp)), upd_same⟩
    refine fun a o na ha => ?_
    have nd : a ≠ D := fun z => by rw [z, hD] at ha; cases ha
    rw [upd_ne nd]
    exact e4 a o na (e a o na ha)
  · obtain ⟨acc, el, e, r, ed⟩ := h
    exact hd D acc H' hD el e r ed
end
/-! ### tests that are told -/
theorem rd_T {A B : Prop} (h : A) : if true = true then A else B := h
theorem rd_F {A B : Prop} (h : B) : if false = true then A else B := h
theorem rd_nT {A B : Prop} (h : B) : if (!true) = true then A else B := h
theorem rd_nF {A B : Prop} (h : A) : if (!false) = true then A else B := h
theorem rd_dec {p : Prop} [Decidable p] {A B : Prop} (h1 : p → A) (h2 : ¬ p → B) : if decide p = true then A else B := if_dec h1 h2
theorem rd_ndec {p : Prop} [Decidable p] {A B : Prop} (h1 : ¬ p → A) (h2 : p → B) : if (!decide p) = true then A else B := if_ndec h1 h2
end Y
/-! zip over a tuple and a list: the turns of a comprehension's target (x, y) -/
namespace Y
open PySem PySem.Spec PyProof.Rows L2
section
variable {prog : Program} {w : World} {A : Around} {s : Shared}
/-- an iterator at it, known by St, gives x and is then known by Fi; it alone is changed -/
def Gives (prog : Program) (w : World) (A : Around) (it : Addr) (St Fi : Heap → Prop) (x : Value) : Prop :=
  ∀ (s0 : Shared) (P : Value → Shared → Prop) (E : Value → Shared → Prop), St s0.heap → (∀ g', Fi g' → Heap.SameBut it s0.heap g' → P x { s0 with heap := g' }) → wpAny (model prog w) A (Builtin.SmallTypes.nextOf (.ref it)) P E s0
theorem zipG_item {E : Value → Shared → Prop} {zz ti oo j1 j2 : Addr} {x y u v : Value} {S1 F1 S2 F2 : Heap → Prop} {Q : Value → Shared → Prop}
    (n1 : ti ≠ zz) (n2 : oo ≠ zz) (n3 : j1 ≠ zz) (n4 : j2 ≠ zz) (n5 : ti ≠ oo) (n6 : oo ≠ j1) (n7 : oo ≠ j2)
    (hz : IsZip s.heap zz ti oo .none) (ht : IsPair s.heap ti (.ref j1) (.ref j2)) (ho : IsPair s.heap oo u v) (g1 : Gives prog w A j1 S1 F1 x) (g2 : Gives prog w A j2 S2 F2 y)
    (st1 : ∀ h1, Heap.SameBut zz s.heap h1 → S1 h1) (st2 : ∀ h1 h2 h3, Heap.SameBut zz s.heap h1 → Heap.SameBut j1 h1 h2 → Heap.SameBut oo h2 h3 → S2 h3)
    (hQ : ∀ h2 h4 h', F1 h2 → F2 h4 → (∀ c ob, c ≠ zz → c ≠ oo → c ≠ j2 → h2.get? c = some ob → h'.get? c = some ob) → (∀ c ob, c ≠ zz → c ≠ oo → h4.get? c = some ob → h'.get? c = some ob) →
      IsZip h' zz ti oo (rawInt s.heap.objs.size) → IsPair h' oo x y → IsPair h' s.heap.objs.size x y → h'.objs.size = s.heap.objs.size + 1 →
      (∀ c ob, c ≠ zz → c ≠ oo → c ≠ j1 → c ≠ j2 → s.heap.get? c = some ob → h'.get? c = some ob) → Q (.ref s.heap.objs.size) { s with heap := h' }) :
    wpAny (model prog w) A (Builtin.«zip.__next__» ⟨[.ref zz], []⟩) (fun fin s' => ∃ r, fin = .done (.ret r) ∧ Q r s') E s := by
  show wpAny _ _ (field (.ref zz) 2 >>= _) _ E s
  refine wpAny_bind (wpAny_field hz rfl (x := .bool false) rfl ?_)
  show wpAny _ _ (field (.ref zz) 3 >>= _) _ E s
  refine wpAny_bind (wpAny_field hz rfl (x := .ref ti) rfl (wpAny_bind (wpAny_seqItems ht rfl ?_)))
  show wpAny _ _ (Builtin.SmallTypes.ownedTupleIsFree (.ref zz) >>= _) _ E s
  refine wpAny_bind ?_
  unfold Builtin.SmallTypes.ownedTupleIsFree
  refine wpAny_bind (wpAny_field hz rfl (x := .none) rfl (wpAny_pure ?_))
  simp only [if_true]
  refine wpAny_bind (wpAny_rule (wpAny_bind (wpAny_field hz rfl (x := .ref oo) rfl (wpAny_bind (wpAny_setField_rec hz (by simp) fun h1 z1 k1 => ?_)))))
  replace z1 : IsZip h1 zz ti oo .ellipsis := z1
  refine wpAny_bind ?_
  simp only [List.zipIdx_cons, List.zipIdx_nil, List.forIn_cons, List.forIn_nil]
  refine wpAny_bind (wpAny_bind (wpAny_onRaise ?_))
  show wpAny _ _ (Builtin.SmallTypes.nextOf (.ref j1) >>= _) _ _ _
  refine wpAny_bind (g1 _ _ _ (st1 h1 k1) fun h2 f2 k2 => wpAny_pure ?_)
  have o2 : IsPair h2 oo u v := k2.extBut _ _ n6 (k1.extBut _ _ n2 ho)
  refine wpAny_bind (wpAny_seqItems o2 rfl (wpAny_bind (wpAny_updateSeq_pair o2 fun h3 o3 k3 => ?_)))
  replace o3 : IsPair h3 oo x v := o3
  refine wpAny_bind (wpAny_letGo (wpAny_pure ?_))
  refine wpAny_bind (wpAny_bind (wpAny_onRaise ?_))
  show wpAny _ _ (Builtin.SmallTypes.nextOf (.ref j2) >>= _) _ _ _
  refine wpAny_bind (g2 _ _ _ (st2 h1 h2 h3 k1 k2 k3) fun h4 f4 k4 => wpAny_pure ?_)
  have o4 : IsPair h4 oo x v := k4.extBut _ _ n7 o3
  refine wpAny_bind (wpAny_seqItems o4 rfl (wpAny_bind (wpAny_updateSeq_pair o4 fun h5 o5 k5 => ?_)))
  replace o5 : IsPair h5 oo x y := o5
  refine wpAny_bind (wpAny_letGo (wpAny_pure (wpAny_pure (wpAny_bind (wpAny_seqItems o5 rfl (wpAny_bind (wpAny_newTuple ?_)))))))
  have es : h5.objs.size = s.heap.objs.size := by rw [k5.1, k4.1, k3.1, k2.1, k1.1]
  have z5 : IsZip h5 zz ti oo .ellipsis := k5.extBut _ _ n2.symm (k4.extBut _ _ n4.symm (k3.extBut _ _ n2.symm (k2.extBut _ _ n3.symm z1)))
  have lz : zz < h5.objs.size := Heap.lt_size z5
  show wpAny _ _ (Builtin.SmallTypes.ownedTupleHandOut (.ref zz) (.ref h5.objs.size) >>= _) _ E _
  refine wpAny_bind ?_
  unfold Builtin.SmallTypes.ownedTupleHandOut
  have z6 : IsZip (h5.push { cls := .type "tuple", data := .seq #[x, y] }) zz ti oo .ellipsis := Heap.get?_push_of_some _ z5
  refine wpAny_bind (wpAny_setField_rec z6 (by simp) fun h7 z7 k7 => ?_)
  replace z7 : IsZip h7 zz ti oo (rawInt h5.objs.size) := z7
  refine wpAny_setField_rec z7 (by simp) fun h8 z8 k8 => ?_
  replace z8 : IsZip h8 zz ti oo (rawInt h5.objs.size) := z8
  have up : ∀ c ob, c ≠ zz → h5.get? c = some ob → h8.get? c = some ob := fun c ob q e => k8.extBut _ _ q (k7.extBut _ _ q (Heap.get?_push_of_some _ e))
  have pn : IsPair h8 h5.objs.size x y := k8.extBut _ _ (Nat.ne_of_gt lz) (k7.extBut _ _ (Nat.ne_of_gt lz) (Heap.get?_push_size _ rfl))
  have sz8 : h8.objs.size = h5.objs.size + 1 := by rw [k8.1, k7.1, Heap.size_push]
  refine wpAny_pure ⟨_, rfl, ?_⟩
  show Q (.ref h5.objs.size) _
  rw [es] at z8 pn sz8 ⊢
  have up4 : ∀ c ob, c ≠ zz → c ≠ oo → h4.get? c = some ob → h8.get? c = some ob := fun c ob q1 q2 e => up c ob q1 (k5.extBut _ _ q2 e)
  have up2 : ∀ c ob, c ≠ zz → c ≠ oo → c ≠ j2 → h2.get? c = some ob → h8.get? c = some ob := fun c ob q1 q2 q3 e => up4 c ob q1 q2 (k4.extBut _ _ q3 (k3.extBut _ _ q2 e))
  exact hQ h2 h4 h8 f2 f4 up2 up4 z8 (up _ _ n2 o5) pn sz8 fun c ob q1 q2 q3 q4 e => up2 c ob q1 q2 q4 (k2.extBut _ _ q3 (k1.extBut _ _ q1 e))
/-- the first iterator is at its end -/
theorem zipG_end {E : Value → Shared → Prop} {zz ti oo j1 j2 : Addr} {u v : Value} {S1 : Heap → Prop} {Q : Fin → Shared → Prop} (n3 : j1 ≠ zz) (hz : IsZip s.heap zz ti oo .none) (ht : IsPair s.heap ti (.ref j1) (.ref j2)) (ho : IsPair s.heap oo u v)
    (g1 : ∀ (s0 : Shared) (P : Value → Shared → Prop) (E : Value → Shared → Prop), S1 s0.heap → (∀ g' e, Heap.ExtBut j1 s0.heap g' → (∃ o, g'.get? e = some o ∧ o.cls = .type "StopIteration") → E (.ref e) { s0 with heap := g' }) → wpAny (model prog w) A (Builtin.SmallTypes.nextOf (.ref j1)) P E s0)
    (st1 : ∀ h1, Heap.SameBut zz s.heap h1 → S1 h1)
    (hE : ∀ h' e, (∀ c ob, c ≠ zz → c ≠ j1 → s.heap.get? c = some ob → h'.get? c = some ob) → (∃ o, h'.get? e = some o ∧ o.cls = .type "StopIteration") → E (.ref e) { s with heap := h' }) :
    wpAny (model prog w) A (Builtin.«zip.__next__» ⟨[.ref zz], []⟩) Q E s := by
  show wpAny _ _ (field (.ref zz) 2 >>= _) _ E s
  refine wpAny_bind (wpAny_field hz rfl (x := .bool false) rfl ?_)
  show wpAny _ _ (field (.ref zz) 3 >>= _) _ E s
  refine wpAny_bind (wpAny_field hz rfl (x := .ref ti) rfl (wpAny_bind (wpAny_seqItems ht rfl ?_)))
  show wpAny _ _ (Builtin.SmallTypes.ownedTupleIsFree (.ref zz) >>= _) _ E s
  refine wpAny_bind ?_
  unfold Builtin.SmallTypes.ownedTupleIsFree
  refine wpAny_bind (wpAny_field hz rfl (x := .none) rfl (wpAny_pure ?_))
  simp only [if_true]
  refine wpAny_bind (wpAny_rule (wpAny_bind (wpAny_field hz rfl (x := .ref oo) rfl (wpAny_bind (wpAny_setField_rec hz (by simp) fun h1 z1 k1 => ?_)))))
  replace z1 : IsZip h1 zz ti oo .ellipsis := z1
  refine wpAny_bind ?_
  simp only [List.zipIdx_cons, List.zipIdx_nil, List.forIn_cons, List.forIn_nil]
  refine wpAny_bind (wpAny_bind (wpAny_onRaise ?_))
  show wpAny _ _ (Builtin.SmallTypes.nextOf (.ref j1) >>= _) _ _ _
  refine wpAny_bind (g1 _ _ _ (st1 h1 k1) fun h2 e k2 he => ?_)
  obtain ⟨oe, e1, e2⟩ := he
  have z2 : IsZip h2 zz ti oo .ellipsis := k2 _ _ n3.symm z1
  have ne : e ≠ zz := fun q => by
    subst q; rw [z2] at e1; cases e1; simp at e2
  exact wpAny_setField_rec z2 (by simp) fun h3 _ k3 => hE h3 e (fun c ob q1 q2 q => k3.extBut _ _ q1 (k2 _ _ q2 (k1.extBut _ _ q1 q))) ⟨oe, k3.extBut _ _ ne e1, e2⟩
end
/-! ### the walk over both -/
def ItM (K : PySem.W.Frag) (a b : Addr) : It :=
  ⟨fun i H => ∃ (xs ys : List V) (x y : V), SqT K H a xs ∧ SqL K H b ys ∧ xs[i]? = some x ∧ ys[i]? = some y,
   fun i H v H' => ∃ T x y, v = .ref T ∧ H T = none ∧ H' = upd H T (.tup [x, y]) ∧ (∀ l, SqT K H a l → l[i]? = some x) ∧ ∀ l, SqL K H b l → l[i]? = some y,
   fun i H => ∃ xs : List V, SqT K H a xs ∧ xs.length ≤ i⟩
def KnowM (zz ti oo j1 j2 a b : Addr) (i : Nat) (h : Heap) : Prop := IsZip h zz ti oo .none ∧ IsPair h ti (.ref j1) (.ref j2) ∧ (∃ u v, IsPair h oo u v) ∧ h.IsTupleIter j1 a i ∧ h.IsListIter j2 b i
theorem turnM {P : Program} {w : World} {K : PySem.W.Frag} {es : List Expr} {kk : Nat} {tp : Pos} {a b zz ti oo j1 j2 : Addr} (D : ZipApart zz ti oo j1 j2 a b) : Turn P w K (.Tuple es kk tp) (ItM K a b) [zz, ti, oo, j1, j2] zz (KnowM zz ti oo j1 j2 a b) where
  mem := List.mem_cons_self ..
  obj := fun i h st c hc => by
    obtain ⟨k1, k2, ⟨u, v, k3⟩, ⟨o4, k4, _, d4⟩, ⟨o5, k5, _, d5⟩⟩ := st
    simp only [List.mem_cons, List.not_mem_nil, or_false] at hc
    rcases hc with rfl | rfl | rfl | rfl | rfl
    · exact ⟨_, k1, fun _ q => nomatch q⟩
    · exact ⟨_, k2, fun _ q => nomatch q⟩
    · exact ⟨_, k3, fun _ q => nomatch q⟩
    · exact ⟨o4, k4, fun _ q => by rw [d4] at q; cases q⟩
    · exact ⟨o5, k5, fun _ q => by rw [d5] at q; cases q⟩
  keep := fun i h h' st k => by
    obtain ⟨k1, k2, ⟨u, v, k3⟩, k4, k5⟩ := st
    exact ⟨k _ (by simp) _ k1, k _ (by simp) _ k2, ⟨u, v, k _ (by simp) _ k3⟩, k4.at fun o q => k _ (by simp) o q, k5.at fun o q => k _ (by simp) o q⟩
  item := by
    rintro X rfl rfl rfl hc i pins s σ H E I hf st ⟨xs, ys, x, y, qx, qy, ex, ey⟩
    obtain ⟨k1, k2, ⟨u0, v0, k3⟩, k4, k5⟩ := st
    obtain ⟨us, ru, pu, _⟩ := I.tuple qx
    obtain ⟨vs, rv, pv', _⟩ := I.list qy
    obtain ⟨u, eu, rxu⟩ := ru.get ex
    obtain ⟨v, ev, ryv⟩ := rv.get ey
    have T0 : s.TypeIs (.ref zz) "zip" := ⟨_, k1, rfl⟩
    have L : zz < s.heap.objs.size := Heap.lt_size k1
    have pt : s.heap.IsTuple a us.toArray := pu
    unfold pyNext
    refine wpAny_bind (wpAny_attempt (wpAny_callSpecial?_slot (name := Str.ofString "__next__") T0 F.slot_zip_next (wpAny_call_entry F.slot_zip_next T0 F.entry_zip_next ?_ (F.args_zip_next_1 _))))
    refine zipG_item (S1 := fun h => h.IsTupleIter j1 a i ∧ h.IsTuple a us.toArray) (F1 := fun h => h.IsTupleIter j1 a (i + 1)) (S2 := fun h => h.IsListIter j2 b i ∧ h.IsList b vs.toArray) (F2 := fun h => h.IsListIter j2 b (i + 1)) (x := u) (y := v)
      D.TIz D.TOz D.i1z D.i2z D.TITO D.TOi1 D.TOi2 k1 k2 k3
      (fun s0 P E h k => RZ.nextOf_tuple_item h.1 h.2 (by simpa using eu) fun g' f e => k g' f e) (fun s0 P E h k => wpAny_nextOf_list_item h.1 h.2 (by simpa using ev) fun g' f e => k g' f e)
      (fun h1 e => ⟨k4.extBut e.extBut D.i1z, pt.extBut e.extBut D.l1z⟩)
      (fun h1 h2 h3 e1 e2 e3 => ⟨((k5.extBut e1.extBut D.i2z).extBut e2.extBut D.i12.symm).extBut e3.extBut D.TOi2.symm, ((pv'.isList.extBut e1.extBut D.l2z).extBut e2.extBut D.l2i1).extBut e3.extBut D.l2TO⟩)
      fun h2 h4 h' f1 f2 up2 up4 z' o' pn' sz' kp' => ?_
    refine wpAny_pure ⟨_, rfl, wpAny_letOwnedTupleGo_zip (s := { s with heap := h' }) z' fun h'' z'' sb => ?_⟩
    have ht2 : IsPair h'' s.heap.objs.size u v := (sb.2 _ (Nat.ne_of_gt L)).trans pn'
    have nw : ObjOk X.prog X.w (upd H s.heap.objs.size (.tup [x, y])) h'' s.heap.objs.size (.tup [x, y]) := ⟨(show (2 : Nat) ≤ sizeLine by decide), [u, v], .cons rxu (.cons ryv .nil), ⟨_, ht2, rfl, _, rfl⟩⟩
    have kall : ∀ c ob, c ∉ [zz, ti, oo, j1, j2] → s.heap.get? c = some ob → h''.get? c = some ob := fun c ob hn q => by
      simp only [List.mem_cons, List.not_mem_nil, or_false, not_or] at hn
      exact (sb.2 c hn.1).trans (kp' c ob hn.1 hn.2.2.1 hn.2.2.2.1 hn.2.2.2.2 q)
    have I1 := I.turnedNew (t' := s.toks) (T := s.heap.objs.size) kall hf (Nat.le_refl _) nw
    refine ⟨.ref s.heap.objs.size, _, I1, rfl, ⟨_, x, y, rfl, I.hok.fresh (Nat.le_refl _), rfl, fun l hl => by rw [I.tuple_inj hl qx]; exact ex, fun l hl => by rw [I.list_inj hl qy]; exact ey⟩, ⟨z'', ?_, ⟨u, v, ?_⟩, ?_, ?_⟩, fun c hcm => ?_⟩
    · exact (sb.2 _ D.TIz).trans (kp' _ _ D.TIz D.TITO D.TIi1 D.TIi2 k2)
    · exact (sb.2 _ D.TOz).trans o'
    · exact f1.at fun o q => (sb.2 _ D.i1z).trans (up2 _ o D.i1z D.TOi1.symm D.i12 q)
    · exact f2.at fun o q => (sb.2 _ D.i2z).trans (up4 _ o D.i2z D.TOi2.symm q)
    · have hlt : c < s.heap.objs.size := by
        simp only [List.mem_cons, List.not_mem_nil, or_false] at hcm
        obtain ⟨o4, e4, _⟩ := k4
        obtain ⟨o5, e5, _⟩ := k5
        rcases hcm with rfl | rfl | rfl | rfl | rfl
        · exact L
        · exact Heap.lt_size k2
        · exact Heap.lt_size k3
        · exact Heap.lt_size e4
        · exact Heap.lt_size e5
      rw [upd_ne (Nat.ne_of_lt hlt)]
      exact (hf c hcm).1
  done := by
    rintro X rfl rfl rfl hc i pins s σ H E I hf st ⟨xs, qx, hle⟩
    obtain ⟨k1, k2, ⟨u0, v0, k3⟩, k4, k5⟩ := st
    obtain ⟨us, ru, pu, _⟩ := I.tuple qx
    have pt : s.heap.IsTuple a us.toArray := pu
    have lu := ru.length
    have T0 : s.TypeIs (.ref zz) "zip" := ⟨_, k1, rfl⟩
    unfold pyNext
    refine wpAny_bind (wpAny_attempt (wpAny_callSpecial?_slot (name := Str.ofString "__next__") T0 F.slot_zip_next (wpAny_call_entry F.slot_zip_next T0 F.entry_zip_next ?_ (F.args_zip_next_1 _))))
    refine zipG_end (S1 := fun h => h.IsTupleIter j1 a i ∧ h.IsTuple a us.toArray) D.i1z k1 k2 k3 (fun s0 P E h k => RZ.nextOf_tuple_end (I.ok.hd hc) h.1 h.2 (by simp; omega) fun g' e q1 q2 => k g' e q1 q2)
      (fun h1 e => ⟨k4.extBut e.extBut D.i1z, pt.extBut e.extBut D.l1z⟩) fun h' e kp he => ?_
    obtain ⟨oe, e1, e2⟩ := he
    refine wpAny_bind (wpAny_isInstance (T := "StopIteration") (b := true) ⟨oe, e1, e2⟩ isSubtype_stop (wpAny_pure ⟨rfl, I.turnedL (t' := s.toks) (ch := [zz, ti, oo, j1, j2]) (fun c ob hn q => ?_) hf⟩))
    simp only [List.mem_cons, List.not_mem_nil, or_false, not_or] at hn
    exact kp c ob hn.1 hn.2.2.2.1 q
  self := fun A i s Q E st h => wpAny_pyIter_zip st.1 h
/-! ### made -/
abbrev oTi (a : Addr) : Obj := { cls := .type "tuple_iterator", data := .fields #[.ref a, .int 0 0] }
abbrev oLi (b : Addr) : Obj := { cls := .type "list_iterator", data := .fields #[.ref b, .int 0 0] }
abbrev oPr (u v : Value) : Obj := { cls := .type "tuple", data := .seq #[u, v] }
abbrev mA (h : Heap) (a : Addr) : Heap := h.push (oTi a)
abbrev mB (h : Heap) (a b : Addr) : Heap := (mA h a).push (oLi b)
abbrev mC (h : Heap) (a b : Addr) : Heap := (mB h a b).push (oPr (.ref h.objs.size) (.ref (mA h a).objs.size))
abbrev mD (h : Heap) (a b : Addr) : Heap := (mC h a b).push (oPr .none .none)
abbrev made (h : Heap) (a b : Addr) : Heap := (mD h a b).push { cls := .type "zip", data := .fields #[.none, .bool false, .bool false, .ref (mB h a b).objs.size, .ref (mC h a b).objs.size] }
theorem meetsM (a b : Addr) (xs ys : Array Value) : Meets (Builtin.«zip.__new__» ⟨[.type "zip", .ref a, .ref b], []⟩) (fun _ R s => s.heap.IsTuple a xs ∧ s.heap.IsList b ys ∧ R (.ok (.ret (.ref (mD s.heap a b).objs.size))) { s with heap := made s.heap a b }) :=
  .of_wp fun prog w A R s h => by
    obtain ⟨hp, gs, dr, tk, os⟩ := s
    obtain ⟨ha, hb, h⟩ := h
    have zs := sub_zip
    have q1 : Heap.IsTuple (Shared.heap ⟨hp, gs, dr, tk, os⟩) a xs := ha
    have q2 : Heap.IsList (Shared.heap ⟨hp.push { cls := .type "tuple_iterator", data := .fields #[.ref a, .int 0 0] }, gs, dr, tk, os⟩) b ys := Heap.IsList.push hb _
    wp_walk using wpAny_pyIter_tuple q1, wpAny_pyIter_list q2
    exact ⟨_, rfl, h⟩
theorem szA {h : Heap} {a : Addr} : (mA h a).objs.size = h.objs.size + 1 := Heap.size_push ..
theorem szB {h : Heap} {a b : Addr} : (mB h a b).objs.size = h.objs.size + 2 := by rw [Heap.size_push, szA]
theorem szC {h : Heap} {a b : Addr} : (mC h a b).objs.size = h.objs.size + 3 := by rw [Heap.size_push, szB]
theorem szD {h : Heap} {a b : Addr} : (mD h a b).objs.size = h.objs.size + 4 := by rw [Heap.size_push, szC]
section
variable {prog : Program} {w : World} {A : Around} {E : Value → Shared → Prop} {s : Shared}
theorem callM {a b : Addr} {xs ys : Array Value} {Q : Value → Shared → Prop} (ha : s.heap.IsTuple a xs) (hb : s.heap.IsList b ys) (h : Q (.ref (s.heap.objs.size + 4)) { s with heap := made s.heap a b }) :
    wpAny (model prog w) A (call (.type "zip") [.ref a, .ref b]) Q E s := by
  refine callType_new F.called_zip (by decide) (F.typeCall_zip_2 _ _) (F.newCall_zip_2 _ _) (fun obj => F.args_object_init_3 obj _ _) F.entry_zip_new (meetsM a b xs ys) ⟨ha, hb, ⟨_, Heap.get?_push_size _ rfl, rfl⟩, ?_⟩
  show Q (.ref (mD s.heap a b).objs.size) _
  rw [szD]
  exact h
end
def iZipM (K : PySem.W.Frag) (ta : TA) : TI := fun σ H R => ta σ H fun vs H1 => ∃ a b xs ys, vs = [.ref a, .ref b] ∧ SqT K H1 a xs ∧ SqL K H1 b ys ∧ R (ItM K a b) H1
theorem pi_zipM {X : Cx} {e e2 : Expr} {ta : TA} {p pos tp : Pos} {es : List Expr} {kk : Nat} (hg : Gl X "zip") (hm : X.mg "zip" = none) (ha : PA X [e, e2] ta)
    (hs : starEach [e, e2] X.env = (false, eval e X.env) :: starEach [e2] X.env := by rfl) (hpl : (backTo pos (starEach [e2] X.env)).any (·.1) = false := by rfl) :
    PI X (.Tuple es kk tp) (.Call (.Name "zip" p) [e, e2] [] pos) (iZipM X.K ta) := by
  refine ⟨fun ps s0 τ G R I h => ?_⟩
  refine Call_ (ld_blt I hg hm boot_zip (callWith_type1 (thn (ha.run pos ps s0 τ G _ I h) fun us s1 ⟨vs, H1, I1, r1, a, b, xs, ys, ev, qx, qy, q⟩ => ?_) hs hpl))
  subst ev
  cases r1 with
  | @cons _ u1 _ u2 r r1 =>
    cases r1 with
    | @cons _ u3 _ u4 r' r1 =>
      cases r1
      obtain rfl : u1 = Value.ref a := r
      obtain rfl : u3 = Value.ref b := r'
      obtain ⟨its, rv, p1, _⟩ := I1.tuple qx
      obtain ⟨its2, rv2, p2, _⟩ := I1.list qy
      have pt : s1.heap.IsTuple a its.toArray := p1
      have kept : ∀ c o, s1.heap.get? c = some o → (made s1.heap a b).get? c = some o := fun c o e => Heap.get?_push_of_some _ (Heap.get?_push_of_some _ (Heap.get?_push_of_some _ (Heap.get?_push_of_some _ (Heap.get?_push_of_some _ e))))
      have k0 : (made s1.heap a b).get? s1.heap.objs.size = some (oTi a) := Heap.get?_push_of_some _ (Heap.get?_push_of_some _ (Heap.get?_push_of_some _ (Heap.get?_push_of_some _ (Heap.get?_push_size _ rfl))))
      have k1 : (made s1.heap a b).get? (s1.heap.objs.size + 1) = some (oLi b) := Heap.get?_push_of_some _ (Heap.get?_push_of_some _ (Heap.get?_push_of_some _ (Heap.get?_push_at szA.symm rfl)))
      have k2 : (made s1.heap a b).get? (s1.heap.objs.size + 2) = some (oPr (.ref s1.heap.objs.size) (.ref (s1.heap.objs.size + 1))) := by
        rw [← szA (h := s1.heap) (a := a)]
        exact Heap.get?_push_of_some _ (Heap.get?_push_of_some _ (Heap.get?_push_at szB.symm rfl))
      have k3 : (made s1.heap a b).get? (s1.heap.objs.size + 3) = some (oPr .none .none) := Heap.get?_push_of_some _ (Heap.get?_push_at szC.symm rfl)
      have zz : IsZip (made s1.heap a b) (s1.heap.objs.size + 4) (s1.heap.objs.size + 2) (s1.heap.objs.size + 3) .none := by
        show (made s1.heap a b).get? (s1.heap.objs.size + 4) = _
        rw [← szB (h := s1.heap) (a := a) (b := b), ← szC (h := s1.heap) (a := a) (b := b), ← szD (h := s1.heap) (a := a) (b := b)]
        exact Heap.get?_push_size _ rfl
      refine callM pt p2.isList (wpAny_pyIter_zip zz ?_)
      have I2 : Inv X ps τ H1 { s1 with heap := made s1.heap a b } := I1.kept (t' := s1.toks) kept
      refine ⟨s1.heap.objs.size + 4, [s1.heap.objs.size + 4, s1.heap.objs.size + 2, s1.heap.objs.size + 3, s1.heap.objs.size, s1.heap.objs.size + 1], _, _, H1, rfl, I2,
        turnM (PySem.W.ktu_apart s1.heap.objs.size a b p1.lt p2.lt), ⟨zz, k2, ⟨_, _, k3⟩, ⟨_, k0, rfl, rfl⟩, ⟨_, k1, rfl, rfl⟩⟩, fun c hcm => ?_, q⟩
      have hle : s1.heap.objs.size ≤ c := by
        simp only [List.mem_cons, List.not_mem_nil, or_false] at hcm
        rcases hcm with rfl | rfl | rfl | rfl | rfl <;> first | exact Nat.le_add_right _ _ | exact Nat.le_refl _
      exact I1.fpOk hle (I1.hok.fresh hle)
theorem walkM {K : PySem.W.Frag} {a b : Addr} {xs ys : List V} (hl : xs.length = ys.length) : Walk (ItM K a b) xs.length (fun H => SqT K H a xs ∧ SqL K H b ys) (YPair (fun i => xs[i]?) (fun i => ys[i]?)) where
  goes := fun i H hi h => ⟨xs, ys, xs[i], ys[i], h.1, h.2, List.getElem?_eq_getElem hi, List.getElem?_eq_getElem (by omega)⟩
  stops := fun H h => ⟨xs, h.1, Nat.le_refl _⟩
  yields := fun i H v H' hi h y => by
    obtain ⟨T, x, z, e1, e2, e3, f1, f2⟩ := y
    exact ⟨T, x, z, e1, e2, e3, f1 xs h.1, f2 ys h.2⟩
end Y
/-! // of ints of any size -/
namespace Y
open PySem PySem.Spec PyProof.Rows L2
section
variable {X : Cx}
theorem op_fdivB (hs : X.base.NoSeer) (ht : X.prog.given.tree = none) (hst : X.stack = X.env :: X.outer) (hg : X.env.scope.isGenerator = false) (hco : X.env.scope.isCoroutine = false) (hd : X.A.depth + Builtin.pylongFrames < recursionLimit) :
    OpR X (binaryOp .FloorDiv) (rI (fun _ j => j ≠ 0) fun i j => .int (i.fdiv j)) := by
  intro pins s σ H x y v u Q I r1 r2 h
  obtain ⟨i, j, e1, e2, c, q⟩ := h
  subst e1; subst e2
  obtain ⟨t, rfl⟩ := r1
  obtain ⟨t', rfl⟩ := r2
  refine floordiv_int c ⟨.int _, H, I.tok _, ⟨_, rfl⟩, q⟩ (.inr (PySem.PylongRoom.of I.nolimit hd ?_))
  exact SeerAt.of (hs.keeps I.bk) ht (by rw [I.ok.frames, hst]) hg hco I.ok.blt I.ok.glob
end
end Y
/-! plain: sums, two tables inverse to each other, the remainder of a floor division -/
namespace Y
/-- f 0 + .. + f (n - 1) -/
def sm : Nat → (Nat → Int) → Int
  | 0, _ => 0
  | n + 1, f => sm n f + f n
theorem sm_list (f : Nat → Int) : ∀ n, ((List.range n).map f).sum = sm n f
  | 0 => rfl
  | n + 1 => by rw [List.range_succ, List.map_append, List.sum_append, sm_list f n]; simp [sm]
theorem sm_congr {f g : Nat → Int} : ∀ {n : Nat}, (∀ i, i < n → f i = g i) → sm n f = sm n g
  | 0, _ => rfl
  | n + 1, h => by
    show sm n f + f n = sm n g + g n
    rw [sm_congr fun i hi => h i (by omega), h n (by omega)]
theorem sm_zero {f : Nat → Int} {n : Nat} (h : ∀ i, i < n → f i = 0) : sm n f = 0 := by
  induction n with
  | zero => rfl
  | succ n ih => show sm n f + f n = 0; rw [ih fun i hi => h i (by omega), h n (by omega)]; rfl
theorem sm_add (f g : Nat → Int) : ∀ n, sm n (fun i => f i + g i) = sm n f + sm n g
  | 0 => rfl
  | n + 1 => by show sm n (fun i => f i + g i) + (f n + g n) = (sm n f + f n) + (sm n g + g n); rw [sm_add f g n]; omega
theorem sm_mul (c : Int) (f : Nat → Int) : ∀ n, sm n (fun i => c * f i) = c * sm n f
  | 0 => by show (0 : Int) = c * 0; rw [Int.mul_zero]
  | n + 1 => by show sm n _ + _ = c * (sm n f + f n); rw [sm_mul c f n, Int.mul_add]
theorem sm_swap (f : Nat → Nat → Int) (m : Nat) : ∀ n, sm n (fun i => sm m fun j => f i j) = sm m fun j => sm n fun i => f i j
  | 0 => by
    show (0 : Int) = sm m fun _ => 0
    rw [sm_zero fun _ _ => rfl]
  | n + 1 => by
    show sm n _ + sm m _ = _
    rw [sm_swap f m n, ← sm_add]
    rfl
/-- one place changed -/
theorem sm_upd {f g : Nat → Int} {s : Nat} (h : ∀ i, i ≠ s → g i = f i) : ∀ {n : Nat}, s < n → sm n g = sm n f + (g s - f s)
  | 0, hs => by omega
  | n + 1, hs => by
    show sm n g + g n = sm n f + f n + (g s - f s)
    by_cases e : s = n
    · subst e
      rw [sm_congr fun i hi => h i (by omega)]
      omega
    · rw [sm_upd h (n := n) (by omega), h n (Ne.symm e)]
      omega
theorem sm_upd2 {f g : Nat → Int} {s t n : Nat} (h : ∀ i, i ≠ s → i ≠ t → g i = f i) (st : s ≠ t) (hs : s < n) (ht : t < n) : sm n g = sm n f + (g s - f s) + (g t - f t) := by
  have h1 : sm n (fun i => if i = s then g s else f i) = sm n f + ((if s = s then g s else f s) - f s) := sm_upd (g := fun i => if i = s then g s else f i) (fun i hi => if_neg hi) hs
  have h2 : sm n g = sm n (fun i => if i = s then g s else f i) + (g t - (if t = s then g s else f t)) := sm_upd (fun i hi => by
    by_cases e : i = s
    · rw [e]; exact (if_pos rfl).symm
    · rw [h i e hi]; exact (if_neg e).symm) ht
  rw [if_pos rfl] at h1
  rw [if_neg (Ne.symm st)] at h2
  rw [h2, h1]
theorem sm_one {f : Nat → Int} {s n : Nat} (hs : s < n) (h : ∀ i, i ≠ s → f i = 0) : sm n f = f s := by
  have q := sm_upd (f := fun _ => 0) (g := f) (s := s) (fun i hi => h i hi) hs
  rw [sm_zero (fun _ _ => rfl)] at q
  omega
abbrev dt (n : Nat) (u v : Nat → Int) : Int := sm n fun j => u j * v j
theorem dt_lin {n : Nat} {u a b : Nat → Int} {t : Int} : dt n u (fun j => a j + t * b j) = dt n u a + t * dt n u b := by
  unfold dt
  rw [← sm_mul, ← sm_add]
  exact sm_congr fun i _ => by rw [Int.mul_add, Int.mul_left_comm]
theorem dt_neg {n : Nat} {u a : Nat → Int} : dt n u (fun j => - a j) = - dt n u a := by
  have q := sm_mul (-1) (fun j => u j * a j) n
  unfold dt
  rw [show -sm n (fun j => u j * a j) = -1 * sm n (fun j => u j * a j) by omega, ← q]
  exact sm_congr fun i _ => by rw [Int.mul_neg]; omega
theorem dt_congr {n : Nat} {u v a b : Nat → Int} (h1 : ∀ j, j < n → u j = v j) (h2 : ∀ j, j < n → a j = b j) : dt n u a = dt n v b := sm_congr fun j hj => by rw [h1 j hj, h2 j hj]
def dlt (i j : Nat) : Int := if j = i then 1 else 0
theorem dlt_self {i : Nat} : dlt i i = 1 := if_pos rfl
theorem dlt_ne {i j : Nat} (h : i ≠ j) : dlt i j = 0 := if_neg (Ne.symm h)
/-- row i gets t times row k -/
def addR (M : Nat → Nat → Int) (i k : Nat) (t : Int) : Nat → Nat → Int := fun a j => if a = i then M i j + t * M k j else M a j
theorem addR_at {M : Nat → Nat → Int} {i k : Nat} {t : Int} : addR M i k t i = fun j => M i j + t * M k j := by funext j; exact if_pos rfl
theorem addR_ne {M : Nat → Nat → Int} {i k a : Nat} {t : Int} (h : a ≠ i) : addR M i k t a = M a := by funext j; exact if_neg h
/-- the tables are inverse to each other -/
structure Inv2 (n : Nat) (L C : Nat → Nat → Int) : Prop where
  a : ∀ i j, i < n → j < n → dt n (L i) (C j) = dlt i j
  b : ∀ i k, i < n → k < n → (sm n fun j => L j i * C j k) = dlt i k
theorem inv_unit (n : Nat) : Inv2 n dlt dlt := ⟨fun i j hi hj => by
    show sm n (fun k => dlt i k * dlt j k) = _
    rw [sm_one hi fun k hk => by rw [dlt_ne (Ne.symm hk), Int.zero_mul], dlt_self, Int.one_mul]
    unfold dlt
    by_cases e : i = j
    · rw [if_pos e, if_pos e.symm]
    · rw [if_neg e, if_neg (Ne.symm e)], fun i k hi hk => by
    rw [sm_one hi fun j hj => by rw [dlt_ne hj, Int.zero_mul], dlt_self, Int.one_mul]⟩
theorem Inv2.congr {n : Nat} {L C L' C' : Nat → Nat → Int} (v : Inv2 n L C) (h1 : ∀ i, i < n → ∀ j, j < n → L' i j = L i j) (h2 : ∀ i, i < n → ∀ j, j < n → C' i j = C i j) : Inv2 n L' C' :=
  ⟨fun i j hi hj => (dt_congr (h1 i hi) (h2 j hj)).trans (v.a i j hi hj), fun i k hi hk => (sm_congr fun j hj => by rw [h1 j hj i hi, h2 j hj k hk]).trans (v.b i k hi hk)⟩
theorem Inv2.take {n : Nat} {L C : Nat → Nat → Int} {s t : Nat} (v : Inv2 n L C) (x : Int) (hs : s < n) (ht : t < n) (st : s ≠ t) : Inv2 n (addR L s t x) (addR C t s (-x)) := by
  have comm : ∀ a b : Nat → Int, dt n a b = dt n b a := fun a b => sm_congr fun j _ => Int.mul_comm _ _
  refine ⟨fun i j hi hj => ?_, fun i k hi hk => ?_⟩
  · have key : ∀ u : Nat → Int, dt n u (addR C t s (-x) j) = dt n u (C j) + (if j = t then -x * dt n u (C s) else 0) := fun u => by
      by_cases e : j = t
      · rw [e, addR_at, if_pos rfl]; exact dt_lin
      · rw [addR_ne e, if_neg e]; omega
    by_cases ei : i = s
    · rw [ei, addR_at, comm, dt_lin, comm _ (L s), comm _ (L t), key, key, v.a s j hs hj, v.a t j ht hj, v.a s s hs hs, v.a t s ht hs, dlt_self, dlt_ne (Ne.symm st)]
      by_cases e : j = t
      · rw [if_pos e, if_pos e, e, dlt_ne st, dlt_self]; omega
      · rw [if_neg e, if_neg e, dlt_ne (Ne.symm e)]; omega
    · rw [addR_ne ei, key, v.a i j hi hj, v.a i s hi hs, dlt_ne ei]
      by_cases e : j = t
      · rw [if_pos e]; omega
      · rw [if_neg e]; omega
  · rw [sm_upd2 (f := fun j => L j i * C j k) (g := fun j => addR L s t x j i * addR C t s (-x) j k) (s := s) (t := t) (fun j h1 h2 => by rw [addR_ne h1, addR_ne h2]) st hs ht, v.b i k hi hk]
    rw [addR_at, addR_ne (Ne.symm st), addR_ne st, addR_at]
    have e1 : (L s i + x * L t i) * C s k = L s i * C s k + x * (L t i * C s k) := by rw [Int.add_mul, Int.mul_assoc]
    have e2 : L t i * (C t k + -x * C s k) = L t i * C t k - x * (L t i * C s k) := by rw [Int.mul_add, Int.mul_left_comm, Int.neg_mul]; omega
    show dlt i k + ((L s i + x * L t i) * C s k - L s i * C s k) + (L t i * (C t k + -x * C s k) - L t i * C t k) = dlt i k
    rw [e1, e2]; omega
/-- rows a and b change places -/
def swR (M : Nat → Nat → Int) (a b : Nat) : Nat → Nat → Int := fun i => if i = b then M a else if i = a then M b else M i
theorem swR_b {M : Nat → Nat → Int} {a b : Nat} : swR M a b b = M a := if_pos rfl
theorem swR_a {M : Nat → Nat → Int} {a b : Nat} : swR M a b a = M b := by
  unfold swR
  split
  · rename_i h; rw [h]
  · rw [if_pos rfl]
theorem swR_o {M : Nat → Nat → Int} {a b i : Nat} (h1 : i ≠ a) (h2 : i ≠ b) : swR M a b i = M i := by unfold swR; rw [if_neg h2, if_neg h1]
theorem swR_same {M : Nat → Nat → Int} {a : Nat} : swR M a a = M := by
  funext i
  unfold swR
  by_cases h : i = a
  · rw [if_pos h, h]
  · rw [if_neg h, if_neg h]
theorem Inv2.swap {n : Nat} {L C : Nat → Nat → Int} {s t : Nat} (v : Inv2 n L C) (hs : s < n) (ht : t < n) : Inv2 n (swR L s t) (swR C s t) := by
  by_cases st : s = t
  · subst st; rw [swR_same, swR_same]; exact v
  have at_ : ∀ i, i < n → ∃ i', i' < n ∧ (∀ M : Nat → Nat → Int, swR M s t i = M i') ∧ (i' = if i = t then s else if i = s then t else i) := fun i hi => by
    by_cases e1 : i = t
    · exact ⟨s, hs, fun M => by rw [e1]; exact swR_b, (if_pos e1).symm⟩
    · by_cases e2 : i = s
      · exact ⟨t, ht, fun M => by rw [e2]; exact swR_a, by rw [if_neg e1, if_pos e2]⟩
      · exact ⟨i, hi, fun M => swR_o e2 e1, by rw [if_neg e1, if_neg e2]⟩
  refine ⟨fun i j hi hj => ?_, fun i k hi hk => ?_⟩
  · obtain ⟨i', hi', ei, fi⟩ := at_ i hi
    obtain ⟨j', hj', ej, fj⟩ := at_ j hj
    rw [ei, ej, v.a i' j' hi' hj']
    unfold dlt
    have : (j' = i') ↔ (j = i) := by
      subst fi; subst fj
      split <;> split <;> (try split) <;> (try split) <;> omega
    by_cases e : j = i
    · rw [if_pos e, if_pos (this.mpr e)]
    · rw [if_neg e, if_neg (fun z => e (this.mp z))]
  · rw [sm_upd2 (f := fun j => L j i * C j k) (g := fun j => swR L s t j i * swR C s t j k) (s := s) (t := t) (fun j h1 h2 => by rw [swR_o h1 h2, swR_o h1 h2]) st hs ht, v.b i k hi hk]
    rw [swR_a, swR_a, swR_b, swR_b]
    omega
def ngR (M : Nat → Nat → Int) (a : Nat) : Nat → Nat → Int := fun i j => if i = a then - M a j else M i j
theorem ngR_at {M : Nat → Nat → Int} {a : Nat} : ngR M a a = fun j => - M a j := by funext j; exact if_pos rfl
theorem ngR_ne {M : Nat → Nat → Int} {a i : Nat} (h : i ≠ a) : ngR M a i = M i := by funext j; exact if_neg h
theorem Inv2.neg {n : Nat} {L C : Nat → Nat → Int} {s : Nat} (v : Inv2 n L C) (hs : s < n) : Inv2 n (ngR L s) (ngR C s) := by
  have comm : ∀ a b : Nat → Int, dt n a b = dt n b a := fun a b => sm_congr fun j _ => Int.mul_comm _ _
  refine ⟨fun i j hi hj => ?_, fun i k hi hk => ?_⟩
  · by_cases ei : i = s <;> by_cases ej : j = s
    · subst ei; subst ej; rw [ngR_at, ngR_at, dt_neg, comm, dt_neg, comm, v.a _ _ hi hi]; omega
    · subst ei; rw [ngR_at, ngR_ne ej, comm, dt_neg, comm, v.a _ _ hi hj, dlt_ne (Ne.symm ej)]; rfl
    · subst ej; rw [ngR_at, ngR_ne ei, dt_neg, v.a _ _ hi hj, dlt_ne ei]; rfl
    · rw [ngR_ne ei, ngR_ne ej, v.a _ _ hi hj]
  · rw [← v.b i k hi hk]
    refine sm_congr fun j _ => ?_
    by_cases e : j = s
    · subst e; rw [ngR_at, ngR_at]; show - L j i * - C j k = _; rw [Int.neg_mul_neg]
    · rw [ngR_ne e, ngR_ne e]
/-! ### floor division -/
theorem fd_pos {a b : Int} (h : 0 < b) : 0 ≤ a - a.fdiv b * b ∧ a - a.fdiv b * b < b := by
  have e : a.fdiv b = a / b := Int.fdiv_eq_ediv_of_nonneg a (Int.le_of_lt h)
  have h1 := Int.emod_nonneg a (Int.ne_of_gt h)
  have h2 := Int.emod_lt_of_pos a h
  have h3 := Int.emod_add_mul_ediv a b
  rw [e, Int.mul_comm]
  omega
theorem fd_neg {a b : Int} (h : b < 0) : b < a - a.fdiv b * b ∧ a - a.fdiv b * b ≤ 0 := by
  have e : a.fdiv b = (-a).fdiv (-b) := by rw [Int.neg_fdiv_neg]
  have q := fd_pos (a := -a) (b := -b) (by omega)
  rw [← e, Int.mul_neg] at q
  omega
/-- the remainder: less than the divisor, of its sign -/
theorem fd_rem {a b : Int} (h : b ≠ 0) : (a - a.fdiv b * b).natAbs < b.natAbs ∧ (a - a.fdiv b * b ≠ 0 → (0 < a - a.fdiv b * b ↔ 0 < b)) := by
  rcases Int.lt_or_gt_of_ne h with q | q
  · have := fd_neg (a := a) q; constructor <;> omega
  · have := fd_pos (a := a) q; constructor <;> omega
theorem fd_quo {a b : Int} (h : b ≠ 0) : (a.fdiv b).natAbs * b.natAbs ≤ a.natAbs + b.natAbs := by
  have r := (fd_rem (a := a) h).1
  rw [← Int.natAbs_mul]
  omega
theorem fd_half {a b : Int} (h : b ≠ 0) (hab : b.natAbs ≤ a.natAbs) (hs : 0 < a ↔ 0 < b) (hr : a - a.fdiv b * b ≠ 0) : 2 * (a - a.fdiv b * b).natAbs < a.natAbs := by
  have key : ∀ a b : Int, 0 < b → b ≤ a → a - a.fdiv b * b ≠ 0 → 2 * (a - a.fdiv b * b) < a := fun a b hb hab _ => by
    have q := fd_pos (a := a) hb
    have e : a.fdiv b = a / b := Int.fdiv_eq_ediv_of_nonneg a (Int.le_of_lt hb)
    have h1 : 1 ≤ a.fdiv b := by
      rw [e]
      exact (Int.le_ediv_iff_mul_le hb).mpr (by omega)
    have h2 : 1 * b ≤ a.fdiv b * b := Int.mul_le_mul_of_nonneg_right h1 (by omega)
    omega
  rcases Int.lt_or_gt_of_ne h with q | q
  · have e : a.fdiv b = (-a).fdiv (-b) := by rw [Int.neg_fdiv_neg]
    have q1 := key (-a) (-b) (by omega) (by omega) (by rw [← e, Int.mul_neg]; omega)
    have q2 := fd_neg (a := a) q
    rw [← e, Int.mul_neg] at q1
    omega
  · have q1 := key a b (by omega) (by omega) hr
    have q2 := fd_pos (a := a) q
    omega
end Y
/-! rows as functions, while, pairs -/
namespace Y
open PySem PySem.Spec PyProof.Rows L2
/-- the list of f 0 .. f (n - 1) -/
abbrev tab (n : Nat) (f : Nat → V) : List V := (List.range n).map f
abbrev vl (n : Nat) (u : Nat → Int) : List V := tab n fun j => .int (u j)
theorem tab_len {n : Nat} {f : Nat → V} : (tab n f).length = n := by rw [List.length_map, List.length_range]
theorem tab_get {n : Nat} {f : Nat → V} {i : Nat} (h : i < n) : (tab n f)[i]? = some (f i) := by rw [List.getElem?_map, List.getElem?_range h]; rfl
theorem tab_at {n : Nat} {f : Nat → V} {i : Nat} {x : V} (h : (tab n f)[i]? = some x) : i < n ∧ x = f i := by
  by_cases hi : i < n
  · rw [tab_get hi] at h; cases h; exact ⟨hi, rfl⟩
  · rw [List.getElem?_eq_none (by rw [tab_len]; omega)] at h; cases h
theorem tab_ext {n : Nat} {f g : Nat → V} (h : ∀ i, i < n → f i = g i) : tab n f = tab n g := List.map_congr_left fun i hi => h i (List.mem_range.mp hi)
theorem tab_set {n : Nat} {f : Nat → V} {i : Nat} {x : V} : (tab n f).set i x = tab n fun k => if k = i then x else f k := by
  refine List.ext_getElem? fun k => ?_
  by_cases hk : k < n
  · rw [List.getElem?_set, tab_get hk, tab_get hk, tab_len]
    by_cases e : i = k
    · subst e; rw [if_pos rfl, if_pos hk, if_pos rfl]
    · rw [if_neg e, if_neg (Ne.symm e)]
  · rw [List.getElem?_eq_none (by rw [List.length_set, tab_len]; omega), List.getElem?_eq_none (by rw [tab_len]; omega)]
theorem tab_snoc {n : Nat} {f : Nat → V} : tab n f ++ [f n] = tab (n + 1) f := by
  show _ = (List.range (n + 1)).map f
  rw [List.range_succ, List.map_append]; rfl
theorem tab_of (xs : List V) : xs = tab xs.length fun i => xs.getD i .non := by
  refine List.ext_getElem? fun k => ?_
  by_cases hk : k < xs.length
  · rw [tab_get hk, List.getElem?_eq_getElem hk, List.getD_eq_getElem?_getD, List.getElem?_eq_getElem hk]; rfl
  · rw [List.getElem?_eq_none (by omega), List.getElem?_eq_none (by rw [tab_len]; omega)]
theorem vl_ints {n : Nat} {u : Nat → Int} : vl n u = ((List.range n).map u).map V.int := by rw [List.map_map]; rfl
section
variable {K : PySem.W.Frag} {σ : L2.St} {H : Hp} {Q : VK} {D : Ends} {tc : TT} {tb : TS} {tr : TA} {R : It → Hp → Prop} {g1 g2 : TG} {T p q : Addr} {x z : V} {G : L2.St → Hp → Prop} {xs ys : List V}
theorem rd_gpair (e : H T = some (.tup [x, z])) (h : g1 x σ H fun σ1 H1 => g2 z σ1 H1 G) : gTup K 2 (gCons g1 (gCons g2 gNil)) (.ref T) σ H G :=
  ⟨T, [x, z], rfl, SqT.of e, rfl, x, [z], rfl, by
    show g1 x σ H fun σ1 H1 => gCons g2 gNil [z] σ1 H1 G
    have e2 : (fun σ1 H1 => gCons g2 gNil [z] σ1 H1 G) = fun σ1 H1 => g2 z σ1 H1 G := by
      funext σ1 H1
      refine propext ⟨fun k => ?_, fun k => ⟨z, [], rfl, ?_⟩⟩
      · obtain ⟨v, vr, ev, k⟩ := k
        cases ev
        have e3 : (fun σ2 H2 => gNil [] σ2 H2 G) = G := by funext σ2 H2; exact propext ⟨fun k => k.2, fun k => ⟨rfl, k⟩⟩
        have k' : g2 z σ1 H1 fun σ2 H2 => gNil [] σ2 H2 G := k
        rw [e3] at k'
        exact k'
      · show g2 z σ1 H1 fun σ2 H2 => gNil [] σ2 H2 G
        have e3 : (fun σ2 H2 => gNil [] σ2 H2 G) = G := by funext σ2 H2; exact propext ⟨fun k => k.2, fun k => ⟨rfl, k⟩⟩
        rw [e3]
        exact k
    rw [e2]
    exact h⟩
def WhB (c : TT) (tb : TS) (D : Ends) (σ : L2.St) (H : Hp) : Prop := tWhile c tb D σ H
theorem rd_while (h : WhB tc tb D σ H) : tWhile tc tb D σ H := h
theorem while_w (W : Nat → L2.St → Hp → Prop) (m : Nat) (h0 : W m σ H)
    (hs : ∀ m σ H, W m σ H → tc σ H fun b H1 => if b = true then ∃ N : L2.St → Hp → Prop, (∀ σ' H', N σ' H' → ∃ m', m' < m ∧ W m' σ' H') ∧ tb { D with nx := N, ct := N, bk := D.nx } σ H1 else D.nx σ H1) : WhB tc tb D σ H := ⟨W, ⟨m, h0⟩, hs⟩
theorem while_in {W : Nat → L2.St → Hp → Prop} {m : Nat} (h : tb { D with nx := fun σ' H' => ∃ m', m' < m ∧ W m' σ' H', ct := fun σ' H' => ∃ m', m' < m ∧ W m' σ' H', bk := D.nx } σ H) :
    ∃ N : L2.St → Hp → Prop, (∀ σ' H', N σ' H' → ∃ m', m' < m ∧ W m' σ' H') ∧ tb { D with nx := N, ct := N, bk := D.nx } σ H := ⟨_, fun _ _ h => h, h⟩
/-- zip of a tuple and a list -/
def ZpM (K : PySem.W.Frag) (vs : List V) (H : Hp) (R : It → Hp → Prop) : Prop := ∃ a b xs ys, vs = [.ref a, .ref b] ∧ SqT K H a xs ∧ SqL K H b ys ∧ R (ItM K a b) H
theorem rd_iZM (h : tr σ H fun vs H1 => ZpM K vs H1 R) : iZipM K tr σ H R := h
theorem rd_zpM (e : H p = some (.tup xs)) (f : H q = some (.lst ys)) (h : R (ItM K p q) H) : ZpM K [.ref p, .ref q] H R := ⟨p, q, xs, ys, rfl, SqT.of e, SqL.of f, h⟩
theorem wkM (hl : xs.length = ys.length) : Walk (ItM K p q) xs.length (fun H => H p = some (.tup xs) ∧ H q = some (.lst ys)) (YPair (fun i => xs[i]?) (fun i => ys[i]?)) :=
  (walkM hl).mono (fun _ h => ⟨SqT.of h.1, SqL.of h.2⟩) fun _ _ _ _ _ _ y => y
/-- the walks over rows told by functions -/
theorem wkMt {n : Nat} {f g : Nat → V} : Walk (ItM K p q) n (fun H => H p = some (.tup (tab n f)) ∧ H q = some (.lst (tab n g))) (YPair (fun i => some (f i)) fun i => some (g i)) := by
  have w := wkM (K := K) (p := p) (q := q) (xs := tab n f) (ys := tab n g) (by rw [tab_len, tab_len])
  rw [tab_len] at w
  exact w.mono (fun _ h => h) fun i H x H' hi _ y => by
    obtain ⟨T, a, b, e1, e2, e3, e4, e5⟩ := y
    exact ⟨T, a, b, e1, e2, e3, (tab_get hi).symm.trans e4, (tab_get hi).symm.trans e5⟩
theorem wkZt {n : Nat} {f g : Nat → V} : Walk (Itz K p q) n (fun H => H p = some (.lst (tab n f)) ∧ H q = some (.lst (tab n g))) (YPair (fun i => some (f i)) fun i => some (g i)) := by
  have w := wkZ (K := K) (p := p) (q := q) (xs := tab n f) (ys := tab n g) (by rw [tab_len, tab_len])
  rw [tab_len] at w
  exact w.mono (fun _ h => h) fun i H x H' hi _ y => by
    obtain ⟨T, a, b, e1, e2, e3, e4, e5⟩ := y
    exact ⟨T, a, b, e1, e2, e3, (tab_get hi).symm.trans e4, (tab_get hi).symm.trans e5⟩
theorem wkLt {n : Nat} {f : Nat → V} : Walk (Itl K p) n (fun H => H p = some (.lst (tab n f))) (YFn f) := by
  have w := wkL (K := K) (p := p) (xs := tab n f)
  rw [tab_len] at w
  exact w.mono (fun _ h => h) fun i H x H' hi _ y => ⟨y.1, (tab_at y.2).2⟩
theorem wkTt {n : Nat} {f : Nat → V} : Walk (Itt K p) n (fun H => H p = some (.tup (tab n f))) (YFn f) := by
  have w := wkT (K := K) (p := p) (xs := tab n f)
  rw [tab_len] at w
  exact w.mono (fun _ h => h) fun i H x H' hi _ y => ⟨y.1, (tab_at y.2).2⟩
theorem rd_lenLt {n : Nat} {f : Nat → V} (e : H p = some (.lst (tab n f))) (h : Q (.int n) H) : rLen K [.ref p] H Q := rd_lenL e (by rw [tab_len]; exact h)
theorem rd_lenTt {n : Nat} {f : Nat → V} (e : H p = some (.tup (tab n f))) (h : Q (.int n) H) : rLen K [.ref p] H Q := rd_lenT e (by rw [tab_len]; exact h)
theorem rd_ixLt {n : Nat} {f : Nat → V} {i : Int} (j : Nat) (e : H p = some (.lst (tab n f))) (ei : i = (j : Int)) (hj : j < n) (h : Q (f j) H) : rIxL K (.ref p) (.int i) H Q := rd_ixLn j e ei (tab_get hj) h
theorem rd_ixTt {n : Nat} {f : Nat → V} {i : Int} (j : Nat) (e : H p = some (.tup (tab n f))) (ei : i = (j : Int)) (hj : j < n) (h : Q (f j) H) : rIxT K (.ref p) (.int i) H Q := rd_ixTn j e ei (tab_get hj) h
theorem rd_setLt {n : Nat} {f : Nat → V} {i : Int} (j : Nat) {v : V} {q : Hp → Prop} (e : H p = some (.lst (tab n f))) (ei : i = (j : Int)) (hj : j < n) (h : ∀ H2, Xt [p] H H2 → H2 p = some (.lst (tab n fun k => if k = j then v else f k)) → q H2) : rSetL (.ref p) (.int i) v H q :=
  rd_setL j e ei (by rw [tab_len]; exact hj) fun H2 x y => h H2 x (by rw [tab_set] at y; exact y)
theorem room_pyl {k : Nat} {A : Around} (r : Room k A) (h : 40 ≤ k) : A.depth + Builtin.pylongFrames < recursionLimit := by
  have := r.dp
  show A.depth + 100 < _
  omega
end
end Y
/-! an own exception over ValueError whose maker begins with super().__init__(one) -/
namespace Y
open PySem PySem.Spec PyProof.Rows L2 NdefX
abbrev cl1 (cc : Addr) : List (Str × Addr) := [("__class__", cc)]
def cellF (name qual : Str) (params : Arguments) (body : List Stmt) (scope : Scope) (cc cda : Addr) : NF := ⟨name, qual, params, body, scope, cl1 cc, cda⟩
/-- what the written part says of the maker at f, of the class C -/
structure SupK (P : Program) (K : PySem.W.Frag) (mg : Str → Option Value) (C f cc cda : Addr) (me : Str) (F : NF) (fd : FuncData) : Prop where
  fun_ : ∃ (oc : Value) (od : Option Addr) (osl : Array (Option Value)) (dV kV doc pm ct : Value) (an : Option Addr), fd = PySem.W.fnX F.name F.qual F.params F.body F.scope (cl1 cc) dV kV doc pm an (.ref cda) ct ∧ K.lookup f = some ⟨oc, od, .func fd, osl⟩
  code : PySem.W.codeIn K (.ref cda) F.qual = true
  file : ∃ (cl : Value) (dd : Option Addr) (vs : Array Value) (sl : Array (Option Value)) (nm : Str) (tf : Tok), K.lookup cda = some ⟨cl, dd, .fields vs, sl⟩ ∧ vs[2]? = some (.str nm tf) ∧ ((P.main.file : Str) == nm) = true
  cell : ∃ (cl : Value) (dd : Option Addr) (sl : Array (Option Value)), K.lookup cc = some ⟨cl, dd, .cell (some (.ref C)), sl⟩
  cls : ∃ cd, PySem.W.clsIn K C = some cd
  self : PySem.W.mroIn K C (.ref C) = some true
  ost : PySem.W.nsIn K cStatics "thirdparty.any" = some none
  up : PySem.W.ks_superIn K C C "__init__" = some (some (.builtin "ValueError.__init__"))
  ve : PySem.W.subIn K (.ref C) (.type "ValueError") = some true
  exc : OexC K C
  nosup : mg "super" = none
  top : (P.main.scope.names.lookup ("super" : Str)).isSome = false
  head : ∃ ar : Arg, (F.params.posonlyargs ++ F.params.args).head? = some ar ∧ ar.arg = me
  ks : F.scope.names.lookup ("super" : Str) = some .globalImplicit
  kc : F.scope.names.lookup ("__class__" : Str) = some .free
theorem boot_super : bootBuiltins "super" = some (.type "super") := by decide +kernel
section
variable {CX : CXT} {P : Program} {w : World} {K : PySem.W.Frag} {mg : Str → Option Value} {base : Heap} {C f cc cda : Addr} {me : Str} {F : NF} {fd : FuncData} {N ps : List Str} {k : Nat} {sp : Sp}
/-- ValueError.__init__ bound to an exception of ours, called -/
theorem run_bound {A : Around} {E : Value → Shared → Prop} {h : Heap} {g : Array GenState} {d : Drawn} {t : Nat} {os : OsState} {nm q : Str} {N : Addr} {bs bm : List Value} {hdct : Bool} {sn : List Str} {sub : List Value} {ab : Bool} {col : Option Bool} {dd : Option Addr} {k0 k1 k2 k3 k5 : Option Value} {e u t0 : Addr} {more : List Value} {Q : Value → Shared → Prop}
    (hC : h.get? C = some (excClassObj nm q C N bs bm hdct sn sub ab col dd k0 k1 k2 k3 k5 "ValueError.__new__")) (he : h.get? e = some ({ cls := .ref C, dict := none, data := .fields #[.ref t0, .none, .none, .none, .bool false, .none] } : Obj)) (hu : h.get? u = some (PySem.W.kxs_mw "ValueError.__init__" e)) (hz : more.length ≤ sizeLine)
    (hq : ∀ h' t1, (∀ b o, b ≠ e → h.get? b = some o → h'.get? b = some o) → h'.get? e = some ({ cls := .ref C, dict := none, data := .fields #[.ref t1, .none, .none, .none, .bool false, .none] } : Obj) → Q .none ⟨h', g, d, t, os⟩) :
    wpAny (model P w) A (call (.ref u) more) Q E ⟨h, g, d, t, os⟩ := by
  have FB := F.excBase_ValueError
  have e1 : (Value.type "method-wrapper" == Value.type "method" || Value.type "method-wrapper" == Value.type "builtin_function_or_method" || Value.type "method-wrapper" == Value.type "method-wrapper") = true := by decide
  refine wpAny_call (codeAny_of_tree ?_); show wpAny _ A.in1 (callAny (.ref u) ⟨more, []⟩) _ _ _
  simp only [callAny]
  refine wpAny_bind (wpAny_load hu ?_)
  simp only [PySem.W.kxs_mw, e1, if_true]
  refine PySem.W.KFB.if_so (by decide) (wpAny_bind (PySem.W.check_bound_init FB.toExcCallFacts hC he rfl ?_))
  refine wpAny_bind (wpAny_pure (wpAny_pure ⟨plainId_quiet FB.init.plain _, codeAny_builtin FB.initEntry ?_⟩))
  exact PySem.W.exc_init_tree (cls := .ref C) (t0 := t0) (dv := none) (c2 := .none) (c3 := .none) (b4 := .bool false) he hz fun h' k1 k2 _ => hq h' _ k1 k2

/-- the maker: super().__init__(one), then the rest -/
theorem sup_ok {p0 p1 p2 p3 p4 : Pos} {one : Expr} {rest : List Stmt} (S : SupK P K mg C f cc cda me F fd) (hF : F.cl = cl1 cc) (hc : F.c = cda) (N1 : NScope N ps ["__class__"] F.scope) (h0 : ps[0]? = some me) (len : ∀ vs H Q E, sp vs H Q E → vs.length = ps.length)
    (hb : F.body = .Expr (.Call (.Attribute (.Call (.Name "super" p0) [] [] p1) "__init__" p2) [one] [] p3) p4 :: rest)
    (hev : ∀ L : Addr, ∃ pl : Sem Bool, eval (.Call (.Attribute (.Call (.Name "super" p0) [] [] p1) "__init__" p2) [one] [] p3) (envF F f L) = (do
      let ov ← attributeBase (.Call (.Name "super" p0) [] [] p1) "__init__" (envF F f L) (eval (.Call (.Name "super" p0) [] [] p1) (envF F f L))
      standAt p2.atName
      let (g, first) ← holding [ov] (getMethod ov "__init__" pl)
      callWith p3 g first (backTo p3 (starEach [one] (envF F f L))) []))
    (hsw : ∀ L : Addr, swapsWith (.Call (.Attribute (.Call (.Name "super" p0) [] [] p1) "__init__" p2) [one] [] p3) none p4.line (envF F f L) = pure false)
    (hin : ∀ L : Addr, interactive (envF F f L) = false)
    (hst : ∀ L : Addr, starEach [one] (envF F f L) = [(false, eval one (envF F f L))])
    (hbody : ∀ (A : Around) (outer : List Env) (s : Shared) (H : Hp) (vs : List V) (Q : VK) (E : XK), Room k (A.deeper (envF F f s.heap.objs.size)) → sp vs H Q E →
      ∃ (te : TA) (t : TS) (a : Addr), PA (ncx CX P w K mg base N F f A outer s H E) [one] te ∧ PSs (ncx CX P w K mg base N F f A outer s H E) rest t ∧ vs[0]? = some (.ref a) ∧ H a = some (exo a C none) ∧
        te (startF N vs [none]) H fun ws H1 => ws.length ≤ 1000 ∧ H1 a = some (exo a C none) ∧ t { nx := fun _ H' => Q .non H', rt := Q } (startF N vs [none]) H1) :
    FnOk P w K mg base CX (k + 1) f fd ps sp := by
  refine ⟨len, fun A outer s H args us vs Q E hr e0 hbn r hsp => ?_⟩
  have hl := len _ _ _ _ hsp
  obtain ⟨oc, od, osl, dV, kV, doc, pm, ct, an, rfl, lk⟩ := S.fun_
  have KX : K.In s.heap := e0.mod.kin.keeps fun b o e => (e0.bs b o e).1
  have nol : s.heap.NoLimit := e0.mod.nolimit.keeps fun b o e => (e0.bs b o e).1
  obtain ⟨ccl, cdd, csl, lcell⟩ := S.cell
  have atK : ∀ {b : Addr} {o : Obj}, K.lookup b = some o → H b = none := fun {b o} q => (e0.bs b o (e0.mod.kin _ _ q)).2
  have bx : ∀ {y : Str} {c : Addr}, F.cl.lookup y = some c → y = "__class__" ∧ c = cc := fun {y c} q => by
    rw [hF] at q
    unfold cl1 List.lookup at q
    split at q
    · rename_i hy
      cases q
      exact ⟨beq_iff_eq.mp hy, rfl⟩
    · cases q
  have cells : CellsAt F.cl ["__class__"] [none] s.heap H := ⟨rfl, fun y c q => by
      obtain ⟨_, rfl⟩ := bx q
      exact ⟨atK lcell, _, _, KX _ _ lcell, rfl⟩, fun x y c q1 q2 => (bx q1).1.trans (bx q2).1.symm, fun i y q => by
      cases i with
      | zero =>
        cases q
        exact ⟨cc, by rw [hF]; rfl, fun v z => by cases z⟩
      | succ i => cases q⟩
  have e4 : callEnv (PySem.W.fnX F.name F.qual F.params F.body F.scope (cl1 cc) dV kV doc pm an (.ref cda) ct) s.heap.objs.size f = envF F f s.heap.objs.size := by
    show _ = PySem.W.envX F.qual F.scope s.heap.objs.size f (.ref F.c) F.cl
    rw [hF, hc]; rfl
  refine ks_codeAny_call_defAt (fd := PySem.W.fnX F.name F.qual F.params F.body F.scope (cl1 cc) dV kV doc pm an (.ref cda) ct) (body := F.body) (binds := ps.zip us) hr.depth (KX _ _ lk) rfl nol (PySem.W.codeRec_of KX S.code) rfl hbn N1.nocell
    (fun ⟨n, _⟩ hy => N1.par n (List.of_mem_zip hy).1) (fun h₁ hns kp => ?_) N1.co N1.gen N1.kind
  rw [e4]
  obtain ⟨te, t, a, he, ht, ea, hA, hq⟩ := hbody A outer s H vs Q E (hr.deeper _) hsp
  have I : Inv (ncx CX P w K mg base N F f A outer s H E) [] (startF N vs [none]) H { s with heap := h₁, toks := s.toks + (ps.zip us).length } := inv_startN N1 hr.hd e0 hl r cells hns kp
  have fin : ∀ {σ' : L2.St} {H' : Hp} {v : V} {u : Value} {s' : Shared}, Inv (ncx CX P w K mg base N F f A outer s H E) [] σ' H' s' → L2.RelV v u → Q v H' → CE outer P w H s Q u s' :=
    fun {σ' H' v u s'} J rv q => ⟨v, H', J.os, J.bare, J.base, J.hok, rv, q⟩
  obtain ⟨u0, hu0, ru0⟩ := r.get ea
  obtain rfl : u0 = Value.ref a := ru0
  obtain ⟨ar, har, earg⟩ := S.head
  obtain ⟨fcl, fdd, fvs, fsl, nm, tf, lcode, hvs, hfile⟩ := S.file
  obtain ⟨cdC, hcd⟩ := S.cls
  obtain ⟨mb, hb1, hb2⟩ := I.mod.blt
  have psN : ps.Nodup := by
    have q := N1.nd.sublist (List.take_sublist (ps.length + [("__class__" : Str)].length) N)
    rw [N1.pre] at q
    exact (List.nodup_append.mp q).1
  have K1 : K.In h₁ := I.kIn
  obtain ⟨oD, hD1, hD2⟩ : ∃ oD, h₁.get? C = some oD ∧ oD.data = .cls cdC := by
    have q := hcd
    unfold PySem.W.clsIn at q
    split at q
    · rename_i c d cd' sl ho
      cases q
      exact ⟨_, K1 _ _ ho, rfl⟩
    · cases q
  obtain ⟨t0, hx0⟩ := exo_at I.hok hA
  have hx0' : h₁.get? a = some ({ cls := .ref C, dict := none, data := .fields #[.ref t0, .none, .none, .none, .bool false, .none] } : Obj) := hx0
  rw [hb]
  refine ks_wpAt_execs_cons (ks_wpAt_Expr_any ?_ (hin _) (hsw _))
  obtain ⟨pl, hev'⟩ := hev s.heap.objs.size
  refine ks_wpAt_MethodCall (pl := pl) ?_ hev'
  refine ks_wpAt_super_base (env := envF F f s.heap.objs.size) S.ks S.kc (by decide) rfl (K1 _ _ lk) rfl har (show Value.ref F.c = .ref cda by rw [hc]) (K1 _ _ lcode) rfl hvs hfile S.top ?_
  refine PySem.W.ks_loadName_global (env := envF F f s.heap.objs.size) N1.kind S.ks (Calls.loadGlobal_builtin (env := envF F f s.heap.objs.size) (I.mod.glob.keeps I.bk) S.nosup (hb1.keeps I.bk) ((hb2 _ (by decide)).trans boot_super) ⟨rfl, ?_⟩)
  refine wpAny_loadName_free (env := envF F f s.heap.objs.size) N1.kind S.kc (show F.cl.lookup _ = some cc by rw [hF]; rfl) ⟨_, K1 _ _ lcell, rfl⟩ ?_
  rw [earg]
  refine wpAny_loadName_local (env := envF F f s.heap.objs.size) N1.kind (N1.par me (List.mem_of_getElem? h0)) hns (zip_look psN h0 hu0) ?_
  refine ks_wpAny_isType_cls hD1 hD2 ⟨rfl, ?_⟩
  refine ks_wpAny_call_super hD1 hD2 hx0' rfl (fun c e => by cases e) (PySem.W.looks_mroIn K1 S.self) (fun h2 so2 kp2 => ?_)
  have I2 := I.kept (h' := h2) (t' := s.toks + (ps.zip us).length) kp2
  have K2 : K.In h2 := I2.kIn
  have ia : PySem.W.InstAt h2 a { cls := .ref C, data := .fields #[.ref t0, .none, .none, .none, .bool false, .none] } C none := ⟨kp2 _ _ hx0', rfl, rfl, trivial⟩
  have hup := S.up
  unfold PySem.W.ks_superIn at hup
  rw [hcd] at hup
  refine PySem.W.kxs_getMethod PySem.W.kxs_ValueError so2 (PySem.W.looks_opaque K2 S.ost) (l₀ := cdC.mro) (fun A Q E s k q => wpAny_bind ((PySem.W.looks_clsIn K2 hcd) A _ E s k (wpAny_pure q))) rfl K2 hup (ia.type.andThen (PySem.W.looks_subIn K2 S.ve)) (PySem.W.ks_ne K2 ia hcd) (by decide) ?_
  have kp3 : ∀ b o, h2.get? b = some o → (h2.push (PySem.W.kxs_mw "ValueError.__init__" a)).get? b = some o := fun b o q => Heap.get?_push_of_some _ q
  have hu3 : (h2.push (PySem.W.kxs_mw "ValueError.__init__" a)).get? h2.objs.size = some (PySem.W.kxs_mw "ValueError.__init__" a) := Heap.get?_push_at rfl rfl
  have I3 := (I2.kept (h' := h2.push (PySem.W.kxs_mw "ValueError.__init__" a)) (t' := s.toks + (ps.zip us).length + 1) kp3).pins_of (pins' := [(h2.objs.size, PySem.W.kxs_mw "ValueError.__init__" a)]) fun p hp => by
    obtain rfl : p = (h2.objs.size, PySem.W.kxs_mw "ValueError.__init__" a) := by simpa using hp
    exact ⟨hu3, I2.hok.fresh (Nat.le_refl _), Nat.ne_of_gt I2.lt, I2.nofs (Nat.le_refl _), fun v z => by cases z⟩
  refine PySem.W.kxs_callWith (i := "ValueError.__init__") (x := a) (by rw [hst]; rfl) ?_
  have hpa := he.run p3 _ _ _ _ _ I3 hq
  have es : starEach [one] (ncx CX P w K mg base N F f A outer s H E).env = [(false, eval one (envF F f s.heap.objs.size))] := hst _
  rw [es] at hpa
  rw [hst]
  refine PySem.Calls.evalArgs_plain (thn hpa fun us4 s4 hh4 => ?_)
  obtain ⟨vs4, H4, I4, r4, hz4, hA4, q4⟩ := hh4
  obtain ⟨hh4, g4, d4, tk4, os4⟩ := s4
  have hu4 : hh4.get? h2.objs.size = some (PySem.W.kxs_mw "ValueError.__init__" a) := (I4.pin (h2.objs.size, PySem.W.kxs_mw "ValueError.__init__" a) (by simp [ncx])).1
  refine ⟨hu4, ?_⟩
  obtain ⟨t4, hx4⟩ := exo_at I4.hok hA4
  obtain ⟨nmC, qC, NC, bsC, bmC, snC, subC, abC, colC, ddC, k0, k1, k2, k3, k5, hC, hbm⟩ := S.exc.cls
  refine run_bound (P := P) (I4.kIn _ _ hC) hx4 hu4 (by show us4.length ≤ sizeLine; rw [← r4.length, sizeLine_eq]; omega) fun h5 t5 kp5 hx5 => ?_
  have J := (I4.write (t' := tk4) (x := a) (e := a) (o := exo a C none) (by rw [hA4]; exact True.intro) (.inl rfl) kp5 ⟨_, hx5⟩ (exo_ok hx5)).pins_of (pins' := []) (fun p hp => by simp at hp)
  have eu : upd H4 a (exo a C none) = H4 := by
    funext b
    by_cases hb : b = a
    · rw [hb, upd_same, hA4]
    · exact upd_ne hb
  rw [eu] at J
  refine wpAt_of_wpAny (wpAny_mono (ht.run [] _ _ _ _ J q4) (fun fl s' hs => ?_) fun e s' hs => hs)
  cases fl with
  | ret u =>
    obtain ⟨v, σ', H', J', rv, q⟩ := hs
    exact fin J' rv q
  | next =>
    obtain ⟨σ', H', J', q⟩ := hs
    exact fin (v := V.non) (u := Value.none) J' rfl q
  | brk => exact (let ⟨_, _, _, q⟩ := hs; False.elim q)
  | cont => exact (let ⟨_, _, _, q⟩ := hs; False.elim q)
end
end Y
/-! three targets, comprehensions that make objects -/
namespace Y
open PySem PySem.Spec PyProof.Rows L2
section
variable {K : PySem.W.Frag} {σ : L2.St} {H : Hp} {Q : VK} {D : Ends} {g g1 g2 g3 : TG} {te : TE} {T p q : Addr} {x y z : V} {G : L2.St → Hp → Prop} {xs ys : List V} {J : It} {n : Nat} {Gd : Hp → Prop} {Yl : Nat → Hp → V → Hp → Prop} {vs : List Nat}
def isTp : HO → Prop
  | .tup _ => True
  | _ => False
/-- a comprehension whose elements are objects: o i the i-th -/
theorem lc_refs (w : Walk J n Gd Yl) (o : Nat → HO) (hn : n ≤ 100000) (hG : ∀ H', Ex H H' → Gd H')
    (hs : ∀ i x H1 H2, i < n → Ex H H1 → Yl i H1 x H2 → ∀ P : VK, (∀ p H4, Ex H1 H4 → H4 p = some (o i) → (H1 p = none ∨ isTp (o i)) → P (.ref p) H4) → g x (wipe σ vs) H2 fun σ2 H3 => wipe σ2 vs = wipe σ vs ∧ te σ2 H3 P)
    (hd : ∀ (D : Addr) (ps : Nat → Addr) (H' : Hp), H D = none → Ex H H' → H' D = some (.lst (tab n fun i => .ref (ps i))) → (∀ i, i < n → H' (ps i) = some (o i) ∧ ps i ≠ D) → Q (.ref D) H') : LcB J g tYes te vs σ H Q := fun D hD =>
  lc_it w (fun i H' => ∃ ps : Nat → Addr, Ex H H' ∧ H' D = some (.lst (tab i fun k => .ref (ps k))) ∧ ∀ k, k < i → H' (ps k) = some (o k) ∧ ps k ≠ D) ⟨fun _ => 0, ex_new hD, upd_same, fun k hk => by omega⟩ (fun i H' _ ⟨ps, h, _⟩ => hG H' h) (fun i x H1 H2 hi h yy => by
    obtain ⟨ps, e, eD, hp⟩ := h
    refine hs i x H1 H2 hi e yy _ fun p H4 e4 ep fr => ?_
    have pD : p ≠ D := fun z => by
      rcases fr with fr | fr
      · rw [z, eD] at fr; cases fr
      · rw [z, e4.at eD] at ep
        have q := Option.some.inj ep
        rw [← q] at fr
        exact fr.elim
    refine ⟨_, e4.at eD, szl (by rw [tab_len]; omega), fun k => if k = i then p else ps k, ?_, ?_, fun k hk => ?_⟩
    · exact Xt.fresh (S := [D]) (Xt.trans e e4) (xt_upd (by simp)) (by simp [hD])
    · rw [upd_same]
      refine congrArg (fun z => some (HO.lst z)) ?_
      rw [← tab_snoc]
      dsimp only
      rw [if_pos rfl]
      refine congrArg (· ++ _) (tab_ext fun k hk => ?_)
      rw [if_neg (by omega)]
    · dsimp only
      by_cases hki : k = i
      · subst hki; rw [if_pos rfl]; exact ⟨by rw [upd_ne pD]; exact ep, pD⟩
      · rw [if_neg hki]
        have q := hp k (by omega)
        exact ⟨by rw [upd_ne q.2]; exact e4.at q.1, q.2⟩) fun H' h => by
    obtain ⟨ps, e, eD, hp⟩ := h
    exact hd D ps H' hD e eD hp
theorem gcons_nil (e : z = z) : (fun (σ1 : L2.St) (H1 : Hp) => gCons g3 gNil [z] σ1 H1 G) = fun σ1 H1 => g3 z σ1 H1 G := by
  funext σ1 H1
  have e3 : (fun σ2 H2 => gNil [] σ2 H2 G) = G := by funext σ2 H2; exact propext ⟨fun k => k.2, fun k => ⟨rfl, k⟩⟩
  refine propext ⟨fun k => ?_, fun k => ⟨z, [], rfl, ?_⟩⟩
  · obtain ⟨v, vr, ev, k⟩ := k
    cases ev
    have k' : g3 z σ1 H1 fun σ2 H2 => gNil [] σ2 H2 G := k
    rw [e3] at k'
    exact k'
  · show g3 z σ1 H1 fun σ2 H2 => gNil [] σ2 H2 G
    rw [e3]
    exact k
theorem gcons_two : (fun (σ1 : L2.St) (H1 : Hp) => gCons g2 (gCons g3 gNil) [y, z] σ1 H1 G) = fun σ1 H1 => g2 y σ1 H1 fun σ2 H2 => g3 z σ2 H2 G := by
  funext σ1 H1
  refine propext ⟨fun k => ?_, fun k => ⟨y, [z], rfl, ?_⟩⟩
  · obtain ⟨v, vr, ev, k⟩ := k
    cases ev
    have k' : g2 y σ1 H1 fun σ2 H2 => gCons g3 gNil [z] σ2 H2 G := k
    rw [gcons_nil rfl] at k'
    exact k'
  · show g2 y σ1 H1 fun σ2 H2 => gCons g3 gNil [z] σ2 H2 G
    rw [gcons_nil rfl]
    exact k
theorem rd_gtrip (e : H T = some (.tup [x, y, z])) (h : g1 x σ H fun σ1 H1 => g2 y σ1 H1 fun σ2 H2 => g3 z σ2 H2 G) : gTup K 3 (gCons g1 (gCons g2 (gCons g3 gNil))) (.ref T) σ H G :=
  ⟨T, [x, y, z], rfl, SqT.of e, rfl, x, [y, z], rfl, by
    show g1 x σ H fun σ1 H1 => gCons g2 (gCons g3 gNil) [y, z] σ1 H1 G
    rw [gcons_two]
    exact h⟩
end
section
variable {K : PySem.W.Frag} {σ : L2.St} {H : Hp} {Q : VK} {g : TG} {te : TE} {J : It} {n : Nat} {Gd : Hp → Prop} {Yl : Nat → Hp → V → Hp → Prop} {vs : List Nat}
/-- a comprehension whose elements are tuples and change what S names; R0 keeps the books -/
theorem lc_eft (w : Walk J n Gd Yl) (S : List Addr) (R0 : Hp → Prop) (Pr : Nat → List V → Prop) (hS : ∀ a ∈ S, H a ≠ none) (hn : n ≤ 100000) (hG : ∀ H', Xt S H H' → R0 H' → Gd H') (hT : ∀ H1, R0 H1 → ∀ a ∈ S, ∀ xs, H1 a ≠ some (.tup xs))
    (hR : ∀ H1 H2 D, H D = none → R0 H1 → Xt [D] H1 H2 → R0 H2) (h0 : R0 H)
    (hs : ∀ i x H1 H2, i < n → Xt S H H1 → R0 H1 → Yl i H1 x H2 → ∀ P : VK, (∀ p xs H4, Xt S H1 H4 → R0 H4 → H4 p = some (.tup xs) → Pr i xs → P (.ref p) H4) → g x (wipe σ vs) H2 fun σ2 H3 => wipe σ2 vs = wipe σ vs ∧ te σ2 H3 P)
    (hd : ∀ (D : Addr) (ps : Nat → Addr) (xss : Nat → List V) (H' : Hp), H D = none → Xt S H H' → R0 H' → H' D = some (.lst (tab n fun i => .ref (ps i))) → (∀ i, i < n → H' (ps i) = some (.tup (xss i)) ∧ Pr i (xss i)) → Q (.ref D) H') : LcB J g tYes te vs σ H Q := fun D hD => by
  have hDS : D ∉ S := fun z => hS D z hD
  refine lc_it w (fun i H' => ∃ (ps : Nat → Addr) (xss : Nat → List V), Xt S H H' ∧ R0 H' ∧ H' D = some (.lst (tab i fun k => .ref (ps k))) ∧ ∀ k, k < i → H' (ps k) = some (.tup (xss k)) ∧ Pr k (xss k)) ⟨fun _ => 0, fun _ => [], Ex.xt (ex_new hD), hR H _ D hD h0 (Ex.xt (ex_new hD)), upd_same, fun k hk => by omega⟩ (fun i H' hi h => ?_) (fun i x H1 H2 hi h yy => ?_) fun H' h => ?_
  · obtain ⟨_, _, e, r, _⟩ := h
    exact hG H' e r
  · obtain ⟨ps, xss, e, r, eD, hp⟩ := h
    refine hs i x H1 H2 hi e r yy _ fun p xs H4 e4 r4 ep pr => ?_
    have pD : p ≠ D := fun z => by
      rw [z, e4.at eD hDS] at ep
      cases ep
    refine ⟨_, e4.at eD hDS, szl (by rw [tab_len]; omega), fun k => if k = i then p else ps k, fun k => if k = i then xs else xss k, ?_, hR _ _ D hD r4 (xt_upd (by simp)), ?_, fun k hk => ?_⟩
    · refine fun a o na ha => ?_
      have nd : a ≠ D := fun z => by rw [z, hD] at ha; cases ha
      rw [upd_ne nd]
      exact e4 a o na (e a o na ha)
    · rw [upd_same]
      refine congrArg (fun z => some (HO.lst z)) ?_
      rw [← tab_snoc]
      dsimp only
      rw [if_pos rfl]
      refine congrArg (· ++ _) (tab_ext fun k hk => ?_)
      rw [if_neg (by omega)]
    · dsimp only
      by_cases hki : k = i
      · subst hki; rw [if_pos rfl, if_pos rfl]; exact ⟨by rw [upd_ne pD]; exact ep, pr⟩
      · rw [if_neg hki, if_neg hki]
        have q := hp k (by omega)
        have kS : ps k ∉ S := fun z => hT H1 r _ z _ q.1
        have kD : ps k ≠ D := fun z => by rw [z, eD] at q; cases q.1
        exact ⟨by rw [upd_ne kD]; exact e4.at q.1 kS, q.2⟩
  · obtain ⟨ps, xss, e, r, eD, hp⟩ := h
    exact hd D ps xss H' hD e r eD hp
end
theorem rd_brk {D : Ends} {σ : L2.St} {H : Hp} (h : D.bk σ H) : tBreak D σ H := h
/-- an if without else whose branch ends where the rest begins -/
theorem rd_ifG {p : Prop} [Decidable p] {tu : TS} {σ : L2.St} {H : Hp} {tz bk ct : L2.St → Hp → Prop} {dr : VK} (G : L2.St → Prop) (h1 : p → ∀ tz' : L2.St → Hp → Prop, (∀ σ', G σ' → tz' σ' H) → tu { nx := tz', rt := dr, bk := bk, ct := ct } σ H) (h2 : ¬ p → G σ)
    (hk : ∀ σ', G σ' → tz σ' H) : if decide p = true then tu { nx := tz, rt := dr, bk := bk, ct := ct } σ H else tNext { nx := tz, rt := dr, bk := bk, ct := ct } σ H := by
  by_cases hp : p
  · rw [decide_eq_true hp]; exact h1 hp tz hk
  · rw [decide_eq_false hp]; exact hk σ (h2 hp)
theorem rd_ifH {p : Prop} [Decidable p] {tu : TS} {σ : L2.St} {H : Hp} {tz bk ct : L2.St → Hp → Prop} {dr : VK} (G : L2.St → Hp → Prop) (h1 : p → ∀ tz' : L2.St → Hp → Prop, (∀ σ' H', G σ' H' → tz' σ' H') → tu { nx := tz', rt := dr, bk := bk, ct := ct } σ H) (h2 : ¬ p → G σ H)
    (hk : ∀ σ' H', G σ' H' → tz σ' H') : if decide p = true then tu { nx := tz, rt := dr, bk := bk, ct := ct } σ H else tNext { nx := tz, rt := dr, bk := bk, ct := ct } σ H := by
  by_cases hp : p
  · rw [decide_eq_true hp]; exact h1 hp tz hk
  · rw [decide_eq_false hp]; exact hk σ H (h2 hp)
/-! ### truth, //, pop -/
def tTru (K : PySem.W.Frag) (ta : TE) : TT := fun σ H Q => ta σ H fun x H' => ∃ k, TruV K x H' k ∧ Q k H'
theorem pt_tru {X : Cx} {a : Expr} {ta : TE} (ha : PE X a ta) (he : ∀ whole, isTrue a X.env whole = (do let v ← whole; standAt a.pos; holding [v] (truthy v))) : PT X a (tTru X.K ta) := pt_truth ha he
theorem op_fdivS {X : Cx} : OpR X (binaryOp .FloorDiv) (rI (fun _ j => j ≠ 0 ∧ j.natAbs.log2 < 9000) fun i j => .int (i.fdiv j)) := opI fun _ _ _ _ _ _ _ hc q => floordiv_int hc.1 q (.inl (PyProof.noPylong_of_log2 hc.2))
section
variable {K : PySem.W.Frag} {σ : L2.St} {H : Hp} {Q : VK} {R : Bool → Hp → Prop} {ta : TE} {p : Addr} {xs : List V}
def Tr (K : PySem.W.Frag) (x : V) (H : Hp) (R : Bool → Hp → Prop) : Prop := ∃ k, TruV K x H k ∧ R k H
theorem rd_tru (h : ta σ H fun x H' => Tr K x H' R) : tTru K ta σ H R := h
theorem rd_truL (e : H p = some (.lst xs)) (h : R (!xs.isEmpty) H) : Tr K (.ref p) H R := ⟨_, .inl ⟨xs, SqL.of e, rfl⟩, h⟩
theorem rd_tru0 (e : H p = some (.lst [])) (h : R false H) : Tr K (.ref p) H R := rd_truL e h
theorem rd_tru1 {x : V} (e : H p = some (.lst (x :: xs))) (h : R true H) : Tr K (.ref p) H R := rd_truL e h
theorem rd_truT {n : Nat} {f : Nat → V} (e : H p = some (.lst (tab n f))) (hn : 0 < n) (h : R true H) : Tr K (.ref p) H R := rd_truL e (by
  have z : (tab n f).isEmpty = false := by
    cases n with
    | zero => omega
    | succ n => show (List.map f (List.range (n + 1))).isEmpty = false; rw [List.range_succ]; simp
  rw [z]; exact h)
theorem rd_popAt {x : V} {xs : List V} (e : H p = some (.lst (x :: xs))) (h : ∀ H2, Xt [p] H H2 → H2 p = some (.lst xs) → Q x H2) : rPopAt (.ref p) [.int 0] H Q :=
  ⟨p, x :: xs, 0, 0, x, rfl, rfl, e, by decide, by decide, by unfold seqIndex?; simp, rfl, h _ (xt_upd (by simp)) upd_same⟩
end
/-! ### rules with the written part named -/
section
variable {X : Cx} {K : PySem.W.Frag} {tg l : Expr} {tl : TE}
theorem ix_listK (h : X.K = K) : IxR X (rIxL K) := by subst h; exact ix_list
theorem ix_tupK (h : X.K = K) : IxR X (rIxT K) := by subst h; exact ix_tup
theorem sl_listK (h : X.K = K) : SlR X (rSlL K) := by subst h; exact sl_list
theorem cr_lenK (h : X.K = K) : CallR X (.builtin "len") (rLen K) := by subst h; exact cr_len
theorem cr_tupOfK (h : X.K = K) : CallR X (.type "tuple") (rTupOf K) := by subst h; exact cr_tupOf
theorem cr_lstOfK (h : X.K = K) : CallR X (.type "list") (rLstOf K) := by subst h; exact cr_lstOf
theorem cr_isiK (h : X.K = K) : CallR X (.builtin "isinstance") (rIsi K) := by subst h; exact call_isi
theorem pi_listK (h : X.K = K) (hl : PE X l tl) : PI X tg l (iList K tl) := by subst h; exact pi_list hl
theorem pi_tupK (h : X.K = K) (hl : PE X l tl) : PI X tg l (iTup K tl) := by subst h; exact pi_tup hl
end
end Y
/-! within an except suite: isinstance of the caught error (with its fields), a plain def called -/
namespace Y
open PySem PySem.Spec PyProof.Rows L2 L2H
/-! ### isinstance of a caught error that has fields -/
section
open PySem.W PySem.Calls
variable {prog : Program} {w : World} {A : Around} {E : Value → Shared → Prop} {s : Shared} {K : Frag} {x D : Addr} {ox : Obj} {od : Option Obj}
theorem obj_data {C : Addr} {name : Str} {a g : Value} (hc : (clsIn K C).isSome = true) (ha : findIn K (.ref C) name = some (some a)) (hg : specialIn K a "__get__" = some (some g)) (ht : takesIn K a = some true) : findObj K C od name = some (.bind g a) := by
  obtain ⟨cd, hc⟩ := Option.isSome_iff_exists.mp hc
  unfold findObj
  rw [hc, Option.bind_some, ha, Option.bind_some]
  simp [hg, ht]
theorem cls_of {Q : Option Value → Shared → Prop} (T : L2.ExcC K D) (X : K.In s.heap) (I : InstAt s.heap x ox D od) (h : Q (some (.ref D)) { s with toks := s.toks + 1 }) : wpAny (model prog w) A (getAttr? (.ref x) "__class__") Q E s := by
  have hf : findObj K D od "__class__" = some (.bind (.builtin "getset_descriptor.__get__") (.builtin "object.__class__")) := obj_data (by
    obtain ⟨cd, hc, _⟩ := any_some T.hd
    rw [hc]; rfl) T.ha T.hn T.ht
  obtain ⟨hp, g, d, t, os⟩ := s
  have k0 := I.type (M := model prog w)
  have k1 := looks_findIn (M := model prog w) X T.hg
  have k2 := looks_findIn (M := model prog w) X T.hk
  have k3 := looks_find (M := model prog w) X I hf
  have sub : Looks (model prog w) hp (isInstance (.ref x) (.type "BaseException")) true := k0.andThen (looks_subIn X T.hs)
  have n0 : (false && onTheHeap (Value.builtin "BaseException.__getattribute__")) = false := rfl
  have n2 : (Value.builtin "BaseException.__getattribute__" == Value.builtin "object.__getattribute__") = false := by decide +kernel
  have n1 : (onTheHeap (Value.ref D) && Value.builtin "BaseException.__getattribute__" == Value.builtin "object.__getattribute__") = false := by rw [n2]; rfl
  unfold getAttr? getAttrBy? getAttrBy
  refine wpAny_bind (wpAny_mkText (wpAny_bind (wpAny_attempt (wpAny_holding (wpAny_bind (k0.at (wpAny_bind (k1.at ?_))))))))
  show wpAny _ _ (if (onTheHeap (Value.ref D) && Value.builtin "BaseException.__getattribute__" == Value.builtin "object.__getattribute__") = true then _ else _) _ _ _
  rw [n1, if_neg Bool.false_ne_true]
  unfold getAttrByItsOwn hookBefore
  refine wpAny_bind ?_
  rw [if_pos (show onTheHeap (Value.ref D) = true from rfl)]
  refine k2.at ?_
  refine wpAny_bind (wpAny_attempt (wpAny_holding ?_))
  unfold callGetattribute
  rw [n0, if_neg Bool.false_ne_true]
  unfold boundAndCalled
  rw [PySem.F.excAttr_ValueError.ga.bind (.ref x)]
  refine wpAny_bind (wpAny_pure ?_)
  show wpAny _ _ (call (.builtin "BaseException.__getattribute__") [.ref x, .str "__class__" t]) _ _ _
  refine wpAny_call (codeAny_call_builtin PySem.F.excAttr_ValueError.ga.plain PySem.F.entry_bexc_ga ?_)
  refine @check_slot (model prog w) _ _ ⟨hp, g, d, t + 1, os⟩ "BaseException.__getattribute__" "BaseException" "__getattribute__" (.ref x) [.str "__class__" t] [] _ (by decide +kernel) (by decide +kernel) sub (PySem.F.args_bexc_ga (.ref x) (.str "__class__" t)) ?_
  unfold Builtin.«object.__getattribute__»
  refine wpAny_bind (wpAny_of_eq (a := ((Value.ref x : Value), [Value.str "__class__" t])) (by first | rfl | (simp only [slotArgs]; rfl)) ?_)
  refine wpAny_bind (wpAny_pure (wpAny_bind (k0.at (wpAny_bind (k3.at ?_)))))
  show wpAny _ _ (holding [Value.builtin "object.__class__"] (call (.builtin "getset_descriptor.__get__") [.builtin "object.__class__", .ref x, .ref D]) >>= ret) _ _ _
  refine wpAny_bind (wpAny_holding (wpAny_call (class_get (s := ⟨hp, g, d, t + 1, os⟩) (ox := ox) (od := od) X I T.hm ?_)))
  refine wpAny_pure ?_
  show wpAny _ _ (handedOut (.ref D)) _ _ _
  rw [handedOut_of (v := .ref D) rfl]
  first
    | exact wpAny_pure (wpAny_pure h)
    | exact wpAny_pure h
    | exact wpAny_pure (wpAny_bind (wpAny_pure (wpAny_pure h)))
theorem kit_exc (T : L2.ExcC K D) : KitX K (.ref x) (.ref D) (fun h => InstAt h x ox D od) where
  ty := fun _ _ _ I => I.type
  it := fun _ _ X _ => by
    obtain ⟨cdD, hcD, _⟩ := any_some T.hd
    unfold clsIn at hcD
    split at hcD
    · rename_i c' d' cd' sl' ho
      intro A' Q' E' s' k q
      unfold isType loadHead
      exact wpAny_bind (wpAny_loadPart (k _ _ (X _ _ ho)) (wpAny_pure q))
    · cases hcD
  ne := fun h tp dd its n sl X htp => by
    obtain ⟨cdD, hcD, _⟩ := any_some T.hd
    refine Bool.eq_false_iff.mpr fun q => ?_
    have e : D = tp := Value.ref.inj (beq_iff_eq.mp q)
    subst e
    unfold clsIn at hcD
    split at hcD
    · rename_i c' d' cd' sl' ho
      have z := (X _ _ ho).symm.trans htp
      cases z
    · cases hcD
  ca := fun X I k => cls_of T X I k
end
/-- isinstance(e, c), e the caught error of the class D that has fields -/
def rIsF (K : PySem.W.Frag) (D a : Addr) (cls : Value) (d : Option Addr) : List V → Hp → VK → Prop := fun xs H Q => ∃ (c : V) (cv : Value) (b : Bool) (dd : Addr) (fs : List (Str × V)), xs = [.ref a, c] ∧ (∀ u, RelV c u → u = cv) ∧ PySem.W.kitOne K (.ref D) cv = some b ∧ cls = .ref D ∧ d = some dd ∧ H dd = some (.xd fs) ∧ Q (.bl b) H
theorem call_isF {X : Cx} {a D : Addr} {oe : Obj} {cls : Value} {d : Option Addr} {pn : List (Addr × Obj)} (C : ExcC X.K D) (hz : Zc cls d oe) (hf : ∃ vs, oe.data = .fields vs) : CallR (X.suite a ((a, oe) :: pn)) (.builtin "isinstance") (rIsF X.K D a cls d) := by
  intro pins s σ H xs us Q I r h
  obtain ⟨c, cv, b, dd, fs, rfl, hcv, e, rfl, rfl, hd, q⟩ := h
  cases r with
  | cons rx rr =>
    cases rr with
    | cons rt rr =>
      cases rr
      cases rx
      have ec := hcv _ rt
      subst ec
      obtain ⟨hget, _⟩ := I.pin (a, oe) (List.mem_append.mpr (.inl List.mem_cons_self))
      obtain ⟨vs, hv⟩ := hf
      have hx : ObjOk X.prog X.w H s.heap dd (.xd fs) := I.hok dd _ hd
      obtain ⟨mA, hns, _⟩ := hx
      obtain ⟨od, ho, _⟩ := lookIn_ns hns
      have J : PySem.W.InstAt s.heap a oe D (some od) := ⟨hget, hz.1, by unfold PySem.W.notCls; rw [hv] <;> rfl, by rw [hz.2]; exact ho⟩
      exact PySem.W.kia_one (kit_exc C) I.kIn J e (fun z => nomatch z) fun tk => ⟨.bl b, H, I.kept (t' := tk) fun _ _ z => z, rfl, q⟩
/-! ### a plain def, called there -/
structure FnP (P : Program) (w : World) (K : PySem.W.Frag) (mg : Str → Option Value) (base : Heap) (CX : CXT) (k : Nat) (f : Addr) (fd : FuncData) (ps : List Str) (sp : Sp) : Prop where
  len : ∀ vs H Q E, sp vs H Q E → vs.length = ps.length
  run : ∀ (A : Around) (outer : List Env) (s : Shared) (H : Hp) (ar : Args) (us : List Value) (vs : List V) (Q : VK) (E : XK) (p : Addr × Obj), RoomH k A → PinOk outer H s p → Env0 P w K mg base A outer s H → BindsTo s fd ar (ps.zip us) → Vals vs us → sp vs H Q E → codeAny (model P w) A (.call (.ref f) ar) (CR CX outer P w H s Q E) s
theorem Fun.okP {P : Program} {w : World} {K : PySem.W.Frag} {mg : Str → Option Value} {base : Heap} {x qual : Str} {st : Stmt} {f : Addr} {fd : FuncData} {N ps : List Str} {k : Nat} {sp : Sp} (F : L2.Fun K x qual st f fd) (S : FnScope N ps (defScope st)) (len : ∀ vs H Q E, sp vs H Q E → vs.length = ps.length)
    (hb : ∀ (cdv : Value) (A : Around) (outer : List Env) (s : Shared) (H : Hp) (vs : List V) (Q : VK) (E : XK) (p : Addr × Obj), sp vs H Q E → ∃ t, PSs (cxH CX0 P w K mg base N qual (defScope st) f cdv A outer s H E p) (defBody st) t ∧ t { nx := fun _ H' => Q .non H', rt := Q } (L2.start N vs) H) : FnP P w K mg base CX0 (k + 1) f fd ps sp := by
  obtain ⟨oc, od, kV, doc, pm, an, cdv, ct, osl, rfl, lk, hcd⟩ := F.ex
  refine ⟨len, fun A outer s H ar us vs Q E p room pin e0 bd r hsp => ?_⟩
  have hl := len _ _ _ _ hsp
  have kx : K.In s.heap := e0.mod.kin.keeps fun b o q => (e0.bs b o q).1
  have nl : s.heap.NoLimit := e0.mod.nolimit.keeps fun b o q => (e0.bs b o q).1
  have kd : ∀ y ∈ ps.zip us, (defScope st).names.lookup y.1 = some .local ∨ ((defScope st).names.lookup y.1 = some .cell ∧ ((cellsFrom (s.heap.objs.size + 1) (defScope st).names []).lookup y.1).isSome = true) := by
    rintro ⟨n, v⟩ hy
    rcases S.par n (List.of_mem_zip hy).1 with q | q
    · exact .inl q
    · exact .inr ⟨q, PySem.W.cellsFrom_some _ _ _ (.inl q)⟩
  refine codeAny_call_function room.depth (kx _ _ lk) rfl S.co S.gen rfl (PySem.W.codeRec_of kx hcd) (bd _ _ _ _ (wpAny_newFunctionEnv_cells S.kind kd fun env he s1 x => ?_))
  subst he
  obtain ⟨t, ht, hq⟩ := hb cdv A outer s H vs Q E p hsp
  have I := inv_startH (CX := CX0) (E := E) (f := f) (cd := cdv) (qual := qual) S pin e0 hl r x
  refine ⟨nl.keeps x.toInCall.keep, codeAny_func (wpAny_mono (ht.run [] s1 (L2.start N vs) H _ I hq) (fun fl s' hs => ?_) fun e s' hs => hs)⟩
  cases fl with
  | ret u => exact (let ⟨v, _, H', J, rv, q⟩ := hs; ⟨v, H', J.os, J.bare, J.base, J.hok, rv, q⟩)
  | next => exact (let ⟨_, H', J, q⟩ := hs; ⟨V.non, H', J.os, J.bare, J.base, J.hok, rfl, q⟩)
  | brk => exact (let ⟨_, _, _, q⟩ := hs; False.elim q)
  | cont => exact (let ⟨_, _, _, q⟩ := hs; False.elim q)
structure ClP (P : Program) (w : World) (K : PySem.W.Frag) (mg : Str → Option Value) (base : Heap) (k : Nat) (x : Str) (ps : List Str) (sp : Sp) : Prop where
  ex : ∃ (f : Addr) (fd : FuncData), FnP P w K mg base CX0 k f fd ps sp ∧ mg x = some (.ref f) ∧ PySem.W.keepIn K (.ref f) = true ∧ Binds K fd ps []
theorem pe_callP {X : Cx} {a : Addr} {oe : Obj} {pn : List (Addr × Obj)} {j k : Nat} {x : Str} {ps : List Str} {sp : Sp} {p pos : Pos} {e : Expr} {es : List Expr} {t : TA} (c : ClP X.prog X.w X.K X.mg X.base k x ps sp) (hr : Room j X.A) (hk : k ≤ j) (hg : Gl X x) (ha : PA (X.suite a ((a, oe) :: pn)) (e :: es) t)
    (hdb : (x == ("__debug__" : Str)) = false := by decide) (he : starEach (e :: es) X.env = (false, eval e X.env) :: starEach es X.env := by rfl) (hpl : (backTo pos (starEach es X.env)).any (·.1) = false := by rfl) :
    PE (X.suite a ((a, oe) :: pn)) (.Call (.Name x p) (e :: es) [] pos) (tCall sp [] E0 t) := by
  obtain ⟨f, fd, F, hm, kp, b⟩ := c.ex
  refine ⟨fun pins s σ H Q I h => ?_⟩
  refine wpAny_Call_Name_kw (ld_glob I hg hm ?_ hdb)
  refine PySem.W.callWith_K (h₀ := X.base) I.ok.mod.kin kp (thn (ha.run pos pins s σ H _ I h) fun us s1 hh => ?_) he hpl
  obtain ⟨vs, H1, I1, r, q⟩ := hh
  refine ⟨I1.kIn, ?_⟩
  have q' : sp vs H1 Q E0 := by
    have z : sp (vs ++ []) H1 Q E0 := q
    rw [List.append_nil] at z
    exact z
  have hl : us.length = ps.length := by rw [← r.length]; exact F.len _ _ _ _ q'
  have bd := b s1 us I1.kIn (by rw [List.append_nil]; exact hl)
  rw [List.append_nil] at bd
  have p1 := I1.pin (a, oe) (List.mem_append_left _ List.mem_cons_self)
  have pin : PinOk X.stack H1 s1 (a, oe) := ⟨p1.1, p1.2.1, fun hm => (List.mem_cons.mp (I1.stkSub a hm)).elim p1.2.2.1 p1.2.2.2.1, p1.2.2.2.2⟩
  have rm : RoomH k (X.suite a ((a, oe) :: pn)).A := ⟨by have := (hr.mono hk).dp; exact this, by have := (hr.mono hk).un; exact this⟩
  refine wpAny_call (codeAny_mono (F.run _ X.stack s1 H1 ⟨us, []⟩ us vs Q E0 (a, oe) rm pin I1.env0 bd r q') fun res s' hq => ?_)
  cases res with
  | error er => exact False.elim hq
  | ok fl =>
    cases fl with
    | ret u => exact I1.after hq
    | next => exact False.elim hq
    | brk => exact False.elim hq
    | cont => exact False.elim hq
/-- a call in a try's body: what it lets out is told by the slots -/
theorem pe_yS {X : Cx} {CX : CXT} {E : L2.St → XK} {k j : Nat} {x : Str} {ps : List Str} {sp : Sp} {p pos : Pos} {e : Expr} {es : List Expr} {t : TA} (c : Cl X.prog X.w X.K X.mg X.base CX k x ps sp) (hr : Room j X.A) (hk : k ≤ j) (hx : ∀ σ, PassesAt CX X σ (E σ)) (hg : Gl X x) (ha : PA X (e :: es) t)
    (hdb : (x == ("__debug__" : Str)) = false := by decide) (he : starEach (e :: es) X.env = (false, eval e X.env) :: starEach es X.env := by rfl) (hpl : (backTo pos (starEach es X.env)).any (·.1) = false := by rfl) :
    PE X (.Call (.Name x p) (e :: es) [] pos) (tCallS sp E t) := by
  obtain ⟨f, fd, F, hm, kp, b⟩ := c.ex
  exact pe_callS F (hr.mono hk) hg hm kp b hx ha hdb he hpl
theorem rd_callS {σ : L2.St} {H : Hp} {Q : VK} {sp : Sp} {E : L2.St → XK} {t : TA} (h : t σ H fun vs H1 => sp vs H1 Q (E σ)) : tCallS sp E t σ H Q := h
end Y
/-! plain: one round of the clearing, its bounds -/
namespace Y
theorem abs_sub_mul {a b c : Int} {X T : Nat} (h1 : a.natAbs ≤ X) (h2 : b.natAbs ≤ T) (h3 : c.natAbs ≤ X) : (a + -b * c).natAbs ≤ X + T * X := by
  have h4 : (-b * c).natAbs ≤ T * X := by rw [Int.natAbs_mul, Int.natAbs_neg]; exact Nat.mul_le_mul h2 h3
  omega
theorem abs_add_mul {a b c : Int} {X T Z : Nat} (h1 : a.natAbs ≤ X) (h2 : b.natAbs ≤ T) (h3 : c.natAbs ≤ Z) : (a + b * c).natAbs ≤ X + T * Z := by
  have h4 : (b * c).natAbs ≤ T * Z := by rw [Int.natAbs_mul]; exact Nat.mul_le_mul h2 h3
  omega
theorem sm_abs {f : Nat → Int} {B : Nat} : ∀ {n : Nat}, (∀ i, i < n → (f i).natAbs ≤ B) → (sm n f).natAbs ≤ n * B
  | 0, _ => by show (0 : Int).natAbs ≤ _; simp
  | n + 1, h => by
    have h1 := sm_abs (n := n) fun i hi => h i (by omega)
    have h2 := h n (by omega)
    show (sm n f + f n).natAbs ≤ _
    rw [Nat.succ_mul]; omega
theorem dt_abs {n U W : Nat} {u v : Nat → Int} (h1 : ∀ i, i < n → (u i).natAbs ≤ U) (h2 : ∀ i, i < n → (v i).natAbs ≤ W) : (dt n u v).natAbs ≤ n * (U * W) :=
  sm_abs fun i hi => by rw [Int.natAbs_mul]; exact Nat.mul_le_mul (h1 i hi) (h2 i hi)
/-- numbers of one round: X entries, M products, m the pivot, m' the next -/
theorem grow {X M m : Nat} {t : Nat} (hm : m ≤ M) (h0 : 0 < m) (ht : t * m ≤ M + m) : X + t * X ≤ 3 * X * M / m := by
  rw [Nat.le_div_iff_mul_le h0]
  have e1 : (X + t * X) * m = X * (m + t * m) := by rw [Nat.add_mul, Nat.mul_add, Nat.mul_comm t X, Nat.mul_assoc]
  have e2 : 3 * X * M = X * (3 * M) := by rw [Nat.mul_comm 3 X, Nat.mul_assoc]
  rw [e1, e2]
  exact Nat.mul_le_mul_left X (by omega)
theorem growL {Y M m T k : Nat} (hm : m ≤ M) (h0 : 0 < m) (hT : T * m ≤ M + m) (hk : k ≤ 7) : Y * (1 + k * T) ≤ 16 * Y * M / m := by
  rw [Nat.le_div_iff_mul_le h0]
  have e1 : Y * (1 + k * T) * m = Y * (m + k * (T * m)) := by rw [Nat.mul_assoc, Nat.add_mul, Nat.one_mul, Nat.mul_assoc]
  have e2 : 16 * Y * M = Y * (16 * M) := by rw [Nat.mul_comm 16 Y, Nat.mul_assoc]
  rw [e1, e2]
  refine Nat.mul_le_mul_left Y ?_
  have h1 : k * (T * m) ≤ 7 * (M + m) := Nat.mul_le_mul hk hT
  omega
theorem pot {X M m m' c Φ e : Nat} (hc : c ≤ 2 ^ e) (hm : m ≤ M) (h : 2 ^ e * (X * M * (M * m) ^ e) ≤ Φ) (h' : m' ≤ m) : c * X * M / m * m * (m * m') ^ e ≤ Φ := by
  have h1 : c * X * M / m * m ≤ c * X * M := Nat.div_mul_le_self _ _
  have h2 : (m * m') ^ e ≤ (M * m) ^ e := Nat.pow_le_pow_left (Nat.mul_le_mul hm h') e
  refine Nat.le_trans (Nat.mul_le_mul h1 h2) (Nat.le_trans ?_ h)
  rw [Nat.mul_assoc c X M, Nat.mul_assoc c]
  exact Nat.mul_le_mul_right _ hc
theorem potB {X M m m' c Φ e : Nat} (hc : c ≤ 2 ^ e) (h : X * M * (M * m) ^ e ≤ Φ) (h' : 2 * m' ≤ M) : c * X * M / m * m * (m * m') ^ e ≤ Φ := by
  have h1 : c * X * M / m * m ≤ c * X * M := Nat.div_mul_le_self _ _
  have h2 : 2 ^ e * (m * m') ^ e ≤ (M * m) ^ e := by
    rw [← Nat.mul_pow]
    refine Nat.pow_le_pow_left ?_ e
    rw [Nat.mul_left_comm, Nat.mul_comm M m]
    exact Nat.mul_le_mul_left m h'
  refine Nat.le_trans (Nat.mul_le_mul_right _ h1) (Nat.le_trans ?_ h)
  rw [Nat.mul_assoc c X M, Nat.mul_comm c, Nat.mul_assoc]
  refine Nat.mul_le_mul_left _ (Nat.le_trans (Nat.mul_le_mul_right _ hc) h2)
theorem pot_end {X M m c Φ e : Nat} (h0 : 0 < m) (hM : 0 < M) (h : X * M * (M * m) ^ e ≤ Φ) : c * X * M / m ≤ c * Φ := by
  refine Nat.le_trans (Nat.div_le_self _ _) ?_
  rw [Nat.mul_assoc]
  refine Nat.mul_le_mul_left c (Nat.le_trans ?_ h)
  exact Nat.le_mul_of_pos_right _ (Nat.pow_pos (Nat.mul_pos hM h0))
theorem pot_x {X M m Φ e : Nat} (h0 : 0 < m) (hM : 0 < M) (h : X * M * (M * m) ^ e ≤ Φ) : X ≤ Φ :=
  Nat.le_trans (Nat.le_trans (Nat.le_mul_of_pos_right X hM) (Nat.le_mul_of_pos_right _ (Nat.pow_pos (Nat.mul_pos hM h0)))) h
theorem pot_m {X M m Φ e : Nat} (h0 : 0 < m) (hM : 0 < M) (hX : 0 < X) (h : X * M * (M * m) ^ e ≤ Φ) : M ≤ Φ :=
  Nat.le_trans (Nat.le_trans (Nat.le_mul_of_pos_left M hX) (Nat.le_mul_of_pos_right _ (Nat.pow_pos (Nat.mul_pos hM h0)))) h
/-! ### the clearing -/
/-- at the head of a round -/
structure Eu (n r : Nat) (vec : Nat → Int) (C0 : Nat → Nat → Int) (Φ Ψ : Nat) (L C : Nat → Nat → Int) (p : Nat → Int) (c X Y M : Nat) : Prop where
  inv : Inv2 n L C
  pr : ∀ i, r ≤ i → i < n → p i = dt n vec (C i)
  c1 : r ≤ c
  c2 : c < n
  c0 : p c ≠ 0
  least : ∀ i, r ≤ i → i < n → p i ≠ 0 → (p c).natAbs ≤ (p i).natAbs
  old : ∀ i, i < r → C i = C0 i
  zero : ∀ u, (∀ k, r ≤ k → k < n → dt n u (C0 k) = 0) → ∀ k, r ≤ k → k < n → dt n u (C k) = 0
  bC : ∀ i, r ≤ i → i < n → ∀ j, j < n → (C i j).natAbs ≤ X
  bL : ∀ i, i < n → ∀ j, j < n → (L i j).natAbs ≤ Y
  bp : ∀ i, r ≤ i → i < n → (p i).natAbs ≤ M
  X1 : 0 < X
  Y1 : 0 < Y
  pot : (4 * (X * M * (M * (p c).natAbs) ^ 2) ≤ Φ ∧ 16 * (Y * M * (M * (p c).natAbs) ^ 4) ≤ Ψ) ∨
    ((∃ b : Prop, ∀ i, r ≤ i → i < n → p i ≠ 0 → (0 < p i ↔ b)) ∧ X * M * (M * (p c).natAbs) ^ 2 ≤ Φ ∧ Y * M * (M * (p c).natAbs) ^ 4 ≤ Ψ)
/-- within a round: the places before k are done -/
structure Rd (n r c : Nat) (L C : Nat → Nat → Int) (p : Nat → Int) (Y T k : Nat) (L' C' : Nat → Nat → Int) (p' : Nat → Int) (rest : Bool) : Prop where
  inv : Inv2 n L' C'
  done : ∀ i, r ≤ i → i < k → i ≠ c → (C' i = fun j => C i j + -((p i).fdiv (p c)) * C c j) ∧ p' i = p i - (p i).fdiv (p c) * p c
  todo : ∀ i, (i < r ∨ k ≤ i ∨ i = c) → C' i = C i ∧ p' i = p i
  Lne : ∀ i, i ≠ c → L' i = L i
  Lc : ∀ j, j < n → (L' c j).natAbs ≤ Y * (1 + (k - r) * T)
  rest : rest = true ↔ ∃ i, r ≤ i ∧ i < k ∧ i ≠ c ∧ p' i ≠ 0
section
variable {n r c X Y M Φ Ψ : Nat} {vec : Nat → Int} {C0 L C L' C' : Nat → Nat → Int} {p p' : Nat → Int} {T k : Nat} {rest : Bool}
theorem Eu.m0 (e : Eu n r vec C0 Φ Ψ L C p c X Y M) : 0 < (p c).natAbs := by have := e.c0; omega
theorem Eu.mM (e : Eu n r vec C0 Φ Ψ L C p c X Y M) : (p c).natAbs ≤ M := e.bp c e.c1 e.c2
theorem Eu.M0 (e : Eu n r vec C0 Φ Ψ L C p c X Y M) : 0 < M := Nat.lt_of_lt_of_le e.m0 e.mM
theorem Eu.potX (e : Eu n r vec C0 Φ Ψ L C p c X Y M) : X * M * (M * (p c).natAbs) ^ 2 ≤ Φ := by
  rcases e.pot with h | h
  · exact Nat.le_trans (Nat.le_mul_of_pos_left _ (by decide)) h.1
  · exact h.2.1
theorem Eu.potY (e : Eu n r vec C0 Φ Ψ L C p c X Y M) : Y * M * (M * (p c).natAbs) ^ 4 ≤ Ψ := by
  rcases e.pot with h | h
  · exact Nat.le_trans (Nat.le_mul_of_pos_left _ (by decide)) h.2
  · exact h.2.2
theorem Eu.t_le (e : Eu n r vec C0 Φ Ψ L C p c X Y M) {i : Nat} (h1 : r ≤ i) (h2 : i < n) : ((p i).fdiv (p c)).natAbs * (p c).natAbs ≤ M + (p c).natAbs :=
  Nat.le_trans (fd_quo e.c0) (Nat.add_le_add_right (e.bp i h1 h2) _)
theorem Eu.t_T (e : Eu n r vec C0 Φ Ψ L C p c X Y M) {i : Nat} (h1 : r ≤ i) (h2 : i < n) : ((p i).fdiv (p c)).natAbs ≤ (M + (p c).natAbs) / (p c).natAbs :=
  (Nat.le_div_iff_mul_le e.m0).mpr (e.t_le h1 h2)
theorem Eu.T_le (e : Eu n r vec C0 Φ Ψ L C p c X Y M) : (M + (p c).natAbs) / (p c).natAbs ≤ 2 * M := by
  have := e.mM
  exact Nat.le_trans (Nat.div_le_self _ _) (by omega)
theorem Rd.start (e : Eu n r vec C0 Φ Ψ L C p c X Y M) : Rd n r c L C p Y T r L C p false :=
  ⟨e.inv, fun i h1 h2 => by omega, fun _ _ => ⟨rfl, rfl⟩, fun _ _ => rfl, fun j hj => by rw [Nat.sub_self, Nat.zero_mul, Nat.add_zero, Nat.mul_one]; exact e.bL c e.c2 j hj, by
    constructor
    · intro h; cases h
    · intro ⟨i, h1, h2, _⟩; omega⟩
theorem Rd.skip (e : Eu n r vec C0 Φ Ψ L C p c X Y M) (d : Rd n r c L C p Y T k L' C' p' rest) (hk : r ≤ k) (h : k = c ∨ p' k = 0) : Rd n r c L C p Y T (k + 1) L' C' p' rest := by
  have kt := d.todo k (.inr (.inl (Nat.le_refl _)))
  refine ⟨d.inv, fun i h1 h2 h3 => ?_, fun i h => d.todo i (by omega), d.Lne, fun j hj => Nat.le_trans (d.Lc j hj) (Nat.mul_le_mul_left _ (Nat.add_le_add_left (Nat.mul_le_mul_right _ (by omega)) _)), ?_⟩
  · by_cases hi : i < k
    · exact d.done i h1 hi h3
    · have : i = k := by omega
      subst this
      rcases h with h | h
      · exact absurd h h3
      · rw [kt.2] at h
        rw [kt.1, kt.2, h, Int.zero_fdiv]
        exact ⟨by funext j; rw [Int.neg_zero, Int.zero_mul, Int.add_zero], by rw [Int.zero_mul]; rfl⟩
  · rw [d.rest]
    constructor
    · intro ⟨i, h1, h2, h3⟩; exact ⟨i, h1, by omega, h3⟩
    · intro ⟨i, h1, h2, h3, h4⟩
      refine ⟨i, h1, ?_, h3, h4⟩
      by_cases hi : i < k
      · exact hi
      · have : i = k := by omega
        subst this
        rcases h with h | h
        · exact absurd h h3
        · exact absurd h h4
theorem Rd.step (e : Eu n r vec C0 Φ Ψ L C p c X Y M) (hT : ∀ i, r ≤ i → i < n → ((p i).fdiv (p c)).natAbs ≤ T) (d : Rd n r c L C p Y T k L' C' p' rest) (hk : r ≤ k) (hn : k < n) (h : k ≠ c) {rest' : Bool}
    (hr : rest' = true ↔ (rest = true ∨ p k - (p k).fdiv (p c) * p c ≠ 0)) :
    Rd n r c L C p Y T (k + 1) (addR L' c k ((p k).fdiv (p c))) (addR C' k c (-((p k).fdiv (p c)))) (fun i => if i = k then p k - (p k).fdiv (p c) * p c else p' i) rest' := by
  have kt := d.todo k (.inr (.inl (Nat.le_refl _)))
  have ct := d.todo c (.inr (.inr rfl))
  refine ⟨d.inv.take _ e.c2 hn (Ne.symm h), fun i h1 h2 h3 => ?_, fun i hi => ?_, fun i hi => (addR_ne hi).trans (d.Lne i hi), fun j hj => ?_, ?_⟩
  · by_cases hi : i = k
    · subst hi
      rw [addR_at, kt.1, ct.1, if_pos rfl]
      exact ⟨rfl, rfl⟩
    · rw [addR_ne hi, if_neg hi]
      exact d.done i h1 (by omega) h3
  · have hik : i ≠ k := by omega
    rw [addR_ne hik, if_neg hik]
    exact d.todo i (by omega)
  · rw [addR_at]
    have q := abs_add_mul (d.Lc j hj) (hT k hk hn) (show (L' k j).natAbs ≤ Y by rw [d.Lne k h]; exact e.bL k hn j hj)
    refine Nat.le_trans q ?_
    rw [show k + 1 - r = (k - r) + 1 by omega, Nat.mul_add, Nat.mul_add, Nat.succ_mul, Nat.mul_add, Nat.mul_comm T Y]
    omega
  · rw [hr, d.rest]
    constructor
    · rintro (⟨i, h1, h2, h3, h4⟩ | h4)
      · exact ⟨i, h1, by omega, h3, by rw [if_neg (by omega)]; exact h4⟩
      · exact ⟨k, hk, by omega, h, by rw [if_pos rfl]; exact h4⟩
    · intro ⟨i, h1, h2, h3, h4⟩
      by_cases hi : i = k
      · subst hi
        rw [if_pos rfl] at h4
        exact .inr h4
      · rw [if_neg hi] at h4
        exact .inl ⟨i, h1, by omega, h3, h4⟩
/-- behind a round -/
structure RdEnd (n r : Nat) (vec : Nat → Int) (C0 : Nat → Nat → Int) (c X' Y' : Nat) (p : Nat → Int) (L' C' : Nat → Nat → Int) (p' : Nat → Int) : Prop where
  inv : Inv2 n L' C'
  pr : ∀ i, r ≤ i → i < n → p' i = dt n vec (C' i)
  pc : p' c = p c
  old : ∀ i, i < r → C' i = C0 i
  zero : ∀ u, (∀ k, r ≤ k → k < n → dt n u (C0 k) = 0) → ∀ k, r ≤ k → k < n → dt n u (C' k) = 0
  bC : ∀ i, r ≤ i → i < n → ∀ j, j < n → (C' i j).natAbs ≤ X'
  bL : ∀ i, i < n → ∀ j, j < n → (L' i j).natAbs ≤ Y'
  lt : ∀ i, r ≤ i → i < n → i ≠ c → (p' i).natAbs < (p c).natAbs
  sg : ∀ i, r ≤ i → i < n → p' i ≠ 0 → (0 < p' i ↔ 0 < p c)
theorem Rd.fin (e : Eu n r vec C0 Φ Ψ L C p c X Y M) (hn : n ≤ 7) (d : Rd n r c L C p Y ((M + (p c).natAbs) / (p c).natAbs) n L' C' p' rest) :
    RdEnd n r vec C0 c (3 * X * M / (p c).natAbs) (16 * Y * M / (p c).natAbs) p L' C' p' := by
  have ct := d.todo c (.inr (.inr rfl))
  have lin : ∀ u i, r ≤ i → i < n → i ≠ c → dt n u (C' i) = dt n u (C i) + -((p i).fdiv (p c)) * dt n u (C c) := fun u i h1 h2 h3 => by rw [(d.done i h1 h2 h3).1, dt_lin]
  have gX : X ≤ 3 * X * M / (p c).natAbs := Nat.le_trans (Nat.le_add_right _ _) (grow (t := 0) e.mM e.m0 (by rw [Nat.zero_mul]; omega))
  refine ⟨d.inv, fun i h1 h2 => ?_, ct.2, fun i h => ((d.todo i (.inl h)).1).trans (e.old i h), fun u hu k h1 h2 => ?_, fun i h1 h2 j hj => ?_, fun i h1 j hj => ?_, fun i h1 h2 h3 => ?_, fun i h1 h2 h3 => ?_⟩
  · by_cases h : i = c
    · subst h; rw [ct.1, ct.2]; exact e.pr i h1 h2
    · rw [(d.done i h1 h2 h).2, lin vec i h1 h2 h, ← e.pr i h1 h2, ← e.pr c e.c1 e.c2, Int.neg_mul]; omega
  · have z := e.zero u hu
    by_cases h : k = c
    · subst h; rw [ct.1]; exact z k h1 h2
    · rw [lin u k h1 h2 h, z k h1 h2, z c e.c1 e.c2, Int.mul_zero]; rfl
  · by_cases h : i = c
    · subst h; rw [ct.1]; exact Nat.le_trans (e.bC i h1 h2 j hj) gX
    · rw [(d.done i h1 h2 h).1]
      exact Nat.le_trans (abs_sub_mul (e.bC i h1 h2 j hj) (Nat.le_refl _) (e.bC c e.c1 e.c2 j hj)) (grow e.mM e.m0 (e.t_le h1 h2))
  · by_cases h : i = c
    · subst h
      exact Nat.le_trans (d.Lc j hj) (growL e.mM e.m0 (Nat.div_mul_le_self _ _) (by omega))
    · rw [d.Lne i h]
      refine Nat.le_trans (e.bL i h1 j hj) ?_
      have := growL (Y := Y) (T := 0) (k := 0) e.mM e.m0 (by rw [Nat.zero_mul]; omega) (by omega)
      rw [Nat.zero_mul, Nat.add_zero, Nat.mul_one] at this
      exact this
  · rw [(d.done i h1 h2 h3).2]; exact (fd_rem e.c0).1
  · by_cases h : i = c
    · subst h; rw [ct.2]
    · rw [(d.done i h1 h2 h).2] at h3 ⊢; exact (fd_rem e.c0).2 h3
theorem Rd.next (e : Eu n r vec C0 Φ Ψ L C p c X Y M) (hn : n ≤ 7) (d : Rd n r c L C p Y ((M + (p c).natAbs) / (p c).natAbs) n L' C' p' true) {c' : Nat} (h1 : r ≤ c') (h2 : c' < n) (h3 : p' c' ≠ 0) (h4 : ∀ i, r ≤ i → i < n → p' i ≠ 0 → (p' c').natAbs ≤ (p' i).natAbs) :
    Eu n r vec C0 Φ Ψ L' C' p' c' (3 * X * M / (p c).natAbs) (16 * Y * M / (p c).natAbs) (p c).natAbs ∧ (p' c').natAbs < (p c).natAbs := by
  have f := Rd.fin e hn d
  obtain ⟨i, i1, i2, i3, i4⟩ := d.rest.mp rfl
  have lt : (p' c').natAbs < (p c).natAbs := Nat.lt_of_le_of_lt (h4 i i1 i2 i4) (f.lt i i1 i2 i3)
  have gX : X ≤ 3 * X * M / (p c).natAbs := Nat.le_trans (Nat.le_add_right _ _) (grow (t := 0) e.mM e.m0 (by rw [Nat.zero_mul]; omega))
  have gY : Y ≤ 16 * Y * M / (p c).natAbs := by
    have := growL (Y := Y) (T := 0) (k := 0) e.mM e.m0 (by rw [Nat.zero_mul]; omega) (by omega)
    rw [Nat.zero_mul, Nat.add_zero, Nat.mul_one] at this
    exact this
  refine ⟨⟨f.inv, f.pr, h1, h2, h3, h4, f.old, f.zero, f.bC, f.bL, fun j j1 j2 => ?_, Nat.lt_of_lt_of_le e.X1 gX, Nat.lt_of_lt_of_le e.Y1 gY, .inr ⟨⟨0 < p c, f.sg⟩, ?_⟩⟩, lt⟩
  · by_cases hj : j = c
    · subst hj; rw [f.pc]; exact Nat.le_refl _
    · exact Nat.le_of_lt (f.lt j j1 j2 hj)
  · rcases e.pot with h | ⟨⟨b, hb⟩, hX, hY⟩
    · exact ⟨pot (e := 2) (by decide) e.mM h.1 (Nat.le_of_lt lt), pot (e := 4) (by decide) e.mM h.2 (Nat.le_of_lt lt)⟩
    · have pi := (d.done i i1 i2 i3).2
      have pn : p i ≠ 0 := fun z => by
        rw [pi, z, Int.zero_fdiv, Int.zero_mul] at i4
        exact i4 rfl
      have hh := fd_half e.c0 (e.least i i1 i2 pn) ((hb i i1 i2 pn).trans (hb c e.c1 e.c2 e.c0).symm) (by rw [← pi]; exact i4)
      rw [← pi] at hh
      have : 2 * (p' c').natAbs ≤ M := by
        have := h4 i i1 i2 i4
        have := e.bp i i1 i2
        omega
      exact ⟨potB (e := 2) (by decide) hX this, potB (e := 4) (by decide) hY this⟩
theorem Rd.last (e : Eu n r vec C0 Φ Ψ L C p c X Y M) (hn : n ≤ 7) (d : Rd n r c L C p Y ((M + (p c).natAbs) / (p c).natAbs) n L' C' p' false) :
    RdEnd n r vec C0 c (3 * Φ) (16 * Ψ) p L' C' p' ∧ ∀ i, r ≤ i → i < n → i ≠ c → p' i = 0 := by
  have f := Rd.fin e hn d
  refine ⟨⟨f.inv, f.pr, f.pc, f.old, f.zero, fun i h1 h2 j hj => Nat.le_trans (f.bC i h1 h2 j hj) (pot_end e.m0 e.M0 e.potX), fun i h1 j hj => Nat.le_trans (f.bL i h1 j hj) (pot_end e.m0 e.M0 e.potY), f.lt, f.sg⟩, fun i h1 h2 h3 => ?_⟩
  exact Classical.byContradiction fun z => by
    have := d.rest.mpr ⟨i, h1, h2, h3, z⟩
    cases this
end
end Y
/-! plain: the reduction of a list of vectors, its rank -/
namespace Y
/-- what the clearing of one vector does -/
structure Clr (n r : Nat) (vec : Nat → Int) (C L' C' : Nat → Nat → Int) (X Y : Nat) : Prop where
  inv : Inv2 n L' C'
  old : ∀ i, i < r → C' i = C i
  zero : ∀ u, (∀ k, r ≤ k → k < n → dt n u (C k) = 0) → ∀ k, r ≤ k → k < n → dt n u (C' k) = 0
  piv : dt n vec (C' r) ≠ 0
  rest : ∀ i, r < i → i < n → dt n vec (C' i) = 0
  bC : ∀ i, r ≤ i → i < n → ∀ j, j < n → (C' i j).natAbs ≤ X
  bL : ∀ i, i < n → ∀ j, j < n → (L' i j).natAbs ≤ Y
def xb (q : Nat) : Nat → Nat
  | 0 => 0
  | k + 1 => xb q k + 6 * (xb q k + q) + 6
def yb (q : Nat) : Nat → Nat
  | 0 => 0
  | k + 1 => yb q k + 10 * (xb q k + q) + 13
theorem xb_mono (q : Nat) {a b : Nat} (h : a ≤ b) : xb q a ≤ xb q b := by
  induction h with
  | refl => exact Nat.le_refl _
  | step _ ih => exact Nat.le_trans ih (show _ ≤ xb q _ + 6 * (xb q _ + q) + 6 by omega)
theorem yb_mono (q : Nat) {a b : Nat} (h : a ≤ b) : yb q a ≤ yb q b := by
  induction h with
  | refl => exact Nat.le_refl _
  | step _ ih => exact Nat.le_trans ih (show _ ≤ yb q _ + 10 * (xb q _ + q) + 13 by omega)
/-- the first m of the vectors are told by r lines -/
structure Red (n m : Nat) (W : Nat → Nat → Int) (r : Nat) (L C : Nat → Nat → Int) (X Y : Nat) : Prop where
  rn : r ≤ n
  inv : Inv2 n L C
  zero : ∀ k, k < m → ∀ j, r ≤ j → j < n → dt n (W k) (C j) = 0
  piv : ∃ pv : Nat → Nat, ∀ k, k < r → pv k < m ∧ dt n (W (pv k)) (C k) ≠ 0 ∧ ∀ j, k < j → j < n → dt n (W (pv k)) (C j) = 0
  bC : ∀ i, i < n → ∀ j, j < n → (C i j).natAbs ≤ X
  bL : ∀ i, i < n → ∀ j, j < n → (L i j).natAbs ≤ Y
theorem red_start (n : Nat) (W : Nat → Nat → Int) : Red n 0 W 0 dlt dlt (2 ^ 0) (2 ^ 0) := by
  have b : ∀ i j, (dlt i j).natAbs ≤ 2 ^ 0 := fun i j => by unfold dlt; split <;> decide
  exact ⟨Nat.zero_le _, inv_unit n, fun k hk => by omega, ⟨fun _ => 0, fun k hk => by omega⟩, fun i _ j _ => b i j, fun i _ j _ => b i j⟩
theorem Red.skip {n m r X Y : Nat} {W L C : Nat → Nat → Int} (e : Red n m W r L C X Y) (h : ∀ i, r ≤ i → i < n → dt n (W m) (C i) = 0) : Red n (m + 1) W r L C X Y := by
  obtain ⟨pv, hp⟩ := e.piv
  refine ⟨e.rn, e.inv, fun k hk j j1 j2 => ?_, ⟨pv, fun k hk => ⟨by have := (hp k hk).1; omega, (hp k hk).2⟩⟩, e.bC, e.bL⟩
  by_cases hkm : k < m
  · exact e.zero k hkm j j1 j2
  · have : k = m := by omega
    subst this; exact h j j1 j2
/-- the places before i of the new line are cleared upwards -/
structure Up (n r : Nat) (vec : Nat → Int) (L C : Nat → Nat → Int) (Y T i : Nat) (L' C' : Nat → Nat → Int) : Prop where
  inv : Inv2 n L' C'
  done : ∀ k, k < i → C' k = fun j => C k j + -((dt n vec (C k)).fdiv (dt n vec (C r))) * C r j
  todo : ∀ k, i ≤ k → C' k = C k
  Lne : ∀ k, k ≠ r → L' k = L k
  Lr : ∀ j, j < n → (L' r j).natAbs ≤ Y * (1 + i * T)
section
variable {n r i m T X Y : Nat} {vec : Nat → Int} {L C L' C' : Nat → Nat → Int}
theorem Up.start (v : Inv2 n L C) (bL : ∀ i, i < n → ∀ j, j < n → (L i j).natAbs ≤ Y) (hr : r < n) : Up n r vec L C Y T 0 L C :=
  ⟨v, fun k hk => by omega, fun _ _ => rfl, fun _ _ => rfl, fun j hj => by rw [Nat.zero_mul, Nat.add_zero, Nat.mul_one]; exact bL r hr j hj⟩
theorem Up.step (bL : ∀ i, i < n → ∀ j, j < n → (L i j).natAbs ≤ Y) (d : Up n r vec L C Y T i L' C') (hi : i < r) (hr : r < n) (hT : ((dt n vec (C i)).fdiv (dt n vec (C r))).natAbs ≤ T) :
    Up n r vec L C Y T (i + 1) (addR L' r i ((dt n vec (C i)).fdiv (dt n vec (C r)))) (addR C' i r (-((dt n vec (C i)).fdiv (dt n vec (C r))))) := by
  refine ⟨d.inv.take _ hr (by omega) (by omega), fun k hk => ?_, fun k hk => ?_, fun k hk => (addR_ne hk).trans (d.Lne k hk), fun j hj => ?_⟩
  · by_cases h : k = i
    · subst h; rw [addR_at, d.todo k (Nat.le_refl _), d.todo r (by omega)]
    · rw [addR_ne h]; exact d.done k (by omega)
  · rw [addR_ne (by omega)]; exact d.todo k (by omega)
  · rw [addR_at]
    have q := abs_add_mul (d.Lr j hj) hT (show (L' i j).natAbs ≤ Y by rw [d.Lne i (by omega)]; exact bL i (by omega) j hj)
    refine Nat.le_trans q ?_
    rw [Nat.mul_add, Nat.mul_add, Nat.succ_mul, Nat.mul_add, Nat.mul_comm T Y]
    omega
theorem t_small {a b : Int} {p : Nat} (h : b ≠ 0) (ha : a.natAbs ≤ 2 ^ p) : (a.fdiv b).natAbs ≤ 2 ^ (p + 1) := by
  have q := fd_quo (a := a) h
  have h0 : 0 < b.natAbs := by omega
  have h1 : 0 < 2 ^ p := Nat.pow_pos (by decide)
  have e : (a.fdiv b).natAbs * b.natAbs ≤ (2 ^ p + 1) * b.natAbs := by
    refine Nat.le_trans q ?_
    rw [Nat.add_mul, Nat.one_mul]
    exact Nat.add_le_add_right (Nat.le_trans ha (Nat.le_mul_of_pos_right _ h0)) _
  have := Nat.le_of_mul_le_mul_right e h0
  rw [Nat.pow_succ]; omega
theorem Red.next {q x y : Nat} {W L0 C0 : Nat → Nat → Int} (e : Red n m W r L0 C0 (2 ^ x) (2 ^ y)) (cl : Clr n r (W m) C0 L C (2 ^ (x + 5 * (x + q) + 4)) (2 ^ (y + 9 * (x + q) + 8))) (hr : r < n) (hn : n ≤ 7)
    (d : Up n r (W m) L C (2 ^ (y + 9 * (x + q) + 8)) (2 ^ (x + q + 1)) r L' C') (hT : ∀ i, i < r → ((dt n (W m) (C i)).fdiv (dt n (W m) (C r))).natAbs ≤ 2 ^ (x + q + 1)) :
    Red n (m + 1) W (r + 1) L' C' (2 ^ (x + 6 * (x + q) + 6)) (2 ^ (y + 10 * (x + q) + 13)) := by
  obtain ⟨pv, hp⟩ := e.piv
  have zC : ∀ k, k < m → ∀ j, r ≤ j → j < n → dt n (W k) (C j) = 0 := fun k hk => cl.zero (W k) (e.zero k hk)
  have low : ∀ k, k < m → ∀ j, j < r → dt n (W k) (C' j) = dt n (W k) (C0 j) := fun k hk j hj => by
    rw [d.done j hj, dt_lin, zC k hk r (Nat.le_refl _) hr, cl.old j hj, Int.mul_zero, Int.add_zero]
  have up : ∀ k, k < m → ∀ j, r ≤ j → j < n → dt n (W k) (C' j) = 0 := fun k hk j h1 h2 => by rw [d.todo j h1]; exact zC k hk j h1 h2
  have pw : ∀ a b : Nat, a ≤ b → 2 ^ a ≤ 2 ^ b := fun a b h => Nat.pow_le_pow_right (by decide) h
  refine ⟨hr, d.inv, fun k hk j j1 j2 => ?_, ⟨fun k => if k = r then m else pv k, fun k hk => ?_⟩, fun i hi j hj => ?_, fun i hi j hj => ?_⟩
  · by_cases h : k < m
    · exact up k h j (by omega) j2
    · have : k = m := by omega
      subst this
      rw [d.todo j (by omega)]
      exact cl.rest j (by omega) j2
  · dsimp only
    by_cases h : k = r
    · subst h
      rw [if_pos rfl, d.todo k (Nat.le_refl _)]
      exact ⟨by omega, cl.piv, fun j j1 j2 => by rw [d.todo j (by omega)]; exact cl.rest j j1 j2⟩
    · rw [if_neg h]
      obtain ⟨h1, h2, h3⟩ := hp k (by omega)
      refine ⟨by omega, by rw [low _ h1 k (by omega)]; exact h2, fun j j1 j2 => ?_⟩
      by_cases hj : j < r
      · rw [low _ h1 j hj]; exact h3 j j1 j2
      · exact up _ h1 j (by omega) j2
  · by_cases h : i < r
    · rw [d.done i h]
      have b1 : (C i j).natAbs ≤ 2 ^ (x + 5 * (x + q) + 4) := by
        rw [cl.old i h]
        exact Nat.le_trans (e.bC i hi j hj) (pw _ _ (by omega))
      refine Nat.le_trans (abs_sub_mul b1 (hT i h) (cl.bC r (Nat.le_refl _) hr j hj)) ?_
      have e1 : 2 ^ (x + q + 1) * 2 ^ (x + 5 * (x + q) + 4) = 2 ^ (x + 6 * (x + q) + 5) := by rw [← Nat.pow_add]; congr 1; omega
      have e2 := pw (x + 5 * (x + q) + 4) (x + 6 * (x + q) + 5) (by omega)
      refine Nat.le_trans (Nat.add_le_add e2 (Nat.le_of_eq e1)) (Nat.le_of_eq ?_)
      rw [show x + 6 * (x + q) + 6 = (x + 6 * (x + q) + 5) + 1 by omega, Nat.pow_succ 2 (x + 6 * (x + q) + 5), Nat.mul_two]
    · rw [d.todo i (by omega)]
      exact Nat.le_trans (cl.bC i (by omega) hi j hj) (pw _ _ (by omega))
  · by_cases h : i = r
    · subst h
      refine Nat.le_trans (d.Lr j hj) ?_
      have e1 : 1 + i * 2 ^ (x + q + 1) ≤ 2 ^ (x + q + 5) := by
        have h1 : i * 2 ^ (x + q + 1) ≤ 7 * 2 ^ (x + q + 1) := Nat.mul_le_mul_right _ (by omega)
        have h2 : 0 < 2 ^ (x + q + 1) := Nat.pow_pos (by decide)
        rw [show x + q + 5 = (x + q + 1) + 4 by omega, Nat.pow_add 2 (x + q + 1) 4]
        omega
      refine Nat.le_trans (Nat.mul_le_mul_left _ e1) ?_
      rw [← Nat.pow_add]
      exact pw _ _ (by omega)
    · rw [d.Lne i h]
      exact Nat.le_trans (cl.bL i hi j hj) (pw _ _ (by omega))
end
end Y
/-! plain: the law's own elimination finds the same rank -/
namespace Y
theorem sm_skip (f : Nat → Int) : ∀ {n k0 : Nat}, k0 < n + 1 → sm (n + 1) f = f k0 + sm n fun k => f (if k < k0 then k else k + 1)
  | 0, k0, h => by
    have : k0 = 0 := by omega
    subst this
    show sm 0 f + f 0 = f 0 + 0
    show 0 + f 0 = f 0 + 0
    omega
  | n + 1, k0, h => by
    show sm (n + 1) f + f (n + 1) = f k0 + (sm n _ + f (if n < k0 then n else n + 1))
    by_cases e : k0 = n + 1
    · subst e
      have e2 : sm n (fun k => f (if k < n + 1 then k else k + 1)) = sm n f := sm_congr fun k hk => by rw [if_pos (by omega)]
      rw [e2, if_pos (by omega)]
      show sm n f + f n + f (n + 1) = _
      omega
    · rw [sm_skip f (n := n) (k0 := k0) (by omega), if_neg (by omega)]
      omega
theorem sm_mulr (c : Int) (f : Nat → Int) (n : Nat) : sm n (fun i => f i * c) = sm n f * c := by
  rw [Int.mul_comm, ← sm_mul]
  exact sm_congr fun i _ => Int.mul_comm _ _
theorem sm_sub (f g : Nat → Int) (n : Nat) : sm n (fun i => f i - g i) = sm n f - sm n g := by
  have h := sm_add f (fun i => -1 * g i) n
  rw [sm_mul] at h
  rw [show sm n f - sm n g = sm n f + -1 * sm n g by omega, ← h]
  exact sm_congr fun i _ => by omega
theorem sm_oneB {f : Nat → Int} {s n : Nat} (hs : s < n) (h : ∀ i, i < n → i ≠ s → f i = 0) : sm n f = f s := by
  rw [sm_congr (g := fun i => if i = s then f s else 0) fun i hi => by
    by_cases e : i = s
    · rw [if_pos e, e]
    · rw [if_neg e]; exact h i hi e]
  rw [sm_one hs fun i hi => if_neg hi, if_pos rfl]
/-- more than r vectors of r numbers have a relation -/
theorem relation : ∀ (r m : Nat) (A : Nat → Nat → Int), r < m → ∃ c : Nat → Int, (∃ k, k < m ∧ c k ≠ 0) ∧ ∀ j, j < r → sm m (fun k => c k * A k j) = 0
  | 0, m, A, h => ⟨fun _ => 1, ⟨0, h, by decide⟩, fun j hj => by omega⟩
  | r + 1, m, A, h => by
    by_cases z : ∀ k, k < m → A k r = 0
    · obtain ⟨c, h1, h2⟩ := relation r m A (by omega)
      refine ⟨c, h1, fun j hj => ?_⟩
      by_cases e : j < r
      · exact h2 j e
      · have : j = r := by omega
        subst this
        exact sm_zero fun k hk => by rw [z k hk, Int.mul_zero]
    · have z2 : ∃ k0, k0 < m ∧ A k0 r ≠ 0 := Classical.byContradiction fun y => z fun k hk => Classical.byContradiction fun x => y ⟨k, hk, x⟩
      obtain ⟨k0, hk0, ha⟩ := z2
      obtain ⟨n, rfl⟩ : ∃ n, m = n + 1 := ⟨m - 1, by omega⟩
      obtain ⟨c', ⟨k1, hk1, hc1⟩, h2⟩ := relation r n (fun k j => A k0 r * A (if k < k0 then k else k + 1) j - A (if k < k0 then k else k + 1) r * A k0 j) (by omega)
      let c : Nat → Int := fun k => if k = k0 then - sm n (fun q => c' q * A (if q < k0 then q else q + 1) r) else A k0 r * c' (if k < k0 then k else k - 1)
      have ck0 : c k0 = - sm n (fun q => c' q * A (if q < k0 then q else q + 1) r) := if_pos rfl
      have cix : ∀ k, c (if k < k0 then k else k + 1) = A k0 r * c' k := fun k => by
        show (if (if k < k0 then k else k + 1) = k0 then _ else _) = _
        by_cases hk : k < k0
        · rw [if_pos hk, if_neg (by omega), if_pos hk]
        · rw [if_neg hk, if_neg (by omega), if_neg (by omega)]; rfl
      have key : ∀ j, sm (n + 1) (fun k => c k * A k j) = sm n (fun k => c' k * (A k0 r * A (if k < k0 then k else k + 1) j - A (if k < k0 then k else k + 1) r * A k0 j)) := fun j => by
        rw [sm_skip (fun k => c k * A k j) hk0]
        have e1 : sm n (fun k => c (if k < k0 then k else k + 1) * A (if k < k0 then k else k + 1) j) = sm n (fun k => c' k * (A k0 r * A (if k < k0 then k else k + 1) j)) := sm_congr fun k _ => by
          rw [cix, Int.mul_assoc, Int.mul_left_comm]
        have e2 : c k0 * A k0 j = - sm n (fun q => c' q * (A (if q < k0 then q else q + 1) r * A k0 j)) := by
          rw [ck0, Int.neg_mul, ← sm_mulr]
          exact congrArg Neg.neg (sm_congr fun q _ => Int.mul_assoc _ _ _)
        show c k0 * A k0 j + _ = _
        rw [e1, e2, Int.add_comm, ← Int.sub_eq_add_neg, ← sm_sub]
        exact sm_congr fun k _ => (Int.mul_sub _ _ _).symm
      refine ⟨c, ⟨if k1 < k0 then k1 else k1 + 1, by split <;> omega, ?_⟩, fun j hj => ?_⟩
      · rw [cix]; exact Int.mul_ne_zero ha hc1
      · rw [key]
        by_cases e : j < r
        · exact h2 j e
        · have : j = r := by omega
          subst this
          exact sm_zero fun k _ => by rw [Int.mul_comm (A k0 j), Int.sub_self, Int.mul_zero]
/-- a vector that is 0 against all that all of W are 0 against -/
def Spn (n m : Nat) (W : Nat → Nat → Int) (u : Nat → Int) : Prop := ∀ v, (∀ k, k < m → dt n (W k) v = 0) → dt n u v = 0
/-- the elimination behind i columns: R the rest, f pivots -/
structure El (n m : Nat) (W : Nat → Nat → Int) (i : Nat) (R : Nat → Nat → Int) (f : Nat) : Prop where
  ex : ∃ (p : Nat → Nat → Int) (pos : Nat → Nat), (∀ t, t < f → Spn n m W (p t) ∧ pos t < i ∧ p t (pos t) ≠ 0 ∧ (∀ j, j < pos t → p t j = 0) ∧ ∀ s, s < t → pos s < pos t) ∧
    ∀ k, k < m → ∃ (d : Int) (β : Nat → Int), d ≠ 0 ∧ ∀ j, j < n → d * W k j = sm f (fun t => β t * p t j) + R k j
  low : ∀ k, k < m → ∀ j, j < i → R k j = 0
  spn : ∀ k, k < m → Spn n m W (R k)
theorem el_start (n m : Nat) (W : Nat → Nat → Int) : El n m W 0 W 0 :=
  ⟨⟨fun _ _ => 0, fun _ => 0, fun t ht => by omega, fun k _ => ⟨1, fun _ => 0, by decide, fun j _ => by show 1 * W k j = 0 + W k j; omega⟩⟩, fun k _ j hj => by omega, fun k hk v h => h k hk⟩
theorem El.skip {n m i f : Nat} {W R : Nat → Nat → Int} (e : El n m W i R f) (h : ∀ k, k < m → R k i = 0) : El n m W (i + 1) R f := by
  obtain ⟨p, pos, hp, hr⟩ := e.ex
  refine ⟨⟨p, pos, fun t ht => ⟨(hp t ht).1, by have := (hp t ht).2.1; omega, (hp t ht).2.2⟩, hr⟩, fun k hk j hj => ?_, e.spn⟩
  by_cases hji : j < i
  · exact e.low k hk j hji
  · have : j = i := by omega
    subst this; exact h k hk
theorem El.next {n m i f q : Nat} {W R : Nat → Nat → Int} (e : El n m W i R f) (hq : q < m) (hn : R q i ≠ 0) : El n m W (i + 1) (fun k j => R k j * R q i - R q j * R k i) (f + 1) := by
  obtain ⟨p, pos, hp, hr⟩ := e.ex
  refine ⟨⟨fun t => if t = f then R q else p t, fun t => if t = f then i else pos t, fun t ht => ?_, fun k hk => ?_⟩, fun k hk j hj => ?_, fun k hk v hv => ?_⟩
  · dsimp only
    by_cases ht2 : t = f
    · subst ht2
      rw [if_pos rfl, if_pos rfl]
      refine ⟨e.spn q hq, by omega, hn, fun j hj => e.low q hq j hj, fun s hs => ?_⟩
      rw [if_neg (by omega)]
      exact (hp s hs).2.1
    · rw [if_neg ht2, if_neg ht2]
      have h := hp t (by omega)
      refine ⟨h.1, by have := h.2.1; omega, h.2.2.1, h.2.2.2.1, fun s hs => ?_⟩
      rw [if_neg (by omega)]
      exact h.2.2.2.2 s hs
  · obtain ⟨d, β, hd, hβ⟩ := hr k hk
    refine ⟨d * R q i, fun t => if t = f then R k i else β t * R q i, Int.mul_ne_zero hd hn, fun j hj => ?_⟩
    show _ = sm f (fun t => (if t = f then R k i else β t * R q i) * (if t = f then R q else p t) j) + (if f = f then R k i else β f * R q i) * (if f = f then R q else p f) j + (R k j * R q i - R q j * R k i)
    rw [if_pos rfl, if_pos rfl]
    have e1 : sm f (fun t => (if t = f then R k i else β t * R q i) * (if t = f then R q else p t) j) = sm f (fun t => β t * p t j) * R q i := by
      rw [← sm_mulr]
      exact sm_congr fun t ht => by rw [if_neg (by omega), if_neg (by omega), Int.mul_assoc, Int.mul_comm (R q i), ← Int.mul_assoc]
    rw [e1, Int.mul_assoc, Int.mul_comm (R q i), ← Int.mul_assoc, hβ j hj, Int.add_mul, Int.mul_comm (R k i)]
    omega
  · show R k j * R q i - R q j * R k i = 0
    by_cases hji : j < i
    · rw [e.low k hk j hji, e.low q hq j hji]; omega
    · have : j = i := by omega
      subst this
      rw [Int.mul_comm]; omega
  · have h1 := e.spn k hk v hv
    have h2 := e.spn q hq v hv
    unfold dt at h1 h2 ⊢
    have e1 : sm n (fun j => (R k j * R q i - R q j * R k i) * v j) = sm n (fun j => R q i * (R k j * v j) - R k i * (R q j * v j)) := sm_congr fun j _ => by
      rw [Int.sub_mul, Int.mul_comm (R k j), Int.mul_comm (R q j), Int.mul_assoc, Int.mul_assoc]
    rw [e1, sm_sub, sm_mul, sm_mul, h1, h2]; omega
theorem dt_sum {n f : Nat} {c : Nat → Int} {p : Nat → Nat → Int} {v : Nat → Int} : dt n (fun j => sm f fun t => c t * p t j) v = sm f fun t => c t * dt n (p t) v := by
  unfold dt
  have e1 : (sm n fun j => (sm f fun t => c t * p t j) * v j) = sm n fun j => sm f fun t => c t * (p t j * v j) := sm_congr fun j _ => by
    rw [← sm_mulr]
    exact sm_congr fun t _ => Int.mul_assoc _ _ _
  rw [e1, sm_swap]
  exact sm_congr fun t _ => sm_mul _ _ _
/-- a vector that is 0 against all columns is 0 -/
theorem zero_of {n : Nat} {L C : Nat → Nat → Int} (v : Inv2 n L C) {u : Nat → Int} (h : ∀ j, j < n → dt n u (C j) = 0) : ∀ i, i < n → u i = 0 := fun i hi => by
  have e : u i = sm n fun k => u k * (sm n fun j => L j i * C j k) := by
    rw [sm_congr (g := fun k => u k * dlt i k) fun k hk => by rw [v.b i k hi hk]]
    rw [sm_one hi fun k hk => by rw [dlt_ne (Ne.symm hk), Int.mul_zero], dlt_self, Int.mul_one]
  rw [e]
  have e2 : (sm n fun k => u k * (sm n fun j => L j i * C j k)) = sm n fun k => sm n fun j => L j i * (u k * C j k) := sm_congr fun k _ => by
    rw [← sm_mul]
    exact sm_congr fun j _ => Int.mul_left_comm _ _ _
  rw [e2, sm_swap]
  refine sm_zero fun j hj => ?_
  rw [sm_mul]
  have := h j hj
  unfold dt at this
  rw [this, Int.mul_zero]
/-- the last that is not 0 -/
theorem last_ne {c : Nat → Int} : ∀ {m : Nat}, (∃ k, k < m ∧ c k ≠ 0) → ∃ k, k < m ∧ c k ≠ 0 ∧ ∀ j, k < j → j < m → c j = 0
  | 0, ⟨k, hk, _⟩ => by omega
  | m + 1, ⟨k, hk, hc⟩ => by
    by_cases z : c m = 0
    · obtain ⟨k', h1, h2, h3⟩ := last_ne (m := m) ⟨k, by
        by_cases e : k = m
        · subst e; exact absurd z hc
        · omega, hc⟩
      refine ⟨k', by omega, h2, fun j j1 j2 => ?_⟩
      by_cases e : j = m
      · subst e; exact z
      · exact h3 j j1 (by omega)
    · exact ⟨m, by omega, z, fun j j1 j2 => by omega⟩
theorem first_ne {c : Nat → Int} : ∀ {m : Nat}, (∃ k, k < m ∧ c k ≠ 0) → ∃ k, k < m ∧ c k ≠ 0 ∧ ∀ j, j < k → c j = 0
  | 0, ⟨k, hk, _⟩ => by omega
  | m + 1, ⟨k, hk, hc⟩ => by
    by_cases z : ∃ k, k < m ∧ c k ≠ 0
    · obtain ⟨k', h1, h2, h3⟩ := first_ne z
      exact ⟨k', by omega, h2, h3⟩
    · refine ⟨k, hk, hc, fun j hj => Classical.byContradiction fun x => z ⟨j, by omega, x⟩⟩
/-- THE RANK: both ways agree -/
theorem rank_eq {n m r f X Y : Nat} {W L C R : Nat → Nat → Int} (d : Red n m W r L C X Y) (e : El n m W n R f) : f = r := by
  obtain ⟨p, pos, hp, hr⟩ := e.ex
  obtain ⟨pv, hv⟩ := d.piv
  have le1 : f ≤ r := Classical.byContradiction fun hn => by
    obtain ⟨c, hc, hz⟩ := relation r f (fun t j => dt n (p t) (C j)) (by omega)
    obtain ⟨t0, h1, h2, h3⟩ := first_ne hc
    have hu : ∀ j, j < n → dt n (fun i => sm f fun t => c t * p t i) (C j) = 0 := fun j hj => by
      rw [dt_sum]
      by_cases hjr : j < r
      · exact hz j hjr
      · exact sm_zero fun t ht => by rw [(hp t ht).1 (C j) fun k hk => d.zero k hk j (by omega) hj, Int.mul_zero]
    have h0 := zero_of d.inv hu (pos t0) (hp t0 h1).2.1
    rw [sm_oneB h1 fun t htf ht => ?_] at h0
    · exact Int.mul_ne_zero h2 (hp t0 h1).2.2.1 h0
    · by_cases hlt : t < t0
      · rw [h3 t hlt, Int.zero_mul]
      · rw [(hp t htf).2.2.2.1 (pos t0) ((hp t htf).2.2.2.2 t0 (by omega)), Int.mul_zero]
  have le2 : r ≤ f := Classical.byContradiction fun hn => by
    have ch : ∀ k, ∃ (dk : Int) (β : Nat → Int), k < r → dk ≠ 0 ∧ ∀ j, j < n → dk * W (pv k) j = sm f (fun t => β t * p t j) := fun k => by
      by_cases hk : k < r
      · obtain ⟨dk, β, h1, h2⟩ := hr (pv k) (hv k hk).1
        exact ⟨dk, β, fun _ => ⟨h1, fun j hj => by rw [h2 j hj, e.low _ (hv k hk).1 j hj, Int.add_zero]⟩⟩
      · exact ⟨0, fun _ => 0, fun h => absurd h hk⟩
    let dd : Nat → Int := fun k => (ch k).choose
    let bb : Nat → Nat → Int := fun k => (ch k).choose_spec.choose
    have hb : ∀ k, k < r → dd k ≠ 0 ∧ ∀ j, j < n → dd k * W (pv k) j = sm f (fun t => bb k t * p t j) := fun k => (ch k).choose_spec.choose_spec
    obtain ⟨c, hc, hz⟩ := relation f r bb (by omega)
    obtain ⟨k0, h1, h2, h3⟩ := last_ne hc
    have hk0n : k0 < n := by have := d.rn; omega
    have hw : ∀ j, j < n → (sm r fun k => (c k * dd k) * W (pv k) j) = 0 := fun j hj => by
      rw [sm_congr (g := fun k => sm f fun t => (c k * bb k t) * p t j) fun k hk => by
        rw [Int.mul_assoc, (hb k hk).2 j hj, ← sm_mul]
        exact sm_congr fun t _ => (Int.mul_assoc _ _ _).symm]
      rw [sm_swap]
      exact sm_zero fun t ht => by rw [sm_mulr, hz t ht, Int.zero_mul]
    have h0 : dt n (fun j => sm r fun k => (c k * dd k) * W (pv k) j) (C k0) = 0 := sm_zero fun j hj => by show (sm r fun k => (c k * dd k) * W (pv k) j) * C k0 j = 0; rw [hw j hj, Int.zero_mul]
    rw [dt_sum (c := fun k => c k * dd k) (p := fun k => W (pv k))] at h0
    have e1 : (sm r fun k => (c k * dd k) * dt n (W (pv k)) (C k0)) = sm r fun k => if k = k0 then (c k0 * dd k0) * dt n (W (pv k0)) (C k0) else 0 := sm_congr fun k hk => by
      by_cases ek : k = k0
      · rw [if_pos ek, ek]
      · rw [if_neg ek]
        by_cases hlt : k < k0
        · rw [(hv k hk).2.2 k0 hlt hk0n, Int.mul_zero]
        · rw [h3 k (by omega) hk, Int.zero_mul, Int.zero_mul]
    rw [e1, sm_one h1 fun k hk => if_neg hk, if_pos rfl] at h0
    exact Int.mul_ne_zero (Int.mul_ne_zero h2 (hb k0 h1).1) (hv k0 h1).2.1 h0
  omega
end Y
/-! the walks of the sums' own functions -/
namespace K23
open PySem PySem.Spec PyProof.Rows L2 Y
local macro_rules | `(tactic| walk_at "rd1") => `(tactic| first
  | with_reducible refine rd_var rfl ?_
  | with_reducible refine rd_op ?_
  | with_reducible refine rd_c ?_
  | with_reducible refine rd_I0 ?_
  | with_reducible refine rd_seq ?_
  | (with_reducible refine rd_I ?_ ?_; focus (first | exact mulok_r (by decide) (by decide) | exact mulok_l (by decide) (by decide) | (show _ ≠ _; decide) | (show _ ∧ _; decide)))
  | with_reducible refine rd_asg ?_
  | with_reducible refine rd_name ?_
  | with_reducible refine rd_cb ?_
  | with_reducible refine rd_cons ?_
  | with_reducible refine rd_nil ?_
  | with_reducible refine rd_int ?_
  | with_reducible refine rd_eqI ?_
  | with_reducible refine rd_neI ?_
  | with_reducible refine rd_bl ?_
  | with_reducible refine rd_test ?_
  | with_reducible refine rd_tB ?_
  | with_reducible refine rd_ifS ?_
  | with_reducible refine rd_next ?_
  | with_reducible refine rd_T ?_
  | with_reducible refine rd_F ?_
  | with_reducible refine rd_nT ?_
  | with_reducible refine rd_nF ?_
  | with_reducible refine rd_blV ?_
  | with_reducible refine rd_ret ?_
  | with_reducible refine rd_call ?_
  | with_reducible refine rd_drop ?_
  | with_reducible refine rd_not ?_
  | with_reducible refine rd_and ?_
  | with_reducible refine rd_or ?_
  | with_reducible refine rd_un ?_
  | with_reducible refine rd_U ?_
  | with_reducible refine rd_tup ?_
  | with_reducible refine rd_lst ?_
  | with_reducible refine rd_if ?_
  | with_reducible refine rd_andV ?_
  | with_reducible refine rd_orV ?_
  | with_reducible refine rd_notV ?_
  | with_reducible refine rd_sl ?_
  | with_reducible refine rd_nopart ?_
  | with_reducible refine rd_part ?_
  | with_reducible refine rd_iv ?_
  | with_reducible refine rd_bm ?_
  | with_reducible refine rd_abs ?_
  | with_reducible refine rd_intb ?_
  | with_reducible refine rd_mx2 ?_
  | with_reducible refine rd_mn2 ?_
  | with_reducible refine rd_sub ?_
  | with_reducible refine rd_lc ?_
  | with_reducible refine rd_for ?_
  | with_reducible refine rd_iL ?_
  | with_reducible refine rd_iT ?_
  | with_reducible refine rd_r1 ?_
  | with_reducible refine rd_r2 ?_
  | with_reducible refine rd_iZ ?_)
local macro_rules | `(tactic| walk_at "rd") => `(tactic| repeat walk_at "rd1")

def topS (i : Nat) : Stmt := PySem.Challenge.pw_mixproof_k23_forms_and_inverse.main.body.getD i (.Pass ⟨0, 0, 0, 0⟩)
structure Bi (mg : Str → Option Value) : Prop where
  int : mg "int" = none
  len : mg "len" = none
  range : mg "range" = none
  isinstance : mg "isinstance" = none
  abs : mg "abs" = none
  zip : mg "zip" = none
  sum : mg "sum" = none
  all : mg "all" = none
  tuple : mg "tuple" = none
  list : mg "list" = none
  bool : mg "bool" = none
  max : mg "max" = none
  min : mg "min" = none
theorem b_int : bootBuiltins "int" = some (.type "int") := by decide +kernel
theorem b_tuple : bootBuiltins "tuple" = some (.type "tuple") := by decide +kernel
theorem b_list : bootBuiltins "list" = some (.type "list") := by decide +kernel
theorem b_bool : bootBuiltins "bool" = some (.type "bool") := by decide +kernel
theorem b_len : bootBuiltins "len" = some (.builtin "len") := by decide +kernel
theorem b_abs : bootBuiltins "abs" = some (.builtin "abs") := by decide +kernel
theorem b_sum : bootBuiltins "sum" = some (.builtin "sum") := by decide +kernel
theorem b_all : bootBuiltins "all" = some (.builtin "all") := by decide +kernel
theorem b_max : bootBuiltins "max" = some (.builtin "max") := by decide +kernel
theorem b_min : bootBuiltins "min" = some (.builtin "min") := by decide +kernel
theorem b_isinstance : bootBuiltins "isinstance" = some (.builtin "isinstance") := by decide +kernel
theorem map_getD {α β : Type} (d : α) (f : α → β) (xs : List α) : (List.range xs.length).map (fun i => f (xs.getD i d)) = xs.map f := by
  refine List.ext_getElem? fun i => ?_
  rw [List.getElem?_map, List.getElem?_map]
  by_cases hi : i < xs.length
  · rw [List.getElem?_range hi, List.getElem?_eq_getElem hi]
    show some (f (xs.getD i d)) = some (f xs[i])
    rw [List.getD_eq_getElem?_getD, List.getElem?_eq_getElem hi]; rfl
  · rw [List.getElem?_eq_none (by rw [List.length_range]; omega), List.getElem?_eq_none (by omega)]; rfl
/-! ### kinds -/
/-- what the law hands about: an int, a bool, a text, a tuple -/
def Kd (H : Hp) (x : V) : Prop := (∃ i, x = .int i) ∨ (∃ b, x = .bl b) ∨ (∃ z, x = .str z) ∨ ∃ a xs, x = .ref a ∧ H a = some (.tup xs)
def isI : V → Bool
  | .int _ => true
  | _ => false
def isIB : V → Bool
  | .int _ => true
  | .bl _ => true
  | _ => false
def isBl : V → Bool
  | .bl _ => true
  | _ => false
def isRf : V → Bool
  | .ref _ => true
  | _ => false
theorem Kd.ex {H H' : Hp} {x : V} (k : Kd H x) (e : Ex H H') : Kd H' x := by
  rcases k with h | h | h | ⟨a, xs, h1, h2⟩
  · exact .inl h
  · exact .inr (.inl h)
  · exact .inr (.inr (.inl h))
  · exact .inr (.inr (.inr ⟨a, xs, h1, e.at h2⟩))
section
variable {K : PySem.W.Frag} {H : Hp} {Q : VK} {x : V}
theorem rd_isi {T S : String} {b : Bool} (t : TyX K H x (.type S)) (k : kitB S T = some b) (h : Q (.bl b) H) : rIsi K [x, .ty T] H Q := ⟨x, .ty T, .type S, .type T, b, rfl, .ty T, t, kit_ty k, h⟩
theorem rd_isInt (k : Kd H x) (h : Q (.bl (isIB x)) H) : rIsi K [x, .ty "int"] H Q := by
  rcases k with ⟨i, rfl⟩ | ⟨b, rfl⟩ | ⟨z, rfl⟩ | ⟨a, xs, rfl, e⟩
  · exact rd_isi (.base (.int i)) (show kitB "int" "int" = some true by decide +kernel) h
  · exact rd_isi (.base (.bl b)) (show kitB "bool" "int" = some true by decide +kernel) h
  · exact rd_isi (.base (.str z)) (show kitB "str" "int" = some false by decide +kernel) h
  · exact rd_isi (.base (.tup e)) (show kitB "tuple" "int" = some false by decide +kernel) h
theorem rd_isBool (k : Kd H x) (h : Q (.bl (isBl x)) H) : rIsi K [x, .ty "bool"] H Q := by
  rcases k with ⟨i, rfl⟩ | ⟨b, rfl⟩ | ⟨z, rfl⟩ | ⟨a, xs, rfl, e⟩
  · exact rd_isi (.base (.int i)) (show kitB "int" "bool" = some false by decide +kernel) h
  · exact rd_isi (.base (.bl b)) (show kitB "bool" "bool" = some true by decide +kernel) h
  · exact rd_isi (.base (.str z)) (show kitB "str" "bool" = some false by decide +kernel) h
  · exact rd_isi (.base (.tup e)) (show kitB "tuple" "bool" = some false by decide +kernel) h
theorem rd_isTup (k : Kd H x) (h : Q (.bl (isRf x)) H) : rIsi K [x, .ty "tuple"] H Q := by
  rcases k with ⟨i, rfl⟩ | ⟨b, rfl⟩ | ⟨z, rfl⟩ | ⟨a, xs, rfl, e⟩
  · exact rd_isi (.base (.int i)) (show kitB "int" "tuple" = some false by decide +kernel) h
  · exact rd_isi (.base (.bl b)) (show kitB "bool" "tuple" = some false by decide +kernel) h
  · exact rd_isi (.base (.str z)) (show kitB "str" "tuple" = some false by decide +kernel) h
  · exact rd_isi (.base (.tup e)) (show kitB "tuple" "tuple" = some true by decide +kernel) h
theorem isI_eq : isI x = (isIB x && !isBl x) := by cases x <;> rfl
end
section
variable {P : Program} {w : World} {K : PySem.W.Frag} {mg : Str → Option Value} {base : Heap}
/-! ### is_whole -/
abbrev s_is_whole : Stmt := topS 4
theorem sc_is_whole : FnScope ["worth"] ["worth"] (defScope s_is_whole) := ⟨rfl, rfl, rfl, by decide +kernel, rfl, by decide +kernel, by decide +kernel⟩
def sp_is_whole : Sp := fun vs H Q _ => ∃ x, vs = [x] ∧ Kd H x ∧ Q (.bl (isI x)) H
theorem ok_is_whole {f : Addr} {fd : FuncData} (F : Fun K "is_whole" "is_whole" s_is_whole f fd) (B : Bi mg) : FnOk P w K mg base CX0 41 f fd ["worth"] sp_is_whole := by
  refine F.ok sc_is_whole (fun vs H Q E h => ?_) (fun cdv A outer s H vs Q E hr h => ?_)
  · obtain ⟨x, rfl, _⟩ := h; rfl
  · obtain ⟨x, rfl, kd, k⟩ := h
    have nd := sc_is_whole.nd
    refine ⟨_, (pss_one (ps_ret (pe_and (pe_callB call_isi (by rfl) B.isinstance b_isinstance (pa_cons (pv 0) (pa_cons (pe_bltn (v := .ty "int") (by rfl) B.int b_int rfl) pa_nil))) (pe_one (pe_not (pe_callB call_isi (by rfl) B.isinstance b_isinstance (pa_cons (pv 0) (pa_cons (pe_bltn (v := .ty "bool") (by rfl) B.bool b_bool rfl) pa_nil)))))))), ?_⟩
    walk_at "rd"
    refine rd_isInt kd (rd_blV ?_)
    rw [isI_eq] at k
    cases hx : isIB x with
    | false => rw [hx] at k; exact iteF k
    | true =>
      rw [hx] at k
      refine iteT ?_
      walk_at "rd"
      exact rd_isBool kd (rd_blV k)
/-! ### is_vector -/
abbrev s_is_vector : Stmt := topS 5
theorem sc_is_vector : FnScope ["worth", "many", "one"] ["worth", "many"] (defScope s_is_vector) := ⟨rfl, rfl, rfl, by decide +kernel, rfl, by decide +kernel, by decide +kernel⟩
def sp_is_vector : Sp := fun vs H Q _ => ∃ (x : V) (n : Nat), vs = [x, .int n] ∧ (((∃ i, x = .int i) ∨ ∃ z, x = .str z) ∧ Q (.bl false) H ∨
  ∃ a xs, x = .ref a ∧ H a = some (.tup xs) ∧ xs.length ≤ 1000 ∧ (∀ y ∈ xs, Kd H y) ∧ ∀ H', Ex H H' → Q (.bl (decide (xs.length = n) && xs.all isI)) H')
theorem ok_is_vector {f : Addr} {fd : FuncData} (F : Fun K "is_vector" "is_vector" s_is_vector f fd) (B : Bi mg) (C_is_whole : Cl P w K mg base CX0 41 "is_whole" ["worth"] sp_is_whole) : FnOk P w K mg base CX0 42 f fd ["worth", "many"] sp_is_vector := by
  refine F.ok sc_is_vector (fun vs H Q E h => ?_) (fun cdv A outer s H vs Q E hr h => ?_)
  · obtain ⟨x, n, rfl, _⟩ := h; rfl
  · obtain ⟨x, n, rfl, h⟩ := h
    have nd := sc_is_vector.nd
    refine ⟨_, (pss_cons (ps_if (PW.pt (pw_or (pt_not (pt_val (pe_callB call_isi (by rfl) B.isinstance b_isinstance (pa_cons (pv 0) (pa_cons (pe_bltn (v := .ty "tuple") (by rfl) B.tuple b_tuple rfl) pa_nil))))) (pw_or1 (pt_cmpR op_ne (pe_callB cr_len (by rfl) B.len b_len (pa_cons (pv 0) pa_nil)) (pv 1) (nomark _)))))
        (pss_one (ps_ret pe_bl))
        pss_nil)
      (pss_one (ps_ret (pe_callB (cr_all (by rfl)) (by rfl) B.all b_all (pa_cons (pe_lc (own := [("one", 2)]) rfl nd (pi_tup (pv 0)) (blkOk_by (by rfl)) (fun _ _ _ _ _ => (pg_name (i := 2) nd rfl (by first | exact .inl rfl | exact .inr rfl))) (fun _ _ _ _ _ => pts_nil) (fun _ _ _ _ _ => (pe_y C_is_whole hr (by decide) pass0 (by rfl) (pa_cons (pv 2) pa_nil)))) pa_nil))))), ?_⟩
    walk_at "rd"
    rcases h with ⟨kx, k⟩ | ⟨a, xs, rfl, ex, hl, hk, k⟩
    · have kd : Kd H x := kx.elim .inl fun z => .inr (.inr (.inl z))
      have nr : isRf x = false := by rcases kx with ⟨i, rfl⟩ | ⟨z, rfl⟩ <;> rfl
      refine rd_isTup kd ?_
      rw [nr]
      walk_at "rd"
      exact k
    · refine rd_isTup (.inr (.inr (.inr ⟨a, xs, rfl, ex⟩))) ?_
      walk_at "rd"
      refine iteF ?_
      walk_at "rd"
      refine rd_lenT ex ?_
      walk_at "rd"
      refine if_ndec (fun hn => ?_) (fun hn => ?_)
      · walk_at "rd"
        have e : decide (xs.length = n) = false := decide_eq_false (by omega)
        rw [e] at k
        exact k H (Xt.refl H)
      · walk_at "rd"
        have e : decide (xs.length = n) = true := decide_eq_true (by omega)
        rw [e, Bool.true_and] at k
        refine rd_itT ex (lc_pure wkT (fun i => .bl (isI (xs.getD i .non))) (by omega) (fun H' e' => e'.at ex) (fun i x H1 H2 hi e1 y Pp hP => ?_) fun D H' nD e1 eD => ?_)
        · obtain ⟨rfl, ey⟩ := y
          walk_at "rd"
          refine ⟨rfl, ?_⟩
          walk_at "rd"
          have ed : xs.getD i .non = x := by rw [List.getD_eq_getElem?_getD, ey]; rfl
          refine ⟨x, rfl, (hk x (List.mem_of_getElem? ey)).ex e1, ?_⟩
          have hP' := hP H2 (Xt.refl H2)
          rw [ed] at hP'
          exact hP'
        · walk_at "rd"
          have e2 : (List.range xs.length).map (fun i => V.bl (isI (xs.getD i .non))) = (xs.map isI).map V.bl := by rw [map_getD .non (fun x => V.bl (isI x)), List.map_map]; rfl
          rw [e2] at eD
          refine rd_all eD ?_
          have e3 : (xs.map isI).all id = xs.all isI := by rw [List.all_map]; rfl
          rw [e3]
          exact k H' e1
end
end K23
/-! the walks of dot, _take, _smallest, _unit_lines -/
namespace K23
open PySem PySem.Spec PyProof.Rows L2 Y
local macro_rules | `(tactic| walk_at "rd1") => `(tactic| first
  | with_reducible refine rd_var rfl ?_
  | with_reducible refine rd_op ?_
  | with_reducible refine rd_c ?_
  | with_reducible refine rd_I0 ?_
  | with_reducible refine rd_seq ?_
  | (with_reducible refine rd_I ?_ ?_; focus (first | exact mulok_r (by decide) (by decide) | exact mulok_l (by decide) (by decide) | (show _ ≠ _; decide) | (show _ ∧ _; decide)))
  | with_reducible refine rd_asg ?_
  | with_reducible refine rd_name ?_
  | with_reducible refine rd_cb ?_
  | with_reducible refine rd_cons ?_
  | with_reducible refine rd_nil ?_
  | with_reducible refine rd_int ?_
  | with_reducible refine rd_eqI ?_
  | with_reducible refine rd_neI ?_
  | with_reducible refine rd_bl ?_
  | with_reducible refine rd_test ?_
  | with_reducible refine rd_tB ?_
  | with_reducible refine rd_ifS ?_
  | with_reducible refine rd_next ?_
  | with_reducible refine rd_T ?_
  | with_reducible refine rd_F ?_
  | with_reducible refine rd_nT ?_
  | with_reducible refine rd_nF ?_
  | with_reducible refine rd_blV ?_
  | with_reducible refine rd_ret ?_
  | with_reducible refine rd_call ?_
  | with_reducible refine rd_drop ?_
  | with_reducible refine rd_not ?_
  | with_reducible refine rd_and ?_
  | with_reducible refine rd_or ?_
  | with_reducible refine rd_un ?_
  | with_reducible refine rd_U ?_
  | with_reducible refine rd_tup ?_
  | with_reducible refine rd_lst ?_
  | with_reducible refine rd_if ?_
  | with_reducible refine rd_andV ?_
  | with_reducible refine rd_orV ?_
  | with_reducible refine rd_notV ?_
  | with_reducible refine rd_sl ?_
  | with_reducible refine rd_nopart ?_
  | with_reducible refine rd_part ?_
  | with_reducible refine rd_iv ?_
  | with_reducible refine rd_bm ?_
  | with_reducible refine rd_abs ?_
  | with_reducible refine rd_intb ?_
  | with_reducible refine rd_mx2 ?_
  | with_reducible refine rd_mn2 ?_
  | with_reducible refine rd_sub ?_
  | with_reducible refine rd_lc ?_
  | with_reducible refine rd_for ?_
  | with_reducible refine rd_iL ?_
  | with_reducible refine rd_iT ?_
  | with_reducible refine rd_r1 ?_
  | with_reducible refine rd_r2 ?_
  | with_reducible refine rd_iZ ?_
  | with_reducible refine rd_iZM ?_
  | with_reducible refine rd_while ?_)
local macro_rules | `(tactic| walk_at "rd") => `(tactic| repeat walk_at "rd1")

theorem b_range : bootBuiltins "range" = some (.type "range") := by decide +kernel
theorem b_zip : bootBuiltins "zip" = some (.type "zip") := by decide +kernel
section
variable {P : Program} {w : World} {K : PySem.W.Frag} {mg : Str → Option Value} {base : Heap}
/-! ### dot -/
abbrev s_dot : Stmt := topS 6
theorem sc_dot : FnScope ["left", "right", "one", "other"] ["left", "right"] (defScope s_dot) := ⟨rfl, rfl, rfl, by decide +kernel, rfl, by decide +kernel, by decide +kernel⟩
def sp_dot : Sp := fun vs H Q _ => ∃ (a b : Addr) (n : Nat) (u v : Nat → Int), vs = [.ref a, .ref b] ∧ H a = some (.tup (vl n u)) ∧ H b = some (.lst (vl n v)) ∧ n ≤ 1000 ∧ (∀ j, j < n → IntMulOk (u j) (v j)) ∧ ∀ H', Ex H H' → Q (.int (dt n u v)) H'
theorem ok_dot {f : Addr} {fd : FuncData} (F : Fun K "dot" "dot" s_dot f fd) (B : Bi mg) : FnOk P w K mg base CX0 41 f fd ["left", "right"] sp_dot := by
  refine F.ok sc_dot (fun vs H Q E h => ?_) (fun cdv A outer s H vs Q E hr h => ?_)
  · obtain ⟨a, b, n, u, v, rfl, _⟩ := h; rfl
  · obtain ⟨a, b, n, u, v, rfl, ea, eb, hn, hm, k⟩ := h
    have nd := sc_dot.nd
    refine ⟨_, (pss_one (ps_ret (pe_callB (cr_sum (by rfl)) (by rfl) B.sum b_sum (pa_cons (pe_lc (g := gTup K 2 (gCons (gName 2) (gCons (gName 3) gNil))) (own := [("one", 2), ("other", 3)]) rfl nd (pi_zipM (by rfl) B.zip (pa_cons (pv 0) (pa_cons (pv 1) pa_nil))) (blkOk_by (by rfl)) (fun _ _ _ _ _ => (pg_tup (by rfl) (pgs_cons (pg_name (i := 2) nd rfl (by first | exact .inl rfl | exact .inr rfl)) (pgs_cons (pg_name (i := 3) nd rfl (by first | exact .inl rfl | exact .inr rfl)) pgs_nil)))) (fun _ _ _ _ _ => pts_nil) (fun _ _ _ _ _ => (pe_op op_mulB (pv 2) (pv 3)))) pa_nil)))), ?_⟩
    walk_at "rd"
    refine rd_zpM ea eb (lc_pure wkMt (fun j => .int (u j * v j)) (by omega) (fun H' e => ⟨e.at ea, e.at eb⟩) (fun i x H1 H2 hi e1 y Pp hP => ?_) fun D H' nD e1 eD => ?_)
    · obtain ⟨T, x1, x2, rfl, nT, rfl, f1, f2⟩ := y
      cases f1; cases f2
      refine rd_gpair upd_same ?_
      walk_at "rd"
      refine ⟨rfl, ?_⟩
      walk_at "rd"
      refine rd_I (hm i hi) ?_
      exact hP _ (ex_new nT)
    · walk_at "rd"
      refine rd_sum (eD.trans (congrArg (fun z => some (HO.lst z)) (vl_ints (u := fun j => u j * v j)))) ?_
      rw [sm_list]
      exact k H' e1
theorem tab_refs {n s : Nat} {ps : Nat → Addr} {D : Addr} : (tab n fun k => if k = s then V.ref D else V.ref (ps k)) = tab n fun i => V.ref (if i = s then D else ps i) := tab_ext fun i _ => by split <;> rfl
/-! ### two tables of rows -/
/-- at l and c: lists of rows; no row stands at Av -/
def Mat2 (H : Hp) (Av : List Addr) (l c : Addr) (n : Nat) (L C : Nat → Nat → Int) : Prop := ∃ ps qs : Nat → Addr, H l = some (.lst (tab n fun i => .ref (ps i))) ∧ H c = some (.lst (tab n fun i => .ref (qs i))) ∧
  (∀ i, i < n → H (ps i) = some (.lst (vl n (L i))) ∧ ps i ∉ Av) ∧ ∀ i, i < n → H (qs i) = some (.lst (vl n (C i))) ∧ qs i ∉ Av
theorem Mat2.keep {H H' : Hp} {Av S : List Addr} {l c : Addr} {n : Nat} {L C : Nat → Nat → Int} (m : Mat2 H Av l c n L C) (e : Xt S H H') (hS : ∀ a ∈ S, a ∈ Av) (hl : l ∉ S) (hc : c ∉ S) : Mat2 H' Av l c n L C := by
  obtain ⟨ps, qs, e1, e2, e3, e4⟩ := m
  exact ⟨ps, qs, e.at e1 hl, e.at e2 hc, fun i hi => ⟨e.at (e3 i hi).1 fun z => (e3 i hi).2 (hS _ z), (e3 i hi).2⟩, fun i hi => ⟨e.at (e4 i hi).1 fun z => (e4 i hi).2 (hS _ z), (e4 i hi).2⟩⟩
theorem Mat2.ex {H H' : Hp} {Av : List Addr} {l c : Addr} {n : Nat} {L C : Nat → Nat → Int} (m : Mat2 H Av l c n L C) (e : Ex H H') : Mat2 H' Av l c n L C := m.keep e (fun a h => by cases h) (by simp) (by simp)
theorem Mat2.congr {H : Hp} {Av : List Addr} {l c : Addr} {n : Nat} {L C L' C' : Nat → Nat → Int} (m : Mat2 H Av l c n L C) (h1 : ∀ i, i < n → ∀ j, j < n → L i j = L' i j) (h2 : ∀ i, i < n → ∀ j, j < n → C i j = C' i j) : Mat2 H Av l c n L' C' := by
  obtain ⟨ps, qs, e1, e2, e3, e4⟩ := m
  refine ⟨ps, qs, e1, e2, fun i hi => ⟨?_, (e3 i hi).2⟩, fun i hi => ⟨?_, (e4 i hi).2⟩⟩
  · rw [(e3 i hi).1]; exact congrArg (fun z => some (HO.lst z)) (tab_ext fun j hj => congrArg V.int (h1 i hi j hj))
  · rw [(e4 i hi).1]; exact congrArg (fun z => some (HO.lst z)) (tab_ext fun j hj => congrArg V.int (h2 i hi j hj))
/-! ### _take -/
abbrev s__take : Stmt := topS 8
theorem sc__take : FnScope ["lines", "columns", "source", "target", "times", "one", "other"] ["lines", "columns", "source", "target", "times"] (defScope s__take) := ⟨rfl, rfl, rfl, by decide +kernel, rfl, by decide +kernel, by decide +kernel⟩
def sp__take : Sp := fun vs H Q _ => ∃ (l c : Addr) (n s t : Nat) (τ : Int) (L C : Nat → Nat → Int) (Av : List Addr), vs = [.ref l, .ref c, .int s, .int t, .int τ] ∧ l ≠ c ∧ l ∈ Av ∧ c ∈ Av ∧ (∀ a ∈ Av, H a ≠ none) ∧ Mat2 H Av l c n L C ∧ n ≤ 1000 ∧ s < n ∧ t < n ∧
  (∀ j, j < n → IntMulOk τ (C s j)) ∧ (∀ j, j < n → IntMulOk τ (L t j)) ∧ ∀ H', Xt [l, c] H H' → Mat2 H' Av l c n (addR L s t τ) (addR C t s (-τ)) → Q .non H'
theorem ok__take {f : Addr} {fd : FuncData} (F : Fun K "_take" "_take" s__take f fd) (B : Bi mg) : FnOk P w K mg base CX0 41 f fd ["lines", "columns", "source", "target", "times"] sp__take := by
  refine F.ok sc__take (fun vs H Q E h => ?_) (fun cdv A outer s0 H vs Q E hr h => ?_)
  · obtain ⟨l, c, n, s, t, τ, L, C, Av, rfl, _⟩ := h; rfl
  · obtain ⟨l, c, n, s, t, τ, L, C, Av, rfl, lc, lA, cA, hA, hM, hn, hs, ht, m1, m2, k⟩ := h
    have nd := sc__take.nd
    obtain ⟨ps, qs, el, ec, eL, eC⟩ := hM
    refine ⟨_, (pss_cons (ps_asg (pe_lc (g := gTup K 2 (gCons (gName 5) (gCons (gName 6) gNil))) (own := [("one", 5), ("other", 6)]) rfl nd (pi_zip (by rfl) B.zip (pa_cons (pe_ix ix_list (pv 1) (pv 3) (fun _ _ => rfl)) (pa_cons (pe_ix ix_list (pv 1) (pv 2) (fun _ _ => rfl)) pa_nil))) (blkOk_by (by rfl)) (fun _ _ _ _ _ => (pg_tup (by rfl) (pgs_cons (pg_name (i := 5) nd rfl (by first | exact .inl rfl | exact .inr rfl)) (pgs_cons (pg_name (i := 6) nd rfl (by first | exact .inl rfl | exact .inr rfl)) pgs_nil)))) (fun _ _ _ _ _ => pts_nil) (fun _ _ _ _ _ => (pe_op op_sub (pv 5) (pe_op op_mulB (pv 4) (pv 6))))) (pg_sub (pv 1) (pv 3) set_list))
      (pss_one (ps_asg (pe_lc (g := gTup K 2 (gCons (gName 5) (gCons (gName 6) gNil))) (own := [("one", 5), ("other", 6)]) rfl nd (pi_zip (by rfl) B.zip (pa_cons (pe_ix ix_list (pv 0) (pv 2) (fun _ _ => rfl)) (pa_cons (pe_ix ix_list (pv 0) (pv 3) (fun _ _ => rfl)) pa_nil))) (blkOk_by (by rfl)) (fun _ _ _ _ _ => (pg_tup (by rfl) (pgs_cons (pg_name (i := 5) nd rfl (by first | exact .inl rfl | exact .inr rfl)) (pgs_cons (pg_name (i := 6) nd rfl (by first | exact .inl rfl | exact .inr rfl)) pgs_nil)))) (fun _ _ _ _ _ => pts_nil) (fun _ _ _ _ _ => (pe_op op_add (pv 5) (pe_op op_mulB (pv 4) (pv 6))))) (pg_sub (pv 0) (pv 2) set_list)))), ?_⟩
    walk_at "rd"
    refine rd_ixLt t ec rfl ht ?_
    walk_at "rd"
    refine rd_ixLt s ec rfl hs ?_
    walk_at "rd"
    refine rd_zp (eC t ht).1 (eC s hs).1 (lc_pure wkZt (fun j => .int (C t j - τ * C s j)) (by omega) (fun H' e => ⟨e.at (eC t ht).1, e.at (eC s hs).1⟩) (fun i x H1 H2 hi e1 y Pp hP => ?_) fun D H1 nD e1 eD => ?_)
    · obtain ⟨T, x1, x2, rfl, nT, rfl, f1, f2⟩ := y
      cases f1; cases f2
      refine rd_gpair upd_same ?_
      walk_at "rd"
      refine ⟨rfl, ?_⟩
      walk_at "rd"
      refine rd_I (m1 i hi) ?_
      walk_at "rd"
      exact hP _ (ex_new nT)
    · have Dv : D ∉ Av := fun z => hA D z nD
      walk_at "rd"
      refine rd_setLt t (e1.at ec) rfl ht fun H2 x2 e2 => ?_
      walk_at "rd"
      have el2 := x2.at (e1.at el) (by simpa using lc)
      refine rd_ixLt s el2 rfl hs ?_
      walk_at "rd"
      refine rd_ixLt t el2 rfl ht ?_
      walk_at "rd"
      have eL2 : ∀ i, i < n → H2 (ps i) = some (.lst (vl n (L i))) := fun i hi => x2.at (e1.at (eL i hi).1) fun z => by
        obtain rfl : ps i = c := by simpa using z
        exact (eL i hi).2 cA
      refine rd_zp (eL2 s hs) (eL2 t ht) (lc_pure wkZt (fun j => .int (L s j + τ * L t j)) (by omega) (fun H' e => ⟨e.at (eL2 s hs), e.at (eL2 t ht)⟩) (fun i x H3 H4 hi e3 y Pp hP => ?_) fun D' H3 nD' e3 eD' => ?_)
      · obtain ⟨T, y1, y2, rfl, nT, rfl, f1, f2⟩ := y
        cases f1; cases f2
        refine rd_gpair upd_same ?_
        walk_at "rd"
        refine ⟨rfl, ?_⟩
        walk_at "rd"
        refine rd_I (m2 i hi) ?_
        walk_at "rd"
        exact hP _ (ex_new nT)
      · walk_at "rd"
        refine rd_setLt s (e3.at el2) rfl hs fun H5 x5 e5 => ?_
        walk_at "rd"
        have X5 : Xt [l, c] H H5 := ((Ex.xt e1).trans (x2.sub (by simp))).trans ((Ex.xt e3).trans (x5.sub (by simp)))
        have Dv' : D' ∉ Av := fun z => hA D' z (by
          have q2 : H2 D' = none := nD'
          cases q : H D' with
          | none => rfl
          | some o =>
            by_cases hc : D' = c
            · rw [hc, e2] at q2; cases q2
            · rw [x2.at (e1.at q) (by simpa using hc)] at q2; cases q2)
        refine k H5 X5 ⟨fun i => if i = s then D' else ps i, fun i => if i = t then D else qs i, ?_, ?_, fun i hi => ?_, fun i hi => ?_⟩
        · rw [e5]
          exact congrArg (fun z => some (HO.lst z)) tab_refs
        · rw [x5.at (e3.at e2) (by simpa using Ne.symm lc)]
          exact congrArg (fun z => some (HO.lst z)) tab_refs
        · dsimp only
          by_cases h : i = s
          · subst h
            rw [if_pos rfl]
            refine ⟨?_, Dv'⟩
            rw [x5.at eD' (by simp; rintro rfl; exact Dv' lA)]
            refine congrArg (fun z => some (HO.lst z)) (tab_ext fun j _ => ?_)
            show V.int _ = V.int (if i = i then _ else _)
            rw [if_pos rfl]
          · rw [if_neg h]
            refine ⟨?_, (eL i hi).2⟩
            rw [x5.at (e3.at (eL2 i hi)) (by simp; rintro z; exact (eL i hi).2 (by rw [z]; exact lA))]
            refine congrArg (fun z => some (HO.lst z)) (tab_ext fun j _ => ?_)
            show V.int _ = V.int (if i = s then _ else _)
            rw [if_neg h]
        · dsimp only
          by_cases h : i = t
          · subst h
            rw [if_pos rfl]
            refine ⟨?_, Dv⟩
            have nc : D ∉ [c] := by simp; rintro rfl; exact Dv cA
            have nl : D ∉ [l] := by simp; rintro rfl; exact Dv lA
            rw [x5.at (e3.at (x2.at eD nc)) nl]
            refine congrArg (fun z => some (HO.lst z)) (tab_ext fun j _ => ?_)
            show V.int _ = V.int (if i = i then _ else _)
            rw [if_pos rfl, Int.sub_eq_add_neg, Int.neg_mul]
          · rw [if_neg h]
            refine ⟨?_, (eC i hi).2⟩
            have nc : qs i ∉ [c] := by simp; intro z; exact (eC i hi).2 (by rw [z]; exact cA)
            have nl : qs i ∉ [l] := by simp; intro z; exact (eC i hi).2 (by rw [z]; exact lA)
            rw [x5.at (e3.at (x2.at (e1.at (eC i hi).1) nc)) nl]
            refine congrArg (fun z => some (HO.lst z)) (tab_ext fun j _ => ?_)
            show V.int _ = V.int (if i = t then _ else _)
            rw [if_neg h]
/-! ### _smallest -/
abbrev s__smallest : Stmt := topS 9
theorem sc__smallest : FnScope ["products", "start", "found", "place"] ["products", "start"] (defScope s__smallest) := ⟨rfl, rfl, rfl, by decide +kernel, rfl, by decide +kernel, by decide +kernel⟩
/-- r names the least one of those that are not 0 in s .. m - 1, or -1 -/
def Least (p : Nat → Int) (s m : Nat) (r : Int) : Prop := (r = -1 ∧ ∀ i, s ≤ i → i < m → p i = 0) ∨ ∃ c : Nat, r = c ∧ s ≤ c ∧ c < m ∧ p c ≠ 0 ∧ ∀ i, s ≤ i → i < m → p i ≠ 0 → (p c).natAbs ≤ (p i).natAbs
theorem abs_lt {a b : Int} : ((if a < 0 then -a else a) < (if b < 0 then -b else b)) ↔ a.natAbs < b.natAbs := by
  split <;> split <;> omega
def sp__smallest : Sp := fun vs H Q _ => ∃ (a : Addr) (n s : Nat) (p : Nat → Int), vs = [.ref a, .int s] ∧ H a = some (.lst (vl n p)) ∧ n ≤ 1000 ∧ s ≤ n ∧ ∀ r, Least p s n r → Q (.int r) H
theorem ok__smallest {f : Addr} {fd : FuncData} (F : Fun K "_smallest" "_smallest" s__smallest f fd) (B : Bi mg) : FnOk P w K mg base CX0 41 f fd ["products", "start"] sp__smallest := by
  refine F.ok sc__smallest (fun vs H Q E h => ?_) (fun cdv A outer s0 H vs Q E hr h => ?_)
  · obtain ⟨a, n, s, p, rfl, _⟩ := h; rfl
  · obtain ⟨a, n, s, p, rfl, ea, hn, hs, k⟩ := h
    have nd := sc__smallest.nd
    refine ⟨_, (pss_cons (ps_set (i := 2) nd rfl (.inl rfl) (pe_un un_neg pe_int))
      (pss_cons (ps_for PassesOwn.never rfl (pi_range2 (by rfl) B.range (pa_cons (pv 1) (pa_cons (pe_callB cr_len (by rfl) B.len b_len (pa_cons (pv 0) pa_nil)) pa_nil))) (pg_name (i := 3) nd rfl (.inl rfl))
        (pss_one (ps_if (pt_cmpR op_ne (pe_ix ix_list (pv 0) (pv 3) (fun _ _ => rfl)) pe_int (nomark _))
          (pss_one (ps_if (PW.pt (pw_or (pt_cmpR op_lt (pv 2) pe_int (nomark _)) (pw_or1 (pt_cmpR op_lt (pe_callB cr_abs (by rfl) B.abs b_abs (pa_cons (pe_ix ix_list (pv 0) (pv 3) (fun _ _ => rfl)) pa_nil)) (pe_callB cr_abs (by rfl) B.abs b_abs (pa_cons (pe_ix ix_list (pv 0) (pv 2) (fun _ _ => rfl)) pa_nil)) (nomark _)))))
            (pss_one (ps_set (i := 2) nd rfl (.inl rfl) (pv 3)))
            pss_nil))
          pss_nil)))
      (pss_one (ps_ret (pv 2))))), ?_⟩
    walk_at "rd"
    refine rd_lenLt ea ?_
    walk_at "rd"
    refine rd_rg2 s (n - s) rfl (by omega) (by omega) (for_w wkR (fun i σ H' => H' = H ∧ ∃ r pl, σ = [some (.ref a), some (.int s), some (.int r), pl] ∧ Least p s (s + i) r) ⟨rfl, _, _, rfl, .inl ⟨rfl, fun i h1 h2 => by omega⟩⟩ (fun _ _ _ _ _ => trivial) (fun i x σ H1 H2 hi hP y => ?_) fun σ H1 hP => ?_)
    · obtain ⟨rfl, r, pl, rfl, hl⟩ := hP
      obtain ⟨rfl, rfl⟩ := y
      walk_at "rd"
      refine rd_ixLt (s + i) ea (by omega) (by omega) ?_
      walk_at "rd"
      refine if_ndec (fun h0 => ?_) fun h0 => ?_
      · walk_at "rd"
        refine if_dec (fun hr0 => ?_) fun hr0 => ?_
        · walk_at "rd"
          rcases hl with ⟨e, hz⟩ | ⟨c, e, _⟩
          · refine ⟨rfl, _, _, rfl, .inr ⟨s + i, by omega, by omega, by omega, h0, fun j h1 h2 h3 => ?_⟩⟩
            by_cases hj : j < s + i
            · exact absurd (hz j h1 hj) h3
            · have : j = s + i := by omega
              subst this; exact Nat.le_refl _
          · omega
        · rcases hl with ⟨e, hz⟩ | ⟨c, e, c1, c2, c3, c4⟩
          · omega
          · subst e
            walk_at "rd"
            refine rd_ixLt (s + i) ea (by omega) (by omega) ?_
            walk_at "rd"
            refine rd_ixLt c ea rfl (by omega) ?_
            walk_at "rd"
            refine if_dec (fun h1 => ?_) fun h1 => ?_
            · walk_at "rd"
              have h1' := abs_lt.mp h1
              refine ⟨rfl, _, _, rfl, .inr ⟨s + i, by omega, by omega, by omega, h0, fun j j1 j2 j3 => ?_⟩⟩
              by_cases hj : j < s + i
              · exact Nat.le_trans (Nat.le_of_lt h1') (c4 j j1 hj j3)
              · have : j = s + i := by omega
                subst this; exact Nat.le_refl _
            · walk_at "rd"
              have h1' := fun z => h1 (abs_lt.mpr z)
              refine ⟨rfl, _, _, rfl, .inr ⟨c, rfl, c1, by omega, c3, fun j j1 j2 j3 => ?_⟩⟩
              by_cases hj : j < s + i
              · exact c4 j j1 hj j3
              · have : j = s + i := by omega
                subst this; omega
      · walk_at "rd"
        refine ⟨rfl, _, _, rfl, ?_⟩
        rcases hl with ⟨e, hz⟩ | ⟨c, e, c1, c2, c3, c4⟩
        · refine .inl ⟨e, fun j j1 j2 => ?_⟩
          by_cases hj : j < s + i
          · exact hz j j1 hj
          · have : j = s + i := by omega
            subst this; exact h0
        · refine .inr ⟨c, e, c1, by omega, c3, fun j j1 j2 j3 => ?_⟩
          by_cases hj : j < s + i
          · exact c4 j j1 hj j3
          · have : j = s + i := by omega
            subst this; exact absurd h0 j3
    · obtain ⟨rfl, r, pl, rfl, hl⟩ := hP
      walk_at "rd"
      exact k r (by rw [show s + (n - s) = n by omega] at hl; exact hl)
/-! ### _unit_lines -/
abbrev s__unit_lines : Stmt := topS 11
theorem sc__unit_lines : FnScope ["many", "found", "place", "line", "_"] ["many"] (defScope s__unit_lines) := ⟨rfl, rfl, rfl, by decide +kernel, rfl, by decide +kernel, by decide +kernel⟩
def sp__unit_lines : Sp := fun vs H Q _ => ∃ n : Nat, vs = [.int n] ∧ n ≤ 1000 ∧ ∀ (a : Addr) (ps : Nat → Addr) (H' : Hp), H a = none → Ex H H' → H' a = some (.lst (tab n fun i => .ref (ps i))) → (∀ i, i < n → H' (ps i) = some (.lst (vl n (dlt i))) ∧ H (ps i) = none ∧ ps i ≠ a) → Q (.ref a) H'
theorem ok__unit_lines {f : Addr} {fd : FuncData} (F : Fun K "_unit_lines" "_unit_lines" s__unit_lines f fd) (B : Bi mg) : FnOk P w K mg base CX0 41 f fd ["many"] sp__unit_lines := by
  refine F.ok sc__unit_lines (fun vs H Q E h => ?_) (fun cdv A outer s0 H vs Q E hr h => ?_)
  · obtain ⟨n, rfl, _⟩ := h; rfl
  · obtain ⟨n, rfl, hn, k⟩ := h
    have nd := sc__unit_lines.nd
    refine ⟨_, (pss_cons (ps_set (i := 1) nd rfl (.inl rfl) (pe_lst pa_nil))
      (pss_cons (ps_for PassesOwn.never rfl (pi_range1 (by rfl) B.range (pa_cons (pv 0) pa_nil)) (pg_name (i := 2) nd rfl (.inl rfl))
        (pss_cons (ps_setLc (i := 3) (own := [("_", 4)]) rfl nd rfl rfl (sw_true rfl rfl rfl (by decide +kernel)) (pi_range1 (by rfl) B.range (pa_cons (pv 0) pa_nil)) (blkOk_by (by rfl)) (fun _ _ _ _ _ => (pg_name (i := 4) nd rfl (by first | exact .inl rfl | exact .inr rfl))) (fun _ _ _ _ _ => pts_nil) (fun _ _ _ _ _ => pe_int))
        (pss_cons (ps_asg pe_int (pg_sub (pv 3) (pv 2) set_list))
        (pss_one (ps_expr (pe_bm PySem.F.plainAttrs_list PySem.F.slot_list_append PySem.F.type_list_append mt_append (pv 1) (pa_cons (pv 3) pa_nil)))))))
      (pss_one (ps_ret (pv 1))))), ?_⟩
    walk_at "rd"
    refine ⟨sz (by decide), fun a na => ?_⟩
    have e1 : Ex H (upd H a (.lst [])) := ex_new na
    have ea : upd H a (.lst []) a = some (.lst []) := upd_same
    generalize upd H a (HO.lst []) = H1 at e1 ea ⊢
    walk_at "rd"
    refine rd_rg1 n rfl (by omega) (for_w wkR (fun i σ H' => Ex H H' ∧ ∃ ps o1 o2 o3, σ = [some (.int n), some (.ref a), o1, o2, o3] ∧ H' a = some (.lst (tab i fun i => .ref (ps i))) ∧ ∀ j, j < i → H' (ps j) = some (.lst (vl n (dlt j))) ∧ H (ps j) = none ∧ ps j ≠ a)
      ⟨e1, fun _ => 0, _, _, _, rfl, ea, fun j h => by omega⟩ (fun _ _ _ _ _ => trivial) (fun i x σ H2 H3 hi hP y => ?_) fun σ H2 hP => ?_)
    · obtain ⟨e2, ps, o1, o2, o3, rfl, ea2, hp⟩ := hP
      obtain ⟨rfl, rfl⟩ := y
      walk_at "rd"
      refine rd_rg1 n rfl (by omega) (lc_pure wkR (fun _ => .int 0) (by omega) (fun _ _ => trivial) (fun i x H4 H5 hi e4 y Pp hP => ?_) fun D H4 nD e4 eD => ?_)
      · obtain ⟨rfl, rfl⟩ := y
        walk_at "rd"
        refine ⟨rfl, ?_⟩
        walk_at "rd"
        exact hP _ Ex.rfl'
      · have Da : D ≠ a := fun z => by rw [z, ea2] at nD; cases nD
        have nDH : H D = none := e2.back nD
        walk_at "rd"
        refine rd_setLt i eD (by omega) hi fun H5 x5 e5 => ?_
        walk_at "rd"
        refine ⟨tyL (x5.at (e4.at ea2) (by simpa using Ne.symm Da)), ?_⟩
        walk_at "rd"
        refine rd_append (x5.at (e4.at ea2) (by simpa using Ne.symm Da)) (szl (by rw [tab_len]; omega)) fun H6 x6 e6 => ?_
        walk_at "rd"
        have keep : ∀ {q : Addr} {o : HO}, H3 q = some o → q ≠ a → H6 q = some o := fun {q o} h qa => x6.at (x5.at (e4.at h) (by simp; rintro rfl; rw [nD] at h; cases h)) (by simpa using qa)
        refine ⟨fun q o _ h => keep (e2.at h) (fun z => by rw [z, na] at h; cases h), fun j => if j = i then D else ps j, _, _, _, rfl, ?_, fun j hj => ?_⟩
        · rw [e6]
          refine congrArg (fun z => some (HO.lst z)) ?_
          rw [← tab_snoc]
          dsimp only
          rw [if_pos rfl]
          refine congrArg (· ++ _) (tab_ext fun j hj => ?_)
          rw [if_neg (by omega)]
        · dsimp only
          by_cases hj2 : j = i
          · subst hj2
            rw [if_pos rfl]
            refine ⟨?_, nDH, Da⟩
            rw [x6.at e5 (by simpa using Da)]
            exact congrArg (fun z => some (HO.lst z)) (tab_ext fun k _ => by unfold dlt; split <;> rfl)
          · rw [if_neg hj2]
            obtain ⟨h1, h2, h3⟩ := hp j (by omega)
            exact ⟨keep h1 h3, h2, h3⟩
    · obtain ⟨e2, ps, o1, o2, o3, rfl, ea2, hp⟩ := hP
      walk_at "rd"
      exact k a ps H2 na e2 ea2 hp
end
end K23
/-! the walk of _cleared -/
namespace K23
open PySem PySem.Spec PyProof.Rows L2 Y
local macro_rules | `(tactic| walk_at "rd1") => `(tactic| first
  | with_reducible refine rd_var rfl ?_
  | with_reducible refine rd_op ?_
  | with_reducible refine rd_c ?_
  | with_reducible refine rd_I0 ?_
  | with_reducible refine rd_seq ?_
  | (with_reducible refine rd_I ?_ ?_; focus (first | exact mulok_r (by decide) (by decide) | exact mulok_l (by decide) (by decide) | (show _ ≠ _; decide) | (show _ ∧ _; decide)))
  | with_reducible refine rd_asg ?_
  | with_reducible refine rd_name ?_
  | with_reducible refine rd_cb ?_
  | with_reducible refine rd_cons ?_
  | with_reducible refine rd_nil ?_
  | with_reducible refine rd_int ?_
  | with_reducible refine rd_eqI ?_
  | with_reducible refine rd_neI ?_
  | with_reducible refine rd_bl ?_
  | with_reducible refine rd_test ?_
  | with_reducible refine rd_tB ?_
  | with_reducible refine rd_ifS ?_
  | with_reducible refine rd_next ?_
  | with_reducible refine rd_T ?_
  | with_reducible refine rd_F ?_
  | with_reducible refine rd_nT ?_
  | with_reducible refine rd_nF ?_
  | with_reducible refine rd_blV ?_
  | with_reducible refine rd_ret ?_
  | with_reducible refine rd_call ?_
  | with_reducible refine rd_drop ?_
  | with_reducible refine rd_not ?_
  | with_reducible refine rd_and ?_
  | with_reducible refine rd_or ?_
  | with_reducible refine rd_un ?_
  | with_reducible refine rd_U ?_
  | with_reducible refine rd_tup ?_
  | with_reducible refine rd_lst ?_
  | with_reducible refine rd_if ?_
  | with_reducible refine rd_andV ?_
  | with_reducible refine rd_orV ?_
  | with_reducible refine rd_notV ?_
  | with_reducible refine rd_sl ?_
  | with_reducible refine rd_nopart ?_
  | with_reducible refine rd_part ?_
  | with_reducible refine rd_iv ?_
  | with_reducible refine rd_bm ?_
  | with_reducible refine rd_abs ?_
  | with_reducible refine rd_intb ?_
  | with_reducible refine rd_mx2 ?_
  | with_reducible refine rd_mn2 ?_
  | with_reducible refine rd_sub ?_
  | with_reducible refine rd_lc ?_
  | with_reducible refine rd_for ?_
  | with_reducible refine rd_iL ?_
  | with_reducible refine rd_iT ?_
  | with_reducible refine rd_r1 ?_
  | with_reducible refine rd_r2 ?_
  | with_reducible refine rd_iZ ?_
  | with_reducible refine rd_iZM ?_
  | with_reducible refine rd_while ?_)
local macro_rules | `(tactic| walk_at "rd") => `(tactic| repeat walk_at "rd1")

def big : Nat := 67108864
theorem big_ok : big + big ≤ 134217728 := by decide
theorem bits_lt {a : Int} {k : Nat} (h : a.natAbs < 2 ^ k) : Builtin.Int.intBits a ≤ k := by
  have q : Builtin.Int.intBits a ≤ a.natAbs.log2 + 1 ∧ (a.natAbs = 0 → Builtin.Int.intBits a = 0) := by
    unfold Builtin.Int.intBits
    constructor
    · split <;> omega
    · intro z
      have : a = 0 := by omega
      subst this; rfl
  by_cases z : a.natAbs = 0
  · rw [q.2 z]; exact Nat.zero_le _
  · have := (Nat.log2_lt z).mpr h
    omega
theorem mulok_big {a b : Int} (ha : a.natAbs < 2 ^ big) (hb : b.natAbs < 2 ^ big) : IntMulOk a b := .of_le (bits_lt ha) (bits_lt hb) big_ok
section
variable {P : Program} {w : World} {K : PySem.W.Frag} {mg : Str → Option Value} {base : Heap}
abbrev s__cleared : Stmt := topS 10
theorem sc__cleared : FnScope ["lines", "columns", "rank", "vector", "products", "chosen", "rest", "place", "times", "column", "one"] ["lines", "columns", "rank", "vector"] (defScope s__cleared) := ⟨rfl, rfl, rfl, by decide +kernel, rfl, by decide +kernel, by decide +kernel⟩
def sp__cleared : Sp := fun vs H Q _ => ∃ (l c a : Addr) (n r x y q V : Nat) (vec : Nat → Int) (L C : Nat → Nat → Int) (Av : List Addr), vs = [.ref l, .ref c, .int r, .ref a] ∧ l ≠ c ∧ l ∈ Av ∧ c ∈ Av ∧ (∀ b ∈ Av, H b ≠ none) ∧ Mat2 H Av l c n L C ∧ H a = some (.tup (vl n vec)) ∧
  r ≤ n ∧ n ≤ 7 ∧ Inv2 n L C ∧ (∀ i, i < n → ∀ j, j < n → (C i j).natAbs ≤ 2 ^ x) ∧ (∀ i, i < n → ∀ j, j < n → (L i j).natAbs ≤ 2 ^ y) ∧ (∀ j, j < n → (vec j).natAbs ≤ V) ∧ V ≤ 2 ^ q ∧ n * V ≤ 2 ^ q ∧ q < big ∧ x < big ∧ (r < n → x + 5 * (x + q) + 5 ≤ big ∧ y + 9 * (x + q) + 9 ≤ big) ∧
  (∀ H', Ex H H' → (∀ i, r ≤ i → i < n → dt n vec (C i) = 0) → Q (.bl false) H') ∧
  ∀ H' L' C', Xt [l, c] H H' → Mat2 H' Av l c n L' C' → r < n → Clr n r vec C L' C' (2 ^ (x + 5 * (x + q) + 4)) (2 ^ (y + 9 * (x + q) + 8)) → Q (.bl true) H'
/-- numbers at the start -/
theorem eu_start {n r x y q V : Nat} {vec : Nat → Int} {L C : Nat → Nat → Int} {p : Nat → Int} {c : Nat} (v : Inv2 n L C) (bC : ∀ i, i < n → ∀ j, j < n → (C i j).natAbs ≤ 2 ^ x) (bL : ∀ i, i < n → ∀ j, j < n → (L i j).natAbs ≤ 2 ^ y) (bv : ∀ j, j < n → (vec j).natAbs ≤ V) (hq : n * V ≤ 2 ^ q)
    (hp : ∀ i, i < n → p i = dt n vec (C i)) (c1 : r ≤ c) (c2 : c < n) (c0 : p c ≠ 0) (hl : ∀ i, r ≤ i → i < n → p i ≠ 0 → (p c).natAbs ≤ (p i).natAbs) :
    Eu n r vec C (2 ^ (x + 5 * (x + q) + 2)) (2 ^ (y + 9 * (x + q) + 4)) L C p c (2 ^ x) (2 ^ y) (2 ^ (x + q)) := by
  have bp : ∀ i, i < n → (p i).natAbs ≤ 2 ^ (x + q) := fun i hi => by
    rw [hp i hi]
    refine Nat.le_trans (dt_abs bv (bC i hi)) ?_
    rw [← Nat.mul_assoc, Nat.pow_add, Nat.mul_comm (2 ^ x)]
    exact Nat.mul_le_mul_right _ hq
  have pow1 : ∀ a e : Nat, 2 ^ e * (2 ^ a * 2 ^ (x + q) * (2 ^ (x + q) * 2 ^ (x + q)) ^ e) = 2 ^ (a + (x + q) + (x + q + (x + q)) * e + e) := fun a e => by
    rw [← Nat.pow_add, ← Nat.pow_add, ← Nat.pow_mul, ← Nat.pow_add, ← Nat.pow_add]
    congr 1
    omega
  have le1 : ∀ a e : Nat, 2 ^ e * (2 ^ a * 2 ^ (x + q) * (2 ^ (x + q) * (p c).natAbs) ^ e) ≤ 2 ^ (a + (x + q) + (x + q + (x + q)) * e + e) := fun a e => by
    rw [← pow1]
    exact Nat.mul_le_mul_left _ (Nat.mul_le_mul_left _ (Nat.pow_le_pow_left (Nat.mul_le_mul_left _ (bp c c2)) e))
  refine ⟨v, fun i _ hi => hp i hi, c1, c2, c0, hl, fun _ _ => rfl, fun u h => h, fun i _ hi => bC i hi, bL, fun i _ hi => bp i hi, Nat.pow_pos (by decide), Nat.pow_pos (by decide), .inl ⟨?_, ?_⟩⟩
  · refine Nat.le_trans (le1 x 2) (Nat.pow_le_pow_right (by decide) (by omega))
  · refine Nat.le_trans (le1 y 4) (Nat.pow_le_pow_right (by decide) (by omega))
/-- the state of the loop -/
def Fn (n r : Nat) (vec : Nat → Int) (C0 : Nat → Nat → Int) (Φ Ψ c : Nat) (L C : Nat → Nat → Int) (p : Nat → Int) : Prop := r ≤ c ∧ c < n ∧ p c ≠ 0 ∧ (∀ i, r ≤ i → i < n → i ≠ c → p i = 0) ∧ ∃ p0, RdEnd n r vec C0 c (3 * Φ) (16 * Ψ) p0 L C p
theorem Eu.lt {n r x y q : Nat} {vec : Nat → Int} {C0 L C : Nat → Nat → Int} {p : Nat → Int} {c X Y M : Nat} (e : Eu n r vec C0 (2 ^ (x + 5 * (x + q) + 2)) (2 ^ (y + 9 * (x + q) + 4)) L C p c X Y M) (h1 : x + 5 * (x + q) + 5 ≤ big) (h2 : y + 9 * (x + q) + 9 ≤ big) :
    X < 2 ^ big ∧ Y < 2 ^ big ∧ 2 * M < 2 ^ big := by
  have a : ∀ k d, k + d + 1 ≤ big → 2 ^ d * 2 ^ k < 2 ^ big := fun k d h => by
    rw [← Nat.pow_add]
    exact Nat.pow_lt_pow_right (by decide) (by omega)
  have hX := pot_x e.m0 e.M0 e.potX
  have hY := pot_x e.m0 e.M0 e.potY
  have hM := pot_m e.m0 e.M0 e.X1 e.potX
  have q1 := a (x + 5 * (x + q) + 2) 1 (by omega)
  have q2 := a (y + 9 * (x + q) + 4) 1 (by omega)
  omega
theorem Mat2.av {H : Hp} {Av : List Addr} {l c : Addr} {n : Nat} {L C : Nat → Nat → Int} (m : Mat2 H Av l c n L C) {D : Addr} (h : H D = none) : Mat2 H (D :: Av) l c n L C := by
  obtain ⟨ps, qs, e1, e2, e3, e4⟩ := m
  refine ⟨ps, qs, e1, e2, fun i hi => ⟨(e3 i hi).1, fun z => ?_⟩, fun i hi => ⟨(e4 i hi).1, fun z => ?_⟩⟩
  · rcases List.mem_cons.mp z with z | z
    · rw [← z, (e3 i hi).1] at h; cases h
    · exact (e3 i hi).2 z
  · rcases List.mem_cons.mp z with z | z
    · rw [← z, (e4 i hi).1] at h; cases h
    · exact (e4 i hi).2 z
theorem Mat2.less {H : Hp} {Av Aw : List Addr} {l c : Addr} {n : Nat} {L C : Nat → Nat → Int} (m : Mat2 H Av l c n L C) (h : ∀ a ∈ Aw, a ∈ Av) : Mat2 H Aw l c n L C := by
  obtain ⟨ps, qs, e1, e2, e3, e4⟩ := m
  exact ⟨ps, qs, e1, e2, fun i hi => ⟨(e3 i hi).1, fun z => (e3 i hi).2 (h _ z)⟩, fun i hi => ⟨(e4 i hi).1, fun z => (e4 i hi).2 (h _ z)⟩⟩
theorem Mat2.lc {H : Hp} {Av : List Addr} {l c : Addr} {n : Nat} {L C : Nat → Nat → Int} (m : Mat2 H Av l c n L C) : H l ≠ none ∧ H c ≠ none := by
  obtain ⟨ps, qs, e1, e2, _⟩ := m
  rw [e1, e2]
  exact ⟨by simp, by simp⟩
theorem av_keep {H H' : Hp} {Av : List Addr} {l c : Addr} {n : Nat} {L C : Nat → Nat → Int} (e : Xt [l, c] H H') (m : Mat2 H' Av l c n L C) {Aw : List Addr} (h : ∀ a ∈ Aw, H a ≠ none) : ∀ a ∈ Aw, H' a ≠ none := fun a ha => by
  by_cases h1 : a = l
  · rw [h1]; exact m.lc.1
  · by_cases h2 : a = c
    · rw [h2]; exact m.lc.2
    · cases q : H a with
      | none => exact absurd q (h a ha)
      | some o => rw [e.at q (by simp [h1, h2])]; simp
theorem mat_swap {H H' : Hp} {Av : List Addr} {l c : Addr} {n r ch : Nat} {L C : Nat → Nat → Int} {ps qs : Nat → Addr} (hr : r < n) (hch : ch < n) (eL : ∀ i, i < n → H (ps i) = some (.lst (vl n (L i))) ∧ ps i ∉ Av) (eC : ∀ i, i < n → H (qs i) = some (.lst (vl n (C i))) ∧ qs i ∉ Av)
    (kL : ∀ i, i < n → H' (ps i) = some (.lst (vl n (L i)))) (kC : ∀ i, i < n → H' (qs i) = some (.lst (vl n (C i))))
    (El : H' l = some (.lst (tab n fun k => if k = ch then V.ref (ps r) else if k = r then V.ref (ps ch) else V.ref (ps k)))) (Ec : H' c = some (.lst (tab n fun k => if k = ch then V.ref (qs r) else if k = r then V.ref (qs ch) else V.ref (qs k)))) : Mat2 H' Av l c n (swR L r ch) (swR C r ch) := by
  have t : ∀ ps : Nat → Addr, (tab n fun k => if k = ch then V.ref (ps r) else if k = r then V.ref (ps ch) else V.ref (ps k)) = tab n fun i => V.ref (if i = ch then ps r else if i = r then ps ch else ps i) := fun ps => tab_ext fun i _ => by
    split
    · rfl
    · split <;> rfl
  refine ⟨fun i => if i = ch then ps r else if i = r then ps ch else ps i, fun i => if i = ch then qs r else if i = r then qs ch else qs i, El.trans (congrArg (fun z => some (HO.lst z)) (t ps)), Ec.trans (congrArg (fun z => some (HO.lst z)) (t qs)), fun i hi => ?_, fun i hi => ?_⟩
  · dsimp only
    by_cases h1 : i = ch
    · subst h1; rw [if_pos rfl, swR_b]; exact ⟨kL r hr, (eL r hr).2⟩
    · by_cases h2 : i = r
      · subst h2; rw [if_neg h1, if_pos rfl, swR_a]; exact ⟨kL ch hch, (eL ch hch).2⟩
      · rw [if_neg h1, if_neg h2, swR_o h2 h1]; exact ⟨kL i hi, (eL i hi).2⟩
  · dsimp only
    by_cases h1 : i = ch
    · subst h1; rw [if_pos rfl, swR_b]; exact ⟨kC r hr, (eC r hr).2⟩
    · by_cases h2 : i = r
      · subst h2; rw [if_neg h1, if_pos rfl, swR_a]; exact ⟨kC ch hch, (eC ch hch).2⟩
      · rw [if_neg h1, if_neg h2, swR_o h2 h1]; exact ⟨kC i hi, (eC i hi).2⟩
theorem mat_neg {H : Hp} {Av : List Addr} {l c a b : Addr} {n r : Nat} {L C : Nat → Nat → Int} {ps qs : Nat → Addr} (eL : ∀ i, i < n → H (ps i) = some (.lst (vl n (L i))) ∧ ps i ∉ Av) (eC : ∀ i, i < n → H (qs i) = some (.lst (vl n (C i))) ∧ qs i ∉ Av)
    (ea : H a = some (.lst (vl n fun j => -(L r j)))) (eb : H b = some (.lst (vl n fun j => -(C r j)))) (na : a ∉ Av) (nb : b ∉ Av) (El : H l = some (.lst (tab n fun k => if k = r then V.ref a else V.ref (ps k)))) (Ec : H c = some (.lst (tab n fun k => if k = r then V.ref b else V.ref (qs k)))) :
    Mat2 H Av l c n (ngR L r) (ngR C r) := by
  refine ⟨fun i => if i = r then a else ps i, fun i => if i = r then b else qs i, El.trans (congrArg (fun z => some (HO.lst z)) tab_refs), Ec.trans (congrArg (fun z => some (HO.lst z)) tab_refs), fun i hi => ?_, fun i hi => ?_⟩
  · dsimp only
    by_cases h1 : i = r
    · subst h1; rw [if_pos rfl, ngR_at]; exact ⟨ea, na⟩
    · rw [if_neg h1, ngR_ne h1]; exact eL i hi
  · dsimp only
    by_cases h1 : i = r
    · subst h1; rw [if_pos rfl, ngR_at]; exact ⟨eb, nb⟩
    · rw [if_neg h1, ngR_ne h1]; exact eC i hi
theorem clr_swap {n r x y q : Nat} {vec : Nat → Int} {C L1 C1 : Nat → Nat → Int} {p p0 : Nat → Int} {ch : Nat} (fe : RdEnd n r vec C ch (3 * 2 ^ (x + 5 * (x + q) + 2)) (16 * 2 ^ (y + 9 * (x + q) + 4)) p0 L1 C1 p) (hr : r < n) (f1 : r ≤ ch) (f2 : ch < n) (f0 : p ch ≠ 0) (fz : ∀ i, r ≤ i → i < n → i ≠ ch → p i = 0) :
    Clr n r vec C (swR L1 r ch) (swR C1 r ch) (2 ^ (x + 5 * (x + q) + 4)) (2 ^ (y + 9 * (x + q) + 8)) := by
  have at_ : ∀ i, i < n → ∃ i', i' < n ∧ (r ≤ i → r ≤ i') ∧ ∀ M : Nat → Nat → Int, swR M r ch i = M i' := fun i hi => by
    by_cases e1 : i = ch
    · exact ⟨r, hr, fun _ => Nat.le_refl _, fun M => by rw [e1]; exact swR_b⟩
    · by_cases e2 : i = r
      · exact ⟨ch, f2, fun _ => f1, fun M => by rw [e2]; exact swR_a⟩
      · exact ⟨i, hi, id, fun M => swR_o e2 e1⟩
  have b1 : 3 * 2 ^ (x + 5 * (x + q) + 2) ≤ 2 ^ (x + 5 * (x + q) + 4) := by
    rw [show x + 5 * (x + q) + 4 = (x + 5 * (x + q) + 2) + 2 by omega, Nat.pow_add 2 (x + 5 * (x + q) + 2) 2]; omega
  have b2 : 16 * 2 ^ (y + 9 * (x + q) + 4) ≤ 2 ^ (y + 9 * (x + q) + 8) := by
    rw [show y + 9 * (x + q) + 8 = (y + 9 * (x + q) + 4) + 4 by omega, Nat.pow_add 2 (y + 9 * (x + q) + 4) 4]; omega
  refine ⟨fe.inv.swap hr f2, fun i hi => ?_, fun u hu k h1 h2 => ?_, ?_, fun i h1 h2 => ?_, fun i h1 h2 j hj => ?_, fun i h1 j hj => ?_⟩
  · rw [swR_o (by omega) (by omega)]; exact fe.old i hi
  · obtain ⟨k', k1, k2, k3⟩ := at_ k h2
    rw [k3]; exact fe.zero u hu k' (k2 h1) k1
  · rw [swR_a, ← fe.pr ch f1 f2]; exact f0
  · by_cases e1 : i = ch
    · subst e1; rw [swR_b, ← fe.pr r (Nat.le_refl _) hr]; exact fz r (Nat.le_refl _) hr (by omega)
    · rw [swR_o (by omega) e1, ← fe.pr i (by omega) h2]; exact fz i (by omega) h2 e1
  · obtain ⟨k', k1, k2, k3⟩ := at_ i h2
    rw [k3]; exact Nat.le_trans (fe.bC k' (k2 h1) k1 j hj) b1
  · obtain ⟨k', k1, k2, k3⟩ := at_ i h1
    rw [k3]; exact Nat.le_trans (fe.bL k' k1 j hj) b2
theorem clr_neg {n r X Y : Nat} {vec : Nat → Int} {C L1 C1 : Nat → Nat → Int} (cl : Clr n r vec C L1 C1 X Y) (hr : r < n) : Clr n r vec C (ngR L1 r) (ngR C1 r) X Y := by
  refine ⟨cl.inv.neg hr, fun i hi => ?_, fun u hu k h1 h2 => ?_, ?_, fun i h1 h2 => ?_, fun i h1 h2 j hj => ?_, fun i h1 j hj => ?_⟩
  · rw [ngR_ne (by omega)]; exact cl.old i hi
  · by_cases e : k = r
    · subst e; rw [ngR_at, dt_neg, cl.zero u hu k h1 h2]; rfl
    · rw [ngR_ne e]; exact cl.zero u hu k h1 h2
  · rw [ngR_at, dt_neg]; have := cl.piv; omega
  · rw [ngR_ne (by omega)]; exact cl.rest i h1 h2
  · by_cases e : i = r
    · subst e; rw [ngR_at, Int.natAbs_neg]; exact cl.bC i h1 h2 j hj
    · rw [ngR_ne e]; exact cl.bC i h1 h2 j hj
  · by_cases e : i = r
    · subst e; rw [ngR_at, Int.natAbs_neg]; exact cl.bL i h1 j hj
    · rw [ngR_ne e]; exact cl.bL i h1 j hj
theorem ok__cleared {f : Addr} {fd : FuncData} (F : Fun K "_cleared" "_cleared" s__cleared f fd) (B : Bi mg) (hs : base.NoSeer) (ht : P.given.tree = none) (C_dot : Cl P w K mg base CX0 41 "dot" ["left", "right"] sp_dot) (C__smallest : Cl P w K mg base CX0 41 "_smallest" ["products", "start"] sp__smallest)
    (C__take : Cl P w K mg base CX0 41 "_take" ["lines", "columns", "source", "target", "times"] sp__take) : FnOk P w K mg base CX0 43 f fd ["lines", "columns", "rank", "vector"] sp__cleared := by
  refine F.ok sc__cleared (fun vs H Q E h => ?_) (fun cdv A outer s0 H vs Q E hr h => ?_)
  · obtain ⟨l, c, a, n, r, x, y, q, vb, vec, L, C, Av, rfl, _⟩ := h; rfl
  · obtain ⟨l, c, a, n, r, x, y, q, vb, vec, L, C, Av, rfl, lc, lA, cA, hA, hM, ha, hrn, hn, hI, bC, bL, bv, hV, hq, q1, x1, bxy, kf, kt⟩ := h
    have nd := sc__cleared.nd
    refine ⟨_, (pss_cons (ps_setLc (i := 4) (own := [("column", 9)]) rfl nd rfl rfl (sw_true rfl rfl rfl (by decide +kernel)) (pi_list (pv 1)) (blkOk_by (by rfl)) (fun _ _ _ _ _ => (pg_name (i := 9) nd rfl (by first | exact .inl rfl | exact .inr rfl))) (fun _ _ _ _ _ => pts_nil) (fun _ _ _ _ _ => (pe_y C_dot hr (by decide) pass0 (by rfl) (pa_cons (pv 3) (pa_cons (pv 9) pa_nil)))))
      (pss_cons (ps_set (i := 5) nd rfl (.inl rfl) (pe_y C__smallest hr (by decide) pass0 (by rfl) (pa_cons (pv 4) (pa_cons (pv 2) pa_nil))))
      (pss_cons (ps_if (pt_cmpR op_lt (pv 5) pe_int (nomark _))
        (pss_one (ps_ret pe_bl))
        pss_nil)
      (pss_cons (ps_set (i := 6) nd rfl (.inl rfl) pe_bl)
      (pss_cons (ps_while PassesOwn.never (pt_val (pv 6))
        (pss_cons (ps_set (i := 6) nd rfl (.inl rfl) pe_bl)
        (pss_cons (ps_for PassesOwn.never rfl (pi_range2 (by rfl) B.range (pa_cons (pv 2) (pa_cons (pe_callB cr_len (by rfl) B.len b_len (pa_cons (pv 4) pa_nil)) pa_nil))) (pg_name (i := 7) nd rfl (.inl rfl))
          (pss_one (ps_if (PW.pt (pw_and (pt_cmpR op_ne (pv 7) (pv 5) (nomark _)) (pw_and1 (pt_cmpR op_ne (pe_ix ix_list (pv 4) (pv 7) (fun _ _ => rfl)) pe_int (nomark _)))))
            (pss_cons (ps_set (i := 8) nd rfl (.inl rfl) (pe_op (op_fdivB hs ht rfl rfl rfl (room_pyl hr (by decide))) (pe_ix ix_list (pv 4) (pv 7) (fun _ _ => rfl)) (pe_ix ix_list (pv 4) (pv 5) (fun _ _ => rfl))))
            (pss_cons (ps_expr (pe_y C__take hr (by decide) pass0 (by rfl) (pa_cons (pv 0) (pa_cons (pv 1) (pa_cons (pv 5) (pa_cons (pv 7) (pa_cons (pv 8) pa_nil)))))))
            (pss_cons (ps_asg (pe_op op_sub (pe_ix ix_list (pv 4) (pv 7) (fun _ _ => rfl)) (pe_op op_mulB (pv 8) (pe_ix ix_list (pv 4) (pv 5) (fun _ _ => rfl)))) (pg_sub (pv 4) (pv 7) set_list))
            (pss_one (ps_if (pt_cmpR op_ne (pe_ix ix_list (pv 4) (pv 7) (fun _ _ => rfl)) pe_int (nomark _))
              (pss_one (ps_set (i := 6) nd rfl (.inl rfl) pe_bl))
              pss_nil)))))
            pss_nil)))
        (pss_one (ps_set (i := 5) nd rfl (.inl rfl) (pe_y C__smallest hr (by decide) pass0 (by rfl) (pa_cons (pv 4) (pa_cons (pv 2) pa_nil))))))))
      (pss_cons (ps_asg (pe_tup (pa_cons (pe_ix ix_list (pv 1) (pv 5) (fun _ _ => rfl)) (pa_cons (pe_ix ix_list (pv 1) (pv 2) (fun _ _ => rfl)) pa_nil))) (pg_tup (n := 2) (by rfl) (pgs_cons (pg_sub (pv 1) (pv 2) set_list) (pgs_cons (pg_sub (pv 1) (pv 5) set_list) pgs_nil))))
      (pss_cons (ps_asg (pe_tup (pa_cons (pe_ix ix_list (pv 0) (pv 5) (fun _ _ => rfl)) (pa_cons (pe_ix ix_list (pv 0) (pv 2) (fun _ _ => rfl)) pa_nil))) (pg_tup (n := 2) (by rfl) (pgs_cons (pg_sub (pv 0) (pv 2) set_list) (pgs_cons (pg_sub (pv 0) (pv 5) set_list) pgs_nil))))
      (pss_cons (ps_if (pt_cmpR op_lt (pe_ix ix_list (pv 4) (pv 5) (fun _ _ => rfl)) pe_int (nomark _))
        (pss_cons (ps_asg (pe_lc (own := [("one", 10)]) rfl nd (pi_list (pe_ix ix_list (pv 1) (pv 2) (fun _ _ => rfl))) (blkOk_by (by rfl)) (fun _ _ _ _ _ => (pg_name (i := 10) nd rfl (by first | exact .inl rfl | exact .inr rfl))) (fun _ _ _ _ _ => pts_nil) (fun _ _ _ _ _ => (pe_un un_neg (pv 10)))) (pg_sub (pv 1) (pv 2) set_list))
        (pss_one (ps_asg (pe_lc (own := [("one", 10)]) rfl nd (pi_list (pe_ix ix_list (pv 0) (pv 2) (fun _ _ => rfl))) (blkOk_by (by rfl)) (fun _ _ _ _ _ => (pg_name (i := 10) nd rfl (by first | exact .inl rfl | exact .inr rfl))) (fun _ _ _ _ _ => pts_nil) (fun _ _ _ _ _ => (pe_un un_neg (pv 10)))) (pg_sub (pv 0) (pv 2) set_list))))
        pss_nil)
      (pss_one (ps_ret pe_bl)))))))))), ?_⟩
    walk_at "rd"
    obtain ⟨ps0, qs0, el0, ec0, eL0, eC0⟩ := id hM
    refine rd_itL ec0 (lc_pure wkLt (fun i => .int (dt n vec (C i))) (by omega) (fun H' e => e.at ec0) (fun i x1 H1 H2 hi e1 yy Pp hP => ?_) fun D H1 nD e1 eD => ?_)
    · obtain ⟨rfl, rfl⟩ := yy
      walk_at "rd"
      refine ⟨rfl, ?_⟩
      walk_at "rd"
      refine ⟨a, qs0 i, n, vec, C i, rfl, e1.at ha, e1.at (eC0 i hi).1, by omega, fun j hj => mulok_big ?_ ?_, fun H' e' => hP H' e'⟩
      · refine Nat.lt_of_le_of_lt (bv j hj) (Nat.lt_of_le_of_lt hV (Nat.pow_lt_pow_right (by decide) q1))
      · exact Nat.lt_of_le_of_lt (bC i hi j hj) (Nat.pow_lt_pow_right (by decide) x1)
    · have DA : D ∉ Av := fun z => hA D z nD
      have Dl : D ∉ [l, c] := by simp; exact ⟨fun z => DA (z ▸ lA), fun z => DA (z ▸ cA)⟩
      walk_at "rd"
      refine ⟨D, n, r, fun i => dt n vec (C i), rfl, eD, by omega, hrn, fun ch hl => ?_⟩
      walk_at "rd"
      rcases hl with ⟨rfl, hz⟩ | ⟨cc, rfl, c1, c2, c0, hl⟩
      · refine rd_dec (fun _ => ?_) fun z => absurd (by omega) z
        walk_at "rd"
        exact kf H1 e1 hz
      · refine rd_dec (fun z => absurd z (by omega)) fun _ => ?_
        walk_at "rd"
        obtain ⟨bx, by_⟩ := bxy (by omega)
        have e0 := eu_start (p := fun i => dt n vec (C i)) hI bC bL bv hq (fun _ _ => rfl) c1 c2 c0 hl
        refine while_w (fun m σ H2 => ∃ (L1 C1 : Nat → Nat → Int) (p : Nat → Int) (ch : Nat) (rest : Bool) (o7 o8 o9 o10 : Option V), σ = [some (.ref l), some (.ref c), some (.int r), some (.ref a), some (.ref D), some (.int ch), some (.bl rest), o7, o8, o9, o10] ∧
          Xt [l, c] H H2 ∧ Mat2 H2 (D :: Av) l c n L1 C1 ∧ (∀ b ∈ D :: Av, H2 b ≠ none) ∧ H2 D = some (.lst (vl n p)) ∧
          ((rest = true ∧ ∃ X Y M, Eu n r vec C (2 ^ (x + 5 * (x + q) + 2)) (2 ^ (y + 9 * (x + q) + 4)) L1 C1 p ch X Y M ∧ m = (p ch).natAbs) ∨ (rest = false ∧ Fn n r vec C (2 ^ (x + 5 * (x + q) + 2)) (2 ^ (y + 9 * (x + q) + 4)) ch L1 C1 p ∧ m = 0)))
          (dt n vec (C cc)).natAbs ⟨L, C, _, cc, true, _, _, _, _, rfl, Ex.xt e1, (hM.av nD).ex e1, fun b hb => ?_, eD, .inl ⟨rfl, _, _, _, e0, rfl⟩⟩ fun m σ H2 hW => ?_
        · rcases List.mem_cons.mp hb with rfl | hb
          · rw [eD]; simp
          · cases qq : H b with
            | none => exact absurd qq (hA b hb)
            | some o => rw [e1.at qq]; simp
        · obtain ⟨L1, C1, p, ch, rest, o7, o8, o9, o10, rfl, X2, M2, A2, D2, hW⟩ := hW
          walk_at "rd"
          rcases hW with ⟨rfl, X, Y, M, e, rfl⟩ | ⟨rfl, hF, rfl⟩
          · refine while_in ?_
            walk_at "rd"
            refine rd_lenLt D2 ?_
            walk_at "rd"
            have lt := K23.Eu.lt e bx by_
            refine rd_rg2 r (n - r) rfl (by omega) (by omega) (for_w wkR (fun i σ H3 => ∃ (L3 C3 : Nat → Nat → Int) (p3 : Nat → Int) (rest : Bool) (o7 o8 o9 o10 : Option V), σ = [some (.ref l), some (.ref c), some (.int r), some (.ref a), some (.ref D), some (.int ch), some (.bl rest), o7, o8, o9, o10] ∧
              Xt [l, c] H H3 ∧ Mat2 H3 (D :: Av) l c n L3 C3 ∧ (∀ b ∈ D :: Av, H3 b ≠ none) ∧ H3 D = some (.lst (vl n p3)) ∧ Rd n r ch L1 C1 p Y ((M + (p ch).natAbs) / (p ch).natAbs) (r + i) L3 C3 p3 rest)
              ⟨L1, C1, p, false, _, _, _, _, rfl, X2, M2, A2, D2, Rd.start e⟩ (fun _ _ _ _ _ => trivial) (fun i x1 σ H3 H4 hi hP yy => ?_) fun σ H3 hP => ?_)
            · obtain ⟨L3, C3, p3, rest, o7, o8, o9, o10, rfl, X3, M3, A3, D3, R3⟩ := hP
              obtain ⟨rfl, ex⟩ := yy
              obtain rfl : x1 = .int ((r + i : Nat) : Int) := by rw [ex]; exact congrArg V.int (by omega)
              have kt := R3.todo (r + i) (.inr (.inl (Nat.le_refl _)))
              have ct := R3.todo ch (.inr (.inr rfl))
              walk_at "rd"
              refine rd_ndec (fun hne => ?_) fun heq => ?_
              · have hne' : r + i ≠ ch := fun z => hne (by rw [z])
                walk_at "rd"
                refine rd_ixLt (r + i) D3 rfl (by omega) ?_
                walk_at "rd"
                refine rd_ndec (fun h0 => ?_) fun h0 => ?_
                · walk_at "rd"
                  refine rd_ixLt (r + i) D3 rfl (by omega) ?_
                  walk_at "rd"
                  refine rd_ixLt ch D3 rfl e.c2 ?_
                  refine rd_I (show p3 ch ≠ 0 by rw [ct.2]; exact e.c0) ?_
                  walk_at "rd"
                  have tT := e.t_T (i := r + i) (by omega) (by omega)
                  have tl : ((p (r + i)).fdiv (p ch)).natAbs < 2 ^ big := by
                    have := e.T_le
                    omega
                  have eT : (p3 (r + i)).fdiv (p3 ch) = (p (r + i)).fdiv (p ch) := by rw [kt.2, ct.2]
                  refine ⟨l, c, n, ch, r + i, _, L3, C3, D :: Av, rfl, lc, List.mem_cons_of_mem _ lA, List.mem_cons_of_mem _ cA, A3, M3, by omega, e.c2, by omega, fun j hj => mulok_big (by rw [eT]; exact tl) ?_, fun j hj => mulok_big (by rw [eT]; exact tl) ?_, fun H5 X5 M5 => ?_⟩
                  · rw [ct.1]; exact Nat.lt_of_le_of_lt (e.bC ch e.c1 e.c2 j hj) lt.1
                  · rw [R3.Lne _ hne']; exact Nat.lt_of_le_of_lt (e.bL _ (by omega) j hj) lt.2.1
                  · rw [eT] at M5
                    have D5 := X5.at D3 Dl
                    walk_at "rd"
                    refine rd_ixLt (r + i) D5 rfl (by omega) ?_
                    walk_at "rd"
                    refine rd_ixLt ch D5 rfl e.c2 ?_
                    refine rd_I (mulok_big (by rw [eT]; exact tl) (by rw [ct.2]; have := e.mM; omega)) ?_
                    walk_at "rd"
                    refine rd_setLt (r + i) D5 rfl (by omega) fun H6 X6 D6 => ?_
                    have D6' : H6 D = some (.lst (vl n fun k => if k = r + i then p (r + i) - (p (r + i)).fdiv (p ch) * p ch else p3 k)) := by
                      rw [D6]
                      refine congrArg (fun z => some (HO.lst z)) (tab_ext fun k _ => ?_)
                      rw [eT, kt.2, ct.2]
                      dsimp only
                      split <;> rfl
                    have X36 : Xt [l, c] H H6 := fun b o nb hb => X6.at (X5.at (X3.at hb nb) nb) (by simp; rintro rfl; rw [nD] at hb; cases hb)
                    have M6 : Mat2 H6 (D :: Av) l c n (addR L3 ch (r + i) ((p (r + i)).fdiv (p ch))) (addR C3 (r + i) ch (-(p (r + i)).fdiv (p ch))) := M5.keep X6 (fun b hb => by simp at hb; rw [hb]; exact List.mem_cons_self ..) (by simp; exact fun z => DA (z ▸ lA)) (by simp; exact fun z => DA (z ▸ cA))
                    have A6 : ∀ b ∈ D :: Av, H6 b ≠ none := fun b hb => by
                      by_cases hbD : b = D
                      · rw [hbD, D6]; simp
                      · have := av_keep X5 M5 A3 b hb
                        cases qq : H5 b with
                        | none => exact absurd qq this
                        | some o => rw [X6.at qq (by simpa using hbD)]; simp
                    walk_at "rd"
                    refine rd_ixLt (r + i) D6' rfl (by omega) ?_
                    walk_at "rd"
                    refine rd_ndec (fun h1' => ?_) fun h1' => ?_
                    · have h1 : p (r + i) - (p (r + i)).fdiv (p ch) * p ch ≠ 0 := fun z => h1' ((if_pos rfl).trans z)
                      walk_at "rd"
                      exact ⟨_, _, _, true, _, _, _, _, rfl, X36, M6, A6, D6', R3.step e (fun i h1 h2 => e.t_T h1 h2) (by omega) (by omega) hne' ⟨fun _ => .inr h1, fun _ => rfl⟩⟩
                    · have h1 : p (r + i) - (p (r + i)).fdiv (p ch) * p ch = 0 := (if_pos rfl).symm.trans h1'
                      walk_at "rd"
                      exact ⟨_, _, _, rest, _, _, _, _, rfl, X36, M6, A6, D6', R3.step e (fun i h1 h2 => e.t_T h1 h2) (by omega) (by omega) hne' ⟨fun z => .inl z, fun z => z.elim id fun z => absurd h1 z⟩⟩
                · walk_at "rd"
                  exact ⟨L3, C3, p3, rest, _, _, _, _, rfl, X3, M3, A3, D3, R3.skip (k := r + i) e (Nat.le_add_right r i) (.inr h0)⟩
              · walk_at "rd"
                exact ⟨L3, C3, p3, rest, _, _, _, _, rfl, X3, M3, A3, D3, R3.skip (k := r + i) e (Nat.le_add_right r i) (.inl (Int.ofNat.inj heq))⟩
            · obtain ⟨L3, C3, p3, rest, o7, o8, o9, o10, rfl, X3, M3, A3, D3, R3⟩ := hP
              rw [show r + (n - r) = n by omega] at R3
              have ct := R3.todo ch (.inr (.inr rfl))
              walk_at "rd"
              refine ⟨D, n, r, p3, rfl, D3, by omega, hrn, fun ch' hl' => ?_⟩
              walk_at "rd"
              rcases hl' with ⟨rfl, hz⟩ | ⟨c', rfl, d1, d2, d0, hl'⟩
              · exact absurd (hz ch e.c1 e.c2) (by rw [ct.2]; exact e.c0)
              · cases rest with
                | true =>
                  have en := R3.next e hn d1 d2 d0 hl'
                  exact ⟨_, en.2, L3, C3, p3, c', true, _, _, _, _, rfl, X3, M3, A3, D3, .inl ⟨rfl, _, _, _, en.1, rfl⟩⟩
                | false =>
                  have en := R3.last e hn
                  have ec' : c' = ch := Classical.byContradiction fun z => d0 (en.2 c' d1 d2 z)
                  subst ec'
                  exact ⟨0, e.m0, L3, C3, p3, c', false, _, _, _, _, rfl, X3, M3, A3, D3, .inr ⟨rfl, ⟨d1, d2, d0, en.2, _, en.1⟩, rfl⟩⟩
          · obtain ⟨f1, f2, f0, fz, p0, fe⟩ := hF
            obtain ⟨ps, qs, el, ec, eL, eC⟩ := id M2
            walk_at "rd"
            refine rd_ixLt ch ec rfl f2 ?_
            walk_at "rd"
            refine rd_ixLt r ec rfl (by omega) ?_
            walk_at "rd"
            refine ⟨sz (show 2 ≤ 100000 by decide), fun T1 nT1 => ?_⟩
            have x1 : Ex H2 (upd H2 T1 (.tup [V.ref (qs ch), V.ref (qs r)])) := ex_new nT1
            have t1 : upd H2 T1 (.tup [V.ref (qs ch), V.ref (qs r)]) T1 = some (.tup [V.ref (qs ch), V.ref (qs r)]) := upd_same
            generalize upd H2 T1 (HO.tup [V.ref (qs ch), V.ref (qs r)]) = H3 at x1 t1 ⊢
            refine rd_gpair t1 ?_
            walk_at "rd"
            refine rd_setLt r (x1.at ec) rfl (by omega) fun H4 X4 E4 => ?_
            walk_at "rd"
            refine rd_setLt ch E4 rfl f2 fun H5 X5 E5 => ?_
            walk_at "rd"
            have el5 := X5.at (X4.at (x1.at el) (by simpa using lc)) (by simpa using lc)
            refine rd_ixLt ch el5 rfl f2 ?_
            walk_at "rd"
            refine rd_ixLt r el5 rfl (by omega) ?_
            walk_at "rd"
            refine ⟨sz (show 2 ≤ 100000 by decide), fun T2 nT2 => ?_⟩
            have x2 : Ex H5 (upd H5 T2 (.tup [V.ref (ps ch), V.ref (ps r)])) := ex_new nT2
            have t2 : upd H5 T2 (.tup [V.ref (ps ch), V.ref (ps r)]) T2 = some (.tup [V.ref (ps ch), V.ref (ps r)]) := upd_same
            generalize upd H5 T2 (HO.tup [V.ref (ps ch), V.ref (ps r)]) = H6 at x2 t2 ⊢
            refine rd_gpair t2 ?_
            walk_at "rd"
            refine rd_setLt r (x2.at el5) rfl (by omega) fun H7 X7 E7 => ?_
            walk_at "rd"
            refine rd_setLt ch E7 rfl f2 fun H8 X8 E8 => ?_
            walk_at "rd"
            have X28 : Xt [l, c] H2 H8 := ((Ex.xt x1).trans ((X4.sub (by simp)).trans (X5.sub (by simp)))).trans ((Ex.xt x2).trans ((X7.sub (by simp)).trans (X8.sub (by simp))))
            have ec8 := X8.at (X7.at (x2.at E5) (by simpa using Ne.symm lc)) (by simpa using Ne.symm lc)
            have M8 : Mat2 H8 (D :: Av) l c n (swR L1 r ch) (swR C1 r ch) := mat_swap (by omega) f2 eL eC (fun i hi => X28.at (eL i hi).1 (by simp; exact ⟨fun z => (eL i hi).2 (by rw [z]; exact List.mem_cons_of_mem _ lA), fun z => (eL i hi).2 (by rw [z]; exact List.mem_cons_of_mem _ cA)⟩))
              (fun i hi => X28.at (eC i hi).1 (by simp; exact ⟨fun z => (eC i hi).2 (by rw [z]; exact List.mem_cons_of_mem _ lA), fun z => (eC i hi).2 (by rw [z]; exact List.mem_cons_of_mem _ cA)⟩)) E8 ec8
            have D8 := X28.at D2 Dl
            have cl := clr_swap fe (by omega) f1 f2 f0 fz
            refine rd_ixLt ch D8 rfl f2 ?_
            walk_at "rd"
            have A8 : ∀ b ∈ D :: Av, H8 b ≠ none := av_keep X28 M8 A2
            refine rd_dec (fun hlt => ?_) fun hlt => ?_
            · obtain ⟨ps8, qs8, el8, ec8, eL8, eC8⟩ := id M8
              have r0 : r < n := by omega
              walk_at "rd"
              refine rd_ixLt r ec8 rfl r0 ?_
              refine rd_itL (eC8 r r0).1 (lc_pure wkLt (fun i => .int (-(swR C1 r ch r i))) (by omega) (fun H' e => e.at (eC8 r r0).1) (fun i x1 Ha Hb hi e1 yy Pp hP => ?_) fun D' H9 nD' e9 eD' => ?_)
              · obtain ⟨rfl, rfl⟩ := yy
                walk_at "rd"
                refine ⟨rfl, ?_⟩
                walk_at "rd"
                exact hP _ Ex.rfl'
              · walk_at "rd"
                refine rd_setLt r (e9.at ec8) rfl r0 fun H10 X10 E10 => ?_
                walk_at "rd"
                have el10 := X10.at (e9.at el8) (by simpa using lc)
                refine rd_ixLt r el10 rfl r0 ?_
                have row10 := X10.at (e9.at (eL8 r r0).1) (by simp; exact fun z => (eL8 r r0).2 (by rw [z]; exact List.mem_cons_of_mem _ cA))
                refine rd_itL row10 (lc_pure wkLt (fun i => .int (-(swR L1 r ch r i))) (by omega) (fun H' e => e.at row10) (fun i x1 Ha Hb hi e1 yy Pp hP => ?_) fun D'' H11 nD'' e11 eD'' => ?_)
                · obtain ⟨rfl, rfl⟩ := yy
                  walk_at "rd"
                  refine ⟨rfl, ?_⟩
                  walk_at "rd"
                  exact hP _ Ex.rfl'
                · walk_at "rd"
                  refine rd_setLt r (e11.at el10) rfl r0 fun H12 X12 E12 => ?_
                  walk_at "rd"
                  have X812 : Xt [l, c] H8 H12 := ((Ex.xt e9).trans (X10.sub (by simp))).trans ((Ex.xt e11).trans (X12.sub (by simp)))
                  have nv' : D' ∉ D :: Av := fun z => A8 _ z nD'
                  have nv'' : D'' ∉ D :: Av := fun z => by
                    have q10 : H10 D'' = none := nD''
                    cases qq : H8 D'' with
                    | none => exact A8 _ z qq
                    | some o =>
                      by_cases hcc : D'' = c
                      · rw [hcc, E10] at q10; cases q10
                      · rw [X10.at (e9.at qq) (by simpa using hcc)] at q10; cases q10
                  have nlc : ∀ {b : Addr}, b ∉ D :: Av → b ∉ [l, c] := fun {b} h => by simp; exact ⟨fun z => h (by rw [z]; exact List.mem_cons_of_mem _ lA), fun z => h (by rw [z]; exact List.mem_cons_of_mem _ cA)⟩
                  have nc : ∀ {b : Addr}, b ∉ D :: Av → b ∉ [c] := fun {b} h => by simp; exact fun z => h (by rw [z]; exact List.mem_cons_of_mem _ cA)
                  have nl : ∀ {b : Addr}, b ∉ D :: Av → b ∉ [l] := fun {b} h => by simp; exact fun z => h (by rw [z]; exact List.mem_cons_of_mem _ lA)
                  have M12 : Mat2 H12 (D :: Av) l c n (ngR (swR L1 r ch) r) (ngR (swR C1 r ch) r) := by
                    refine mat_neg (ps := ps8) (qs := qs8) (fun i hi => ⟨X812.at (eL8 i hi).1 (nlc (eL8 i hi).2), (eL8 i hi).2⟩) (fun i hi => ⟨X812.at (eC8 i hi).1 (nlc (eC8 i hi).2), (eC8 i hi).2⟩) ?_ ?_ nv'' nv' E12 (X12.at (e11.at E10) (by simpa using Ne.symm lc))
                    · exact X12.at eD'' (nl nv'')
                    · exact X12.at (e11.at (X10.at eD' (nc nv'))) (nl nv')
                  exact kt H12 _ _ (X2.trans (X28.trans X812)) (M12.less fun b hb => List.mem_cons_of_mem _ hb) r0 (clr_neg cl r0)
            · walk_at "rd"
              exact kt H8 _ _ (X2.trans X28) (M8.less fun b hb => List.mem_cons_of_mem _ hb) (by omega) cl
end
end K23
/-! the walk of reduced -/
namespace K23
open PySem PySem.Spec PyProof.Rows L2 Y
local macro_rules | `(tactic| walk_at "rd1") => `(tactic| first
  | with_reducible refine rd_var rfl ?_
  | with_reducible refine rd_op ?_
  | with_reducible refine rd_c ?_
  | with_reducible refine rd_I0 ?_
  | with_reducible refine rd_seq ?_
  | (with_reducible refine rd_I ?_ ?_; focus (first | exact mulok_r (by decide) (by decide) | exact mulok_l (by decide) (by decide) | (show _ ≠ _; decide) | (show _ ∧ _; decide)))
  | with_reducible refine rd_asg ?_
  | with_reducible refine rd_name ?_
  | with_reducible refine rd_cb ?_
  | with_reducible refine rd_cons ?_
  | with_reducible refine rd_nil ?_
  | with_reducible refine rd_int ?_
  | with_reducible refine rd_eqI ?_
  | with_reducible refine rd_neI ?_
  | with_reducible refine rd_bl ?_
  | with_reducible refine rd_test ?_
  | with_reducible refine rd_tB ?_
  | with_reducible refine rd_ifS ?_
  | with_reducible refine rd_next ?_
  | with_reducible refine rd_T ?_
  | with_reducible refine rd_F ?_
  | with_reducible refine rd_nT ?_
  | with_reducible refine rd_nF ?_
  | with_reducible refine rd_blV ?_
  | with_reducible refine rd_ret ?_
  | with_reducible refine rd_call ?_
  | with_reducible refine rd_drop ?_
  | with_reducible refine rd_not ?_
  | with_reducible refine rd_and ?_
  | with_reducible refine rd_or ?_
  | with_reducible refine rd_un ?_
  | with_reducible refine rd_U ?_
  | with_reducible refine rd_tup ?_
  | with_reducible refine rd_lst ?_
  | with_reducible refine rd_if ?_
  | with_reducible refine rd_andV ?_
  | with_reducible refine rd_orV ?_
  | with_reducible refine rd_notV ?_
  | with_reducible refine rd_sl ?_
  | with_reducible refine rd_nopart ?_
  | with_reducible refine rd_part ?_
  | with_reducible refine rd_iv ?_
  | with_reducible refine rd_bm ?_
  | with_reducible refine rd_abs ?_
  | with_reducible refine rd_intb ?_
  | with_reducible refine rd_mx2 ?_
  | with_reducible refine rd_mn2 ?_
  | with_reducible refine rd_sub ?_
  | with_reducible refine rd_lc ?_
  | with_reducible refine rd_for ?_
  | with_reducible refine rd_iL ?_
  | with_reducible refine rd_iT ?_
  | with_reducible refine rd_r1 ?_
  | with_reducible refine rd_r2 ?_
  | with_reducible refine rd_iZ ?_
  | with_reducible refine rd_iZM ?_
  | with_reducible refine rd_while ?_)
local macro_rules | `(tactic| walk_at "rd") => `(tactic| repeat walk_at "rd1")

section
variable {P : Program} {w : World} {K : PySem.W.Frag} {mg : Str → Option Value} {base : Heap}
abbrev s_reduced : Stmt := topS 12
theorem sc_reduced : FnScope ["vectors", "many", "lines", "columns", "rank", "vector", "place", "times"] ["vectors", "many"] (defScope s_reduced) := ⟨rfl, rfl, rfl, by decide +kernel, rfl, by decide +kernel, by decide +kernel⟩
/-- at a: a tuple of m tuples of n ints -/
def Vecs (H : Hp) (a : Addr) (n m : Nat) (W : Nat → Nat → Int) : Prop := ∃ as : Nat → Addr, H a = some (.tup (tab m fun k => .ref (as k))) ∧ ∀ k, k < m → H (as k) = some (.tup (vl n (W k)))
theorem Vecs.ex {H H' : Hp} {a : Addr} {n m : Nat} {W : Nat → Nat → Int} (v : Vecs H a n m W) (e : Ex H H') : Vecs H' a n m W := by
  obtain ⟨as, h1, h2⟩ := v
  exact ⟨as, e.at h1, fun k hk => e.at (h2 k hk)⟩
/-- numbers that fit -/
structure Fits (n m q vb : Nat) (W : Nat → Nat → Int) : Prop where
  m1 : m ≤ 1000
  n1 : n ≤ 7
  b : ∀ k, k < m → ∀ j, j < n → (W k j).natAbs ≤ vb
  q1 : vb ≤ 2 ^ q
  q2 : n * vb ≤ 2 ^ q
  q3 : q < big
  x : xb q n < big
  y : yb q n < big
theorem nin {p l c : Addr} (h1 : p ≠ l) (h2 : p ≠ c) : p ∉ [l, c] := by simp [h1, h2]
theorem fresh2 {H : Hp} {l c : Addr} (h1 : H l = none) (h2 : H c = none) : ∀ b ∈ [l, c], H b = none := fun b hb => by
  rcases List.mem_cons.mp hb with z | z
  · rw [z]; exact h1
  · rw [List.mem_singleton.mp z]; exact h2
theorem some2 {H : Hp} {l c : Addr} (h1 : H l ≠ none) (h2 : H c ≠ none) : ∀ b ∈ [l, c], H b ≠ none := fun b hb => by
  rcases List.mem_cons.mp hb with z | z
  · rw [z]; exact h1
  · rw [List.mem_singleton.mp z]; exact h2
def sp_reduced : Sp := fun vs H Q _ => ∃ (a : Addr) (n m q vb : Nat) (W : Nat → Nat → Int), vs = [.ref a, .int n] ∧ Vecs H a n m W ∧ Fits n m q vb W ∧
  ∀ (t l c : Addr) (r : Nat) (L C : Nat → Nat → Int) (H' : Hp), Ex H H' → H' t = some (.tup [.int r, .ref l, .ref c]) → l ≠ c → Mat2 H' [l, c] l c n L C → Red n m W r L C (2 ^ xb q n) (2 ^ yb q n) → Q (.ref t) H'
theorem Red.wide {n m r X Y X' Y' : Nat} {W L C : Nat → Nat → Int} (e : Red n m W r L C X Y) (h1 : X ≤ X') (h2 : Y ≤ Y') : Red n m W r L C X' Y' :=
  ⟨e.rn, e.inv, e.zero, e.piv, fun i hi j hj => Nat.le_trans (e.bC i hi j hj) h1, fun i hi j hj => Nat.le_trans (e.bL i hi j hj) h2⟩
theorem ok_reduced {f : Addr} {fd : FuncData} (F : Fun K "reduced" "reduced" s_reduced f fd) (B : Bi mg) (hs : base.NoSeer) (ht : P.given.tree = none) (C_dot : Cl P w K mg base CX0 41 "dot" ["left", "right"] sp_dot) (C__unit_lines : Cl P w K mg base CX0 41 "_unit_lines" ["many"] sp__unit_lines)
    (C__cleared : Cl P w K mg base CX0 43 "_cleared" ["lines", "columns", "rank", "vector"] sp__cleared) (C__take : Cl P w K mg base CX0 41 "_take" ["lines", "columns", "source", "target", "times"] sp__take) : FnOk P w K mg base CX0 45 f fd ["vectors", "many"] sp_reduced := by
  refine F.ok sc_reduced (fun vs H Q E h => ?_) (fun cdv A outer s0 H vs Q E hr h => ?_)
  · obtain ⟨a, n, m, q, vb, W, rfl, _⟩ := h; rfl
  · obtain ⟨a, n, m, q, vb, W, rfl, hv, ft, k⟩ := h
    have nd := sc_reduced.nd
    have hn7 := ft.n1
    have hm1 := ft.m1
    refine ⟨_, (pss_cons (ps_set (i := 2) nd rfl (.inl rfl) (pe_y C__unit_lines hr (by decide) pass0 (by rfl) (pa_cons (pv 1) pa_nil)))
      (pss_cons (ps_set (i := 3) nd rfl (.inl rfl) (pe_y C__unit_lines hr (by decide) pass0 (by rfl) (pa_cons (pv 1) pa_nil)))
      (pss_cons (ps_set (i := 4) nd rfl (.inl rfl) pe_int)
      (pss_cons (ps_for PassesOwn.never rfl (pi_tup (pv 0)) (pg_name (i := 5) nd rfl (.inl rfl))
        (pss_one (ps_if (pt_val (pe_y C__cleared hr (by decide) pass0 (by rfl) (pa_cons (pv 2) (pa_cons (pv 3) (pa_cons (pv 4) (pa_cons (pv 5) pa_nil))))))
          (pss_cons (ps_for PassesOwn.never rfl (pi_range1 (by rfl) B.range (pa_cons (pv 4) pa_nil)) (pg_name (i := 6) nd rfl (.inl rfl))
            (pss_cons (ps_set (i := 7) nd rfl (.inl rfl) (pe_op (op_fdivB hs ht rfl rfl rfl (room_pyl hr (by decide))) (pe_y C_dot hr (by decide) pass0 (by rfl) (pa_cons (pv 5) (pa_cons (pe_ix ix_list (pv 3) (pv 6) (fun _ _ => rfl)) pa_nil))) (pe_y C_dot hr (by decide) pass0 (by rfl) (pa_cons (pv 5) (pa_cons (pe_ix ix_list (pv 3) (pv 4) (fun _ _ => rfl)) pa_nil)))))
            (pss_one (ps_expr (pe_y C__take hr (by decide) pass0 (by rfl) (pa_cons (pv 2) (pa_cons (pv 3) (pa_cons (pv 4) (pa_cons (pv 6) (pa_cons (pv 7) pa_nil))))))))))
          (pss_one (ps_set (i := 4) nd rfl (.inl rfl) (pe_op op_add (pv 4) pe_int))))
          pss_nil)))
      (pss_one (ps_ret (pe_tup (pa_cons (pv 4) (pa_cons (pv 2) (pa_cons (pv 3) pa_nil)))))))))), ?_⟩
    walk_at "rd"
    refine ⟨n, rfl, by omega, fun l ps H1 nl e1 el hl => ?_⟩
    walk_at "rd"
    refine ⟨n, rfl, by omega, fun c qs H2 nc e2 ec hc => ?_⟩
    walk_at "rd"
    have lc : l ≠ c := fun z => by rw [z, nc] at el; cases el
    have ncH : H c = none := e1.back nc
    have M2 : Mat2 H2 [l, c] l c n dlt dlt := ⟨ps, qs, e2.at el, ec, fun i hi => ⟨e2.at (hl i hi).1, nin (hl i hi).2.2 fun z => by have := (hl i hi).1; rw [z, nc] at this; cases this⟩, fun i hi => ⟨(hc i hi).1, nin (fun z => by have := (hc i hi).2.1; rw [z, el] at this; cases this) (hc i hi).2.2⟩⟩
    obtain ⟨as, ha, has⟩ := id hv
    have fresh := fresh2 nl ncH
    have xl : ∀ r, r < n → xb q r + 5 * (xb q r + q) + 5 ≤ big ∧ yb q r + 9 * (xb q r + q) + 9 ≤ big := fun r hr => by
      have h1 := xb_mono q (show r + 1 ≤ n by omega)
      have h2 := yb_mono q (show r + 1 ≤ n by omega)
      have h3 := ft.x
      have h4 := ft.y
      have h5 : xb q (r + 1) = xb q r + 6 * (xb q r + q) + 6 := rfl
      have h6 : yb q (r + 1) = yb q r + 10 * (xb q r + q) + 13 := rfl
      omega
    refine rd_itT (Ex.at (Xt.trans e1 e2) ha) (for_w (wkTt (n := m) (f := fun k => .ref (as k))) (fun i σ H3 => ∃ (r : Nat) (L C : Nat → Nat → Int) (o5 o6 o7 : Option V), σ = [some (.ref a), some (.int n), some (.ref l), some (.ref c), some (.int r), o5, o6, o7] ∧ Ex H H3 ∧ Mat2 H3 [l, c] l c n L C ∧ Red n i W r L C (2 ^ xb q r) (2 ^ yb q r))
      ⟨0, dlt, dlt, _, _, _, rfl, e1.trans e2, M2, red_start n W⟩ (fun i σ H3 _ hP => ?_) (fun i x σ H3 H4 hi hP yy => ?_) fun σ H3 hP => ?_)
    · obtain ⟨_, _, _, _, _, _, _, e3, _⟩ := hP
      exact e3.at ha
    · obtain ⟨r, L, C, o5, o6, o7, rfl, e3, M3, R3⟩ := hP
      obtain ⟨rfl, rfl⟩ := yy
      walk_at "rd"
      refine ⟨l, c, as i, n, r, xb q r, yb q r, q, vb, W i, L, C, [l, c], rfl, lc, by simp, by simp, some2 M3.lc.1 M3.lc.2, M3, e3.at (has i hi), R3.rn, hn7, R3.inv, R3.bC, R3.bL, ft.b i hi, ft.q1, ft.q2, ft.q3, Nat.lt_of_le_of_lt (xb_mono q R3.rn) ft.x, xl r, fun H5 e5 hz => ?_, fun H5 L5 C5 X5 M5 hrn cl => ?_⟩
      · walk_at "rd"
        exact ⟨r, L, C, _, _, _, rfl, e3.trans e5, M3.ex e5, R3.skip hz⟩
      · have e5 : Ex H H5 := Xt.fresh e3 X5 fresh
        obtain ⟨bx, by_⟩ := xl r hrn
        have pb : ∀ {k}, k + 1 ≤ big → 2 ^ k < 2 ^ big := fun {k} h => Nat.pow_lt_pow_right (by decide) (by omega)
        have vbig : ∀ j, j < n → (W i j).natAbs < 2 ^ big := fun j hj => Nat.lt_of_le_of_lt (ft.b i hi j hj) (Nat.lt_of_le_of_lt ft.q1 (Nat.pow_lt_pow_right (by decide) ft.q3))
        have tsm : ∀ k, k < r → ((dt n (W i) (C5 k)).fdiv (dt n (W i) (C5 r))).natAbs ≤ 2 ^ (xb q r + q + 1) := fun k hk => by
          refine t_small cl.piv ?_
          rw [cl.old k hk]
          refine Nat.le_trans (dt_abs (ft.b i hi) (R3.bC k (by omega))) ?_
          rw [← Nat.mul_assoc, Nat.pow_add, Nat.mul_comm (2 ^ xb q r)]
          exact Nat.mul_le_mul_right _ ft.q2
        walk_at "rd"
        refine rd_rg1 r rfl (by omega) (for_w wkR (fun p σ H6 => ∃ (L6 C6 : Nat → Nat → Int) (o6 o7 : Option V), σ = [some (.ref a), some (.int n), some (.ref l), some (.ref c), some (.int r), some (.ref (as i)), o6, o7] ∧ Ex H H6 ∧ Mat2 H6 [l, c] l c n L6 C6 ∧
            Up n r (W i) L5 C5 (2 ^ (yb q r + 9 * (xb q r + q) + 8)) (2 ^ (xb q r + q + 1)) p L6 C6)
          ⟨L5, C5, _, _, rfl, e5, M5, Up.start cl.inv cl.bL hrn⟩ (fun _ _ _ _ _ => trivial) (fun p x1 σ H6 H7 hp hP yy => ?_) fun σ H6 hP => ?_)
        · obtain ⟨L6, C6, o6, o7, rfl, e6, M6, U6⟩ := hP
          obtain ⟨rfl, ex⟩ := yy
          obtain rfl : x1 = .int (p : Int) := by rw [ex]; exact congrArg V.int (by omega)
          obtain ⟨ps6, qs6, el6, ec6, eL6, eC6⟩ := id M6
          have c6r : C6 r = C5 r := U6.todo r (by omega)
          have c6p : C6 p = C5 p := U6.todo p (Nat.le_refl _)
          have bp : ∀ j, j < n → (C5 p j).natAbs < 2 ^ big := fun j hj => by
            rw [cl.old p hp]; exact Nat.lt_of_le_of_lt (R3.bC p (by omega) j hj) (pb (by omega))
          have br : ∀ j, j < n → (C5 r j).natAbs < 2 ^ big := fun j hj => Nat.lt_of_le_of_lt (cl.bC r (Nat.le_refl _) hrn j hj) (pb (by omega))
          walk_at "rd"
          refine rd_ixLt p ec6 rfl (by omega) ?_
          walk_at "rd"
          refine ⟨as i, qs6 p, n, W i, C6 p, rfl, e6.at (has i hi), (eC6 p (by omega)).1, by omega, fun j hj => mulok_big (vbig j hj) (by rw [c6p]; exact bp j hj), fun H8 e8 => ?_⟩
          walk_at "rd"
          refine rd_ixLt r (e8.at ec6) rfl hrn ?_
          walk_at "rd"
          refine ⟨as i, qs6 r, n, W i, C6 r, rfl, e8.at (e6.at (has i hi)), e8.at (eC6 r hrn).1, by omega, fun j hj => mulok_big (vbig j hj) (by rw [c6r]; exact br j hj), fun H9 e9 => ?_⟩
          rw [c6r, c6p]
          refine rd_I cl.piv ?_
          walk_at "rd"
          have tl : ((dt n (W i) (C5 p)).fdiv (dt n (W i) (C5 r))).natAbs < 2 ^ big := Nat.lt_of_le_of_lt (tsm p hp) (pb (by omega))
          have M9 := (M6.ex e8).ex e9
          refine ⟨l, c, n, r, p, _, L6, C6, [l, c], rfl, lc, by simp, by simp, some2 M9.lc.1 M9.lc.2, M9, by omega, hrn, by omega, fun j hj => mulok_big tl (by rw [c6r]; exact br j hj), fun j hj => mulok_big tl (by rw [U6.Lne p (by omega)]; exact Nat.lt_of_le_of_lt (cl.bL p (by omega) j hj) (pb (by omega))), fun H10 X10 M10 => ?_⟩
          · walk_at "rd"
            exact ⟨_, _, _, _, rfl, Xt.fresh (e6.trans (e8.trans e9)) X10 fresh, M10, U6.step cl.bL hp hrn (tsm p hp)⟩
        · obtain ⟨L6, C6, o6, o7, rfl, e6, M6, U6⟩ := hP
          walk_at "rd"
          exact ⟨r + 1, L6, C6, _, _, _, rfl, e6, M6, R3.next cl hrn hn7 U6 tsm⟩
    · obtain ⟨r, L, C, o5, o6, o7, rfl, e3, M3, R3⟩ := hP
      walk_at "rd"
      refine ⟨sz (show 3 ≤ 100000 by decide), fun t nt => ?_⟩
      exact k t l c r L C _ (e3.trans (ex_new nt)) upd_same lc (M3.ex (ex_new nt)) (Red.wide R3 (Nat.pow_le_pow_right (by decide) (xb_mono q R3.rn)) (Nat.pow_le_pow_right (by decide) (yb_mono q R3.rn)))
end
end K23
/-! the error of rows, the walk of forms -/
namespace K23
open PySem PySem.Spec PyProof.Rows L2 Y NdefX
local macro_rules | `(tactic| walk_at "rd1") => `(tactic| first
  | with_reducible refine rd_var rfl ?_
  | with_reducible refine rd_op ?_
  | with_reducible refine rd_c ?_
  | with_reducible refine rd_I0 ?_
  | with_reducible refine rd_seq ?_
  | (with_reducible refine rd_I ?_ ?_; focus (first | exact mulok_r (by decide) (by decide) | exact mulok_l (by decide) (by decide) | (show _ ≠ _; decide) | (show _ ∧ _; decide)))
  | with_reducible refine rd_asg ?_
  | with_reducible refine rd_name ?_
  | with_reducible refine rd_cb ?_
  | with_reducible refine rd_cons ?_
  | with_reducible refine rd_nil ?_
  | with_reducible refine rd_int ?_
  | with_reducible refine rd_eqI ?_
  | with_reducible refine rd_neI ?_
  | with_reducible refine rd_bl ?_
  | with_reducible refine rd_test ?_
  | with_reducible refine rd_tB ?_
  | with_reducible refine rd_ifS ?_
  | with_reducible refine rd_next ?_
  | with_reducible refine rd_T ?_
  | with_reducible refine rd_F ?_
  | with_reducible refine rd_nT ?_
  | with_reducible refine rd_nF ?_
  | with_reducible refine rd_blV ?_
  | with_reducible refine rd_ret ?_
  | with_reducible refine rd_call ?_
  | with_reducible refine rd_drop ?_
  | with_reducible refine rd_not ?_
  | with_reducible refine rd_and ?_
  | with_reducible refine rd_or ?_
  | with_reducible refine rd_un ?_
  | with_reducible refine rd_U ?_
  | with_reducible refine rd_tup ?_
  | with_reducible refine rd_lst ?_
  | with_reducible refine rd_if ?_
  | with_reducible refine rd_andV ?_
  | with_reducible refine rd_orV ?_
  | with_reducible refine rd_notV ?_
  | with_reducible refine rd_sl ?_
  | with_reducible refine rd_nopart ?_
  | with_reducible refine rd_part ?_
  | with_reducible refine rd_iv ?_
  | with_reducible refine rd_bm ?_
  | with_reducible refine rd_abs ?_
  | with_reducible refine rd_intb ?_
  | with_reducible refine rd_mx2 ?_
  | with_reducible refine rd_mn2 ?_
  | with_reducible refine rd_sub ?_
  | with_reducible refine rd_lc ?_
  | with_reducible refine rd_for ?_
  | with_reducible refine rd_iL ?_
  | with_reducible refine rd_iT ?_
  | with_reducible refine rd_r1 ?_
  | with_reducible refine rd_r2 ?_
  | with_reducible refine rd_iZ ?_
  | with_reducible refine rd_iZM ?_
  | with_reducible refine rd_while ?_)
local macro_rules | `(tactic| walk_at "rd") => `(tactic| repeat walk_at "rd1")

abbrev s_init : Stmt := inClass (topS 2) 0
section
variable {P : Program} {w : World} {K : PySem.W.Frag} {mg : Str → Option Value} {base : Heap}
theorem nsc_init : NScope ["self", "row", "__class__"] ["self", "row"] ["__class__"] (defScope s_init) := ⟨rfl, rfl, rfl, by decide +kernel, rfl, by decide +kernel, by decide +kernel, by decide +kernel, by decide +kernel⟩
def sp_init (C : Addr) : Sp := fun vs H Q _ => ∃ (a : Addr) (i : Nat), vs = [.ref a, .int i] ∧ i ≤ 1000 ∧ H a = some (exo a C none) ∧ ∀ dx, H dx = none → dx ≠ a → Q .non (upd (upd H dx (exd dx [("row", .int i)])) a (exo a C (some dx)))
theorem small_log {i : Nat} (h : i ≤ 1000) : (i : Int).natAbs.log2 < 1920 := by
  rw [Int.natAbs_natCast]
  by_cases z : i = 0
  · subst z; decide
  · exact Nat.lt_of_lt_of_le ((Nat.log2_lt z).mpr (show i < 2 ^ 10 by omega)) (by decide)
theorem ok_init {C f cc cda : Addr} {fd : FuncData} (S : SupK P K mg C f cc cda "self" (cellF "__init__" "BadRows.__init__" (defArgs s_init) (defBody s_init) (defScope s_init) cc cda) fd) (noN : PySem.W.findIn K (.ref C) "row" = some none) : FnOk P w K mg base CX0 41 f fd ["self", "row"] (sp_init C) := by
  refine sup_ok (N := ["self", "row", "__class__"]) S rfl rfl nsc_init rfl (fun vs H Q E h => ?_) rfl (fun L => ⟨_, rfl⟩) (fun L => rfl) (fun L => rfl) (fun L => rfl) fun A outer s H vs Q E hr h => ?_
  · obtain ⟨a, i, rfl, _⟩ := h; rfl
  · obtain ⟨a, i, rfl, hi, ha, k⟩ := h
    refine ⟨_, _, a, pa_cons (pe_joined (.cons pe_str (.cons (pe_fmt (pv 1)) .nil))) pa_nil, pss_one (ps_ost (pv 0) (pv 1)), rfl, ha, ?_⟩
    walk_at "rd"
    have l2 := int_text_len_1921 (small_log hi)
    refine ⟨_, rfl, Nat.le_trans (show (Str.empty ++ ("row: " : Str)).length ≤ 5 by decide +kernel) (by rw [sizeLine_eq]; omega), V.int i, rfl, .inr ⟨(i : Int), rfl, small_log hi, _, rfl, ?_, ?_⟩⟩
    · rw [PySem.Str.length_append, sizeLine_eq]
      have : (Str.empty ++ ("row: " : Str)).length ≤ 5 := by decide +kernel
      have l3 : (toString (i : Int) : Str).length ≤ 1921 := l2
      omega
    · show [V.str _].length ≤ 1000 ∧ _
      refine ⟨(show 1 ≤ 1000 by decide), ha, ?_⟩
      refine ⟨V.int i, rfl, .ref a, rfl, a, C, rfl, S.exc, noN, .inl ⟨ha, fun dx h1 h2 => k dx h1 h2⟩⟩
/-- the error of rows: its class, its maker -/
structure BR (P : Program) (w : World) (K : PySem.W.Frag) (mg : Str → Option Value) (base : Heap) (C : Addr) : Prop where
  ex : ∃ (fI : Addr) (fd : FuncData), OexC K C ∧ PySem.W.findIn K (.ref C) "__init__" = some (some (.ref fI)) ∧ PySem.W.typeIn K (.ref fI) = some (.type "function") ∧ FnOk P w K mg base CX0 41 fI fd ["self", "row"] (sp_init C) ∧ Binds K fd ["self", "row"] [] ∧ mg "BadRows" = some (.ref C)
theorem pmk_bad {X : Cx} {C : Addr} {k : Nat} {p pos : Pos} {e : Expr} {es : List Expr} {ta : TA} (b : BR X.prog X.w X.K X.mg X.base C) (hr : Room k X.A) (hk : 42 ≤ k) (hg : Gl X "BadRows") (ha : PA X (e :: es) ta)
    (he : starEach (e :: es) X.env = (false, eval e X.env) :: starEach es X.env := by rfl) (hpl : (backTo pos (starEach es X.env)).any (·.1) = false := by rfl) : PMk X (.Call (.Name "BadRows" p) (e :: es) [] pos) (tMkO C (sp_init C) [] ta) := by
  obtain ⟨fI, fd, h1, h2, h3, h4, h5, h6⟩ := b.ex
  exact pmk_oex h1 h2 h3 h4 (hr.mono hk) h5 .nil pass0 hg h6 ha (by decide) he hpl
def BadMk (C : Addr) (R : XK) (vs : List V) (H1 : Hp) : Prop := vs.length ≤ 1000 ∧ ∀ a, H1 a = none → sp_init C (.ref a :: (vs ++ [])) (upd H1 a (exo a C none)) (fun v H2 => v = .non ∧ ∃ (d : Addr) (fs : List (Str × V)), H2 a = some (exo a C (some d)) ∧ H2 d = some (exd d fs) ∧ H1 d = none ∧ R (.ref C) (some d) (upd (del H2 a) d (.xd fs))) (fun _ _ _ => False)
theorem rd_mkO {C : Addr} {σ : L2.St} {H : Hp} {R : XK} {ta : TA} (h : ta σ H fun vs H1 => BadMk C R vs H1) : tMkO C (sp_init C) [] ta σ H R := h
/-- what the making of the error leaves -/
theorem rd_bad {C : Addr} {H : Hp} {R : XK} {i : Nat} (hi : i ≤ 1000) (h : ∀ d H', Ex H H' → H d = none → H' d = some (.xd [("row", .int i)]) → R (.ref C) (some d) H') :
    BadMk C R [.int i] H := by
  show (fun vs H1 => vs.length ≤ 1000 ∧ ∀ a, H1 a = none → sp_init C (.ref a :: (vs ++ [])) (upd H1 a (exo a C none)) (fun v H2 => v = .non ∧ ∃ (d : Addr) (fs : List (Str × V)), H2 a = some (exo a C (some d)) ∧ H2 d = some (exd d fs) ∧ H1 d = none ∧ R (.ref C) (some d) (upd (del H2 a) d (.xd fs))) (fun _ _ _ => False)) [.int i] H
  refine ⟨(by decide : 1 ≤ 1000), fun a na => ⟨a, i, rfl, hi, upd_same, fun dx nd da => ⟨rfl, dx, [("row", .int i)], upd_same, ?_, ?_, ?_⟩⟩⟩
  · rw [upd_ne da, upd_same]
  · rw [upd_ne da] at nd; exact nd
  · rw [upd_ne da] at nd
    refine h dx _ (fun b o _ hb => ?_) nd upd_same
    have b1 : b ≠ dx := fun z => by rw [z, nd] at hb; cases hb
    have b2 : b ≠ a := fun z => by rw [z, na] at hb; cases hb
    rw [upd_ne b1, del_ne b2, upd_ne b2, upd_ne b1, upd_ne b2]
    exact hb
abbrev s_forms : Stmt := topS 13
theorem sc_forms : FnScope ["vectors", "many", "place", "rank", "lines", "columns", "inverse", "column", "line"] ["vectors", "many"] (defScope s_forms) := ⟨rfl, rfl, rfl, by decide +kernel, rfl, by decide +kernel, by decide +kernel⟩
/-- what a vector that is none looks like -/
def Bad (H : Hp) (n : Nat) (x : V) : Prop := ((∃ i, x = .int i) ∨ ∃ z, x = .str z) ∨ ∃ a xs, x = .ref a ∧ H a = some (.tup xs) ∧ xs.length ≤ 1000 ∧ (∀ y ∈ xs, Kd H y) ∧ (decide (xs.length = n) && xs.all isI) = false
theorem Bad.ex {H H' : Hp} {n : Nat} {x : V} (b : Bad H n x) (e : Ex H H') : Bad H' n x := by
  rcases b with h | ⟨a, xs, h1, h2, h3, h4, h5⟩
  · exact .inl h
  · exact .inr ⟨a, xs, h1, e.at h2, h3, fun y hy => (h4 y hy).ex e, h5⟩
def sp_forms (C : Addr) : Sp := fun vs H Q E => ∃ (a : Addr) (n : Nat) (xs : List V), vs = [.ref a, .int n] ∧ H a = some (.tup xs) ∧ xs.length ≤ 1000 ∧ n ≤ 1000 ∧
  ((∃ (m q vb : Nat) (W : Nat → Nat → Int), Vecs H a n m W ∧ Fits n m q vb W ∧
      ∀ (t lt it : Addr) (r : Nat) (L C : Nat → Nat → Int) (H' : Hp), Ex H H' → H' t = some (.tup [.int r, .ref lt, .ref it]) → Vecs H' lt n n L → Vecs H' it n n (fun i j => C j i) → Red n m W r L C (2 ^ xb q n) (2 ^ yb q n) → Q (.ref t) H') ∨
   ∃ (at_ : Nat) (x : V), xs[at_]? = some x ∧ Bad H n x ∧ (∀ k, k < at_ → ∃ p u, xs[k]? = some (.ref p) ∧ H p = some (.tup (vl n u))) ∧ ∀ d H', Ex H H' → H' d = some (.xd [("row", .int at_)]) → E (.ref C) (some d) H')
theorem good_vec {H : Hp} {n : Nat} {u : Nat → Int} : (∀ y ∈ vl n u, Kd H y) ∧ (decide ((vl n u).length = n) && (vl n u).all isI) = true := by
  refine ⟨fun y hy => ?_, ?_⟩
  · obtain ⟨i, _, rfl⟩ := List.mem_map.mp hy
    exact .inl ⟨_, rfl⟩
  · rw [tab_len, decide_eq_true rfl, Bool.true_and, List.all_eq_true]
    intro y hy
    obtain ⟨i, _, rfl⟩ := List.mem_map.mp hy
    rfl
theorem ok_forms {f C0 : Addr} {fd : FuncData} (F : Fun K "forms" "forms" s_forms f fd) (B : Bi mg) (bR : BR P w K mg base C0) (C_is_vector : Cl P w K mg base CX0 42 "is_vector" ["worth", "many"] sp_is_vector) (C_reduced : Cl P w K mg base CX0 45 "reduced" ["vectors", "many"] sp_reduced) :
    FnOk P w K mg base (L2.CX P w) 47 f fd ["vectors", "many"] (sp_forms C0) := by
  refine F.okX sc_forms (fun vs H Q E h => ?_) (fun cdv A outer s0 H vs Q E hr h => ?_)
  · obtain ⟨a, n, xs, rfl, _⟩ := h; rfl
  · obtain ⟨a, n, xs, rfl, ha, hx, hn, h⟩ := h
    have nd := sc_forms.nd
    refine ⟨_, (pss_cons (ps_for (passes_of rfl) rfl (pi_range1 (by rfl) B.range (pa_cons (pe_callB cr_len (by rfl) B.len b_len (pa_cons (pv 0) pa_nil)) pa_nil)) (pg_name (i := 2) nd rfl (.inl rfl))
        (pss_one (ps_if (pt_not (pt_val (pe_y C_is_vector hr (by decide) pass0 (by rfl) (pa_cons (pe_ix ix_tup (pv 0) (pv 2) (fun _ _ => rfl)) (pa_cons (pv 1) pa_nil)))))
          (pss_one (ps_raise rfl (takes_of rfl rfl rfl rfl) (pmk_bad bR hr (by decide) (by rfl) (pa_cons (pv 2) pa_nil))))
          pss_nil)))
      (pss_cons (ps_asg (pe_y C_reduced hr (by decide) pass0 (by rfl) (pa_cons (pv 0) (pa_cons (pv 1) pa_nil))) (pg_tup (n := 3) (by rfl) (pgs_cons (pg_name (i := 3) nd rfl (.inl rfl)) (pgs_cons (pg_name (i := 4) nd rfl (.inl rfl)) (pgs_cons (pg_name (i := 5) nd rfl (.inr rfl)) pgs_nil)))))
      (pss_cons (ps_setLc (i := 6) (own := [("place", 2)]) rfl nd rfl rfl (sw_true rfl rfl rfl (by decide +kernel)) (pi_range1 (by rfl) B.range (pa_cons (pv 1) pa_nil)) (blkOk_by (by rfl)) (fun _ _ _ _ _ => (pg_name (i := 2) nd rfl (by first | exact .inl rfl | exact .inr rfl))) (fun _ _ _ _ _ => pts_nil) (fun _ _ _ _ _ => (pe_callTy (cr_tupOfK (K := K) rfl) (by rfl) B.tuple b_tuple (pa_cons (pe_lc (own := [("column", 7)]) rfl nd (pi_listK (K := K) rfl (pv 5)) (blkOk_by (by rfl)) (fun _ _ _ _ _ => (pg_name (i := 7) nd rfl (by first | exact .inl rfl | exact .inr rfl))) (fun _ _ _ _ _ => pts_nil) (fun _ _ _ _ _ => (pe_ix (ix_listK (K := K) rfl) (pv 7) (pv 2) (fun _ _ => rfl)))) pa_nil))))
      (pss_one (ps_ret (pe_tup (pa_cons (pv 3) (pa_cons (pe_callTy cr_tupOf (by rfl) B.tuple b_tuple (pa_cons (pe_lc (own := [("line", 8)]) rfl nd (pi_list (pv 4)) (blkOk_by (by rfl)) (fun _ _ _ _ _ => (pg_name (i := 8) nd rfl (by first | exact .inl rfl | exact .inr rfl))) (fun _ _ _ _ _ => pts_nil) (fun _ _ _ _ _ => (pe_callTy (cr_tupOfK (K := K) rfl) (by rfl) B.tuple b_tuple (pa_cons (pv 8) pa_nil)))) pa_nil)) (pa_cons (pe_callTy cr_tupOf (by rfl) B.tuple b_tuple (pa_cons (pv 6) pa_nil)) pa_nil))))))))), ?_⟩
    walk_at "rd"
    refine rd_lenT ha ?_
    walk_at "rd"
    rcases h with ⟨m, q, vb, W, hv, ft, k⟩ | ⟨at_, x, hat, hbad, hgood, k⟩
    · obtain ⟨as, ha2, has⟩ := id hv
      obtain rfl : xs = tab m fun k => .ref (as k) := by rw [ha] at ha2; cases ha2; rfl
      rw [tab_len] at hx ⊢
      have hn7 := ft.n1
      refine rd_rg1 m rfl (by omega) (for_w wkR (fun i σ H1 => Ex H H1 ∧ ∃ o2 o3 o4 o5 o6 o7 o8, σ = [some (.ref a), some (.int n), o2, o3, o4, o5, o6, o7, o8]) ⟨Ex.rfl', _, _, _, _, _, _, _, rfl⟩ (fun _ _ _ _ _ => trivial) (fun i x1 σ H1 H2 hi hP yy => ?_) fun σ H1 hP => ?_)
      · obtain ⟨e1, o2, o3, o4, o5, o6, o7, o8, rfl⟩ := hP
        obtain ⟨rfl, ex⟩ := yy
        obtain rfl : x1 = .int (i : Int) := by rw [ex]; exact congrArg V.int (by omega)
        walk_at "rd"
        refine rd_ixTt i (e1.at ha) rfl hi ?_
        walk_at "rd"
        refine ⟨.ref (as i), n, rfl, .inr ⟨as i, vl n (W i), rfl, e1.at (has i hi), by rw [tab_len]; omega, good_vec (H := H2) |>.1, fun H3 e3 => ?_⟩⟩
        rw [(good_vec (H := H2)).2]
        walk_at "rd"
        exact ⟨Xt.trans e1 e3, _, _, _, _, _, _, _, rfl⟩
      · obtain ⟨e1, o2, o3, o4, o5, o6, o7, o8, rfl⟩ := hP
        walk_at "rd"
        refine ⟨a, n, m, q, vb, W, rfl, hv.ex e1, ft, fun t l c r L C H2 e2 et lc M2 R2 => ?_⟩
        walk_at "rd"
        refine rd_gtrip et ?_
        walk_at "rd"
        obtain ⟨ps, qs, el, ec, eL, eC⟩ := id M2
        refine rd_rg1 n rfl (by omega) (lc_refs wkR (fun i => .tup (vl n fun j => C j i)) (by omega) (fun _ _ => trivial) (fun i x1 H3 H4 hi e3 yy Pp hP => ?_) fun D is H3 nD e3 eD hD => ?_)
        · obtain ⟨rfl, ex⟩ := yy
          obtain rfl : x1 = .int (i : Int) := by rw [ex]; exact congrArg V.int (by omega)
          walk_at "rd"
          refine ⟨rfl, ?_⟩
          walk_at "rd"
          refine rd_itL (e3.at ec) (lc_pure wkLt (fun j => .int (C j i)) (by omega) (fun H' e => e.at (e3.at ec)) (fun j x1 H5 H6 hj e5 yy Pp2 hP2 => ?_) fun D H5 nD e5 eD => ?_)
          · obtain ⟨rfl, rfl⟩ := yy
            walk_at "rd"
            refine ⟨rfl, ?_⟩
            walk_at "rd"
            refine rd_ixLt i (e5.at (e3.at (eC j hj).1)) rfl hi ?_
            exact hP2 _ Ex.rfl'
          · walk_at "rd"
            refine rd_tupL eD fun p H6 np e6 ep => ?_
            exact hP p H6 (Xt.trans e5 e6) ep (.inr trivial)
        · walk_at "rd"
          refine rd_itL (e3.at el) (lc_refs wkLt (fun i => .tup (vl n (L i))) (by omega) (fun H' e => e.at (e3.at el)) (fun i x1 H5 H6 hi e5 yy Pp hP => ?_) fun D2 js H5 nD2 e5 eD2 hD2 => ?_)
          · obtain ⟨rfl, rfl⟩ := yy
            walk_at "rd"
            refine ⟨rfl, ?_⟩
            walk_at "rd"
            refine rd_tupL (e5.at (e3.at (eL i hi).1)) fun p H6 np e6 ep => ?_
            exact hP p H6 e6 ep (.inr trivial)
          · walk_at "rd"
            refine rd_tupL eD2 fun lt H6 nlt e6 elt => ?_
            walk_at "rd"
            refine rd_tupL (e6.at (e5.at eD)) fun it H7 nit e7 eit => ?_
            walk_at "rd"
            refine ⟨sz (show 3 ≤ 100000 by decide), fun t2 nt2 => ?_⟩
            have e8 : Ex H7 (upd H7 t2 (.tup [.int r, .ref lt, .ref it])) := ex_new nt2
            have e08 : Ex H (upd H7 t2 (.tup [.int r, .ref lt, .ref it])) := Xt.trans e1 (Xt.trans e2 (Xt.trans e3 (Xt.trans e5 (Xt.trans e6 (Xt.trans e7 e8)))))
            exact k t2 lt it r L C _ e08 upd_same ⟨js, e8.at (e7.at elt), fun i hi => e8.at (e7.at (e6.at (hD2 i hi).1))⟩ ⟨is, e8.at eit, fun i hi => e8.at (e7.at (e6.at (e5.at (hD i hi).1)))⟩ R2
    · have hlt : at_ < xs.length := (List.getElem?_eq_some_iff.mp hat).1
      refine rd_rg1 xs.length rfl (by omega) (for_w wkR (fun i σ H1 => Ex H H1 ∧ i ≤ at_ ∧ ∃ o2 o3 o4 o5 o6 o7 o8, σ = [some (.ref a), some (.int n), o2, o3, o4, o5, o6, o7, o8]) ⟨Ex.rfl', Nat.zero_le _, _, _, _, _, _, _, _, rfl⟩ (fun _ _ _ _ _ => trivial) (fun i x1 σ H1 H2 hi hP yy => ?_) fun σ H1 hP => ?_)
      · obtain ⟨e1, hia, o2, o3, o4, o5, o6, o7, o8, rfl⟩ := hP
        obtain ⟨rfl, ex⟩ := yy
        obtain rfl : x1 = .int (i : Int) := by rw [ex]; exact congrArg V.int (by omega)
        walk_at "rd"
        by_cases hi2 : i < at_
        · obtain ⟨p, u, hp, hu⟩ := hgood i hi2
          refine rd_ixTn i (e1.at ha) rfl hp ?_
          walk_at "rd"
          refine ⟨.ref p, n, rfl, .inr ⟨p, vl n u, rfl, e1.at hu, by rw [tab_len]; omega, good_vec (H := H2) |>.1, fun H3 e3 => ?_⟩⟩
          rw [(good_vec (H := H2)).2]
          walk_at "rd"
          exact ⟨Xt.trans e1 e3, by omega, _, _, _, _, _, _, _, rfl⟩
        · obtain rfl : i = at_ := by omega
          refine rd_ixTn i (e1.at ha) rfl hat ?_
          walk_at "rd"
          have fin : ∀ H3, Ex H2 H3 → tMkO C0 (sp_init C0) [] (tCons (tVar 2) tNil) [some (.ref a), some (.int n), some (.int (i : Int)), o3, o4, o5, o6, o7, o8] H3 fun cls d H' => E cls d H' := fun H3 e3 => by
            refine rd_mkO ?_
            walk_at "rd"
            exact rd_bad (by omega) fun d H4 e4 _ ed => k d H4 (Xt.trans e1 (Xt.trans e3 e4)) ed
          rcases hbad.ex e1 with hb | ⟨p, ys, rfl, hp, h1, h2, h3⟩
          · refine ⟨x, n, rfl, .inl ⟨hb, ?_⟩⟩
            walk_at "rd"
            exact fin H2 Ex.rfl'
          · refine ⟨.ref p, n, rfl, .inr ⟨p, ys, rfl, hp, h1, h2, fun H3 e3 => ?_⟩⟩
            rw [h3]
            walk_at "rd"
            exact fin H3 e3
      · obtain ⟨_, h1, _⟩ := hP
        omega
end
end K23
/-! the law's own small functions -/
namespace K23
open PySem PySem.Spec PyProof.Rows L2 Y
local macro_rules | `(tactic| walk_at "rd1") => `(tactic| first
  | with_reducible refine rd_var rfl ?_
  | with_reducible refine rd_op ?_
  | with_reducible refine rd_c ?_
  | with_reducible refine rd_I0 ?_
  | with_reducible refine rd_seq ?_
  | ((with_reducible refine rd_I ?_ ?_); focus (first | exact mulok_r (by decide) (by decide) | exact mulok_l (by decide) (by decide) | (show _ ≠ _; decide) | (show _ ∧ _; decide)))
  | with_reducible refine rd_asg ?_
  | with_reducible refine rd_name ?_
  | with_reducible refine rd_cb ?_
  | with_reducible refine rd_cons ?_
  | with_reducible refine rd_nil ?_
  | with_reducible refine rd_int ?_
  | with_reducible refine rd_eqI ?_
  | with_reducible refine rd_neI ?_
  | with_reducible refine rd_bl ?_
  | with_reducible refine rd_test ?_
  | with_reducible refine rd_tB ?_
  | with_reducible refine rd_ifS ?_
  | with_reducible refine rd_next ?_
  | with_reducible refine rd_T ?_
  | with_reducible refine rd_F ?_
  | with_reducible refine rd_nT ?_
  | with_reducible refine rd_nF ?_
  | with_reducible refine rd_blV ?_
  | with_reducible refine rd_ret ?_
  | with_reducible refine rd_call ?_
  | with_reducible refine rd_drop ?_
  | with_reducible refine rd_not ?_
  | with_reducible refine rd_and ?_
  | with_reducible refine rd_or ?_
  | with_reducible refine rd_un ?_
  | with_reducible refine rd_U ?_
  | with_reducible refine rd_tup ?_
  | with_reducible refine rd_lst ?_
  | with_reducible refine rd_if ?_
  | with_reducible refine rd_andV ?_
  | with_reducible refine rd_orV ?_
  | with_reducible refine rd_notV ?_
  | with_reducible refine rd_sl ?_
  | with_reducible refine rd_nopart ?_
  | with_reducible refine rd_part ?_
  | with_reducible refine rd_iv ?_
  | with_reducible refine rd_bm ?_
  | with_reducible refine rd_abs ?_
  | with_reducible refine rd_intb ?_
  | with_reducible refine rd_mx2 ?_
  | with_reducible refine rd_mn2 ?_
  | with_reducible refine rd_sub ?_
  | with_reducible refine rd_lc ?_
  | with_reducible refine rd_for ?_
  | with_reducible refine rd_iL ?_
  | with_reducible refine rd_iT ?_
  | with_reducible refine rd_r1 ?_
  | with_reducible refine rd_r2 ?_
  | with_reducible refine rd_iZ ?_
  | with_reducible refine rd_iZM ?_
  | with_reducible refine rd_while ?_
  | with_reducible refine rd_tru ?_)
local macro_rules | `(tactic| walk_at "rd") => `(tactic| repeat walk_at "rd1")

theorem fm_lo {i j : Int} (h : 0 < j) : 0 ≤ i.fmod j := Int.fmod_nonneg_of_pos i h
theorem fm_hi {i j : Int} (h : 0 < j) : i.fmod j < j := Int.fmod_lt_of_pos i h
section
variable {P : Program} {w : World} {K : PySem.W.Frag} {mg : Str → Option Value} {base : Heap}
/-! ### _law_mixed -/
abbrev s__law_mixed : Stmt := topS 15
theorem sc__law_mixed : FnScope ["seed", "turn", "first", "second"] ["seed", "turn"] (defScope s__law_mixed) := ⟨rfl, rfl, rfl, by decide +kernel, rfl, by decide +kernel, by decide +kernel⟩
def sp__law_mixed : Sp := fun vs H Q _ => ∃ i j : Int, vs = [.int i, .int j] ∧ ∀ r, Q (.int r) H
theorem ok__law_mixed {f : Addr} {fd : FuncData} (F : Fun K "_law_mixed" "_law_mixed" s__law_mixed f fd) (B : Bi mg) : FnOk P w K mg base CX0 41 f fd ["seed", "turn"] sp__law_mixed := by
  refine F.ok sc__law_mixed (fun vs H Q E h => ?_) (fun cdv A outer s H vs Q E hr h => ?_)
  · obtain ⟨i, j, rfl, _⟩ := h; rfl
  · obtain ⟨i, j, rfl, k⟩ := h
    have nd := sc__law_mixed.nd
    refine ⟨_, (pss_cons (ps_set (i := 2) nd rfl (.inl rfl) (pe_op op_modN (pe_callTy cr_int (by rfl) B.int b_int (pa_cons (pe_op op_add (pe_op op_add (pe_op op_mulB (pv 0) pe_int) (pe_op op_mulB (pv 1) pe_int)) pe_int) pa_nil)) pe_int))
      (pss_cons (ps_set (i := 3) nd rfl (.inl rfl) (pe_op op_modN (pe_callTy cr_int (by rfl) B.int b_int (pa_cons (pe_op op_add (pe_op op_add (pe_op op_mulB (pv 2) (pv 2)) (pe_op op_mulB (pv 1) pe_int)) (pe_op op_mulB (pv 0) pe_int)) pa_nil)) pe_int))
      (pss_one (ps_ret (pe_op op_modN (pe_callTy cr_int (by rfl) B.int b_int (pa_cons (pe_op op_add (pe_op op_mulB (pe_op op_fdivN (pv 3) pe_int) pe_int) (pe_op op_fdivN (pv 2) pe_int)) pa_nil)) pe_int))))), ?_⟩
    walk_at "rd"
    have h1 := fm_lo (i := i * 48271 + j * 69621 + 7919) (j := 2147483647) (by decide)
    have h2 := fm_hi (i := i * 48271 + j * 69621 + 7919) (j := 2147483647) (by decide)
    refine rd_I (mulok_r (by omega) (by omega)) ?_
    walk_at "rd"
    exact k _
/-! ### _law_box -/
/-- the box at b: two lists of numbers, two counts -/
def Bx (H : Hp) (b s g : Addr) : Prop := b ≠ g ∧ s ≠ b ∧ s ≠ g ∧ ∃ (ss gs : List Int) (i j : Int), H b = some (.lst [.ref s, .ref g, .int i, .int j]) ∧ H s = some (.lst (ss.map V.int)) ∧ ss ≠ [] ∧ ss.length ≤ 1000 ∧ H g = some (.lst (gs.map V.int))
theorem Bx.ex {H H' : Hp} {b s g : Addr} (x : Bx H b s g) (e : Ex H H') : Bx H' b s g := by
  obtain ⟨h1, h2, h3, ss, gs, i, j, e1, e2, e3, e4, e5⟩ := x
  exact ⟨h1, h2, h3, ss, gs, i, j, e.at e1, e.at e2, e3, e4, e.at e5⟩
abbrev s__law_box : Stmt := topS 16
theorem sc__law_box : FnScope ["script", "cells", "great", "small", "cell"] ["script"] (defScope s__law_box) := ⟨rfl, rfl, rfl, by decide +kernel, rfl, by decide +kernel, by decide +kernel⟩
def sp__law_box : Sp := fun vs H Q _ => ∃ (a : Addr) (ns : List Int), vs = [.ref a] ∧ SqL K H a (ns.map V.int) ∧ ∀ b s g H', H b = none → H g = none → Ex H H' → Bx H' b s g → Q (.ref b) H'
theorem ok__law_box {f : Addr} {fd : FuncData} (F : Fun K "_law_box" "_law_box" s__law_box f fd) (B : Bi mg) : FnOk P w K mg base CX0 41 f fd ["script"] (sp__law_box (K := K)) := by
  refine F.ok sc__law_box (fun vs H Q E h => ?_) (fun cdv A outer s0 H vs Q E hr h => ?_)
  · obtain ⟨a, ns, rfl, _⟩ := h; rfl
  · obtain ⟨a, ns, rfl, ha, k⟩ := h
    have nd := sc__law_box.nd
    refine ⟨_, (pss_cons (ps_setLc (i := 1) (own := [("cell", 4)]) rfl nd rfl rfl (sw_true rfl rfl rfl (by decide +kernel)) (pi_list (pe_slice sl_list (pv 0) po_none (po_some pe_int))) (blkOk_by (by rfl)) (fun _ _ _ _ _ => (pg_name (i := 4) nd rfl (by first | exact .inl rfl | exact .inr rfl))) (fun _ _ _ _ _ => pts_nil) (fun _ _ _ _ _ => (pe_callB cr_abs (by rfl) B.abs b_abs (pa_cons (pe_callTy cr_int (by rfl) B.int b_int (pa_cons (pv 4) pa_nil)) pa_nil))))
      (pss_cons (ps_setLc (i := 2) (own := [("cell", 4)]) rfl nd rfl rfl (sw_true rfl rfl rfl (by decide +kernel)) (pi_list (pv 1)) (blkOk_by (by rfl)) (fun _ _ _ _ _ => (pg_name (i := 4) nd rfl (by first | exact .inl rfl | exact .inr rfl))) (fun _ _ _ _ _ => (pts_one (pt_cmpR op_ge (pv 4) (pe_op op_pow pe_int pe_int) (nomark _)))) (fun _ _ _ _ _ => (pv 4)))
      (pss_cons (ps_setLc (i := 3) (own := [("cell", 4)]) rfl nd rfl rfl (sw_true rfl rfl rfl (by decide +kernel)) (pi_list (pv 1)) (blkOk_by (by rfl)) (fun _ _ _ _ _ => (pg_name (i := 4) nd rfl (by first | exact .inl rfl | exact .inr rfl))) (fun _ _ _ _ _ => pts_nil) (fun _ _ _ _ _ => (pe_op op_modN (pe_callTy cr_int (by rfl) B.int b_int (pa_cons (pv 4) pa_nil)) pe_int)))
      (pss_cons (ps_if (pt_not (pt_tru (pv 3) (by intro _; rfl)))
        (pss_one (ps_set (i := 3) nd rfl (.inl rfl) (pe_lst (pa_cons pe_int pa_nil))))
        pss_nil)
      (pss_one (ps_ret (pe_lst (pa_cons (pv 3) (pa_cons (pv 2) (pa_cons pe_int (pa_cons pe_int pa_nil))))))))))), ?_⟩
    walk_at "rd"
    refine ⟨a, _, rfl, ha, fun l0 nl0 => ?_⟩
    have el0 : upd H l0 (.lst (cutV (ns.map V.int) none (some 63))) l0 = some (.lst (cutV (ns.map V.int) none (some 63))) := upd_same
    have x0 : Ex H (upd H l0 (.lst (cutV (ns.map V.int) none (some 63)))) := ex_new nl0
    have hcut : ∃ ms : List Int, cutV (ns.map V.int) none (some 63) = ms.map V.int ∧ ms.length ≤ 63 := by
      refine ⟨ns.take 63, ?_, by rw [List.length_take]; omega⟩
      unfold cutV
      have e0 : HT.sIx (ns.map V.int).length 0 none = 0 := rfl
      rw [e0, List.drop_zero, List.map_take]
      have e1 : HT.sIx (ns.map V.int).length (ns.map V.int).length (some 63) = min 63 (ns.map V.int).length := by
        unfold HT.sIx
        dsimp only
        first | omega | (split <;> omega) | trace_state
      rw [e1, Nat.sub_zero]
      by_cases h : 63 ≤ (ns.map V.int).length
      · rw [Nat.min_eq_left h]
      · rw [Nat.min_eq_right (by omega), List.take_of_length_le (Nat.le_refl _), List.take_of_length_le (by omega)]
    obtain ⟨ms, hms, hml⟩ := hcut
    rw [hms] at el0 x0 ⊢
    generalize upd H l0 (HO.lst (ms.map V.int)) = H1 at el0 x0 ⊢
    refine rd_itL el0 (lc_pure wkL (fun i => .int ((ms.getD i 0).natAbs : Int)) (by rw [List.length_map]; omega) (fun H' e => e.at el0) (fun i x H2 H3 hi e2 yy Pp hP => ?_) fun D H2 nD e2 eD => ?_)
    · obtain ⟨rfl, hx⟩ := yy
      rw [List.getElem?_map] at hx
      have hi' : i < ms.length := by rw [List.length_map] at hi; exact hi
      rw [List.getElem?_eq_getElem hi'] at hx
      obtain rfl : V.int ms[i] = x := by cases hx; rfl
      walk_at "rd"
      refine ⟨rfl, ?_⟩
      walk_at "rd"
      have q := hP H3 Ex.rfl'
      rw [List.getD_eq_getElem?_getD, List.getElem?_eq_getElem hi'] at q
      have e3 : (if ms[i] < 0 then -ms[i] else ms[i]) = ((ms[i]).natAbs : Int) := by split <;> omega
      rw [e3]
      exact q
    · rw [List.length_map] at eD
      walk_at "rd"
      refine rd_itL eD (lc_some wkLt (fun i => if decide ((10 : Int) ^ (18 : Int).toNat ≤ ((ms.getD i 0).natAbs : Int)) = true then some (.int ((ms.getD i 0).natAbs : Int)) else none) (by omega) (fun H' e => e.at eD) (fun i x H3 H4 hi e3 yy Pp Np hP hN => ?_) fun G H3 nG e3 eG => ?_)
      · obtain ⟨rfl, rfl⟩ := yy
        walk_at "rd"
        refine ⟨rfl, ?_⟩
        walk_at "rd"
        refine rd_dec (fun hc => ?_) fun hc => ?_
        · walk_at "rd"
          exact hP _ _ (if_pos (decide_eq_true hc)) Ex.rfl'
        · exact hN (if_neg (by rw [decide_eq_false hc]; decide)) _ Ex.rfl'
      · walk_at "rd"
        have hgs : ∃ gs : List Int, (List.range ms.length).filterMap (fun i => if decide ((10 : Int) ^ (18 : Int).toNat ≤ ((ms.getD i 0).natAbs : Int)) = true then some (V.int ((ms.getD i 0).natAbs : Int)) else none) = gs.map V.int := by
          refine ⟨(List.range ms.length).filterMap (fun i => if decide ((10 : Int) ^ (18 : Int).toNat ≤ ((ms.getD i 0).natAbs : Int)) = true then some ((ms.getD i 0).natAbs : Int) else none), ?_⟩
          rw [List.map_filterMap]
          refine congrArg (fun f => List.filterMap f _) (funext fun i => ?_)
          split <;> rfl
        obtain ⟨gs, hgs⟩ := hgs
        rw [hgs] at eG
        refine rd_itL (e3.at eD) (lc_pure wkLt (fun i => .int (((ms.getD i 0).natAbs : Int).fmod 2147483629)) (by omega) (fun H' e => e.at (e3.at eD)) (fun i x H4 H5 hi e4 yy Pp hP => ?_) fun S H4 nS e4 eS => ?_)
        · obtain ⟨rfl, rfl⟩ := yy
          walk_at "rd"
          refine ⟨rfl, ?_⟩
          walk_at "rd"
          exact hP _ Ex.rfl'
        · walk_at "rd"
          have SG : S ≠ G := fun z => (by rw [z, eG] at nS; cases nS)
          have e04 : Ex H H4 := Xt.trans x0 (Xt.trans e2 (Xt.trans e3 e4))
          have nGH : H G = none := Ex.back (Xt.trans x0 e2) nG
          cases hm : ms with
          | nil =>
            rw [hm] at eS
            refine rd_tru0 eS ?_
            walk_at "rd"
            refine ⟨sz (show 1 ≤ 100000 by decide), fun S2 nS2 => ?_⟩
            have e5 : Ex H4 (upd H4 S2 (.lst [V.int 0])) := ex_new nS2
            have eS2 : upd H4 S2 (.lst [V.int 0]) S2 = some (.lst [V.int 0]) := upd_same
            generalize upd H4 S2 (HO.lst [V.int 0]) = H5 at e5 eS2 ⊢
            walk_at "rd"
            refine ⟨sz (show 4 ≤ 100000 by decide), fun b nb => ?_⟩
            have e6 : Ex H5 (upd H5 b (.lst [V.ref S2, V.ref G, V.int 0, V.int 0])) := ex_new nb
            have eG5 := e5.at (e4.at eG)
            refine k b S2 G _ (Ex.back (Xt.trans e04 e5) nb) nGH (Xt.trans e04 (Xt.trans e5 e6)) ⟨fun z => (by rw [z, eG5] at nb; cases nb), fun z => (by rw [z] at eS2; rw [eS2] at nb; cases nb), fun z => (by rw [z, e4.at eG] at nS2; cases nS2), [0], gs, 0, 0, upd_same, e6.at eS2, by simp, by simp, e6.at eG5⟩
          | cons m0 mr =>
            rw [hm] at eS
            refine rd_truT eS (by simp) ?_
            walk_at "rd"
            refine ⟨sz (show 4 ≤ 100000 by decide), fun b nb => ?_⟩
            have e6 : Ex H4 (upd H4 b (.lst [V.ref S, V.ref G, V.int 0, V.int 0])) := ex_new nb
            have eG5 := e4.at eG
            have hS : (tab (m0 :: mr).length fun i => V.int ((((m0 :: mr).getD i 0).natAbs : Int).fmod 2147483629)) = ((List.range (m0 :: mr).length).map fun i => ((((m0 :: mr).getD i 0).natAbs : Int).fmod 2147483629)).map V.int := by rw [List.map_map]; rfl
            refine k b S G _ (Ex.back e04 nb) nGH (Xt.trans e04 e6) ⟨fun z => (by rw [z, eG5] at nb; cases nb), fun z => (by rw [z] at eS; rw [eS] at nb; cases nb), SG, _, gs, 0, 0, upd_same, e6.at (eS.trans (congrArg (fun z => some (HO.lst z)) hS)), by simp, by rw [List.length_map, List.length_range, ← hm]; omega, e6.at eG5⟩
/-! ### _law_take -/
abbrev s__law_take : Stmt := topS 17
theorem sc__law_take : FnScope ["box", "size", "small", "great", "digit"] ["box", "size"] (defScope s__law_take) := ⟨rfl, rfl, rfl, by decide +kernel, rfl, by decide +kernel, by decide +kernel⟩
def sp__law_take : Sp := fun vs H Q _ => ∃ (b s g : Addr) (n : Int), vs = [.ref b, .int n] ∧ Bx H b s g ∧ 0 < n ∧ n < 2 ^ 62 ∧ ∀ d H', 0 ≤ d → d < n → Xt [b, g] H H' → Bx H' b s g → Q (.int d) H'
theorem ok__law_take {f : Addr} {fd : FuncData} (F : Fun K "_law_take" "_law_take" s__law_take f fd) (B : Bi mg) (C__law_mixed : Cl P w K mg base CX0 41 "_law_mixed" ["seed", "turn"] sp__law_mixed) : FnOk P w K mg base CX0 43 f fd ["box", "size"] sp__law_take := by
  refine F.ok sc__law_take (fun vs H Q E h => ?_) (fun cdv A outer s0 H vs Q E hr h => ?_)
  · obtain ⟨b, s, g, n, rfl, _⟩ := h; rfl
  · obtain ⟨b, s, g, n, rfl, ⟨bg, sb, sg, ss, gs, c2, c3, eb, es, hs, hsl, eg⟩, n0, n1, k⟩ := h
    have nd := sc__law_take.nd
    refine ⟨_, (pss_cons (ps_set (i := 2) nd rfl (.inl rfl) (pe_ix ix_list (pv 0) pe_int (fun _ _ => rfl)))
      (pss_cons (ps_set (i := 3) nd rfl (.inl rfl) (pe_ix ix_list (pv 0) pe_int (fun _ _ => rfl)))
      (pss_cons (ps_asg (pe_op op_add (pe_ix ix_list (pv 0) pe_int (fun _ _ => rfl)) pe_int) (pg_sub (pv 0) pe_int set_list))
      (pss_cons (ps_if (pt_tru (pv 3) (by intro _; rfl))
        (pss_cons (ps_set (i := 4) nd rfl (.inl rfl) (pe_op op_modN (pe_callTy cr_int (by rfl) B.int b_int (pa_cons (pe_ix ix_list (pv 3) pe_int (fun _ _ => rfl)) pa_nil)) (pv 1)))
        (pss_cons (ps_asg (pe_op op_fdivS (pe_ix ix_list (pv 3) pe_int (fun _ _ => rfl)) (pv 1)) (pg_sub (pv 3) pe_int set_list))
        (pss_cons (ps_asg (pe_op op_add (pe_ix ix_list (pv 0) pe_int (fun _ _ => rfl)) pe_int) (pg_sub (pv 0) pe_int set_list))
        (pss_cons (ps_if (PW.pt (pw_or (pt_cmpR op_eq (pe_ix ix_list (pv 3) pe_int (fun _ _ => rfl)) pe_int (nomark _)) (pw_or1 (pt_cmpR op_eq (pe_ix ix_list (pv 0) pe_int (fun _ _ => rfl)) pe_int (nomark _)))))
          (pss_cons (ps_expr (pe_bm PySem.F.plainAttrs_list PySem.F.slot_list_pop PySem.F.type_list_pop mt_popAt (pv 3) (pa_cons pe_int pa_nil)))
          (pss_one (ps_asg pe_int (pg_sub (pv 0) pe_int set_list))))
          pss_nil)
        (pss_one (ps_ret (pv 4)))))))
        pss_nil)
      (pss_one (ps_ret (pe_op op_modN (pe_callTy cr_int (by rfl) B.int b_int (pa_cons (pe_y C__law_mixed hr (by decide) pass0 (by rfl) (pa_cons (pe_ix ix_list (pv 2) (pe_op op_modN (pe_callTy cr_int (by rfl) B.int b_int (pa_cons (pe_ix ix_list (pv 0) pe_int (fun _ _ => rfl)) pa_nil)) (pe_callB cr_len (by rfl) B.len b_len (pa_cons (pv 2) pa_nil))) (fun _ _ => rfl)) (pa_cons (pe_ix ix_list (pv 0) pe_int (fun _ _ => rfl)) pa_nil))) pa_nil)) (pv 1)))))))), ?_⟩
    walk_at "rd"
    refine rd_ixLn 0 eb rfl rfl ?_
    walk_at "rd"
    refine rd_ixLn 1 eb rfl rfl ?_
    walk_at "rd"
    refine rd_ixLn 2 eb rfl rfl ?_
    walk_at "rd"
    refine rd_setL 2 eb rfl (show 2 < 4 by decide) fun H1 X1 E1 => ?_
    walk_at "rd"
    have eg1 := X1.at eg (by simpa using Ne.symm bg)
    have es1 := X1.at es (by simpa using sb)
    have n9 : n.natAbs.log2 < 9000 := Nat.lt_of_lt_of_le ((Nat.log2_lt (by omega)).mpr (show n.natAbs < 2 ^ 62 by omega)) (by decide)
    cases gs with
    | nil =>
      refine rd_tru0 eg1 ?_
      walk_at "rd"
      refine rd_ixLn 2 E1 rfl rfl ?_
      walk_at "rd"
      refine rd_lenL es1 ?_
      walk_at "rd"
      have sl : 0 < ss.length := List.length_pos_iff.mpr hs
      rw [List.length_map]
      refine rd_I (show (ss.length : Int) ≠ 0 by omega) ?_
      have f1 := fm_lo (i := c2 + 1) (j := ss.length) (by omega)
      have f2 := fm_hi (i := c2 + 1) (j := ss.length) (by omega)
      refine rd_ixLn ((c2 + 1).fmod ss.length).toNat es1 (by omega) (by rw [List.getElem?_map, List.getElem?_eq_getElem (by omega)]; rfl) ?_
      walk_at "rd"
      refine rd_ixLn 2 E1 rfl rfl ?_
      walk_at "rd"
      refine ⟨_, _, rfl, fun r => ?_⟩
      walk_at "rd"
      refine rd_I (show n ≠ 0 by omega) ?_
      exact k _ H1 (fm_lo n0) (fm_hi n0) (X1.sub (by simp)) ⟨bg, sb, sg, ss, [], _, _, E1, es1, hs, hsl, eg1⟩
    | cons x gr =>
      refine rd_tru1 eg1 ?_
      walk_at "rd"
      refine rd_ixLn 0 eg1 rfl rfl ?_
      walk_at "rd"
      refine rd_I (show n ≠ 0 by omega) ?_
      walk_at "rd"
      refine rd_ixLn 0 eg1 rfl rfl ?_
      walk_at "rd"
      refine rd_I (show n ≠ 0 ∧ n.natAbs.log2 < 9000 from ⟨by omega, n9⟩) ?_
      walk_at "rd"
      refine rd_setL 0 eg1 rfl (Nat.succ_pos _) fun H2 X2 E2 => ?_
      walk_at "rd"
      have eb2 := X2.at E1 (by simpa using bg)
      refine rd_ixLn 3 eb2 rfl rfl ?_
      walk_at "rd"
      refine rd_setL 3 eb2 rfl (show 3 < 4 by decide) fun H3 X3 E3 => ?_
      walk_at "rd"
      have eg3 := X3.at E2 (by simpa using Ne.symm bg)
      have es3 := X3.at (X2.at es1 (by simpa using sg)) (by simpa using sb)
      have X03 : Xt [b, g] H H3 := (X1.sub (by simp)).trans ((X2.sub (by simp)).trans (X3.sub (by simp)))
      have done : ∀ H', Xt [b, g] H3 H' → (∃ gs' : List Int, H' g = some (.lst (gs'.map V.int))) → (∃ i j : Int, H' b = some (.lst [.ref s, .ref g, .int i, .int j])) → Q (.int (x.fmod n)) H' := fun H' X' ⟨gs', e1⟩ ⟨i, j, e2⟩ =>
        k _ H' (fm_lo n0) (fm_hi n0) (X03.trans X') ⟨bg, sb, sg, ss, gs', i, j, e2, X'.at es3 (by simp; exact ⟨sb, sg⟩), hs, hsl, e1⟩
      have pop : ∀ H4, H4 = H3 → True := fun _ _ => trivial
      refine rd_ixLn 0 eg3 rfl rfl ?_
      walk_at "rd"
      refine rd_dec (fun h0 => ?_) fun h0 => ?_
      · walk_at "rd"
        refine ⟨tyL eg3, ?_⟩
        walk_at "rd"
        refine rd_popAt eg3 fun H4 X4 E4 => ?_
        walk_at "rd"
        have eb4 := X4.at E3 (by simpa using bg)
        refine rd_setL 3 eb4 rfl (show 3 < 4 by decide) fun H5 X5 E5 => ?_
        walk_at "rd"
        exact done H5 ((X4.sub (by simp)).trans (X5.sub (by simp))) ⟨gr, X5.at E4 (by simpa using Ne.symm bg)⟩ ⟨_, _, E5⟩
      · walk_at "rd"
        refine rd_ixLn 3 E3 rfl rfl ?_
        walk_at "rd"
        refine rd_dec (fun h1 => ?_) fun h1 => ?_
        · walk_at "rd"
          refine ⟨tyL eg3, ?_⟩
          walk_at "rd"
          refine rd_popAt eg3 fun H4 X4 E4 => ?_
          walk_at "rd"
          have eb4 := X4.at E3 (by simpa using bg)
          refine rd_setL 3 eb4 rfl (show 3 < 4 by decide) fun H5 X5 E5 => ?_
          walk_at "rd"
          exact done H5 ((X4.sub (by simp)).trans (X5.sub (by simp))) ⟨gr, X5.at E4 (by simpa using Ne.symm bg)⟩ ⟨_, _, E5⟩
        · walk_at "rd"
          exact done H3 (Xt.refl _) ⟨x.fdiv n :: gr, eg3⟩ ⟨_, _, E3⟩
end
end K23
/-! the law's own functions, further -/
namespace K23
open PySem PySem.Spec PyProof.Rows L2 Y
local macro_rules | `(tactic| walk_at "rd1") => `(tactic| first
  | with_reducible refine rd_var rfl ?_
  | with_reducible refine rd_op ?_
  | with_reducible refine rd_c ?_
  | with_reducible refine rd_I0 ?_
  | with_reducible refine rd_seq ?_
  | ((with_reducible refine rd_I ?_ ?_); focus (first | exact mulok_r (by decide) (by decide) | exact mulok_l (by decide) (by decide) | (show _ ≠ _; decide) | (show _ ∧ _; decide)))
  | with_reducible refine rd_asg ?_
  | with_reducible refine rd_name ?_
  | with_reducible refine rd_cb ?_
  | with_reducible refine rd_cons ?_
  | with_reducible refine rd_nil ?_
  | with_reducible refine rd_int ?_
  | with_reducible refine rd_eqI ?_
  | with_reducible refine rd_neI ?_
  | with_reducible refine rd_bl ?_
  | with_reducible refine rd_test ?_
  | with_reducible refine rd_tB ?_
  | with_reducible refine rd_ifS ?_
  | with_reducible refine rd_next ?_
  | with_reducible refine rd_T ?_
  | with_reducible refine rd_F ?_
  | with_reducible refine rd_nT ?_
  | with_reducible refine rd_nF ?_
  | with_reducible refine rd_blV ?_
  | with_reducible refine rd_ret ?_
  | with_reducible refine rd_call ?_
  | with_reducible refine rd_drop ?_
  | with_reducible refine rd_not ?_
  | with_reducible refine rd_and ?_
  | with_reducible refine rd_or ?_
  | with_reducible refine rd_un ?_
  | with_reducible refine rd_U ?_
  | with_reducible refine rd_tup ?_
  | with_reducible refine rd_lst ?_
  | with_reducible refine rd_if ?_
  | with_reducible refine rd_andV ?_
  | with_reducible refine rd_orV ?_
  | with_reducible refine rd_notV ?_
  | with_reducible refine rd_sl ?_
  | with_reducible refine rd_nopart ?_
  | with_reducible refine rd_part ?_
  | with_reducible refine rd_iv ?_
  | with_reducible refine rd_bm ?_
  | with_reducible refine rd_abs ?_
  | with_reducible refine rd_intb ?_
  | with_reducible refine rd_mx2 ?_
  | with_reducible refine rd_mn2 ?_
  | with_reducible refine rd_sub ?_
  | with_reducible refine rd_lc ?_
  | with_reducible refine rd_for ?_
  | with_reducible refine rd_iL ?_
  | with_reducible refine rd_iT ?_
  | with_reducible refine rd_r1 ?_
  | with_reducible refine rd_r2 ?_
  | with_reducible refine rd_iZ ?_
  | with_reducible refine rd_iZM ?_
  | with_reducible refine rd_while ?_
  | with_reducible refine rd_tru ?_)
local macro_rules | `(tactic| walk_at "rd") => `(tactic| repeat walk_at "rd1")

section
variable {P : Program} {w : World} {K : PySem.W.Frag} {mg : Str → Option Value} {base : Heap}
/-! ### _law_is_integer -/
abbrev s__law_is_integer : Stmt := topS 18
theorem sc__law_is_integer : FnScope ["thing"] ["thing"] (defScope s__law_is_integer) := ⟨rfl, rfl, rfl, by decide +kernel, rfl, by decide +kernel, by decide +kernel⟩
def sp__law_is_integer : Sp := fun vs H Q _ => ∃ x, vs = [x] ∧ Kd H x ∧ Q (.bl (isI x)) H
theorem ok__law_is_integer {f : Addr} {fd : FuncData} (F : Fun K "_law_is_integer" "_law_is_integer" s__law_is_integer f fd) (B : Bi mg) : FnOk P w K mg base CX0 41 f fd ["thing"] sp__law_is_integer := by
  refine F.ok sc__law_is_integer (fun vs H Q E h => ?_) (fun cdv A outer s H vs Q E hr h => ?_)
  · obtain ⟨x, rfl, _⟩ := h; rfl
  · obtain ⟨x, rfl, kd, k⟩ := h
    have nd := sc__law_is_integer.nd
    refine ⟨_, (pss_one (ps_ret (pe_and (pe_callB call_isi (by rfl) B.isinstance b_isinstance (pa_cons (pv 0) (pa_cons (pe_bltn (v := .ty "int") (by rfl) B.int b_int rfl) pa_nil))) (pe_one (pe_not (pe_callB call_isi (by rfl) B.isinstance b_isinstance (pa_cons (pv 0) (pa_cons (pe_bltn (v := .ty "bool") (by rfl) B.bool b_bool rfl) pa_nil)))))))), ?_⟩
    walk_at "rd"
    refine rd_isInt kd (rd_blV ?_)
    rw [isI_eq] at k
    cases hx : isIB x with
    | false => rw [hx] at k; exact iteF k
    | true =>
      rw [hx] at k
      refine iteT ?_
      walk_at "rd"
      exact rd_isBool kd (rd_blV k)
/-! ### _law_integers -/
abbrev s__law_integers : Stmt := topS 19
theorem sc__law_integers : FnScope ["thing", "size", "one"] ["thing", "size"] (defScope s__law_integers) := ⟨rfl, rfl, rfl, by decide +kernel, rfl, by decide +kernel, by decide +kernel⟩
def sp__law_integers : Sp := fun vs H Q _ => ∃ (a : Addr) (n : Nat) (u : Nat → Int), vs = [.ref a, .int n] ∧ H a = some (.tup (vl n u)) ∧ n ≤ 1000 ∧ Q (.bl true) H
theorem ok__law_integers {f : Addr} {fd : FuncData} (F : Fun K "_law_integers" "_law_integers" s__law_integers f fd) (B : Bi mg) (C__law_is_integer : Cl P w K mg base CX0 41 "_law_is_integer" ["thing"] sp__law_is_integer) : FnOk P w K mg base CX0 43 f fd ["thing", "size"] sp__law_integers := by
  refine F.ok sc__law_integers (fun vs H Q E h => ?_) (fun cdv A outer s H vs Q E hr h => ?_)
  · obtain ⟨a, n, u, rfl, _⟩ := h; rfl
  · obtain ⟨a, n, u, rfl, ea, hn, k⟩ := h
    have nd := sc__law_integers.nd
    refine ⟨_, (pss_cons (ps_if (PW.pt (pw_or (pt_not (pt_val (pe_callB call_isi (by rfl) B.isinstance b_isinstance (pa_cons (pv 0) (pa_cons (pe_bltn (v := .ty "tuple") (by rfl) B.tuple b_tuple rfl) pa_nil))))) (pw_or1 (pt_cmpR op_ne (pe_callB cr_len (by rfl) B.len b_len (pa_cons (pv 0) pa_nil)) (pv 1) (nomark _)))))
        (pss_one (ps_ret pe_bl))
        pss_nil)
      (pss_cons (ps_for PassesOwn.never rfl (pi_tup (pv 0)) (pg_name (i := 2) nd rfl (.inl rfl))
        (pss_one (ps_if (pt_not (pt_val (pe_y C__law_is_integer hr (by decide) pass0 (by rfl) (pa_cons (pv 2) pa_nil))))
          (pss_one (ps_ret pe_bl))
          pss_nil)))
      (pss_one (ps_ret pe_bl)))), ?_⟩
    walk_at "rd"
    refine rd_isTup (.inr (.inr (.inr ⟨a, _, rfl, ea⟩))) ?_
    show ∃ k, V.bl true = .bl k ∧ _
    walk_at "rd"
    refine rd_lenTt ea ?_
    walk_at "rd"
    refine rd_ndec (fun z => absurd rfl z) fun _ => ?_
    walk_at "rd"
    refine rd_itT ea (for_w (wkTt (n := n) (f := fun j => .int (u j))) (fun i σ H1 => H1 = H ∧ ∃ o, σ = [some (.ref a), some (.int n), o]) ⟨rfl, _, rfl⟩ (fun i σ H1 _ hP => by rw [hP.1]; exact ea) (fun i x σ H1 H2 hi hP y => ?_) fun σ H1 hP => ?_)
    · obtain ⟨rfl, o, rfl⟩ := hP
      obtain ⟨rfl, rfl⟩ := y
      walk_at "rd"
      refine ⟨_, rfl, .inl ⟨_, rfl⟩, ?_⟩
      show ∃ k, V.bl true = .bl k ∧ _
      walk_at "rd"
      exact ⟨rfl, _, rfl⟩
    · obtain ⟨rfl, o, rfl⟩ := hP
      walk_at "rd"
      exact k
/-! ### _law_product -/
abbrev s__law_product : Stmt := topS 20
theorem sc__law_product : FnScope ["left", "right", "total", "k"] ["left", "right"] (defScope s__law_product) := ⟨rfl, rfl, rfl, by decide +kernel, rfl, by decide +kernel, by decide +kernel⟩
def sp__law_product : Sp := fun vs H Q _ => ∃ (a b : Addr) (n : Nat) (u v : Nat → Int), vs = [.ref a, .ref b] ∧ H a = some (.tup (vl n u)) ∧ H b = some (.lst (vl n v)) ∧ n ≤ 1000 ∧ (∀ j, j < n → IntMulOk (u j) (v j)) ∧ Q (.int (dt n u v)) H
theorem ok__law_product {f : Addr} {fd : FuncData} (F : Fun K "_law_product" "_law_product" s__law_product f fd) (B : Bi mg) : FnOk P w K mg base CX0 41 f fd ["left", "right"] sp__law_product := by
  refine F.ok sc__law_product (fun vs H Q E h => ?_) (fun cdv A outer s H vs Q E hr h => ?_)
  · obtain ⟨a, b, n, u, v, rfl, _⟩ := h; rfl
  · obtain ⟨a, b, n, u, v, rfl, ea, eb, hn, hm, k⟩ := h
    have nd := sc__law_product.nd
    refine ⟨_, (pss_cons (ps_set (i := 2) nd rfl (.inl rfl) pe_int)
      (pss_cons (ps_for PassesOwn.never rfl (pi_range1 (by rfl) B.range (pa_cons (pe_callB cr_len (by rfl) B.len b_len (pa_cons (pv 0) pa_nil)) pa_nil)) (pg_name (i := 3) nd rfl (.inl rfl))
        (pss_one (ps_set (i := 2) nd rfl (.inl rfl) (pe_op op_add (pv 2) (pe_op op_mulB (pe_ix ix_tup (pv 0) (pv 3) (fun _ _ => rfl)) (pe_ix ix_list (pv 1) (pv 3) (fun _ _ => rfl)))))))
      (pss_one (ps_ret (pv 2))))), ?_⟩
    walk_at "rd"
    refine rd_lenTt ea ?_
    walk_at "rd"
    refine rd_rg1 n rfl (by omega) (for_w wkR (fun i σ H1 => H1 = H ∧ ∃ o, σ = [some (.ref a), some (.ref b), some (.int (dt i u v)), o]) ⟨rfl, _, rfl⟩ (fun _ _ _ _ _ => trivial) (fun i x σ H1 H2 hi hP y => ?_) fun σ H1 hP => ?_)
    · obtain ⟨rfl, o, rfl⟩ := hP
      obtain ⟨rfl, ex⟩ := y
      obtain rfl : x = .int (i : Int) := by rw [ex]; exact congrArg V.int (by omega)
      walk_at "rd"
      refine rd_ixTt i ea rfl hi ?_
      walk_at "rd"
      refine rd_ixLt i eb rfl hi ?_
      refine rd_I (hm i hi) ?_
      walk_at "rd"
      exact ⟨rfl, _, rfl⟩
    · obtain ⟨rfl, o, rfl⟩ := hP
      walk_at "rd"
      exact k
/-! ### _law_vector -/
theorem Bx.keep {H H' : Hp} {b s g : Addr} {S : List Addr} (x : Bx H b s g) (e : Xt S H H') (h1 : b ∉ S) (h2 : s ∉ S) (h3 : g ∉ S) : Bx H' b s g := by
  obtain ⟨q1, q2, q3, ss, gs, i, j, e1, e2, e3, e4, e5⟩ := x
  exact ⟨q1, q2, q3, ss, gs, i, j, e.at e1 h1, e.at e2 h2, e3, e4, e.at e5 h3⟩
theorem Bx.live {H : Hp} {b s g : Addr} (x : Bx H b s g) : H b ≠ none ∧ H s ≠ none ∧ H g ≠ none := by
  obtain ⟨q1, q2, q3, ss, gs, i, j, e1, e2, e3, e4, e5⟩ := x
  rw [e1, e2, e5]; exact ⟨by simp, by simp, by simp⟩
theorem Bx.new {H H1 H2 : Hp} {b s g D : Addr} (x0 : Bx H b s g) (x : Bx H1 b s g) (hD : H D = none) (e : Xt [D] H1 H2) : Bx H2 b s g := by
  obtain ⟨l1, l2, l3⟩ := x0.live
  refine x.keep e ?_ ?_ ?_ <;> · simp; rintro rfl; contradiction
abbrev s__law_vector : Stmt := topS 21
theorem sc__law_vector : FnScope ["box", "many", "wide", "k"] ["box", "many", "wide"] (defScope s__law_vector) := ⟨rfl, rfl, rfl, by decide +kernel, rfl, by decide +kernel, by decide +kernel⟩
def sp__law_vector : Sp := fun vs H Q _ => ∃ (b s g : Addr) (n : Nat) (wd : Nat), vs = [.ref b, .int n, .int wd] ∧ Bx H b s g ∧ n ≤ 1000 ∧ wd ≤ 10 ^ 9 ∧ ∀ (a : Addr) (u : Nat → Int) (H' : Hp), (∀ j, j < n → (u j).natAbs ≤ wd) → Xt [b, g] H H' → Bx H' b s g → H' a = some (.tup (vl n u)) → Q (.ref a) H'
theorem ok__law_vector {f : Addr} {fd : FuncData} (F : Fun K "_law_vector" "_law_vector" s__law_vector f fd) (B : Bi mg) (C__law_take : Cl P w K mg base CX0 43 "_law_take" ["box", "size"] sp__law_take) : FnOk P w K mg base CX0 45 f fd ["box", "many", "wide"] sp__law_vector := by
  refine F.ok sc__law_vector (fun vs H Q E h => ?_) (fun cdv A outer s0 H vs Q E hr h => ?_)
  · obtain ⟨b, s, g, n, wd, rfl, _⟩ := h; rfl
  · obtain ⟨b, s, g, n, wd, rfl, hx, hn, hw, k⟩ := h
    have nd := sc__law_vector.nd
    refine ⟨_, (pss_one (ps_ret (pe_callTy cr_tupOf (by rfl) B.tuple b_tuple (pa_cons (pe_lc (own := [("k", 3)]) rfl nd (pi_range1 (by rfl) B.range (pa_cons (pv 1) pa_nil)) (blkOk_by (by rfl)) (fun _ _ _ _ _ => (pg_name (i := 3) nd rfl (by first | exact .inl rfl | exact .inr rfl))) (fun _ _ _ _ _ => pts_nil) (fun _ _ _ _ _ => (pe_op op_sub (pe_y C__law_take hr (by decide) pass0 (by rfl) (pa_cons (pv 0) (pa_cons (pe_op op_add (pe_op op_mulB pe_int (pv 2)) pe_int) pa_nil))) (pv 2)))) pa_nil)))), ?_⟩
    walk_at "rd"
    refine rd_rg1 n rfl (by omega) (lc_eff wkR [b, g] (fun i acc H1 => Bx H1 b s g ∧ ∃ u : Nat → Int, acc = vl i u ∧ ∀ j, j < i → (u j).natAbs ≤ wd) (fun a ha => ?_) (by omega) (fun _ _ _ _ _ _ => trivial) (fun i acc H1 H2 D hD hR e => ⟨hx.new hR.1 hD e, hR.2⟩) ⟨hx, fun _ => 0, rfl, fun j hj => by omega⟩ (fun i x acc H1 H2 hi hl e hR y Pp hP => ?_) fun D acc H1 nD hl e hR eD => ?_)
    · rcases List.mem_cons.mp ha with rfl | ha
      · exact hx.live.1
      · rw [List.mem_singleton.mp ha]; exact hx.live.2.2
    · obtain ⟨rfl, ex⟩ := y
      obtain ⟨hx2, u, rfl, hu⟩ := hR
      walk_at "rd"
      refine ⟨rfl, ?_⟩
      walk_at "rd"
      refine ⟨b, s, g, _, rfl, hx2, by omega, by omega, fun d H3 d0 d1 X3 hx3 => ?_⟩
      walk_at "rd"
      refine hP _ H3 X3 ⟨hx3, fun j => if j = i then d - wd else u j, ?_, fun j hj => ?_⟩
      · show _ = tab (i + 1) _
        rw [← tab_snoc]
        dsimp only
        rw [if_pos rfl]
        exact congrArg (· ++ _) (tab_ext fun j hj => by rw [if_neg (by omega)])
      · dsimp only
        by_cases h : j = i
        · rw [if_pos h]; omega
        · rw [if_neg h]; exact hu j (by omega)
    · obtain ⟨hx2, u, rfl, hu⟩ := hR
      walk_at "rd"
      refine rd_tupL eD fun a H3 na e3 ea => ?_
      exact k a u H3 hu (e.trans (Ex.xt e3)) (hx2.ex e3) ea
end
end K23
/-! the drawn vectors -/
namespace K23
open PySem PySem.Spec PyProof.Rows L2 Y
local macro_rules | `(tactic| walk_at "rd1") => `(tactic| first
  | with_reducible refine rd_var rfl ?_
  | with_reducible refine rd_op ?_
  | with_reducible refine rd_c ?_
  | with_reducible refine rd_I0 ?_
  | with_reducible refine rd_seq ?_
  | ((with_reducible refine rd_I ?_ ?_); focus (first | exact mulok_r (by decide) (by decide) | exact mulok_l (by decide) (by decide) | (show _ ≠ _; decide) | (show _ ∧ _; decide)))
  | with_reducible refine rd_asg ?_
  | with_reducible refine rd_name ?_
  | with_reducible refine rd_cb ?_
  | with_reducible refine rd_cons ?_
  | with_reducible refine rd_nil ?_
  | with_reducible refine rd_int ?_
  | with_reducible refine rd_eqI ?_
  | with_reducible refine rd_neI ?_
  | with_reducible refine rd_bl ?_
  | with_reducible refine rd_test ?_
  | with_reducible refine rd_tB ?_
  | with_reducible refine rd_ifS ?_
  | with_reducible refine rd_next ?_
  | with_reducible refine rd_T ?_
  | with_reducible refine rd_F ?_
  | with_reducible refine rd_nT ?_
  | with_reducible refine rd_nF ?_
  | with_reducible refine rd_blV ?_
  | with_reducible refine rd_ret ?_
  | with_reducible refine rd_call ?_
  | with_reducible refine rd_drop ?_
  | with_reducible refine rd_not ?_
  | with_reducible refine rd_and ?_
  | with_reducible refine rd_or ?_
  | with_reducible refine rd_un ?_
  | with_reducible refine rd_U ?_
  | with_reducible refine rd_tup ?_
  | with_reducible refine rd_lst ?_
  | with_reducible refine rd_if ?_
  | with_reducible refine rd_andV ?_
  | with_reducible refine rd_orV ?_
  | with_reducible refine rd_notV ?_
  | with_reducible refine rd_sl ?_
  | with_reducible refine rd_nopart ?_
  | with_reducible refine rd_part ?_
  | with_reducible refine rd_iv ?_
  | with_reducible refine rd_bm ?_
  | with_reducible refine rd_abs ?_
  | with_reducible refine rd_intb ?_
  | with_reducible refine rd_mx2 ?_
  | with_reducible refine rd_mn2 ?_
  | with_reducible refine rd_sub ?_
  | with_reducible refine rd_lc ?_
  | with_reducible refine rd_for ?_
  | with_reducible refine rd_iL ?_
  | with_reducible refine rd_iT ?_
  | with_reducible refine rd_r1 ?_
  | with_reducible refine rd_r2 ?_
  | with_reducible refine rd_iZ ?_
  | with_reducible refine rd_iZM ?_
  | with_reducible refine rd_while ?_
  | with_reducible refine rd_tru ?_)
local macro_rules | `(tactic| walk_at "rd") => `(tactic| repeat walk_at "rd1")

theorem Bx.noT {b s g : Addr} : ∀ H1, Bx H1 b s g → ∀ a ∈ [b, g], ∀ xs, H1 a ≠ some (.tup xs) := fun H1 x a ha xs z => by
  obtain ⟨q1, q2, q3, ss, gs, i, j, e1, e2, e3, e4, e5⟩ := x
  rcases List.mem_cons.mp ha with rfl | ha
  · rw [e1] at z; cases z
  · rw [List.mem_singleton.mp ha, e5] at z; cases z
theorem Bx.bg {H : Hp} {b s g : Addr} (x : Bx H b s g) : ∀ a ∈ [b, g], H a ≠ none := fun a ha => by
  rcases List.mem_cons.mp ha with rfl | ha
  · exact x.live.1
  · rw [List.mem_singleton.mp ha]; exact x.live.2.2
theorem Bx.nin {H : Hp} {b s g D : Addr} (x : Bx H b s g) (h : H D = none) : D ∉ [b, g] := fun z => x.bg D z h
theorem Bx.tin {H : Hp} {b s g D : Addr} {xs : List V} (x : Bx H b s g) (h : H D = some (.tup xs)) : D ∉ [b, g] := fun z => x.noT H D z xs h
section
variable {P : Program} {w : World} {K : PySem.W.Frag} {mg : Str → Option Value} {base : Heap}
/-! ### _law_mixture -/
abbrev s__law_mixture : Stmt := topS 22
theorem sc__law_mixture : FnScope ["box", "many", "some", "sums", "one", "share", "k"] ["box", "many", "some"] (defScope s__law_mixture) := ⟨rfl, rfl, rfl, by decide +kernel, rfl, by decide +kernel, by decide +kernel⟩
/-- at a: a list of m tuples of n ints of at most v -/
def LVec (H : Hp) (a : Addr) (n m v : Nat) (W : Nat → Nat → Int) : Prop := ∃ as : Nat → Addr, H a = some (.lst (tab m fun k => .ref (as k))) ∧ ∀ k, k < m → H (as k) = some (.tup (vl n (W k))) ∧ ∀ j, j < n → (W k j).natAbs ≤ v
theorem LVec.ex {H H' : Hp} {a : Addr} {n m v : Nat} {W : Nat → Nat → Int} (x : LVec H a n m v W) (e : Ex H H') : LVec H' a n m v W := by
  obtain ⟨as, h1, h2⟩ := x
  exact ⟨as, e.at h1, fun k hk => ⟨e.at (h2 k hk).1, (h2 k hk).2⟩⟩
theorem LVec.xt {H H' : Hp} {a b s g : Addr} {n m v : Nat} {W : Nat → Nat → Int} (x : LVec H a n m v W) (hx : Bx H b s g) (h : a ∉ [b, g]) (e : Xt [b, g] H H') : LVec H' a n m v W := by
  obtain ⟨as, h1, h2⟩ := x
  exact ⟨as, e.at h1 h, fun k hk => ⟨e.at (h2 k hk).1 (hx.tin (h2 k hk).1), (h2 k hk).2⟩⟩
def sp__law_mixture : Sp := fun vs H Q _ => ∃ (b s g c : Addr) (n m v : Nat) (W : Nat → Nat → Int), vs = [.ref b, .int n, .ref c] ∧ Bx H b s g ∧ n ≤ 1000 ∧ m ≤ 1000 ∧ v ≤ 10 ^ 9 ∧ LVec H c n m v W ∧ c ∉ [b, g] ∧
  ∀ (a : Addr) (u : Nat → Int) (H' : Hp), (∀ j, j < n → (u j).natAbs ≤ 3 * m * v) → Xt [b, g] H H' → Bx H' b s g → H' a = some (.tup (vl n u)) → Q (.ref a) H'
theorem ok__law_mixture {f : Addr} {fd : FuncData} (F : Fun K "_law_mixture" "_law_mixture" s__law_mixture f fd) (B : Bi mg) (C__law_take : Cl P w K mg base CX0 43 "_law_take" ["box", "size"] sp__law_take) : FnOk P w K mg base CX0 45 f fd ["box", "many", "some"] sp__law_mixture := by
  refine F.ok sc__law_mixture (fun vs H Q E h => ?_) (fun cdv A outer s0 H vs Q E hr h => ?_)
  · obtain ⟨b, s, g, c, n, m, v, W, rfl, _⟩ := h; rfl
  · obtain ⟨b, s, g, c, n, m, v, W, rfl, hx, hn, hm, hv, hL, hc, k⟩ := h
    have nd := sc__law_mixture.nd
    refine ⟨_, (pss_cons (ps_set (i := 3) nd rfl (.inr rfl) (pe_lc (own := [("k", 6)]) rfl nd (pi_range1 (by rfl) B.range (pa_cons (pv 1) pa_nil)) (blkOk_by (by rfl)) (fun _ _ _ _ _ => (pg_name (i := 6) nd rfl (by first | exact .inl rfl | exact .inr rfl))) (fun _ _ _ _ _ => pts_nil) (fun _ _ _ _ _ => pe_int)))
      (pss_cons (ps_for PassesOwn.never rfl (pi_list (pv 2)) (pg_name (i := 4) nd rfl (.inr rfl))
        (pss_cons (ps_set (i := 5) nd rfl (.inr rfl) (pe_op op_sub (pe_y C__law_take hr (by decide) pass0 (by rfl) (pa_cons (pv 0) (pa_cons pe_int pa_nil))) pe_int))
        (pss_one (ps_set (i := 3) nd rfl (.inr rfl) (pe_lc (own := [("k", 6)]) rfl nd (pi_range1 (by rfl) B.range (pa_cons (pv 1) pa_nil)) (blkOk_by (by rfl)) (fun _ _ _ _ _ => (pg_name (i := 6) nd rfl (by first | exact .inl rfl | exact .inr rfl))) (fun _ _ _ _ _ => pts_nil) (fun _ _ _ _ _ => (pe_op op_add (pe_ix (ix_listK (K := K) rfl) (pv 3) (pv 6) (fun _ _ => rfl)) (pe_op op_mulB (pv 5) (pe_ix (ix_tupK (K := K) rfl) (pv 4) (pv 6) (fun _ _ => rfl))))))))))
      (pss_one (ps_ret (pe_callTy cr_tupOf (by rfl) B.tuple b_tuple (pa_cons (pv 3) pa_nil)))))), ?_⟩
    walk_at "rd"
    refine rd_rg1 n rfl (by omega) (lc_pure wkR (fun _ => .int 0) (by omega) (fun _ _ => trivial) (fun i x H1 H2 hi e1 y Pp hP => ?_) fun D H1 nD e1 eD => ?_)
    · obtain ⟨rfl, _⟩ := y
      walk_at "rd"
      refine ⟨rfl, ?_⟩
      walk_at "rd"
      exact hP _ Ex.rfl'
    · walk_at "rd"
      obtain ⟨as, ec, eW⟩ := id hL
      refine rd_itL (e1.at ec) (for_w (wkLt (n := m) (f := fun k => .ref (as k))) (fun i σ H2 => Xt [b, g] H H2 ∧ Bx H2 b s g ∧ ∃ (p : Addr) (u : Nat → Int) (o4 o5 o6 : Option V), σ = [some (.ref b), some (.int n), some (.ref c), some (.ref p), o4, o5, o6] ∧ H2 p = some (.lst (vl n u)) ∧ p ∉ [b, g] ∧ ∀ j, j < n → (u j).natAbs ≤ 3 * i * v)
        ⟨Ex.xt e1, hx.ex e1, D, fun _ => 0, _, _, _, rfl, eD, hx.nin nD, fun j hj => by simp⟩ (fun i σ H2 _ hP => hP.1.at ec hc) (fun i x σ H2 H3 hi hP y => ?_) fun σ H2 hP => ?_)
      · obtain ⟨X2, hx2, p, u, o4, o5, o6, rfl, ep, np, hu⟩ := hP
        obtain ⟨rfl, rfl⟩ := y
        walk_at "rd"
        refine ⟨b, s, g, 7, rfl, hx2, by decide, by decide, fun d H4 d0 d1 X4 hx4 => ?_⟩
        walk_at "rd"
        have ep4 := X4.at ep np
        have ea := eW i hi
        have ea4 := X4.at (X2.at ea.1 (hx.tin ea.1)) (hx2.tin (X2.at ea.1 (hx.tin ea.1)))
        refine rd_rg1 n rfl (by omega) (lc_pure wkR (fun j => .int (u j + (d - 3) * W i j)) (by omega) (fun _ _ => trivial) (fun j x H5 H6 hj e5 y Pp hP => ?_) fun D2 H5 nD2 e5 eD2 => ?_)
        · obtain ⟨rfl, ex⟩ := y
          obtain rfl : x = .int (j : Int) := by rw [ex]; exact congrArg V.int (by omega)
          walk_at "rd"
          refine ⟨rfl, ?_⟩
          walk_at "rd"
          refine rd_ixLt j (e5.at ep4) rfl hj ?_
          walk_at "rd"
          refine rd_ixTt j (e5.at ea4) rfl hj ?_
          refine rd_I (mulok_l (by omega) (by omega)) ?_
          walk_at "rd"
          exact hP _ Ex.rfl'
        · walk_at "rd"
          refine ⟨X2.trans (X4.trans (Ex.xt e5)), hx4.ex e5, D2, _, _, _, _, rfl, eD2, hx4.nin nD2, fun j hj => ?_⟩
          have h1 := hu j hj
          have h2 := ea.2 j hj
          have h3 : ((d - 3) * W i j).natAbs ≤ 3 * v := by rw [Int.natAbs_mul]; exact Nat.mul_le_mul (by omega) h2
          rw [Nat.mul_add, Nat.add_mul]
          omega
      · obtain ⟨X2, hx2, p, u, o4, o5, o6, rfl, ep, np, hu⟩ := hP
        walk_at "rd"
        refine rd_tupL ep fun a H3 na e3 ea => ?_
        exact k a u H3 hu (X2.trans (Ex.xt e3)) (hx2.ex e3) ea
/-! ### _law_vectors -/
abbrev s__law_vectors : Stmt := topS 23
theorem sc__law_vectors : FnScope ["box", "many", "wide", "style", "size", "some", "factor", "found", "k", "one", "entry"] ["box", "many"] (defScope s__law_vectors) := ⟨rfl, rfl, rfl, by decide +kernel, rfl, by decide +kernel, by decide +kernel⟩
def vbf (n : Nat) : Nat := if n ≤ 4 then 2 ^ 34 else 128
def sp__law_vectors : Sp := fun vs H Q _ => ∃ (b s g : Addr) (n : Nat), vs = [.ref b, .int n] ∧ Bx H b s g ∧ n ≤ 7 ∧ ∀ (a : Addr) (m : Nat) (W : Nat → Nat → Int) (H' : Hp), m ≤ 10 → Xt [b, g] H H' → Bx H' b s g → H a = none → LVec H' a n m (vbf n) W → Q (.ref a) H'
theorem wide_at {d : Int} (h0 : 0 ≤ d) (h1 : d < 6) : ∃ wd : Nat, ([.int 4, .int 4, .int 4, .int 4, .int 1, .int ((10 : Int) ^ (9 : Int).toNat)] : List V)[d.toNat]? = some (.int wd) ∧ wd ≤ 10 ^ 9 := by
  have : d = 0 ∨ d = 1 ∨ d = 2 ∨ d = 3 ∨ d = 4 ∨ d = 5 := by omega
  rcases this with rfl | rfl | rfl | rfl | rfl | rfl
  · exact ⟨4, rfl, by decide⟩
  · exact ⟨4, rfl, by decide⟩
  · exact ⟨4, rfl, by decide⟩
  · exact ⟨4, rfl, by decide⟩
  · exact ⟨1, rfl, by decide⟩
  · exact ⟨10 ^ 9, rfl, by decide⟩
theorem ok__law_vectors {f : Addr} {fd : FuncData} (F : Fun K "_law_vectors" "_law_vectors" s__law_vectors f fd) (B : Bi mg) (C__law_take : Cl P w K mg base CX0 43 "_law_take" ["box", "size"] sp__law_take) (C__law_vector : Cl P w K mg base CX0 45 "_law_vector" ["box", "many", "wide"] sp__law_vector)
    (C__law_mixture : Cl P w K mg base CX0 45 "_law_mixture" ["box", "many", "some"] sp__law_mixture) : FnOk P w K mg base CX0 47 f fd ["box", "many"] sp__law_vectors := by
  refine F.ok sc__law_vectors (fun vs H Q E h => ?_) (fun cdv A outer s0 H vs Q E hr h => ?_)
  · obtain ⟨b, s, g, n, rfl, _⟩ := h; rfl
  · obtain ⟨b, s, g, n, rfl, hx, hn, k⟩ := h
    have nd := sc__law_vectors.nd
    refine ⟨_, (pss_cons (ps_set (i := 2) nd rfl (.inr rfl) (pe_ix ix_tup (pe_tup (pa_cons pe_int (pa_cons pe_int (pa_cons pe_int (pa_cons pe_int (pa_cons pe_int (pa_cons (pe_op op_pow pe_int pe_int) pa_nil))))))) (pe_y C__law_take hr (by decide) pass0 (by rfl) (pa_cons (pv 0) (pa_cons pe_int pa_nil))) (fun _ _ => rfl)))
      (pss_cons (ps_set (i := 3) nd rfl (.inl rfl) (pe_y C__law_take hr (by decide) pass0 (by rfl) (pa_cons (pv 0) (pa_cons pe_int pa_nil))))
      (pss_cons (ps_set (i := 4) nd rfl (.inl rfl) (pe_y C__law_take hr (by decide) pass0 (by rfl) (pa_cons (pv 0) (pa_cons pe_int pa_nil))))
      (pss_cons (ps_if (pt_cmpR op_gt (pv 1) pe_int (nomark _))
        (pss_cons (ps_set (i := 2) nd rfl (.inr rfl) (pe_callB (cr_mn2 (by rfl)) (by rfl) B.min b_min (pa_cons (pv 2) (pa_cons pe_int pa_nil))))
        (pss_one (ps_set (i := 4) nd rfl (.inl rfl) (pe_op op_add (pv 4) pe_int))))
        pss_nil)
      (pss_cons (ps_if (pt_cmpR op_eq (pv 3) pe_int (nomark _))
        (pss_cons (ps_set (i := 5) nd rfl (.inr rfl) (pe_lc (own := [("k", 8)]) rfl nd (pi_range1 (by rfl) B.range (pa_cons (pe_y C__law_take hr (by decide) pass0 (by rfl) (pa_cons (pv 0) (pa_cons (pe_callB (cr_mx2 (by rfl)) (by rfl) B.max b_max (pa_cons pe_int (pa_cons (pv 1) pa_nil))) pa_nil))) pa_nil)) (blkOk_by (by rfl)) (fun _ _ _ _ _ => (pg_name (i := 8) nd rfl (by first | exact .inl rfl | exact .inr rfl))) (fun _ _ _ _ _ => pts_nil) (fun _ _ _ _ _ => (pe_y C__law_vector hr (by decide) pass0 (by rfl) (pa_cons (pv 0) (pa_cons (pv 1) (pa_cons (pv 2) pa_nil)))))))
        (pss_one (ps_ret (pe_lc (own := [("k", 8)]) rfl nd (pi_range1 (by rfl) B.range (pa_cons (pv 4) pa_nil)) (blkOk_by (by rfl)) (fun _ _ _ _ _ => (pg_name (i := 8) nd rfl (by first | exact .inl rfl | exact .inr rfl))) (fun _ _ _ _ _ => pts_nil) (fun _ _ _ _ _ => (pe_y C__law_mixture hr (by decide) pass0 (by rfl) (pa_cons (pv 0) (pa_cons (pv 1) (pa_cons (pv 5) pa_nil)))))))))
        pss_nil)
      (pss_cons (ps_if (pt_cmpR op_eq (pv 3) pe_int (nomark _))
        (pss_cons (ps_set (i := 6) nd rfl (.inr rfl) (pe_op op_add pe_int (pe_y C__law_take hr (by decide) pass0 (by rfl) (pa_cons (pv 0) (pa_cons pe_int pa_nil)))))
        (pss_cons (ps_setLc (i := 7) (own := [("k", 8)]) rfl nd rfl rfl (sw_true rfl rfl rfl (by decide +kernel)) (pi_range1 (by rfl) B.range (pa_cons (pv 4) pa_nil)) (blkOk_by (by rfl)) (fun _ _ _ _ _ => (pg_name (i := 8) nd rfl (by first | exact .inl rfl | exact .inr rfl))) (fun _ _ _ _ _ => pts_nil) (fun _ _ _ _ _ => (pe_y C__law_vector hr (by decide) pass0 (by rfl) (pa_cons (pv 0) (pa_cons (pv 1) (pa_cons (pv 2) pa_nil))))))
        (pss_one (ps_ret (pe_lc (own := [("one", 9)]) rfl nd (pi_list (pv 7)) (blkOk_by (by rfl)) (fun _ _ _ _ _ => (pg_name (i := 9) nd rfl (by first | exact .inl rfl | exact .inr rfl))) (fun _ _ _ _ _ => pts_nil) (fun _ _ _ _ _ => (pe_callTy (cr_tupOfK (K := K) rfl) (by rfl) B.tuple b_tuple (pa_cons (pe_lc (own := [("entry", 10)]) rfl nd (pi_tupK (K := K) rfl (pv 9)) (blkOk_by (by rfl)) (fun _ _ _ _ _ => (pg_name (i := 10) nd rfl (by first | exact .inl rfl | exact .inr rfl))) (fun _ _ _ _ _ => pts_nil) (fun _ _ _ _ _ => (pe_op op_mulB (pv 6) (pv 10)))) pa_nil))))))))
        pss_nil)
      (pss_one (ps_ret (pe_lc (own := [("k", 8)]) rfl nd (pi_range1 (by rfl) B.range (pa_cons (pv 4) pa_nil)) (blkOk_by (by rfl)) (fun _ _ _ _ _ => (pg_name (i := 8) nd rfl (by first | exact .inl rfl | exact .inr rfl))) (fun _ _ _ _ _ => pts_nil) (fun _ _ _ _ _ => (pe_y C__law_vector hr (by decide) pass0 (by rfl) (pa_cons (pv 0) (pa_cons (pv 1) (pa_cons (pv 2) pa_nil)))))))))))))), ?_⟩
    walk_at "rd"
    refine ⟨sz (show 6 ≤ 100000 by decide), fun T nT => ?_⟩
    have e1 : Ex H (upd H T (.tup [.int 4, .int 4, .int 4, .int 4, .int 1, .int ((10 : Int) ^ (9 : Int).toNat)])) := ex_new nT
    have eT : upd H T (.tup [.int 4, .int 4, .int 4, .int 4, .int 1, .int ((10 : Int) ^ (9 : Int).toNat)]) T = some (.tup [.int 4, .int 4, .int 4, .int 4, .int 1, .int ((10 : Int) ^ (9 : Int).toNat)]) := upd_same
    generalize upd H T (HO.tup [.int 4, .int 4, .int 4, .int 4, .int 1, .int ((10 : Int) ^ (9 : Int).toNat)]) = H1 at e1 eT ⊢
    have hx1 := hx.ex e1
    walk_at "rd"
    refine ⟨b, s, g, 6, rfl, hx1, by decide, by decide, fun d H2 d0 d1 X2 hx2 => ?_⟩
    obtain ⟨wd, hwd, hwd9⟩ := wide_at d0 d1
    refine rd_ixTn d.toNat (X2.at eT (hx1.tin eT)) (by omega) hwd ?_
    walk_at "rd"
    refine ⟨b, s, g, 3, rfl, hx2, by decide, by decide, fun st H3 st0 st1 X3 hx3 => ?_⟩
    walk_at "rd"
    refine ⟨b, s, g, 7, rfl, hx3, by decide, by decide, fun z H4 z0 z1 X4 hx4 => ?_⟩
    walk_at "rd"
    have X04 : Xt [b, g] H H4 := (Ex.xt e1).trans (X2.trans (X3.trans X4))
    refine rd_ifG (fun σ => ∃ wd sz : Nat, wd ≤ 10 ^ 9 ∧ (4 < n → wd ≤ 4) ∧ sz ≤ 10 ∧ σ = [some (.ref b), some (.int n), some (.int wd), some (.int st), some (.int sz), none, none, none, none, none, none]) (fun h4 tz' hk => ?_) (fun h4 => ?_) fun σ hG => ?_
    · walk_at "rd"
      refine hk _ ⟨if 4 < wd then 4 else wd, (z + 4).toNat, by split <;> omega, fun _ => by split <;> omega, by omega, ?_⟩
      have q1 : V.int (if (4 : Int) < (wd : Int) then 4 else (wd : Int)) = V.int ((if 4 < wd then 4 else wd : Nat) : Int) := congrArg V.int (by split <;> split <;> omega)
      have q2 : V.int (z + 4) = V.int ((z + 4).toNat : Int) := congrArg V.int (by omega)
      rw [← q2, ← q1]
      rfl
    · exact ⟨wd, z.toNat, hwd9, fun h => absurd (by omega) h4, by omega, by rw [show ((z.toNat : Int)) = z by omega]; rfl⟩
    · obtain ⟨wd, sz, hw9, hw4, hs, rfl⟩ := hG
      have vb1 : ∀ q : Nat, q ≤ 9 → 3 * q * 4 ≤ 128 ∨ n ≤ 4 → q * wd ≤ vbf n := fun q h1 h2 => by
        unfold vbf
        split
        · exact Nat.le_trans (Nat.mul_le_mul h1 hw9) (by decide)
        · rcases h2 with h2 | h2
          · have := Nat.mul_le_mul (Nat.le_refl q) (hw4 (by omega))
            omega
          · omega
      have mk : ∀ {H' : Hp} {D : Addr} {m v : Nat} {ps : Nat → Addr} {xss : Nat → List V}, H' D = some (.lst (tab m fun i => .ref (ps i))) → (∀ i, i < m → H' (ps i) = some (.tup (xss i)) ∧ ∃ u : Nat → Int, xss i = vl n u ∧ ∀ j, j < n → (u j).natAbs ≤ v) → ∃ W, LVec H' D n m v W := fun {H' D m v ps xss} h1 h2 => by
        refine ⟨fun k => if h : k < m then (h2 k h).2.choose else fun _ => 0, ps, h1, fun k hk => ?_⟩
        obtain ⟨q1, q2⟩ := (h2 k hk).2.choose_spec
        simp only [dif_pos hk]
        exact ⟨(h2 k hk).1.trans (congrArg (fun z => some (HO.tup z)) q1), q2⟩
      walk_at "rd"
      refine rd_dec (fun h1 => ?_) fun _ => ?_
      · walk_at "rd"
        refine ⟨b, s, g, _, rfl, hx4, by split <;> omega, by split <;> omega, fun c H5 c0 c1 X5 hx5 => ?_⟩
        have hc : c.toNat ≤ 6 ∧ (n ≤ 4 → c.toNat ≤ 3) := by
          have : c < (if (n : Int) > 1 then (n : Int) else 1) := c1
          split at this <;> omega
        walk_at "rd"
        refine rd_rg1 (j := c) c.toNat (by omega) (by omega) (lc_eft (n := c.toNat) wkR [b, g] (fun H' => Bx H' b s g) (fun i xs => ∃ u : Nat → Int, xs = vl n u ∧ ∀ j, j < n → (u j).natAbs ≤ wd) hx5.bg (by omega) (fun _ _ _ => trivial) Bx.noT (fun H1 H2 D hD r e => hx5.new r hD e) hx5 (fun i x H6 H7 hi X6 hx6 y Pp hP => ?_) fun D ps xss H6 nD X6 hx6 eD hp => ?_)
        · obtain ⟨rfl, _⟩ := y
          walk_at "rd"
          refine ⟨rfl, ?_⟩
          walk_at "rd"
          exact ⟨b, s, g, n, wd, rfl, hx6, by omega, hw9, fun a u H8 hu X8 hx8 ea => hP a _ H8 X8 hx8 ea ⟨u, rfl, hu⟩⟩
        · obtain ⟨W, hW⟩ := mk eD hp
          walk_at "rd"
          have nDb := hx5.nin nD
          refine rd_rg1 sz rfl (by omega) (lc_eft wkR [b, g] (fun H' => Bx H' b s g) (fun i xs => ∃ u : Nat → Int, xs = vl n u ∧ ∀ j, j < n → (u j).natAbs ≤ vbf n) hx6.bg (by omega) (fun _ _ _ => trivial) Bx.noT (fun H1 H2 D hD r e => hx6.new r hD e) hx6 (fun i x H7 H8 hi X7 hx7 y Pp hP => ?_) fun D2 ps2 xss2 H7 nD2 X7 hx7 eD2 hp2 => ?_)
          · obtain ⟨rfl, _⟩ := y
            walk_at "rd"
            refine ⟨rfl, ?_⟩
            walk_at "rd"
            refine ⟨b, s, g, D, n, c.toNat, wd, W, rfl, hx7, by omega, by omega, hw9, hW.xt hx6 nDb X7, nDb, fun a u H9 hu X9 hx9 ea => hP a _ H9 X9 hx9 ea ⟨u, rfl, fun j hj => Nat.le_trans (hu j hj) ?_⟩⟩
            by_cases h4 : n ≤ 4
            · exact Nat.le_trans (Nat.mul_le_mul_right _ (Nat.mul_le_mul_left 3 (hc.2 h4))) (vb1 9 (by omega) (.inr h4))
            · have : 3 * c.toNat * wd ≤ 3 * 6 * 4 := Nat.mul_le_mul (Nat.mul_le_mul_left 3 hc.1) (hw4 (by omega))
              unfold vbf
              rw [if_neg h4]
              omega
          · obtain ⟨W2, hW2⟩ := mk eD2 hp2
            walk_at "rd"
            have X06 := X04.trans (X5.trans X6)
            exact k D2 sz W2 H7 hs (X06.trans X7) hx7 (fresh_of X06 nD2 (hx6.nin nD2)) hW2
      · walk_at "rd"
        refine rd_dec (fun h1 => ?_) fun _ => ?_
        · walk_at "rd"
          refine ⟨b, s, g, 6, rfl, hx4, by decide, by decide, fun c H5 c0 c1 X5 hx5 => ?_⟩
          walk_at "rd"
          refine rd_rg1 sz rfl (by omega) (lc_eft wkR [b, g] (fun H' => Bx H' b s g) (fun i xs => ∃ u : Nat → Int, xs = vl n u ∧ ∀ j, j < n → (u j).natAbs ≤ wd) hx5.bg (by omega) (fun _ _ _ => trivial) Bx.noT (fun H1 H2 D hD r e => hx5.new r hD e) hx5 (fun i x H6 H7 hi X6 hx6 y Pp hP => ?_) fun D ps xss H6 nD X6 hx6 eD hp => ?_)
          · obtain ⟨rfl, _⟩ := y
            walk_at "rd"
            refine ⟨rfl, ?_⟩
            walk_at "rd"
            exact ⟨b, s, g, n, wd, rfl, hx6, by omega, hw9, fun a u H8 hu X8 hx8 ea => hP a _ H8 X8 hx8 ea ⟨u, rfl, hu⟩⟩
          · obtain ⟨W, hW⟩ := mk eD hp
            obtain ⟨as, ea, hW⟩ := hW
            walk_at "rd"
            refine rd_itL ea (lc_refs wkLt (fun k => .tup (vl n fun j => (2 + c) * W k j)) (by omega) (fun H' e => e.at ea) (fun i x H7 H8 hi e7 y Pp hP => ?_) fun D2 ps2 H7 nD2 e7 eD2 hp2 => ?_)
            · obtain ⟨rfl, rfl⟩ := y
              walk_at "rd"
              refine ⟨rfl, ?_⟩
              walk_at "rd"
              refine rd_itT (e7.at (hW i hi).1) (lc_pure wkTt (fun j => .int ((2 + c) * W i j)) (by omega) (fun H' e => e.at (e7.at (hW i hi).1)) (fun j x H9 H10 hj e9 y Pp2 hP2 => ?_) fun D3 H9 nD3 e9 eD3 => ?_)
              · obtain ⟨rfl, rfl⟩ := y
                walk_at "rd"
                refine ⟨rfl, ?_⟩
                walk_at "rd"
                refine rd_I (mulok_l (by omega) (by omega)) ?_
                exact hP2 _ Ex.rfl'
              · walk_at "rd"
                refine rd_tupL eD3 fun p H10 np e10 ep => ?_
                exact hP p H10 (Xt.trans e9 e10) ep (.inr trivial)
            · walk_at "rd"
              have X06 := X04.trans (X5.trans X6)
              refine k D2 sz (fun k j => (2 + c) * W k j) H7 hs (X06.trans (Ex.xt e7)) (hx6.ex e7) (fresh_of X06 nD2 (hx6.nin nD2)) ⟨ps2, eD2, fun k hk => ⟨(hp2 k hk).1, fun j hj => ?_⟩⟩
              rw [Int.natAbs_mul]
              exact Nat.le_trans (Nat.mul_le_mul (show (2 + c).natAbs ≤ 7 by omega) ((hW k hk).2 j hj)) (vb1 7 (by omega) (.inl (by decide)))
        · walk_at "rd"
          refine rd_rg1 sz rfl (by omega) (lc_eft wkR [b, g] (fun H' => Bx H' b s g) (fun i xs => ∃ u : Nat → Int, xs = vl n u ∧ ∀ j, j < n → (u j).natAbs ≤ vbf n) hx4.bg (by omega) (fun _ _ _ => trivial) Bx.noT (fun H1 H2 D hD r e => hx4.new r hD e) hx4 (fun i x H6 H7 hi X6 hx6 y Pp hP => ?_) fun D ps xss H6 nD X6 hx6 eD hp => ?_)
          · obtain ⟨rfl, _⟩ := y
            walk_at "rd"
            refine ⟨rfl, ?_⟩
            walk_at "rd"
            exact ⟨b, s, g, n, wd, rfl, hx6, by omega, hw9, fun a u H8 hu X8 hx8 ea => hP a _ H8 X8 hx8 ea ⟨u, rfl, fun j hj => Nat.le_trans (hu j hj) (by have := vb1 1 (by omega) (.inl (by decide)); omega)⟩⟩
          · obtain ⟨W, hW⟩ := mk eD hp
            walk_at "rd"
            exact k D sz W H6 hs (X04.trans X6) hx6 (fresh_of X04 nD (hx4.nin nD)) hW
end
end K23
/-! the rank, the tables -/
namespace K23
open PySem PySem.Spec PyProof.Rows L2 Y
local macro_rules | `(tactic| walk_at "rd1") => `(tactic| first
  | with_reducible refine rd_var rfl ?_
  | with_reducible refine rd_op ?_
  | with_reducible refine rd_c ?_
  | with_reducible refine rd_I0 ?_
  | with_reducible refine rd_seq ?_
  | ((with_reducible refine rd_I ?_ ?_); focus (first | exact mulok_r (by decide) (by decide) | exact mulok_l (by decide) (by decide) | (show _ ≠ _; decide) | (show _ ∧ _; decide)))
  | with_reducible refine rd_asg ?_
  | with_reducible refine rd_name ?_
  | with_reducible refine rd_cb ?_
  | with_reducible refine rd_cons ?_
  | with_reducible refine rd_nil ?_
  | with_reducible refine rd_int ?_
  | with_reducible refine rd_eqI ?_
  | with_reducible refine rd_neI ?_
  | with_reducible refine rd_bl ?_
  | with_reducible refine rd_test ?_
  | with_reducible refine rd_tB ?_
  | with_reducible refine rd_ifS ?_
  | with_reducible refine rd_next ?_
  | with_reducible refine rd_T ?_
  | with_reducible refine rd_F ?_
  | with_reducible refine rd_nT ?_
  | with_reducible refine rd_nF ?_
  | with_reducible refine rd_blV ?_
  | with_reducible refine rd_ret ?_
  | with_reducible refine rd_call ?_
  | with_reducible refine rd_drop ?_
  | with_reducible refine rd_not ?_
  | with_reducible refine rd_and ?_
  | with_reducible refine rd_or ?_
  | with_reducible refine rd_un ?_
  | with_reducible refine rd_U ?_
  | with_reducible refine rd_tup ?_
  | with_reducible refine rd_lst ?_
  | with_reducible refine rd_if ?_
  | with_reducible refine rd_andV ?_
  | with_reducible refine rd_orV ?_
  | with_reducible refine rd_notV ?_
  | with_reducible refine rd_sl ?_
  | with_reducible refine rd_nopart ?_
  | with_reducible refine rd_part ?_
  | with_reducible refine rd_iv ?_
  | with_reducible refine rd_bm ?_
  | with_reducible refine rd_abs ?_
  | with_reducible refine rd_intb ?_
  | with_reducible refine rd_mx2 ?_
  | with_reducible refine rd_mn2 ?_
  | with_reducible refine rd_sub ?_
  | with_reducible refine rd_lc ?_
  | with_reducible refine rd_for ?_
  | with_reducible refine rd_iL ?_
  | with_reducible refine rd_iT ?_
  | with_reducible refine rd_r1 ?_
  | with_reducible refine rd_r2 ?_
  | with_reducible refine rd_iZ ?_
  | with_reducible refine rd_iZM ?_
  | with_reducible refine rd_while ?_
  | with_reducible refine rd_tru ?_
  | with_reducible refine rd_brk ?_)
local macro_rules | `(tactic| walk_at "rd") => `(tactic| repeat walk_at "rd1")

section
variable {P : Program} {w : World} {K : PySem.W.Frag} {mg : Str → Option Value} {base : Heap} {H : Hp} {Q : VK}
theorem rd_notNr {p : Addr} (h : Q (.bl true) H) : rNotN (.ref p) .non H Q := ⟨rfl, h⟩
theorem rd_notNn (h : Q (.bl false) H) : rNotN .non .non H Q := ⟨rfl, h⟩
/-! ### _law_less -/
abbrev s__law_less : Stmt := topS 24
theorem sc__law_less : FnScope ["one", "pivot", "at", "k"] ["one", "pivot", "at"] (defScope s__law_less) := ⟨rfl, rfl, rfl, by decide +kernel, rfl, by decide +kernel, by decide +kernel⟩
def sp__law_less : Sp := fun vs H Q _ => ∃ (a p : Addr) (n at_ : Nat) (u v : Nat → Int), vs = [.ref a, .ref p, .int at_] ∧ H a = some (.lst (vl n u)) ∧ H p = some (.lst (vl n v)) ∧ n ≤ 1000 ∧ at_ < n ∧ (∀ j, j < n → IntMulOk (u j) (v at_)) ∧ (∀ j, j < n → IntMulOk (v j) (u at_)) ∧
  ∀ D H', H D = none → Ex H H' → H' D = some (.lst (vl n fun j => u j * v at_ - v j * u at_)) → Q (.ref D) H'
theorem ok__law_less {f : Addr} {fd : FuncData} (F : Fun K "_law_less" "_law_less" s__law_less f fd) (B : Bi mg) : FnOk P w K mg base CX0 41 f fd ["one", "pivot", "at"] sp__law_less := by
  refine F.ok sc__law_less (fun vs H Q E h => ?_) (fun cdv A outer s0 H vs Q E hr h => ?_)
  · obtain ⟨a, p, n, t, u, v, rfl, _⟩ := h; rfl
  · obtain ⟨a, p, n, t, u, v, rfl, ea, ep, hn, ht, m1, m2, k⟩ := h
    have nd := sc__law_less.nd
    refine ⟨_, (pss_one (ps_ret (pe_lc (own := [("k", 3)]) rfl nd (pi_range1 (by rfl) B.range (pa_cons (pe_callB cr_len (by rfl) B.len b_len (pa_cons (pv 0) pa_nil)) pa_nil)) (blkOk_by (by rfl)) (fun _ _ _ _ _ => (pg_name (i := 3) nd rfl (by first | exact .inl rfl | exact .inr rfl))) (fun _ _ _ _ _ => pts_nil) (fun _ _ _ _ _ => (pe_op op_sub (pe_op op_mulB (pe_ix (ix_listK (K := K) rfl) (pv 0) (pv 3) (fun _ _ => rfl)) (pe_ix (ix_listK (K := K) rfl) (pv 1) (pv 2) (fun _ _ => rfl))) (pe_op op_mulB (pe_ix (ix_listK (K := K) rfl) (pv 1) (pv 3) (fun _ _ => rfl)) (pe_ix (ix_listK (K := K) rfl) (pv 0) (pv 2) (fun _ _ => rfl)))))))), ?_⟩
    walk_at "rd"
    refine rd_lenLt ea ?_
    walk_at "rd"
    refine rd_rg1 n rfl (by omega) (lc_pure wkR (fun j => .int (u j * v t - v j * u t)) (by omega) (fun _ _ => trivial) (fun i x H1 H2 hi e1 y Pp hP => ?_) fun D H1 nD e1 eD => ?_)
    · obtain ⟨rfl, ex⟩ := y
      obtain rfl : x = .int (i : Int) := by rw [ex]; exact congrArg V.int (by omega)
      walk_at "rd"
      refine ⟨rfl, ?_⟩
      walk_at "rd"
      refine rd_ixLt i (e1.at ea) rfl hi ?_
      walk_at "rd"
      refine rd_ixLt t (e1.at ep) rfl ht ?_
      refine rd_I (m1 i hi) ?_
      walk_at "rd"
      refine rd_ixLt i (e1.at ep) rfl hi ?_
      walk_at "rd"
      refine rd_ixLt t (e1.at ea) rfl ht ?_
      refine rd_I (m2 i hi) ?_
      walk_at "rd"
      exact hP _ Ex.rfl'
    · exact k D H1 nD e1 eD
/-! ### _law_column -/
abbrev s__law_column : Stmt := topS 27
theorem sc__law_column : FnScope ["matrix", "at", "one"] ["matrix", "at"] (defScope s__law_column) := ⟨rfl, rfl, rfl, by decide +kernel, rfl, by decide +kernel, by decide +kernel⟩
def sp__law_column : Sp := fun vs H Q _ => ∃ (t : Addr) (n m at_ : Nat) (M : Nat → Nat → Int), vs = [.ref t, .int at_] ∧ Vecs H t n m M ∧ m ≤ 1000 ∧ at_ < n ∧ ∀ D H', H D = none → Ex H H' → H' D = some (.lst (vl m fun i => M i at_)) → Q (.ref D) H'
theorem ok__law_column {f : Addr} {fd : FuncData} (F : Fun K "_law_column" "_law_column" s__law_column f fd) (B : Bi mg) : FnOk P w K mg base CX0 41 f fd ["matrix", "at"] sp__law_column := by
  refine F.ok sc__law_column (fun vs H Q E h => ?_) (fun cdv A outer s0 H vs Q E hr h => ?_)
  · obtain ⟨t, n, m, c, M, rfl, _⟩ := h; rfl
  · obtain ⟨t, n, m, c, M, rfl, ⟨as, et, hv⟩, hm, hc, k⟩ := h
    have nd := sc__law_column.nd
    refine ⟨_, (pss_one (ps_ret (pe_lc (own := [("one", 2)]) rfl nd (pi_tup (pv 0)) (blkOk_by (by rfl)) (fun _ _ _ _ _ => (pg_name (i := 2) nd rfl (by first | exact .inl rfl | exact .inr rfl))) (fun _ _ _ _ _ => pts_nil) (fun _ _ _ _ _ => (pe_ix (ix_tupK (K := K) rfl) (pv 2) (pv 1) (fun _ _ => rfl)))))), ?_⟩
    walk_at "rd"
    refine rd_itT et (lc_pure wkTt (fun i => .int (M i c)) (by omega) (fun H' e => e.at et) (fun i x H1 H2 hi e1 y Pp hP => ?_) fun D H1 nD e1 eD => ?_)
    · obtain ⟨rfl, rfl⟩ := y
      walk_at "rd"
      refine ⟨rfl, ?_⟩
      walk_at "rd"
      refine rd_ixTt c (e1.at (hv i hi)) rfl hc ?_
      exact hP _ Ex.rfl'
    · exact k D H1 nD e1 eD
/-! ### _law_matrix -/
theorem rd_isiLT {T a : Addr} {xs : List V} (e : H a = some (.tup xs)) (t : H T = some (.tup [.ty "list", .ty "tuple"])) (h : Q (.bl true) H) : rIsiT K [.ref a, .ref T] H Q :=
  ⟨.ref a, T, _, .type "tuple", [.type "list", .type "tuple"], true, rfl, t, .cons (.ty _) (.cons (.ty _) .nil), .base (.tup e),
    kitAny_cons (kit_ty (show kitB "tuple" "list" = some false by decide +kernel)) (fun _ => kitAny_cons (kit_ty (show kitB "tuple" "tuple" = some true by decide +kernel)) (fun z => (by cases z)) fun _ => rfl) (fun z => (by cases z)), h⟩
abbrev s__law_matrix : Stmt := topS 26
theorem sc__law_matrix : FnScope ["thing", "many", "one"] ["thing", "many"] (defScope s__law_matrix) := ⟨rfl, rfl, rfl, by decide +kernel, rfl, by decide +kernel, by decide +kernel⟩
def sp__law_matrix : Sp := fun vs H Q _ => ∃ (t : Addr) (n : Nat) (M : Nat → Nat → Int), vs = [.ref t, .int n] ∧ Vecs H t n n M ∧ n ≤ 1000 ∧ ∀ H', Ex H H' → Q (.bl true) H'
theorem ok__law_matrix {f : Addr} {fd : FuncData} (F : Fun K "_law_matrix" "_law_matrix" s__law_matrix f fd) (B : Bi mg) (C__law_integers : Cl P w K mg base CX0 43 "_law_integers" ["thing", "size"] sp__law_integers) : FnOk P w K mg base CX0 45 f fd ["thing", "many"] sp__law_matrix := by
  refine F.ok sc__law_matrix (fun vs H Q E h => ?_) (fun cdv A outer s0 H vs Q E hr h => ?_)
  · obtain ⟨t, n, M, rfl, _⟩ := h; rfl
  · obtain ⟨t, n, M, rfl, ⟨as, et, hv⟩, hn, k⟩ := h
    have nd := sc__law_matrix.nd
    refine ⟨_, (pss_cons (ps_if (PW.pt (pw_or (pt_not (pt_val (pe_callB call_isiT (by rfl) B.isinstance b_isinstance (pa_cons (pv 0) (pa_cons (pe_tup (pa_cons (pe_bltn (v := .ty "list") (by rfl) B.list b_list rfl) (pa_cons (pe_bltn (v := .ty "tuple") (by rfl) B.tuple b_tuple rfl) pa_nil))) pa_nil))))) (pw_or1 (pt_cmpR op_ne (pe_callB cr_len (by rfl) B.len b_len (pa_cons (pv 0) pa_nil)) (pv 1) (nomark _)))))
        (pss_one (ps_ret pe_bl))
        pss_nil)
      (pss_cons (ps_for PassesOwn.never rfl (pi_tup (pv 0)) (pg_name (i := 2) nd rfl (.inl rfl))
        (pss_one (ps_if (PW.pt (pw_or (pt_not (pt_val (pe_callB call_isiT (by rfl) B.isinstance b_isinstance (pa_cons (pv 2) (pa_cons (pe_tup (pa_cons (pe_bltn (v := .ty "list") (by rfl) B.list b_list rfl) (pa_cons (pe_bltn (v := .ty "tuple") (by rfl) B.tuple b_tuple rfl) pa_nil))) pa_nil))))) (pw_or1 (pt_not (pt_val (pe_y C__law_integers hr (by decide) pass0 (by rfl) (pa_cons (pe_callTy cr_tupOf (by rfl) B.tuple b_tuple (pa_cons (pv 2) pa_nil)) (pa_cons (pv 1) pa_nil))))))))
          (pss_one (ps_ret pe_bl))
          pss_nil)))
      (pss_one (ps_ret pe_bl)))), ?_⟩
    walk_at "rd"
    refine ⟨sz (show 2 ≤ 100000 by decide), fun T nT => ?_⟩
    have e1 : Ex H (upd H T (.tup [.ty "list", .ty "tuple"])) := ex_new nT
    have eT : upd H T (.tup [.ty "list", .ty "tuple"]) T = some (.tup [.ty "list", .ty "tuple"]) := upd_same
    generalize upd H T (HO.tup [.ty "list", .ty "tuple"]) = H1 at e1 eT ⊢
    walk_at "rd"
    refine rd_isiLT (e1.at et) eT ?_
    walk_at "rd"
    refine rd_lenTt (e1.at et) ?_
    walk_at "rd"
    refine rd_ndec (fun z => absurd rfl z) fun _ => ?_
    walk_at "rd"
    refine rd_itT (e1.at et) (for_w (wkTt (n := n) (f := fun k => .ref (as k))) (fun i σ H2 => Ex H H2 ∧ ∃ o, σ = [some (.ref t), some (.int n), o]) ⟨e1, _, rfl⟩ (fun i σ H2 _ hP => Ex.at hP.1 et) (fun i x σ H2 H3 hi hP y => ?_) fun σ H2 hP => ?_)
    · obtain ⟨e2, o, rfl⟩ := hP
      obtain ⟨rfl, rfl⟩ := y
      walk_at "rd"
      refine ⟨sz (show 2 ≤ 100000 by decide), fun T3 nT3 => ?_⟩
      have e3 : Ex H3 (upd H3 T3 (.tup [.ty "list", .ty "tuple"])) := ex_new nT3
      have eT3 : upd H3 T3 (.tup [.ty "list", .ty "tuple"]) T3 = some (.tup [.ty "list", .ty "tuple"]) := upd_same
      generalize upd H3 T3 (HO.tup [.ty "list", .ty "tuple"]) = H4 at e3 eT3 ⊢
      have eas := e3.at (e2.at (hv i hi))
      walk_at "rd"
      refine rd_isiLT eas eT3 ?_
      walk_at "rd"
      refine rd_tupT eas ?_
      walk_at "rd"
      refine ⟨as i, n, M i, rfl, eas, hn, ?_⟩
      walk_at "rd"
      exact ⟨Xt.trans e2 e3, _, rfl⟩
    · obtain ⟨e2, o, rfl⟩ := hP
      walk_at "rd"
      exact k H2 e2
end
end K23
/-! the rank by elimination, the check of an answer -/
namespace K23
open PySem PySem.Spec PyProof.Rows L2 Y
local macro_rules | `(tactic| walk_at "rd1") => `(tactic| first
  | with_reducible refine rd_var rfl ?_
  | with_reducible refine rd_op ?_
  | with_reducible refine rd_c ?_
  | with_reducible refine rd_I0 ?_
  | with_reducible refine rd_seq ?_
  | ((with_reducible refine rd_I ?_ ?_); focus (first | exact mulok_r (by decide) (by decide) | exact mulok_l (by decide) (by decide) | (show _ ≠ _; decide) | (show _ ∧ _; decide)))
  | with_reducible refine rd_asg ?_
  | with_reducible refine rd_name ?_
  | with_reducible refine rd_cb ?_
  | with_reducible refine rd_cons ?_
  | with_reducible refine rd_nil ?_
  | with_reducible refine rd_int ?_
  | with_reducible refine rd_eqI ?_
  | with_reducible refine rd_neI ?_
  | with_reducible refine rd_bl ?_
  | with_reducible refine rd_test ?_
  | with_reducible refine rd_tB ?_
  | with_reducible refine rd_ifS ?_
  | with_reducible refine rd_next ?_
  | with_reducible refine rd_T ?_
  | with_reducible refine rd_F ?_
  | with_reducible refine rd_nT ?_
  | with_reducible refine rd_nF ?_
  | with_reducible refine rd_blV ?_
  | with_reducible refine rd_ret ?_
  | with_reducible refine rd_call ?_
  | with_reducible refine rd_drop ?_
  | with_reducible refine rd_not ?_
  | with_reducible refine rd_and ?_
  | with_reducible refine rd_or ?_
  | with_reducible refine rd_un ?_
  | with_reducible refine rd_U ?_
  | with_reducible refine rd_tup ?_
  | with_reducible refine rd_lst ?_
  | with_reducible refine rd_if ?_
  | with_reducible refine rd_andV ?_
  | with_reducible refine rd_orV ?_
  | with_reducible refine rd_notV ?_
  | with_reducible refine rd_sl ?_
  | with_reducible refine rd_nopart ?_
  | with_reducible refine rd_part ?_
  | with_reducible refine rd_iv ?_
  | with_reducible refine rd_bm ?_
  | with_reducible refine rd_abs ?_
  | with_reducible refine rd_intb ?_
  | with_reducible refine rd_mx2 ?_
  | with_reducible refine rd_mn2 ?_
  | with_reducible refine rd_sub ?_
  | with_reducible refine rd_lc ?_
  | with_reducible refine rd_for ?_
  | with_reducible refine rd_iL ?_
  | with_reducible refine rd_iT ?_
  | with_reducible refine rd_r1 ?_
  | with_reducible refine rd_r2 ?_
  | with_reducible refine rd_iZ ?_
  | with_reducible refine rd_iZM ?_
  | with_reducible refine rd_while ?_
  | with_reducible refine rd_tru ?_
  | with_reducible refine rd_brk ?_)
local macro_rules | `(tactic| walk_at "rd") => `(tactic| repeat walk_at "rd1")

/-- bits of the numbers behind i columns -/
def rb : Nat → Nat
  | 0 => 34
  | i + 1 => 2 * rb i + 1
theorem rb_mono {a b : Nat} (h : a ≤ b) : rb a ≤ rb b := by
  induction h with
  | refl => exact Nat.le_refl _
  | step _ ih => exact Nat.le_trans ih (show _ ≤ 2 * rb _ + 1 by omega)
theorem rb_big {i : Nat} (h : i ≤ 7) : rb i < big := Nat.lt_of_le_of_lt (rb_mono h) (by decide)
theorem le_big {a : Int} {e : Nat} (h : a.natAbs ≤ 2 ^ e) (he : e < big) : a.natAbs < 2 ^ big := Nat.lt_of_le_of_lt h (Nat.pow_lt_pow_right (by decide) he)
theorem less_abs {a b c d : Int} {e : Nat} (h1 : a.natAbs ≤ 2 ^ e) (h2 : b.natAbs ≤ 2 ^ e) (h3 : c.natAbs ≤ 2 ^ e) (h4 : d.natAbs ≤ 2 ^ e) : (a * b - c * d).natAbs ≤ 2 ^ (2 * e + 1) := by
  have q1 : (a * b).natAbs ≤ 2 ^ e * 2 ^ e := by rw [Int.natAbs_mul]; exact Nat.mul_le_mul h1 h2
  have q2 : (c * d).natAbs ≤ 2 ^ e * 2 ^ e := by rw [Int.natAbs_mul]; exact Nat.mul_le_mul h3 h4
  have q3 : 2 ^ (2 * e + 1) = 2 ^ e * 2 ^ e * 2 := by rw [Nat.pow_succ, Nat.two_mul, Nat.pow_add]
  rw [q3]
  generalize 2 ^ e * 2 ^ e = x at q1 q2 ⊢
  omega
section
variable {P : Program} {w : World} {K : PySem.W.Frag} {mg : Str → Option Value} {base : Heap} {H : Hp} {Q : VK}
abbrev s__law_rank : Stmt := topS 25
theorem sc__law_rank : FnScope ["vectors", "many", "rest", "found", "at", "pivot", "one"] ["vectors", "many"] (defScope s__law_rank) := ⟨rfl, rfl, rfl, by decide +kernel, rfl, by decide +kernel, by decide +kernel⟩
def sp__law_rank : Sp := fun vs H Q _ => ∃ (a : Addr) (n m v : Nat) (W : Nat → Nat → Int), vs = [.ref a, .int n] ∧ LVec H a n m v W ∧ m ≤ 1000 ∧ n ≤ 7 ∧ v ≤ 2 ^ 34 ∧ ∀ (f : Nat) (R : Nat → Nat → Int) (H' : Hp), Ex H H' → El n m W n R f → Q (.int f) H'
theorem ok__law_rank {f : Addr} {fd : FuncData} (F : Fun K "_law_rank" "_law_rank" s__law_rank f fd) (B : Bi mg) (C__law_less : Cl P w K mg base CX0 41 "_law_less" ["one", "pivot", "at"] sp__law_less) : FnOk P w K mg base CX0 43 f fd ["vectors", "many"] sp__law_rank := by
  refine F.ok sc__law_rank (fun vs H Q E h => ?_) (fun cdv A outer s0 H vs Q E hr h => ?_)
  · obtain ⟨a, n, m, v, W, rfl, _⟩ := h; rfl
  · obtain ⟨a, n, m, v, W, rfl, ⟨as, ea, hW⟩, hm, hn, hv, k⟩ := h
    have nd := sc__law_rank.nd
    refine ⟨_, (pss_cons (ps_setLc (i := 2) (own := [("one", 6)]) rfl nd rfl rfl (sw_true rfl rfl rfl (by decide +kernel)) (pi_list (pv 0)) (blkOk_by (by rfl)) (fun _ _ _ _ _ => (pg_name (i := 6) nd rfl (by first | exact .inl rfl | exact .inr rfl))) (fun _ _ _ _ _ => pts_nil) (fun _ _ _ _ _ => (pe_callTy (cr_lstOfK (K := K) rfl) (by rfl) B.list b_list (pa_cons (pv 6) pa_nil))))
      (pss_cons (ps_set (i := 3) nd rfl (.inl rfl) pe_int)
      (pss_cons (ps_for PassesOwn.never rfl (pi_range1 (by rfl) B.range (pa_cons (pv 1) pa_nil)) (pg_name (i := 4) nd rfl (.inr rfl))
        (pss_cons (ps_set (i := 5) nd rfl (.inr rfl) pe_non)
        (pss_cons (ps_for PassesOwn.never rfl (pi_list (pv 2)) (pg_name (i := 6) nd rfl (.inl rfl))
          (pss_one (ps_if (pt_cmpR op_ne (pe_ix ix_list (pv 6) (pv 4) (fun _ _ => rfl)) pe_int (nomark _))
            (pss_cons (ps_set (i := 5) nd rfl (.inr rfl) (pv 6))
            (pss_one ps_break))
            pss_nil)))
        (pss_one (ps_if (pt_cmpR op_notN1 (pv 5) pe_non (nomark _))
          (pss_cons (ps_set (i := 3) nd rfl (.inl rfl) (pe_op op_add (pv 3) pe_int))
          (pss_one (ps_setLc (i := 2) (own := [("one", 6)]) rfl nd rfl rfl (sw_true rfl rfl rfl (by decide +kernel)) (pi_list (pv 2)) (blkOk_by (by rfl)) (fun _ _ _ _ _ => (pg_name (i := 6) nd rfl (by first | exact .inl rfl | exact .inr rfl))) (fun _ _ _ _ _ => pts_nil) (fun _ _ _ _ _ => (pe_y C__law_less hr (by decide) pass0 (by rfl) (pa_cons (pv 6) (pa_cons (pv 5) (pa_cons (pv 4) pa_nil))))))))
          pss_nil)))))
      (pss_one (ps_ret (pv 3)))))), ?_⟩
    walk_at "rd"
    refine rd_itL ea (lc_refs wkLt (fun k => .lst (vl n (W k))) (by omega) (fun H' e => e.at ea) (fun i x H1 H2 hi e1 y Pp hP => ?_) fun D ps H1 nD e1 eD hD => ?_)
    · obtain ⟨rfl, rfl⟩ := y
      walk_at "rd"
      refine ⟨rfl, ?_⟩
      walk_at "rd"
      refine rd_lstT (e1.at (hW i hi).1) fun p H3 np e3 ep => ?_
      exact hP p H3 e3 ep (.inl np)
    · walk_at "rd"
      refine rd_rg1 n rfl (by omega) (for_w wkR (fun i σ H2 => Ex H H2 ∧ ∃ (R : Nat → Nat → Int) (f : Nat) (D : Addr) (ps : Nat → Addr) (o4 o5 o6 : Option V), σ = [some (.ref a), some (.int n), some (.ref D), some (.int f), o4, o5, o6] ∧ H2 D = some (.lst (tab m fun k => .ref (ps k))) ∧
          (∀ k, k < m → H2 (ps k) = some (.lst (vl n (R k))) ∧ ∀ j, j < n → (R k j).natAbs ≤ 2 ^ rb i) ∧ El n m W i R f)
        ⟨e1, W, 0, D, ps, _, _, _, rfl, eD, fun k hk => ⟨(hD k hk).1, fun j hj => Nat.le_trans ((hW k hk).2 j hj) hv⟩, el_start n m W⟩ (fun _ _ _ _ _ => trivial) (fun i x σ H2 H3 hi hP y => ?_) fun σ H2 hP => ?_)
      · obtain ⟨e2, R, f, D, ps, o4, o5, o6, rfl, eD, hR, hE⟩ := hP
        obtain ⟨rfl, ex⟩ := y
        obtain rfl : x = .int (i : Int) := by rw [ex]; exact congrArg V.int (by omega)
        have rbi : rb i < big := rb_big (by omega)
        walk_at "rd"
        refine rd_itL eD (for_w (wkLt (n := m) (f := fun k => .ref (ps k))) (fun q σ H4 => H4 = H3 ∧ ∃ o, σ = [some (.ref a), some (.int n), some (.ref D), some (.int f), some (.int i), some .non, o] ∧ ∀ k, k < q → R k i = 0) ⟨rfl, _, rfl, fun k hk => by omega⟩ (fun q σ H4 _ hP => by rw [hP.1]; exact eD) (fun q x σ H4 H5 hq hP y => ?_) fun σ H4 hP => ?_)
        · obtain ⟨rfl, o, rfl, hz⟩ := hP
          obtain ⟨rfl, rfl⟩ := y
          walk_at "rd"
          refine rd_ixLt i (hR q hq).1 rfl hi ?_
          walk_at "rd"
          refine rd_ndec (fun hn0 => ?_) fun h0 => ?_
          · walk_at "rd"
            refine rd_notNr ?_
            walk_at "rd"
            refine rd_itL eD (lc_refs wkLt (fun k => .lst (vl n fun j => R k j * R q i - R q j * R k i)) (by omega) (fun H' e => e.at eD) (fun k2 x H6 H7 hk2 e6 y Pp hP => ?_) fun D2 ps2 H6 nD2 e6 eD2 hD2 => ?_)
            · obtain ⟨rfl, rfl⟩ := y
              walk_at "rd"
              refine ⟨rfl, ?_⟩
              walk_at "rd"
              refine ⟨ps k2, ps q, n, i, R k2, R q, rfl, e6.at (hR k2 hk2).1, e6.at (hR q hq).1, by omega, hi, fun j hj => mulok_big (le_big ((hR k2 hk2).2 j hj) rbi) (le_big ((hR q hq).2 i hi) rbi), fun j hj => mulok_big (le_big ((hR q hq).2 j hj) rbi) (le_big ((hR k2 hk2).2 i hi) rbi), fun D3 H8 nD3 e8 eD3 => hP D3 H8 e8 eD3 (.inl nD3)⟩
            · walk_at "rd"
              exact ⟨Xt.trans e2 e6, _, f + 1, D2, ps2, _, _, _, rfl, eD2, fun k hk => ⟨(hD2 k hk).1, fun j hj => less_abs ((hR k hk).2 j hj) ((hR q hq).2 i hi) ((hR q hq).2 j hj) ((hR k hk).2 i hi)⟩, hE.next hq hn0⟩
          · walk_at "rd"
            refine ⟨rfl, _, rfl, fun k hk => ?_⟩
            by_cases e : k < q
            · exact hz k e
            · have : k = q := by omega
              subst this; exact h0
        · obtain ⟨rfl, o, rfl, hz⟩ := hP
          walk_at "rd"
          refine rd_notNn ?_
          walk_at "rd"
          exact ⟨e2, R, f, D, ps, _, _, _, rfl, eD, fun k hk => ⟨(hR k hk).1, fun j hj => Nat.le_trans ((hR k hk).2 j hj) (Nat.pow_le_pow_right (by decide) (rb_mono (Nat.le_succ i)))⟩, hE.skip hz⟩
      · obtain ⟨e2, R, f, D, ps, o4, o5, o6, rfl, eD, hR, hE⟩ := hP
        walk_at "rd"
        exact k f R H2 e2 hE
abbrev s__law_right : Stmt := topS 28
theorem sc__law_right : FnScope ["vectors", "many", "answer", "rank", "matrix", "inverse", "at", "column", "k", "one"] ["vectors", "many", "answer"] (defScope s__law_right) := ⟨rfl, rfl, rfl, by decide +kernel, rfl, by decide +kernel, by decide +kernel⟩
/-- an answer at t: the rank, the lines, the columns turned -/
def Ans (H : Hp) (t : Addr) (n m r : Nat) (W L C : Nat → Nat → Int) : Prop := ∃ (lt it : Addr) (x y : Nat), H t = some (.tup [.int r, .ref lt, .ref it]) ∧ Vecs H lt n n L ∧ Vecs H it n n (fun i j => C j i) ∧ Red n m W r L C (2 ^ x) (2 ^ y) ∧ x + 8 < big ∧ y < big
theorem Ans.ex {H H' : Hp} {t : Addr} {n m r : Nat} {W L C : Nat → Nat → Int} (a : Ans H t n m r W L C) (e : Ex H H') : Ans H' t n m r W L C := by
  obtain ⟨lt, it, x, y, h1, h2, h3, h4⟩ := a
  exact ⟨lt, it, x, y, e.at h1, h2.ex e, h3.ex e, h4⟩
def sp__law_right : Sp := fun vs H Q _ => ∃ (a t : Addr) (n m v r : Nat) (W L C : Nat → Nat → Int), vs = [.ref a, .int n, .ref t] ∧ LVec H a n m v W ∧ m ≤ 1000 ∧ n ≤ 7 ∧ v ≤ 2 ^ 34 ∧ Ans H t n m r W L C ∧ ∀ H', Ex H H' → Q (.bl true) H'
theorem ok__law_right {f : Addr} {fd : FuncData} (F : Fun K "_law_right" "_law_right" s__law_right f fd) (B : Bi mg) (C__law_is_integer : Cl P w K mg base CX0 41 "_law_is_integer" ["thing"] sp__law_is_integer) (C__law_rank : Cl P w K mg base CX0 43 "_law_rank" ["vectors", "many"] sp__law_rank)
    (C__law_matrix : Cl P w K mg base CX0 45 "_law_matrix" ["thing", "many"] sp__law_matrix) (C__law_column : Cl P w K mg base CX0 41 "_law_column" ["matrix", "at"] sp__law_column) (C__law_product : Cl P w K mg base CX0 41 "_law_product" ["left", "right"] sp__law_product) :
    FnOk P w K mg base CX0 47 f fd ["vectors", "many", "answer"] sp__law_right := by
  refine F.ok sc__law_right (fun vs H Q E h => ?_) (fun cdv A outer s0 H vs Q E hr h => ?_)
  · obtain ⟨a, t, n, m, v, r, W, L, C, rfl, _⟩ := h; rfl
  · obtain ⟨a, t, n, m, v, r, W, L, C, rfl, hL, hm, hn, hv, ⟨lt, it, x, y, et, vlt, vit, hred, hx, hy⟩, k⟩ := h
    have nd := sc__law_right.nd
    refine ⟨_, (pss_cons (ps_if (PW.pt (pw_or (pt_not (pt_val (pe_callB call_isi (by rfl) B.isinstance b_isinstance (pa_cons (pv 2) (pa_cons (pe_bltn (v := .ty "tuple") (by rfl) B.tuple b_tuple rfl) pa_nil))))) (pw_or1 (pt_cmpR op_ne (pe_callB cr_len (by rfl) B.len b_len (pa_cons (pv 2) pa_nil)) pe_int (nomark _)))))
        (pss_one (ps_ret pe_bl))
        pss_nil)
      (pss_cons (ps_asg (pv 2) (pg_tup (n := 3) (by rfl) (pgs_cons (pg_name (i := 3) nd rfl (.inl rfl)) (pgs_cons (pg_name (i := 4) nd rfl (.inl rfl)) (pgs_cons (pg_name (i := 5) nd rfl (.inl rfl)) pgs_nil)))))
      (pss_cons (ps_if (PW.pt (pw_or (pt_not (pt_val (pe_y C__law_is_integer hr (by decide) pass0 (by rfl) (pa_cons (pv 3) pa_nil)))) (pw_or1 (pt_cmpR op_ne (pv 3) (pe_y C__law_rank hr (by decide) pass0 (by rfl) (pa_cons (pv 0) (pa_cons (pv 1) pa_nil))) (nomark _)))))
        (pss_one (ps_ret pe_bl))
        pss_nil)
      (pss_cons (ps_if (PW.pt (pw_or (pt_not (pt_val (pe_y C__law_matrix hr (by decide) pass0 (by rfl) (pa_cons (pv 4) (pa_cons (pv 1) pa_nil))))) (pw_or1 (pt_not (pt_val (pe_y C__law_matrix hr (by decide) pass0 (by rfl) (pa_cons (pv 5) (pa_cons (pv 1) pa_nil))))))))
        (pss_one (ps_ret pe_bl))
        pss_nil)
      (pss_cons (ps_for PassesOwn.never rfl (pi_range1 (by rfl) B.range (pa_cons (pv 1) pa_nil)) (pg_name (i := 6) nd rfl (.inl rfl))
        (pss_cons (ps_set (i := 7) nd rfl (.inl rfl) (pe_y C__law_column hr (by decide) pass0 (by rfl) (pa_cons (pv 5) (pa_cons (pv 6) pa_nil))))
        (pss_cons (ps_for PassesOwn.never rfl (pi_range1 (by rfl) B.range (pa_cons (pv 1) pa_nil)) (pg_name (i := 8) nd rfl (.inl rfl))
          (pss_one (ps_if (pt_cmpR op_ne (pe_y C__law_product hr (by decide) pass0 (by rfl) (pa_cons (pe_ix ix_tup (pv 4) (pv 8) (fun _ _ => rfl)) (pa_cons (pv 7) pa_nil))) (pe_callTy cr_int (by rfl) B.int b_int (pa_cons (pe_cmpR op_eq (pv 8) (pv 6) (nomark _)) pa_nil)) (nomark _))
            (pss_one (ps_ret pe_bl))
            pss_nil)))
        (pss_one (ps_if (pt_cmpR op_ge (pv 6) (pv 3) (nomark _))
          (pss_one (ps_for PassesOwn.never rfl (pi_list (pv 0)) (pg_name (i := 9) nd rfl (.inl rfl))
            (pss_one (ps_if (pt_cmpR op_ne (pe_y C__law_product hr (by decide) pass0 (by rfl) (pa_cons (pv 9) (pa_cons (pv 7) pa_nil))) pe_int (nomark _))
              (pss_one (ps_ret pe_bl))
              pss_nil))))
          pss_nil)))))
      (pss_one (ps_ret pe_bl))))))), ?_⟩
    walk_at "rd"
    refine rd_isTup (.inr (.inr (.inr ⟨t, _, rfl, et⟩))) ?_
    show ∃ k, V.bl true = .bl k ∧ _
    walk_at "rd"
    refine rd_lenT et ?_
    walk_at "rd"
    refine rd_ndec (fun z => absurd rfl z) fun _ => ?_
    walk_at "rd"
    refine rd_gtrip et ?_
    walk_at "rd"
    refine ⟨.int r, rfl, .inl ⟨_, rfl⟩, ?_⟩
    show ∃ k, V.bl true = .bl k ∧ _
    walk_at "rd"
    refine ⟨a, n, m, v, W, rfl, hL, hm, hn, hv, fun f R H1 e1 hE => ?_⟩
    obtain rfl : f = r := rank_eq hred hE
    walk_at "rd"
    refine rd_ndec (fun z => absurd rfl z) fun _ => ?_
    walk_at "rd"
    refine ⟨lt, n, L, rfl, vlt.ex e1, by omega, fun H2 e2 => ?_⟩
    walk_at "rd"
    refine ⟨it, n, _, rfl, (vit.ex e1).ex e2, by omega, fun H3 e3 => ?_⟩
    walk_at "rd"
    have e03 : Ex H H3 := Xt.trans e1 (Xt.trans e2 e3)
    have bL : ∀ i, i < n → ∀ j, j < n → (L i j).natAbs < 2 ^ big := fun i hi j hj => le_big (hred.bL i hi j hj) hy
    have bC : ∀ i, i < n → ∀ j, j < n → (C i j).natAbs < 2 ^ big := fun i hi j hj => le_big (hred.bC i hi j hj) (by omega)
    refine rd_rg1 n rfl (by omega) (for_w wkR (fun i σ H4 => Ex H H4 ∧ ∃ o6 o7 o8 o9 : Option V, σ = [some (.ref a), some (.int n), some (.ref t), some (.int f), some (.ref lt), some (.ref it), o6, o7, o8, o9]) ⟨e03, _, _, _, _, rfl⟩ (fun _ _ _ _ _ => trivial) (fun i x1 σ H4 H5 hi hP yy => ?_) fun σ H4 hP => ?_)
    · obtain ⟨e4, o6, o7, o8, o9, rfl⟩ := hP
      obtain ⟨rfl, ex⟩ := yy
      obtain rfl : x1 = .int (i : Int) := by rw [ex]; exact congrArg V.int (by omega)
      walk_at "rd"
      refine ⟨it, n, n, i, _, rfl, vit.ex e4, by omega, hi, fun D H6 nD e6 eD => ?_⟩
      walk_at "rd"
      have e06 : Ex H H6 := Xt.trans e4 e6
      obtain ⟨ls, elt, hls⟩ := vlt.ex e06
      refine rd_rg1 n rfl (by omega) (for_w wkR (fun j σ H7 => H7 = H6 ∧ ∃ o8 o9 : Option V, σ = [some (.ref a), some (.int n), some (.ref t), some (.int f), some (.ref lt), some (.ref it), some (.int i), some (.ref D), o8, o9]) ⟨rfl, _, _, rfl⟩ (fun _ _ _ _ _ => trivial) (fun j x1 σ H7 H8 hj hP yy => ?_) fun σ H7 hP => ?_)
      · obtain ⟨rfl, o8, o9, rfl⟩ := hP
        obtain ⟨rfl, ex⟩ := yy
        obtain rfl : x1 = .int (j : Int) := by rw [ex]; exact congrArg V.int (by omega)
        walk_at "rd"
        refine rd_ixTt j elt rfl hj ?_
        walk_at "rd"
        refine ⟨ls j, D, n, L j, C i, rfl, hls j hj, eD, by omega, fun q hq => mulok_big (bL j hj q hq) (bC i hi q hq), ?_⟩
        rw [hred.inv.a j i hj hi]
        walk_at "rd"
        refine rd_ndec (fun z => absurd ?_ z) fun _ => ?_
        · unfold dlt
          by_cases e : i = j
          · subst e
            rw [if_pos rfl, if_pos (decide_eq_true rfl)]
          · rw [if_neg e, if_neg (by rw [decide_eq_false (by omega)]; decide)]
        · walk_at "rd"
          exact ⟨rfl, _, _, rfl⟩
      · obtain ⟨rfl, o8, o9, rfl⟩ := hP
        walk_at "rd"
        refine rd_dec (fun hge => ?_) fun _ => ?_
        · walk_at "rd"
          obtain ⟨as, ea, hW⟩ := hL.ex e06
          refine rd_itL ea (for_w (wkLt (n := m) (f := fun k => .ref (as k))) (fun q σ H8 => H8 = H7 ∧ ∃ o8 o9 : Option V, σ = [some (.ref a), some (.int n), some (.ref t), some (.int f), some (.ref lt), some (.ref it), some (.int i), some (.ref D), o8, o9]) ⟨rfl, _, _, rfl⟩ (fun q σ H8 _ hP => by rw [hP.1]; exact ea) (fun q x1 σ H8 H9 hq hP yy => ?_) fun σ H8 hP => ?_)
          · obtain ⟨rfl, o8, o9, rfl⟩ := hP
            obtain ⟨rfl, rfl⟩ := yy
            walk_at "rd"
            refine ⟨as q, D, n, W q, C i, rfl, (hW q hq).1, eD, by omega, fun j hj => mulok_big (le_big (Nat.le_trans ((hW q hq).2 j hj) hv) (by decide)) (bC i hi j hj), ?_⟩
            rw [hred.zero q hq i (by omega) hi]
            walk_at "rd"
            refine rd_ndec (fun z => absurd rfl z) fun _ => ?_
            walk_at "rd"
            exact ⟨rfl, _, _, rfl⟩
          · obtain ⟨rfl, o8, o9, rfl⟩ := hP
            walk_at "rd"
            exact ⟨e06, _, _, _, _, rfl⟩
        · walk_at "rd"
          exact ⟨e06, _, _, _, _, rfl⟩
    · obtain ⟨e4, o6, o7, o8, o9, rfl⟩ := hP
      walk_at "rd"
      exact k H4 e4
/-! ### _law_point -/
abbrev s__law_point : Stmt := topS 29
theorem sc__law_point : FnScope ["answer", "worths", "point", "one"] ["answer", "worths"] (defScope s__law_point) := ⟨rfl, rfl, rfl, by decide +kernel, rfl, by decide +kernel, by decide +kernel⟩
theorem dp_ints {a : Addr} {ns : List Int} (e : H a = some (.lst (ns.map V.int))) : Dp K H (.ref a) (.list (ns.map PyData.int)) := by
  refine .lst (SqL.of e) ?_
  clear e
  induction ns with
  | nil => exact .nil
  | cons n ns ih => exact .cons (.int n) ih
theorem ints_shaped (ns : List Int) : SeqAt.shaped (.list (ns.map PyData.int)) = true ∧ PyData.eqv (.list (ns.map PyData.int)) (.list (ns.map PyData.int)) = true := by
  have c : PyData.canLayAll0 (ns.map PyData.int) = true := by
    induction ns with
    | nil => simp [PyData.canLayAll0]
    | cons n ns ih => simp [PyData.canLayAll0, PyData.canLay0, ih]
  have c2 : PyData.canLay0 (.list (ns.map PyData.int)) = true := by simpa [PyData.canLay0] using c
  have d : PyData.depthAll (ns.map PyData.int) = 0 := by
    clear c c2
    induction ns with
    | nil => simp [PyData.depthAll]
    | cons n ns ih => simp [PyData.depthAll, PyData.depth, ih]
  refine ⟨?_, SeqAt.eqv_refl _ c2⟩
  unfold SeqAt.shaped
  rw [c2]
  simp [PyData.depth, d]
theorem rd_eqD {a b : Addr} {ns : List Int} (e : H a = some (.lst (ns.map V.int))) (f : H b = some (.lst (ns.map V.int))) (h : Q (.bl true) H) : rEqD K (.ref a) (.ref b) H Q :=
  ⟨_, _, dp_ints e, dp_ints f, (ints_shaped ns).1, (ints_shaped ns).1, by rw [(ints_shaped ns).2]; exact h⟩
def sp__law_point : Sp := fun vs H Q _ => ∃ (t d : Addr) (n m r : Nat) (W L C : Nat → Nat → Int) (u : Nat → Int), vs = [.ref t, .ref d] ∧ Ans H t n m r W L C ∧ n ≤ 7 ∧ H d = some (.lst (vl n u)) ∧ (∀ j, j < n → (u j).natAbs ≤ 9) ∧ ∀ H', Ex H H' → Q (.bl true) H'
theorem ok__law_point {f : Addr} {fd : FuncData} (F : Fun K "_law_point" "_law_point" s__law_point f fd) (B : Bi mg) (C__law_product : Cl P w K mg base CX0 41 "_law_product" ["left", "right"] sp__law_product) :
    FnOk P w K mg base CX0 47 f fd ["answer", "worths"] sp__law_point := by
  refine F.ok sc__law_point (fun vs H Q E h => ?_) (fun cdv A outer s0 H vs Q E hr h => ?_)
  · obtain ⟨t, d, n, m, r, W, L, C, u, rfl, _⟩ := h; rfl
  · obtain ⟨t, d, n, m, r, W, L, C, u, rfl, ⟨lt, it, x, y, et, ⟨ls, elt, hls⟩, ⟨is, eit, his⟩, hred, hx, hy⟩, hn, ed, hu, k⟩ := h
    have nd := sc__law_point.nd
    refine ⟨_, (pss_cons (ps_set (i := 2) nd rfl (.inr rfl) (pe_lc (own := [("one", 3)]) rfl nd (pi_tup (pe_ix ix_tup (pv 0) pe_int (fun _ _ => rfl))) (blkOk_by (by rfl)) (fun _ _ _ _ _ => (pg_name (i := 3) nd rfl (by first | exact .inl rfl | exact .inr rfl))) (fun _ _ _ _ _ => pts_nil) (fun _ _ _ _ _ => (pe_y C__law_product hr (by decide) pass0 (by rfl) (pa_cons (pv 3) (pa_cons (pv 1) pa_nil))))))
      (pss_one (ps_ret (pe_cmpR (op_eqD hr.units) (pe_lc (own := [("one", 3)]) rfl nd (pi_tup (pe_ix ix_tup (pv 0) pe_int (fun _ _ => rfl))) (blkOk_by (by rfl)) (fun _ _ _ _ _ => (pg_name (i := 3) nd rfl (by first | exact .inl rfl | exact .inr rfl))) (fun _ _ _ _ _ => pts_nil) (fun _ _ _ _ _ => (pe_y C__law_product hr (by decide) pass0 (by rfl) (pa_cons (pv 3) (pa_cons (pv 2) pa_nil))))) (pv 1) (nomark _))))), ?_⟩
    have bL : ∀ i, i < n → ∀ j, j < n → (L i j).natAbs < 2 ^ big := fun i hi j hj => le_big (hred.bL i hi j hj) hy
    walk_at "rd"
    refine rd_ixTn 2 et rfl rfl ?_
    refine rd_itT eit (lc_pure wkTt (fun i => .int (dt n (fun j => C j i) u)) (by omega) (fun H' e => e.at eit) (fun i x1 H1 H2 hi e1 yy Pp hP => ?_) fun D H1 nD e1 eD => ?_)
    · obtain ⟨rfl, rfl⟩ := yy
      walk_at "rd"
      refine ⟨rfl, ?_⟩
      walk_at "rd"
      refine ⟨is i, d, n, _, u, rfl, e1.at (his i hi), e1.at ed, by omega, fun j hj => mulok_r (by have := hu j hj; omega) (by have := hu j hj; omega), ?_⟩
      exact hP _ Ex.rfl'
    · walk_at "rd"
      refine rd_ixTn 1 (e1.at et) rfl rfl ?_
      refine rd_itT (e1.at elt) (lc_pure wkTt (fun i => .int (u i)) (by omega) (fun H' e => e.at (e1.at elt)) (fun i x1 H2 H3 hi e2 yy Pp hP => ?_) fun D2 H2 nD2 e2 eD2 => ?_)
      · obtain ⟨rfl, rfl⟩ := yy
        walk_at "rd"
        refine ⟨rfl, ?_⟩
        walk_at "rd"
        refine ⟨ls i, D, n, L i, fun i => dt n (fun j => C j i) u, rfl, e2.at (e1.at (hls i hi)), e2.at eD, by omega, fun j hj => mulok_big (bL i hi j hj) ?_, ?_⟩
        · refine le_big (e := x + 7) ?_ (by omega)
          refine Nat.le_trans (dt_abs (fun q hq => hred.bC q hq j hj) hu) ?_
          rw [Nat.pow_add, Nat.mul_comm (2 ^ x) 9, ← Nat.mul_assoc, Nat.mul_comm (2 ^ x)]
          exact Nat.mul_le_mul_right _ (Nat.le_trans (Nat.mul_le_mul_right 9 hn) (by decide))
        · have e3 : dt n (L i) (fun i => dt n (fun j => C j i) u) = u i := by
            have q1 : dt n (L i) (fun k => dt n (fun j => C j k) u) = sm n fun k => sm n fun j => u j * (L i k * C j k) := sm_congr fun k _ => by
              unfold dt
              rw [← sm_mul]
              exact sm_congr fun j _ => by rw [Int.mul_comm (C j k), Int.mul_left_comm]
            rw [q1, sm_swap]
            rw [sm_congr (g := fun j => u j * dlt i j) fun j hj => by
              rw [sm_mul]
              exact congrArg (u j * ·) (hred.inv.a i j hi hj)]
            rw [sm_one hi fun j hj => by rw [dlt_ne (Ne.symm hj), Int.mul_zero], dlt_self, Int.mul_one]
          rw [e3]
          exact hP _ Ex.rfl'
      · walk_at "rd"
        refine rd_eqD (ns := (List.range n).map u) (eD2.trans (congrArg (fun z => some (HO.lst z)) vl_ints)) ((e2.at (e1.at ed)).trans (congrArg (fun z => some (HO.lst z)) vl_ints)) ?_
        exact k H2 (Xt.trans e1 e2)
end
end K23
/-! what is no vector, the refusal -/
namespace K23
open PySem PySem.Spec PyProof.Rows L2 Y
local macro_rules | `(tactic| walk_at "rd1") => `(tactic| first
  | with_reducible refine rd_var rfl ?_
  | with_reducible refine rd_op ?_
  | with_reducible refine rd_c ?_
  | with_reducible refine rd_I0 ?_
  | with_reducible refine rd_seq ?_
  | ((with_reducible refine rd_I ?_ ?_); focus (first | exact mulok_r (by decide) (by decide) | exact mulok_l (by decide) (by decide) | (show _ ≠ _; decide) | (show _ ∧ _; decide)))
  | with_reducible refine rd_asg ?_
  | with_reducible refine rd_name ?_
  | with_reducible refine rd_cb ?_
  | with_reducible refine rd_cons ?_
  | with_reducible refine rd_nil ?_
  | with_reducible refine rd_int ?_
  | with_reducible refine rd_eqI ?_
  | with_reducible refine rd_neI ?_
  | with_reducible refine rd_bl ?_
  | with_reducible refine rd_test ?_
  | with_reducible refine rd_tB ?_
  | with_reducible refine rd_ifS ?_
  | with_reducible refine rd_next ?_
  | with_reducible refine rd_T ?_
  | with_reducible refine rd_F ?_
  | with_reducible refine rd_nT ?_
  | with_reducible refine rd_nF ?_
  | with_reducible refine rd_blV ?_
  | with_reducible refine rd_ret ?_
  | with_reducible refine rd_call ?_
  | with_reducible refine rd_drop ?_
  | with_reducible refine rd_not ?_
  | with_reducible refine rd_and ?_
  | with_reducible refine rd_or ?_
  | with_reducible refine rd_un ?_
  | with_reducible refine rd_U ?_
  | with_reducible refine rd_tup ?_
  | with_reducible refine rd_lst ?_
  | with_reducible refine rd_if ?_
  | with_reducible refine rd_andV ?_
  | with_reducible refine rd_orV ?_
  | with_reducible refine rd_notV ?_
  | with_reducible refine rd_sl ?_
  | with_reducible refine rd_nopart ?_
  | with_reducible refine rd_part ?_
  | with_reducible refine rd_iv ?_
  | with_reducible refine rd_bm ?_
  | with_reducible refine rd_abs ?_
  | with_reducible refine rd_intb ?_
  | with_reducible refine rd_mx2 ?_
  | with_reducible refine rd_mn2 ?_
  | with_reducible refine rd_sub ?_
  | with_reducible refine rd_lc ?_
  | with_reducible refine rd_for ?_
  | with_reducible refine rd_iL ?_
  | with_reducible refine rd_iT ?_
  | with_reducible refine rd_r1 ?_
  | with_reducible refine rd_r2 ?_
  | with_reducible refine rd_iZ ?_
  | with_reducible refine rd_iZM ?_
  | with_reducible refine rd_while ?_
  | with_reducible refine rd_tru ?_
  | with_reducible refine rd_brk ?_
  | with_reducible refine rd_callS ?_)
local macro_rules | `(tactic| walk_at "rd") => `(tactic| repeat walk_at "rd1")

section
variable {K : PySem.W.Frag} {H : Hp} {Q : VK} {p q : Addr} {xs ys : List V} {lo hi : Option Int}
theorem rd_slA (e : H p = some (.tup xs)) (h : ∀ l H', Ex H H' → H' l = some (.tup (cutV xs lo hi)) → Q (.ref l) H') : rSlA K (.ref p) lo hi H Q :=
  ⟨p, xs, rfl, SqT.of e, fun z => h p H Ex.rfl' (by
    rw [e]
    unfold cutV
    rw [z.1, z.2, List.drop_zero, Nat.sub_zero, List.take_length]), fun _ l hl => h l _ (ex_new hl) upd_same⟩
theorem rd_catA (e : H p = some (.tup xs)) (f : H q = some (.tup ys)) (hz : xs.length + ys.length ≤ 100000) (h : ∀ l H', Ex H H' → H' l = some (.tup (xs ++ ys)) → Q (.ref l) H') : rCatA K (.ref p) (.ref q) H Q :=
  ⟨p, q, xs, ys, rfl, rfl, SqT.of e, SqT.of f, sz hz, fun z => h q H Ex.rfl' (by rw [f, z]; rfl), fun _ z => h p H Ex.rfl' (by rw [e, z, List.append_nil]), fun _ _ l hl => h l _ (ex_new hl) upd_same⟩
end
theorem cut_ints {n : Nat} {u : Nat → Int} {lo hi : Option Int} : ∀ y ∈ cutV (vl n u) lo hi, ∃ i, y = V.int i := fun y hy => by
  unfold cutV at hy
  obtain ⟨i, _, rfl⟩ := List.mem_map.mp (List.mem_of_mem_drop (List.mem_of_mem_take hy))
  exact ⟨_, rfl⟩
theorem cut_len {n : Nat} {u : Nat → Int} {lo hi : Option Int} : (cutV (vl n u) lo hi).length ≤ n := by
  have := cutV_length (vl n u) lo hi
  rw [tab_len] at this
  exact this
theorem bad_of {H : Hp} {n : Nat} {a : Addr} {xs : List V} (e : H a = some (.tup xs)) (hl : xs.length ≤ 1000) (hk : ∀ y ∈ xs, Kd H y) (h : xs.length ≠ n ∨ ∃ y ∈ xs, isI y = false) : Bad H n (.ref a) := by
  refine .inr ⟨a, xs, rfl, e, hl, hk, ?_⟩
  rcases h with h | ⟨y, hy, hi⟩
  · rw [decide_eq_false h]; rfl
  · have : xs.all isI = false := by
      rw [List.all_eq_false]
      exact ⟨y, hy, by rw [hi]; decide⟩
    rw [this, Bool.and_false]
section
variable {P : Program} {w : World} {K : PySem.W.Frag} {mg : Str → Option Value} {base : Heap}
abbrev s__law_wrong : Stmt := topS 30
theorem sc__law_wrong : FnScope ["box", "many", "one", "at", "odd", "kind"] ["box", "many"] (defScope s__law_wrong) := ⟨rfl, rfl, rfl, by decide +kernel, rfl, by decide +kernel, by decide +kernel⟩
def sp__law_wrong : Sp := fun vs H Q _ => ∃ (b s g : Addr) (n : Nat), vs = [.ref b, .int n] ∧ Bx H b s g ∧ n ≤ 100 ∧ ∀ (x : V) (H' : Hp), Xt [b, g] H H' → Bx H' b s g → Bad H' n x → Q x H'
theorem ok__law_wrong {f : Addr} {fd : FuncData} (F : Fun K "_law_wrong" "_law_wrong" s__law_wrong f fd) (B : Bi mg) (C__law_take : Cl P w K mg base CX0 43 "_law_take" ["box", "size"] sp__law_take) (C__law_vector : Cl P w K mg base CX0 45 "_law_vector" ["box", "many", "wide"] sp__law_vector) :
    FnOk P w K mg base CX0 47 f fd ["box", "many"] sp__law_wrong := by
  refine F.ok sc__law_wrong (fun vs H Q E h => ?_) (fun cdv A outer s0 H vs Q E hr h => ?_)
  · obtain ⟨b, s, g, n, rfl, _⟩ := h; rfl
  · obtain ⟨b, s, g, n, rfl, hx, hn, k⟩ := h
    have nd := sc__law_wrong.nd
    refine ⟨_, (pss_cons (ps_set (i := 2) nd rfl (.inl rfl) (pe_y C__law_vector hr (by decide) pass0 (by rfl) (pa_cons (pv 0) (pa_cons (pv 1) (pa_cons pe_int pa_nil)))))
      (pss_cons (ps_set (i := 3) nd rfl (.inl rfl) (pe_y C__law_take hr (by decide) pass0 (by rfl) (pa_cons (pv 0) (pa_cons (pe_callB (cr_mx2 (by rfl)) (by rfl) B.max b_max (pa_cons pe_int (pa_cons (pv 1) pa_nil))) pa_nil))))
      (pss_cons (ps_set (i := 4) nd rfl (.inl rfl) (pe_ix ix_tup (pe_tup (pa_cons pe_str (pa_cons pe_bl (pa_cons (pe_tup (pa_cons pe_int pa_nil)) pa_nil)))) (pe_y C__law_take hr (by decide) pass0 (by rfl) (pa_cons (pv 0) (pa_cons pe_int pa_nil))) (fun _ _ => rfl)))
      (pss_cons (ps_set (i := 5) nd rfl (.inl rfl) (pe_y C__law_take hr (by decide) pass0 (by rfl) (pa_cons (pv 0) (pa_cons pe_int pa_nil))))
      (pss_cons (ps_if (pt_cmpR op_eq (pv 5) pe_int (nomark _))
        (pss_one (ps_ret (pe_op op_catA (pv 2) (pe_tup (pa_cons pe_int pa_nil)))))
        pss_nil)
      (pss_cons (ps_if (PW.pt (pw_and (pt_cmpR op_eq (pv 5) pe_int (nomark _)) (pw_and1 (pt_cmpR op_gt (pv 1) pe_int (nomark _)))))
        (pss_one (ps_ret (pe_slice sl_tupA (pv 2) (po_some pe_int) po_none)))
        pss_nil)
      (pss_cons (ps_if (pt_cmpR op_eq (pv 5) pe_int (nomark _))
        (pss_one (ps_ret (pe_tup (pa_cons pe_int (pa_cons pe_int pa_nil)))))
        pss_nil)
      (pss_cons (ps_if (PW.pt (pw_or (pt_cmpR op_eq (pv 5) pe_int (nomark _)) (pw_or1 (pt_cmpR op_eq (pv 5) pe_int (nomark _)))))
        (pss_one (ps_ret (pe_op op_catA (pe_op op_catA (pe_slice sl_tupA (pv 2) po_none (po_some (pv 3))) (pe_tup (pa_cons (pv 4) pa_nil))) (pe_slice sl_tupA (pv 2) (po_some (pe_op op_add (pv 3) pe_int)) po_none))))
        pss_nil)
      (pss_cons (ps_if (pt_cmpR op_eq (pv 5) pe_int (nomark _))
        (pss_one (ps_ret (pe_tup (pa_cons (pv 2) pa_nil))))
        pss_nil)
      (pss_cons (ps_if (pt_cmpR op_eq (pv 5) pe_int (nomark _))
        (pss_one (ps_ret pe_str))
        pss_nil)
      (pss_one (ps_ret pe_int)))))))))))), ?_⟩
    walk_at "rd"
    refine ⟨b, s, g, n, 4, rfl, hx, by omega, by decide, fun o u H1 hu X1 hx1 eo => ?_⟩
    walk_at "rd"
    refine ⟨b, s, g, _, rfl, hx1, by split <;> omega, by split <;> omega, fun c H2 c0 c1 X2 hx2 => ?_⟩
    walk_at "rd"
    have eo2 := X2.at eo (hx1.tin eo)
    refine ⟨sz (show 1 ≤ 100000 by decide), fun T1 nT1 => ?_⟩
    have e3 : Ex H2 (upd H2 T1 (.tup [.int 1])) := ex_new nT1
    have eT1 : upd H2 T1 (.tup [.int 1]) T1 = some (.tup [.int 1]) := upd_same
    generalize upd H2 T1 (HO.tup [.int 1]) = H3 at e3 eT1 ⊢
    walk_at "rd"
    refine ⟨sz (show 3 ≤ 100000 by decide), fun T2 nT2 => ?_⟩
    have e4 : Ex H3 (upd H3 T2 (.tup [.str "x", .bl true, .ref T1])) := ex_new nT2
    have eT2 : upd H3 T2 (.tup [.str "x", .bl true, .ref T1]) T2 = some (.tup [.str "x", .bl true, .ref T1]) := upd_same
    generalize upd H3 T2 (HO.tup [.str "x", .bl true, .ref T1]) = H4 at e4 eT2 ⊢
    have hx4 := (hx2.ex e3).ex e4
    walk_at "rd"
    refine ⟨b, s, g, 3, rfl, hx4, by decide, by decide, fun d H5 d0 d1 X5 hx5 => ?_⟩
    have odd : ∃ y, ([.str "x", .bl true, .ref T1] : List V)[d.toNat]? = some y ∧ isI y = false ∧ Kd H5 y := by
      have : d = 0 ∨ d = 1 ∨ d = 2 := by omega
      rcases this with rfl | rfl | rfl
      · exact ⟨_, rfl, rfl, .inr (.inr (.inl ⟨_, rfl⟩))⟩
      · exact ⟨_, rfl, rfl, .inr (.inl ⟨_, rfl⟩)⟩
      · exact ⟨_, rfl, rfl, .inr (.inr (.inr ⟨T1, _, rfl, X5.at (e4.at eT1) (hx4.tin (e4.at eT1))⟩))⟩
    obtain ⟨y, hy, yi, yk⟩ := odd
    refine rd_ixTn d.toNat (X5.at eT2 (hx4.tin eT2)) (by omega) hy ?_
    walk_at "rd"
    have eo5 := X5.at (e4.at (e3.at eo2)) (hx4.tin (e4.at (e3.at eo2)))
    refine ⟨b, s, g, 7, rfl, hx5, by decide, by decide, fun z H6 z0 z1 X6 hx6 => ?_⟩
    walk_at "rd"
    have eo6 := X6.at eo5 (hx5.tin eo5)
    have yk6 : Kd H6 y := by
      rcases yk with h | h | h | ⟨a, ys, h1, h2⟩
      · exact .inl h
      · exact .inr (.inl h)
      · exact .inr (.inr (.inl h))
      · exact .inr (.inr (.inr ⟨a, ys, h1, X6.at h2 (hx5.tin h2)⟩))
    have X06 : Xt [b, g] H H6 := X1.trans (X2.trans ((Ex.xt e3).trans ((Ex.xt e4).trans (X5.trans X6))))
    have done : ∀ x H', Ex H6 H' → Bad H' n x → Q x H' := fun x H' e h => k x H' (X06.trans (Ex.xt e)) (hx6.ex e) h
    refine rd_dec (fun _ => ?_) fun _ => ?_
    · walk_at "rd"
      refine ⟨sz (show 1 ≤ 100000 by decide), fun T3 nT3 => ?_⟩
      have e7 : Ex H6 (upd H6 T3 (.tup [.int 0])) := ex_new nT3
      refine rd_catA (e7.at eo6) upd_same (by rw [tab_len]; show n + 1 ≤ 100000; omega) fun l H8 e8 el => ?_
      refine done _ H8 (Xt.trans e7 e8) (bad_of el (by rw [List.length_append, tab_len]; show n + 1 ≤ 1000; omega) (fun y hy => ?_) (.inl (by rw [List.length_append, tab_len]; show n + 1 ≠ n; omega)))
      rcases List.mem_append.mp hy with hy | hy
      · exact (good_vec (H := H8)).1 y hy
      · rw [List.mem_singleton.mp hy]; exact .inl ⟨_, rfl⟩
    · walk_at "rd"
      refine rd_dec (fun h1 => ?_) fun h1 => ?_
      · walk_at "rd"
        refine rd_dec (fun hn0 => ?_) fun hn0 => ?_
        · walk_at "rd"
          refine rd_slA eo6 fun l H7 e7 el => ?_
          refine done _ H7 e7 (bad_of el (Nat.le_trans cut_len (by omega)) (fun y hy => .inl (cut_ints y hy)) (.inl ?_))
          unfold cutV
          rw [List.length_take, List.length_drop, tab_len]
          have e1 : HT.sIx n 0 (some 1) = 1 := (HT.sIx_nat n 0 1).trans (by omega)
          rw [e1]
          show min (n - 1) (n - 1) ≠ n
          omega
        · walk_at "rd"
          refine rd_dec (fun h2 => ?_) fun h2 => absurd h1 h2
          walk_at "rd"
          refine ⟨sz (show 2 ≤ 100000 by decide), fun T3 nT3 => ?_⟩
          have e7 : Ex H6 (upd H6 T3 (.tup [.int 0, .int 0])) := ex_new nT3
          refine done _ _ e7 (bad_of upd_same (by decide) (fun y hy => ?_) (.inl (by show 2 ≠ n; omega)))
          obtain rfl : y = .int 0 := by simpa using hy
          exact .inl ⟨_, rfl⟩
      · walk_at "rd"
        refine rd_dec (fun h2 => absurd h2 h1) fun _ => ?_
        walk_at "rd"
        refine rd_dec (fun _ => ?_) fun _ => ?_
        · walk_at "rd"
          refine rd_slA eo6 fun l1 H7 e7 el1 => ?_
          walk_at "rd"
          refine ⟨sz (show 1 ≤ 100000 by decide), fun T3 nT3 => ?_⟩
          have e8 : Ex H7 (upd H7 T3 (.tup [y])) := ex_new nT3
          refine rd_catA (e8.at el1) upd_same (by have := cut_len (n := n) (u := u) (lo := none) (hi := some c); show _ + 1 ≤ 100000; omega) fun l2 H9 e9 el2 => ?_
          walk_at "rd"
          have e69 : Ex H6 H9 := Xt.trans e7 (Xt.trans e8 e9)
          refine rd_slA (Ex.at e69 eo6) fun l3 H10 e10 el3 => ?_
          refine rd_catA (e10.at el2) el3 (by
            have q1 := cut_len (n := n) (u := u) (lo := none) (hi := some c)
            have q2 := cut_len (n := n) (u := u) (lo := some (c + 1)) (hi := none)
            rw [List.length_append]
            show _ + 1 + _ ≤ 100000
            omega) fun l4 H11 e11 el4 => ?_
          have e611 : Ex H6 H11 := Xt.trans e69 (Xt.trans e10 e11)
          refine done _ H11 e611 (bad_of el4 (by
            have q1 := cut_len (n := n) (u := u) (lo := none) (hi := some c)
            have q2 := cut_len (n := n) (u := u) (lo := some (c + 1)) (hi := none)
            rw [List.length_append, List.length_append]
            show _ + 1 + _ ≤ 1000
            omega) (fun v hv => ?_) (.inr ⟨y, by simp, yi⟩))
          rcases List.mem_append.mp hv with hv | hv
          · rcases List.mem_append.mp hv with hv | hv
            · exact .inl (cut_ints v hv)
            · rw [List.mem_singleton.mp hv]; exact yk6.ex e611
          · exact .inl (cut_ints v hv)
        · walk_at "rd"
          refine rd_dec (fun _ => ?_) fun _ => ?_
          · walk_at "rd"
            refine rd_slA eo6 fun l1 H7 e7 el1 => ?_
            walk_at "rd"
            refine ⟨sz (show 1 ≤ 100000 by decide), fun T3 nT3 => ?_⟩
            have e8 : Ex H7 (upd H7 T3 (.tup [y])) := ex_new nT3
            refine rd_catA (e8.at el1) upd_same (by have := cut_len (n := n) (u := u) (lo := none) (hi := some c); show _ + 1 ≤ 100000; omega) fun l2 H9 e9 el2 => ?_
            walk_at "rd"
            have e69 : Ex H6 H9 := Xt.trans e7 (Xt.trans e8 e9)
            refine rd_slA (Ex.at e69 eo6) fun l3 H10 e10 el3 => ?_
            refine rd_catA (e10.at el2) el3 (by
              have q1 := cut_len (n := n) (u := u) (lo := none) (hi := some c)
              have q2 := cut_len (n := n) (u := u) (lo := some (c + 1)) (hi := none)
              rw [List.length_append]
              show _ + 1 + _ ≤ 100000
              omega) fun l4 H11 e11 el4 => ?_
            have e611 : Ex H6 H11 := Xt.trans e69 (Xt.trans e10 e11)
            refine done _ H11 e611 (bad_of el4 (by
              have q1 := cut_len (n := n) (u := u) (lo := none) (hi := some c)
              have q2 := cut_len (n := n) (u := u) (lo := some (c + 1)) (hi := none)
              rw [List.length_append, List.length_append]
              show _ + 1 + _ ≤ 1000
              omega) (fun v hv => ?_) (.inr ⟨y, by simp, yi⟩))
            rcases List.mem_append.mp hv with hv | hv
            · rcases List.mem_append.mp hv with hv | hv
              · exact .inl (cut_ints v hv)
              · rw [List.mem_singleton.mp hv]; exact yk6.ex e611
            · exact .inl (cut_ints v hv)
          · walk_at "rd"
            refine rd_dec (fun _ => ?_) fun _ => ?_
            · walk_at "rd"
              refine ⟨sz (show 1 ≤ 100000 by decide), fun T3 nT3 => ?_⟩
              have e7 : Ex H6 (upd H6 T3 (.tup [.ref o])) := ex_new nT3
              have ko : Kd (upd H6 T3 (.tup [.ref o])) (.ref o) := .inr (.inr (.inr ⟨o, _, rfl, e7.at eo6⟩))
              refine done _ _ e7 (bad_of upd_same (by show 1 ≤ 1000; decide) (fun v hv => ?_) (.inr ⟨.ref o, by simp, rfl⟩))
              rw [List.mem_singleton.mp hv]; exact ko
            · walk_at "rd"
              refine rd_dec (fun _ => ?_) fun _ => ?_
              · walk_at "rd"
                exact done _ H6 Ex.rfl' (.inl (.inr ⟨_, rfl⟩))
              · walk_at "rd"
                exact done _ H6 Ex.rfl' (.inl (.inl ⟨_, rfl⟩))
end
end K23
/-! the refusal -/
namespace K23
open PySem PySem.Spec PyProof.Rows L2 Y L2H
local macro_rules | `(tactic| walk_at "rd1") => `(tactic| first
  | with_reducible refine rd_var rfl ?_
  | with_reducible refine rd_op ?_
  | with_reducible refine rd_c ?_
  | with_reducible refine rd_I0 ?_
  | with_reducible refine rd_seq ?_
  | ((with_reducible refine rd_I ?_ ?_); focus (first | exact mulok_r (by decide) (by decide) | exact mulok_l (by decide) (by decide) | (show _ ≠ _; decide) | (show _ ∧ _; decide)))
  | with_reducible refine rd_asg ?_
  | with_reducible refine rd_name ?_
  | with_reducible refine rd_cb ?_
  | with_reducible refine rd_cons ?_
  | with_reducible refine rd_nil ?_
  | with_reducible refine rd_int ?_
  | with_reducible refine rd_eqI ?_
  | with_reducible refine rd_neI ?_
  | with_reducible refine rd_bl ?_
  | with_reducible refine rd_test ?_
  | with_reducible refine rd_tB ?_
  | with_reducible refine rd_ifS ?_
  | with_reducible refine rd_next ?_
  | with_reducible refine rd_T ?_
  | with_reducible refine rd_F ?_
  | with_reducible refine rd_nT ?_
  | with_reducible refine rd_nF ?_
  | with_reducible refine rd_blV ?_
  | with_reducible refine rd_ret ?_
  | with_reducible refine rd_call ?_
  | with_reducible refine rd_drop ?_
  | with_reducible refine rd_not ?_
  | with_reducible refine rd_and ?_
  | with_reducible refine rd_or ?_
  | with_reducible refine rd_un ?_
  | with_reducible refine rd_U ?_
  | with_reducible refine rd_tup ?_
  | with_reducible refine rd_lst ?_
  | with_reducible refine rd_if ?_
  | with_reducible refine rd_andV ?_
  | with_reducible refine rd_orV ?_
  | with_reducible refine rd_notV ?_
  | with_reducible refine rd_sl ?_
  | with_reducible refine rd_nopart ?_
  | with_reducible refine rd_part ?_
  | with_reducible refine rd_iv ?_
  | with_reducible refine rd_bm ?_
  | with_reducible refine rd_abs ?_
  | with_reducible refine rd_intb ?_
  | with_reducible refine rd_mx2 ?_
  | with_reducible refine rd_mn2 ?_
  | with_reducible refine rd_sub ?_
  | with_reducible refine rd_lc ?_
  | with_reducible refine rd_for ?_
  | with_reducible refine rd_iL ?_
  | with_reducible refine rd_iT ?_
  | with_reducible refine rd_r1 ?_
  | with_reducible refine rd_r2 ?_
  | with_reducible refine rd_iZ ?_
  | with_reducible refine rd_iZM ?_
  | with_reducible refine rd_while ?_
  | with_reducible refine rd_tru ?_
  | with_reducible refine rd_brk ?_
  | with_reducible refine rd_callS ?_)
local macro_rules | `(tactic| walk_at "rd") => `(tactic| repeat walk_at "rd1")

theorem Bad.xt {H H' : Hp} {b s g : Addr} {n : Nat} {x : V} (h : Bad H n x) (hx : Bx H b s g) (e : Xt [b, g] H H') : Bad H' n x := by
  rcases h with h | ⟨a, xs, h1, h2, h3, h4, h5⟩
  · exact .inl h
  · refine .inr ⟨a, xs, h1, e.at h2 (hx.tin h2), h3, fun y hy => ?_, h5⟩
    rcases h4 y hy with q | q | q | ⟨c, zs, q1, q2⟩
    · exact .inl q
    · exact .inr (.inl q)
    · exact .inr (.inr (.inl q))
    · exact .inr (.inr (.inr ⟨c, zs, q1, e.at q2 (hx.tin q2)⟩))
theorem Bad.keep {H H' : Hp} {D : Addr} {l : List V} {n : Nat} {x : V} (h : Bad H n x) (hD : H D = some (.lst l)) (e : Xt [D] H H') : Bad H' n x := by
  have nt : ∀ {c : Addr} {zs : List V}, H c = some (.tup zs) → c ∉ [D] := fun {c zs} q z => by rw [List.mem_singleton.mp z, hD] at q; cases q
  rcases h with h | ⟨a, xs, h1, h2, h3, h4, h5⟩
  · exact .inl h
  · refine .inr ⟨a, xs, h1, e.at h2 (nt h2), h3, fun y hy => ?_, h5⟩
    rcases h4 y hy with q | q | q | ⟨c, zs, q1, q2⟩
    · exact .inl q
    · exact .inr (.inl q)
    · exact .inr (.inr (.inl q))
    · exact .inr (.inr (.inr ⟨c, zs, q1, e.at q2 (nt q2)⟩))
theorem cut_take {xs : List V} {d : Int} (h0 : 0 ≤ d) (h1 : d.toNat ≤ xs.length) : cutV xs none (some d) = xs.take d.toNat := by
  unfold cutV
  have e1 : HT.sIx xs.length 0 none = 0 := rfl
  have e2 : HT.sIx xs.length xs.length (some d) = d.toNat := by
    have q := HT.sIx_nat xs.length xs.length d.toNat
    rw [Int.toNat_of_nonneg h0] at q
    rw [q]; omega
  rw [e1, e2, List.drop_zero, Nat.sub_zero]
section
variable {P : Program} {w : World} {K : PySem.W.Frag} {mg : Str → Option Value} {base : Heap}
theorem okP__law_is_integer {f : Addr} {fd : FuncData} (F : Fun K "_law_is_integer" "_law_is_integer" s__law_is_integer f fd) (B : Bi mg) : FnP P w K mg base CX0 41 f fd ["thing"] sp__law_is_integer := by
  refine Y.Fun.okP F sc__law_is_integer (fun vs H Q E h => ?_) (fun cdv A outer s H vs Q E p h => ?_)
  · obtain ⟨x, rfl, _⟩ := h; rfl
  · obtain ⟨x, rfl, kd, k⟩ := h
    have nd := sc__law_is_integer.nd
    refine ⟨_, (pss_one (ps_ret (pe_and (pe_callB call_isi (by rfl) B.isinstance b_isinstance (pa_cons (pv 0) (pa_cons (pe_bltn (v := .ty "int") (by rfl) B.int b_int rfl) pa_nil))) (pe_one (pe_not (pe_callB call_isi (by rfl) B.isinstance b_isinstance (pa_cons (pv 0) (pa_cons (pe_bltn (v := .ty "bool") (by rfl) B.bool b_bool rfl) pa_nil)))))))), ?_⟩
    walk_at "rd"
    refine rd_isInt kd (rd_blV ?_)
    rw [isI_eq] at k
    cases hx : isIB x with
    | false => rw [hx] at k; exact iteF k
    | true =>
      rw [hx] at k
      refine iteT ?_
      walk_at "rd"
      exact rd_isBool kd (rd_blV k)
/-- what is asked of the classes of errors -/
structure BX (P : Program) (w : World) (K : PySem.W.Frag) (mg : Str → Option Value) (base : Heap) (C0 M0 : Addr) : Prop where
  name : mg "BadRows" = some (.ref C0)
  mix : mg "MixError" = some (.ref M0)
  exc : ExcC K C0
  xf : XfC K C0
  noR : PySem.W.findIn K (.ref C0) "row" = some none
  exm : PySem.W.exmOne K (.ref C0) (.ref C0) = some true
  kit : PySem.W.kitOne K (.ref C0) (.ref M0) = some true
  int : ClP P w K mg base 41 "_law_is_integer" ["thing"] sp__law_is_integer
abbrev s__law_refused : Stmt := topS 31
theorem sc__law_refused : FnScope ["box", "many", "vectors", "at", "bad", "raised"] ["box", "many", "vectors"] (defScope s__law_refused) := ⟨rfl, rfl, rfl, by decide +kernel, rfl, by decide +kernel, by decide +kernel⟩
def sp__law_refused : Sp := fun vs H Q _ => ∃ (b s g a : Addr) (n m v : Nat) (W : Nat → Nat → Int), vs = [.ref b, .int n, .ref a] ∧ Bx H b s g ∧ n ≤ 7 ∧ m ≤ 20 ∧ LVec H a n m v W ∧ a ∉ [b, g] ∧ ∀ H', Q (.bl true) H'
theorem ok__law_refused {f C0 M0 : Addr} {fd : FuncData} (F : Fun K "_law_refused" "_law_refused" s__law_refused f fd) (B : Bi mg) (bX : BX P w K mg base C0 M0) (C__law_take : Cl P w K mg base CX0 43 "_law_take" ["box", "size"] sp__law_take) (C__law_wrong : Cl P w K mg base CX0 47 "_law_wrong" ["box", "many"] sp__law_wrong)
    (C_forms : Cl P w K mg base (L2.CX P w) 47 "forms" ["vectors", "many"] (sp_forms C0)) : FnOk P w K mg base CX0 49 f fd ["box", "many", "vectors"] sp__law_refused := by
  refine F.ok sc__law_refused (fun vs H Q E h => ?_) (fun cdv A outer s0 H vs Q E hr h => ?_)
  · obtain ⟨b, s, g, a, n, m, v, W, rfl, _⟩ := h; rfl
  · obtain ⟨b, s, g, a, n, m, v, W, rfl, hx, hn, hm, hL, hab, k⟩ := h
    have nd := sc__law_refused.nd
    refine ⟨_, (pss_cons (ps_set (i := 3) nd rfl (.inl rfl) (pe_y C__law_take hr (by decide) pass0 (by rfl) (pa_cons (pv 0) (pa_cons (pe_op op_add (pe_callB cr_len (by rfl) B.len b_len (pa_cons (pv 2) pa_nil)) pe_int) pa_nil))))
      (pss_cons (ps_set (i := 4) nd rfl (.inl rfl) (pe_op op_cat (pe_op op_cat (pe_slice sl_list (pv 2) po_none (po_some (pv 3))) (pe_lst (pa_cons (pe_y C__law_wrong hr (by decide) pass0 (by rfl) (pa_cons (pv 0) (pa_cons (pv 1) pa_nil))) pa_nil))) (pe_slice sl_list (pv 2) (po_some (pv 3)) po_none)))
      (pss_cons (ps_if (pt_cmpR op_eq (pe_y C__law_take hr (by decide) pass0 (by rfl) (pa_cons (pv 0) (pa_cons pe_int pa_nil))) pe_int (nomark _))
        (pss_one (ps_expr (pe_bm PySem.F.plainAttrs_list PySem.F.slot_list_append PySem.F.type_list_append mt_append (pv 4) (pa_cons (pe_y C__law_wrong hr (by decide) pass0 (by rfl) (pa_cons (pv 0) (pa_cons (pv 1) pa_nil))) pa_nil))))
        pss_nil)
      (pss_cons (ps_try_as rfl rfl nd (i := 5) rfl rfl (c := .ref C0) ⟨rfl, by decide, .inl bX.name⟩ takes0 (fun W pn xe tk po => (pss_one (ps_expr (pe_yS C_forms hr (by decide) (fun σ => passAt tk σ) (by rfl) (pa_cons (pe_callTy (cr_tupOfK (K := K) rfl) (by rfl) B.tuple b_tuple (pa_cons (pv 4) pa_nil)) (pa_cons (pv 1) pa_nil)))))) (fun a oe cls d pn hz hf => (pss_one (ps_ret (pe_and (pe_callB (call_isF bX.exc hz hf) (by rfl) B.isinstance b_isinstance (pa_cons (pv 5) (pa_cons (pe_glob (v := .ref M0) (by rfl) bX.mix rfl) pa_nil))) (pe_and (pe_callP bX.int hr (by decide) (by rfl) (pa_cons (pe_xf bX.xf bX.noR hz hf (pv 5)) pa_nil)) (pe_one (pe_cmpR op_eq (pe_xf bX.xf bX.noR hz hf (pv 5)) (pv 3) (nomark _)))))))))
      (pss_one (ps_ret pe_bl)))))), ?_⟩
    walk_at "rd"
    obtain ⟨as, ea, hW⟩ := id hL
    refine rd_lenLt ea ?_
    walk_at "rd"
    refine ⟨b, s, g, _, rfl, hx, by omega, by omega, fun d H1 d0 d1 X1 hx1 => ?_⟩
    walk_at "rd"
    have ea1 := X1.at ea hab
    refine rd_slL ea1 fun l1 H2 nl1 e2 el1 => ?_
    walk_at "rd"
    have hx2 := hx1.ex e2
    have nl1b := hx1.nin nl1
    refine ⟨b, s, g, n, rfl, hx2, by omega, fun x H3 X3 hx3 hbad => ?_⟩
    walk_at "rd"
    have el3 := X3.at el1 nl1b
    refine ⟨sz (show 1 ≤ 100000 by decide), fun l2 nl2 => ?_⟩
    have e4 : Ex H3 (upd H3 l2 (.lst [x])) := ex_new nl2
    have el2 : upd H3 l2 (.lst [x]) l2 = some (.lst [x]) := upd_same
    generalize upd H3 l2 (HO.lst [x]) = H4 at e4 el2 ⊢
    have cl1 := cutV_length (tab m fun k => V.ref (as k)) none (some d)
    have cl2 := cutV_length (tab m fun k => V.ref (as k)) (some d) none
    rw [tab_len] at cl1 cl2
    refine rd_cat (e4.at el3) el2 (sz (by show _ + 1 ≤ 100000; omega)) fun l3 H5 nl3 e5 el5 => ?_
    walk_at "rd"
    have ea5 := e5.at (e4.at (X3.at (e2.at ea1) hab))
    refine rd_slL ea5 fun l4 H6 nl4 e6 el4 => ?_
    refine rd_cat (e6.at el5) el4 (sz (by rw [List.length_append]; show _ + 1 + _ ≤ 100000; omega)) fun D H7 nD e7 eD => ?_
    walk_at "rd"
    have e37 : Ex H3 H7 := Xt.trans e4 (Xt.trans e5 (Xt.trans e6 e7))
    have hx7 := hx3.ex e37
    have nDb : D ∉ [b, g] := ((hx3.ex e4).ex e5).ex e6 |>.nin nD
    have hbad7 := hbad.ex e37
    have hW7 : ∀ k, k < m → H7 (as k) = some (.tup (vl n (W k))) := fun k hk => Ex.at e37 (X3.at (e2.at (X1.at (hW k hk).1 (hx.tin (hW k hk).1))) (hx2.tin (e2.at (X1.at (hW k hk).1 (hx.tin (hW k hk).1)))))
    have dm : d.toNat ≤ m := by omega
    have ct : cutV (tab m fun k => V.ref (as k)) none (some d) = (tab m fun k => V.ref (as k)).take d.toNat := cut_take d0 (by rw [tab_len]; exact dm)
    have hat : ((cutV (tab m fun k => V.ref (as k)) none (some d) ++ [x]) ++ cutV (tab m fun k => V.ref (as k)) (some d) none)[d.toNat]? = some x := by
      rw [ct, List.append_assoc, List.getElem?_append_right (by rw [List.length_take, tab_len]; omega)]
      rw [List.length_take, tab_len, show d.toNat - min d.toNat m = 0 by omega]
      rfl
    have hlow : ∀ k, k < d.toNat → ((cutV (tab m fun k => V.ref (as k)) none (some d) ++ [x]) ++ cutV (tab m fun k => V.ref (as k)) (some d) none)[k]? = some (.ref (as k)) := fun k hk => by
      rw [ct, List.append_assoc, List.getElem?_append_left (by rw [List.length_take, tab_len]; omega), List.getElem?_take_of_lt hk, tab_get (by omega)]
    refine ⟨b, s, g, 2, rfl, hx7, by decide, by decide, fun c H8 c0 c1 X8 hx8 => ?_⟩
    walk_at "rd"
    have eD8 := X8.at eD nDb
    refine rd_ifH (fun σ H' => σ = [some (.ref b), some (.int n), some (.ref a), some (.int d), some (.ref D), none] ∧ ∃ xs : List V, H' D = some (.lst xs) ∧ xs.length ≤ 1000 ∧ xs[d.toNat]? = some x ∧ (∀ k, k < d.toNat → xs[k]? = some (.ref (as k)) ∧ H' (as k) = some (.tup (vl n (W k)))) ∧ Bad H' n x) (fun _ tz' hk => ?_) (fun _ => ?_) fun σ H9 hG => ?_
    · walk_at "rd"
      refine ⟨tyL eD8, ?_⟩
      walk_at "rd"
      refine ⟨b, s, g, n, rfl, hx8, by omega, fun x2 H9 X9 hx9 hbad2 => ?_⟩
      walk_at "rd"
      have eD9 := X9.at eD8 nDb
      refine rd_append eD9 (szl (by rw [List.length_append, List.length_append]; show _ + 1 + _ < 100000; omega)) fun H10 X10 E10 => ?_
      refine hk _ _ ⟨rfl, _, E10, ?_, ?_, fun k hk => ⟨?_, ?_⟩, ?_⟩
      · rw [List.length_append, List.length_append, List.length_append]; show _ + 1 + _ + 1 ≤ 1000; omega
      · rw [List.getElem?_append_left (List.getElem?_eq_some_iff.mp hat).1]; exact hat
      · rw [List.getElem?_append_left (List.getElem?_eq_some_iff.mp (hlow k hk)).1]; exact hlow k hk
      · have q7 := hW7 k (by omega)
        have q9 := X9.at (X8.at q7 (hx7.tin q7)) (hx8.tin (X8.at q7 (hx7.tin q7)))
        exact X10.at q9 (fun z => by rw [List.mem_singleton.mp z, eD9] at q9; cases q9)
      · exact ((hbad7.xt hx7 X8).xt hx8 X9).keep eD9 X10
    · refine ⟨rfl, _, eD8, by rw [List.length_append, List.length_append]; show _ + 1 + _ ≤ 1000; omega, hat, fun k hk => ⟨hlow k hk, ?_⟩, hbad7.xt hx7 X8⟩
      have q7 := hW7 k (by omega)
      exact X8.at q7 (hx7.tin q7)
    · obtain ⟨rfl, xs, exs, hxl, hxat, hxlow, hxbad⟩ := hG
      walk_at "rd"
      refine rd_tupL exs fun T H10 nT e10 eT => ?_
      walk_at "rd"
      refine ⟨T, n, xs, rfl, eT, hxl, by omega, .inr ⟨d.toNat, x, hxat, hxbad.ex e10, fun k hk => ⟨as k, W k, (hxlow k hk).1, e10.at (hxlow k hk).2⟩, fun dd H11 e11 ed => ?_⟩⟩
      show wAs _ _ _ _ _ _ (.ref C0) (some dd) _ H11
      refine ⟨true, bX.exm, fun _ ae nae => ?_, fun z => by cases z⟩
      show tRet _ _ _ _
      walk_at "rd"
      refine ⟨.ref M0, .ref M0, true, dd, _, rfl, fun u r => r, bX.kit, rfl, rfl, ed, ?_⟩
      walk_at "rd"
      refine ⟨.ref ae, rfl, rfl, rfl, dd, _, .int d.toNat, rfl, ed, rfl, ?_⟩
      walk_at "rd"
      refine ⟨_, rfl, .inl ⟨_, rfl⟩, ?_⟩
      show ∃ k, V.bl true = .bl k ∧ _
      walk_at "rd"
      refine ⟨.ref ae, rfl, rfl, rfl, dd, _, .int d.toNat, rfl, ed, rfl, ?_⟩
      walk_at "rd"
      rw [decide_eq_true (show ((d.toNat : Int)) = d by omega)]
      exact k _
end
end K23
/-! the law -/
namespace K23
open PySem PySem.Spec PyProof.Rows L2 Y L2H
local macro_rules | `(tactic| walk_at "rd1") => `(tactic| first
  | with_reducible refine rd_var rfl ?_
  | with_reducible refine rd_op ?_
  | with_reducible refine rd_c ?_
  | with_reducible refine rd_I0 ?_
  | with_reducible refine rd_seq ?_
  | ((with_reducible refine rd_I ?_ ?_); focus (first | exact mulok_r (by decide) (by decide) | exact mulok_l (by decide) (by decide) | (show _ ≠ _; decide) | (show _ ∧ _; decide)))
  | with_reducible refine rd_asg ?_
  | with_reducible refine rd_name ?_
  | with_reducible refine rd_cb ?_
  | with_reducible refine rd_cons ?_
  | with_reducible refine rd_nil ?_
  | with_reducible refine rd_int ?_
  | with_reducible refine rd_eqI ?_
  | with_reducible refine rd_neI ?_
  | with_reducible refine rd_bl ?_
  | with_reducible refine rd_test ?_
  | with_reducible refine rd_tB ?_
  | with_reducible refine rd_ifS ?_
  | with_reducible refine rd_next ?_
  | with_reducible refine rd_T ?_
  | with_reducible refine rd_F ?_
  | with_reducible refine rd_nT ?_
  | with_reducible refine rd_nF ?_
  | with_reducible refine rd_blV ?_
  | with_reducible refine rd_ret ?_
  | with_reducible refine rd_call ?_
  | with_reducible refine rd_drop ?_
  | with_reducible refine rd_not ?_
  | with_reducible refine rd_and ?_
  | with_reducible refine rd_or ?_
  | with_reducible refine rd_un ?_
  | with_reducible refine rd_U ?_
  | with_reducible refine rd_tup ?_
  | with_reducible refine rd_lst ?_
  | with_reducible refine rd_if ?_
  | with_reducible refine rd_andV ?_
  | with_reducible refine rd_orV ?_
  | with_reducible refine rd_notV ?_
  | with_reducible refine rd_sl ?_
  | with_reducible refine rd_nopart ?_
  | with_reducible refine rd_part ?_
  | with_reducible refine rd_iv ?_
  | with_reducible refine rd_bm ?_
  | with_reducible refine rd_abs ?_
  | with_reducible refine rd_intb ?_
  | with_reducible refine rd_mx2 ?_
  | with_reducible refine rd_mn2 ?_
  | with_reducible refine rd_sub ?_
  | with_reducible refine rd_lc ?_
  | with_reducible refine rd_for ?_
  | with_reducible refine rd_iL ?_
  | with_reducible refine rd_iT ?_
  | with_reducible refine rd_r1 ?_
  | with_reducible refine rd_r2 ?_
  | with_reducible refine rd_iZ ?_
  | with_reducible refine rd_iZM ?_
  | with_reducible refine rd_while ?_
  | with_reducible refine rd_tru ?_
  | with_reducible refine rd_brk ?_
  | with_reducible refine rd_callS ?_)
local macro_rules | `(tactic| walk_at "rd") => `(tactic| repeat walk_at "rd1")

def qf (n : Nat) : Nat := if n ≤ 4 then 36 else 10
theorem bits4 : xb 36 4 + 8 < big ∧ yb 36 4 < big := by decide +kernel
theorem bits7 : xb 10 7 + 8 < big ∧ yb 10 7 < big := by decide +kernel
theorem bits_ok {n : Nat} (h : n ≤ 7) : xb (qf n) n + 8 < big ∧ yb (qf n) n < big := by
  unfold qf
  split
  · rename_i h4
    have h1 := xb_mono 36 h4
    have h2 := yb_mono 36 h4
    have := bits4
    omega
  · have h1 := xb_mono 10 h
    have h2 := yb_mono 10 h
    have := bits7
    omega
theorem fits_of {n m : Nat} {W : Nat → Nat → Int} (hn : n ≤ 7) (hm : m ≤ 1000) (h : ∀ k, k < m → ∀ j, j < n → (W k j).natAbs ≤ vbf n) : Fits n m (qf n) (vbf n) W := by
  have b := bits_ok hn
  have e : vbf n ≤ 2 ^ qf n ∧ n * vbf n ≤ 2 ^ qf n ∧ qf n < big := by
    unfold vbf qf
    split
    · rename_i h4
      refine ⟨by decide, Nat.le_trans (Nat.mul_le_mul_right _ h4) (by decide), by decide⟩
    · refine ⟨by decide, Nat.le_trans (Nat.mul_le_mul_right _ hn) (by decide), by decide⟩
  exact ⟨hm, hn, h, e.1, e.2.1, e.2.2, by omega, b.2⟩
theorem many_at {d : Int} (h0 : 0 ≤ d) (h1 : d < 7) : ∃ n : Nat, ([.int 0, .int 1, .int 2, .int 2, .int 3, .int 3, .int 4] : List V)[d.toNat]? = some (.int n) ∧ n ≤ 4 := by
  have : d = 0 ∨ d = 1 ∨ d = 2 ∨ d = 3 ∨ d = 4 ∨ d = 5 ∨ d = 6 := by omega
  rcases this with rfl | rfl | rfl | rfl | rfl | rfl | rfl
  · exact ⟨0, rfl, by decide⟩
  · exact ⟨1, rfl, by decide⟩
  · exact ⟨2, rfl, by decide⟩
  · exact ⟨2, rfl, by decide⟩
  · exact ⟨3, rfl, by decide⟩
  · exact ⟨3, rfl, by decide⟩
  · exact ⟨4, rfl, by decide⟩
section
variable {P : Program} {w : World} {K : PySem.W.Frag} {mg : Str → Option Value} {base : Heap}
abbrev s_law : Stmt := topS 32
theorem sc_law : FnScope ["script", "box", "many", "vectors", "answer", "worths", "turned", "k"] ["script"] (defScope s_law) := ⟨rfl, rfl, rfl, by decide +kernel, rfl, by decide +kernel, by decide +kernel⟩
def sp_law : Sp := fun vs H Q _ => ∃ (a : Addr) (ns : List Int), vs = [.ref a] ∧ SqL K H a (ns.map V.int) ∧ ∀ H', Q (.bl true) H'
theorem ok_law {f C0 : Addr} {fd : FuncData} (F : Fun K "law" "law" s_law f fd) (B : Bi mg) (C__law_box : Cl P w K mg base CX0 41 "_law_box" ["script"] (sp__law_box (K := K))) (C__law_take : Cl P w K mg base CX0 43 "_law_take" ["box", "size"] sp__law_take)
    (C__law_vectors : Cl P w K mg base CX0 47 "_law_vectors" ["box", "many"] sp__law_vectors) (C_forms : Cl P w K mg base (L2.CX P w) 47 "forms" ["vectors", "many"] (sp_forms C0)) (C__law_right : Cl P w K mg base CX0 47 "_law_right" ["vectors", "many", "answer"] sp__law_right)
    (C__law_point : Cl P w K mg base CX0 47 "_law_point" ["answer", "worths"] sp__law_point) (C__law_refused : Cl P w K mg base CX0 49 "_law_refused" ["box", "many", "vectors"] sp__law_refused) : FnOk P w K mg base CX0 51 f fd ["script"] (sp_law (K := K)) := by
  refine F.ok sc_law (fun vs H Q E h => ?_) (fun cdv A outer s0 H vs Q E hr h => ?_)
  · obtain ⟨a, ns, rfl, _⟩ := h; rfl
  · obtain ⟨a, ns, rfl, ha, k⟩ := h
    have nd := sc_law.nd
    refine ⟨_, (pss_cons (ps_set (i := 1) nd rfl (.inr rfl) (pe_y C__law_box hr (by decide) pass0 (by rfl) (pa_cons (pv 0) pa_nil)))
      (pss_cons (ps_set (i := 2) nd rfl (.inl rfl) (pe_ix ix_tup (pe_tup (pa_cons pe_int (pa_cons pe_int (pa_cons pe_int (pa_cons pe_int (pa_cons pe_int (pa_cons pe_int (pa_cons pe_int pa_nil)))))))) (pe_y C__law_take hr (by decide) pass0 (by rfl) (pa_cons (pv 1) (pa_cons pe_int pa_nil))) (fun _ _ => rfl)))
      (pss_cons (ps_if (pt_cmpR op_eq (pe_y C__law_take hr (by decide) pass0 (by rfl) (pa_cons (pv 1) (pa_cons pe_int pa_nil))) pe_int (nomark _))
        (pss_one (ps_set (i := 2) nd rfl (.inl rfl) (pe_op op_add pe_int (pe_y C__law_take hr (by decide) pass0 (by rfl) (pa_cons (pv 1) (pa_cons pe_int pa_nil))))))
        pss_nil)
      (pss_cons (ps_set (i := 3) nd rfl (.inr rfl) (pe_y C__law_vectors hr (by decide) pass0 (by rfl) (pa_cons (pv 1) (pa_cons (pv 2) pa_nil))))
      (pss_cons (ps_set (i := 4) nd rfl (.inl rfl) (pe_y C_forms hr (by decide) passL (by rfl) (pa_cons (pe_callTy cr_tupOf (by rfl) B.tuple b_tuple (pa_cons (pv 3) pa_nil)) (pa_cons (pv 2) pa_nil))))
      (pss_cons (ps_if (pt_not (pt_val (pe_y C__law_right hr (by decide) pass0 (by rfl) (pa_cons (pv 3) (pa_cons (pv 2) (pa_cons (pv 4) pa_nil))))))
        (pss_one (ps_ret pe_bl))
        pss_nil)
      (pss_cons (ps_setLc (i := 5) (own := [("k", 7)]) rfl nd rfl rfl (sw_true rfl rfl rfl (by decide +kernel)) (pi_range1 (by rfl) B.range (pa_cons (pv 2) pa_nil)) (blkOk_by (by rfl)) (fun _ _ _ _ _ => (pg_name (i := 7) nd rfl (by first | exact .inl rfl | exact .inr rfl))) (fun _ _ _ _ _ => pts_nil) (fun _ _ _ _ _ => (pe_op op_sub (pe_y C__law_take hr (by decide) pass0 (by rfl) (pa_cons (pv 1) (pa_cons pe_int pa_nil))) pe_int)))
      (pss_cons (ps_if (pt_not (pt_val (pe_y C__law_point hr (by decide) pass0 (by rfl) (pa_cons (pv 4) (pa_cons (pv 5) pa_nil)))))
        (pss_one (ps_ret pe_bl))
        pss_nil)
      (pss_cons (ps_setLc (i := 6) (own := [("k", 7)]) rfl nd rfl rfl (sw_true rfl rfl rfl (by decide +kernel)) (pi_range1 (by rfl) B.range (pa_cons (pe_callB cr_len (by rfl) B.len b_len (pa_cons (pv 3) pa_nil)) pa_nil)) (blkOk_by (by rfl)) (fun _ _ _ _ _ => (pg_name (i := 7) nd rfl (by first | exact .inl rfl | exact .inr rfl))) (fun _ _ _ _ _ => pts_nil) (fun _ _ _ _ _ => (pe_ix (ix_listK (K := K) rfl) (pv 3) (pe_op op_sub (pe_op op_sub (pe_callB (cr_lenK (K := K) rfl) (by rfl) B.len b_len (pa_cons (pv 3) pa_nil)) pe_int) (pv 7)) (fun _ _ => rfl))))
      (pss_cons (ps_set (i := 6) nd rfl (.inl rfl) (pe_op op_cat (pv 6) (pe_slice sl_list (pv 6) po_none (po_some pe_int))))
      (pss_cons (ps_if (pt_not (pt_val (pe_y C__law_right hr (by decide) pass0 (by rfl) (pa_cons (pv 6) (pa_cons (pv 2) (pa_cons (pe_y C_forms hr (by decide) passL (by rfl) (pa_cons (pe_callTy cr_tupOf (by rfl) B.tuple b_tuple (pa_cons (pv 6) pa_nil)) (pa_cons (pv 2) pa_nil))) pa_nil))))))
        (pss_one (ps_ret pe_bl))
        pss_nil)
      (pss_one (ps_ret (pe_y C__law_refused hr (by decide) pass0 (by rfl) (pa_cons (pv 1) (pa_cons (pv 2) (pa_cons (pv 3) pa_nil))))))))))))))))), ?_⟩
    walk_at "rd"
    refine ⟨a, ns, rfl, ha, fun b s g H1 nb ng e1 hx1 => ?_⟩
    walk_at "rd"
    refine ⟨sz (show 7 ≤ 100000 by decide), fun T nT => ?_⟩
    have e2 : Ex H1 (upd H1 T (.tup [.int 0, .int 1, .int 2, .int 2, .int 3, .int 3, .int 4])) := ex_new nT
    have eT : upd H1 T (.tup [.int 0, .int 1, .int 2, .int 2, .int 3, .int 3, .int 4]) T = some (.tup [.int 0, .int 1, .int 2, .int 2, .int 3, .int 3, .int 4]) := upd_same
    generalize upd H1 T (HO.tup [.int 0, .int 1, .int 2, .int 2, .int 3, .int 3, .int 4]) = H2 at e2 eT ⊢
    have hx2 := hx1.ex e2
    walk_at "rd"
    refine ⟨b, s, g, 7, rfl, hx2, by decide, by decide, fun d H3 d0 d1 X3 hx3 => ?_⟩
    obtain ⟨n0, hn0, hn4⟩ := many_at d0 d1
    refine rd_ixTn d.toNat (X3.at eT (hx2.tin eT)) (by omega) hn0 ?_
    walk_at "rd"
    refine ⟨b, s, g, 16, rfl, hx3, by decide, by decide, fun c H4 c0 c1 X4 hx4 => ?_⟩
    walk_at "rd"
    refine rd_ifH (fun σ H' => Bx H' b s g ∧ ∃ n : Nat, n ≤ 7 ∧ σ = [some (.ref a), some (.ref b), some (.int n), none, none, none, none, none]) (fun _ tz' hk => ?_) (fun _ => ⟨hx4, n0, by omega, rfl⟩) fun σ H5 hG => ?_
    · walk_at "rd"
      refine ⟨b, s, g, 3, rfl, hx4, by decide, by decide, fun c2 H5 c20 c21 X5 hx5 => ?_⟩
      walk_at "rd"
      refine hk _ _ ⟨hx5, (5 + c2).toNat, by omega, ?_⟩
      rw [show (((5 + c2).toNat : Nat) : Int) = 5 + c2 by omega]
      rfl
    · obtain ⟨hx5, n, hn, rfl⟩ := hG
      walk_at "rd"
      refine ⟨b, s, g, n, rfl, hx5, hn, fun v m W H6 hm X6 hx6 nv hL => ?_⟩
      have vb : v ∉ [b, g] := hx5.nin nv
      have v34 : vbf n ≤ 2 ^ 34 := by unfold vbf; split <;> decide
      have hb := bits_ok hn
      walk_at "rd"
      obtain ⟨as, ev, hW⟩ := id hL
      refine rd_tupL ev fun t1 H7 nt1 e7 et1 => ?_
      walk_at "rd"
      refine ⟨t1, n, _, rfl, et1, by rw [tab_len]; omega, by omega, .inl ⟨m, qf n, vbf n, W, ⟨as, et1, fun k hk => e7.at (hW k hk).1⟩, fits_of hn (by omega) fun k hk => (hW k hk).2, fun t lt it r L C H8 e8 et vl vi hred => ?_⟩⟩
      walk_at "rd"
      have an8 : Ans H8 t n m r W L C := ⟨lt, it, _, _, et, vl, vi, hred, hb.1, hb.2⟩
      have hL8 := (hL.ex e7).ex e8
      have hx8 := (hx6.ex e7).ex e8
      refine ⟨v, t, n, m, vbf n, r, W, L, C, rfl, hL8, by omega, hn, v34, an8, fun H9 e9 => ?_⟩
      walk_at "rd"
      have hx9 := hx8.ex e9
      refine rd_rg1 n rfl (by omega) (lc_eff wkR [b, g] (fun i acc H1 => Bx H1 b s g ∧ ∃ u : Nat → Int, acc = Y.vl i u ∧ ∀ j, j < i → (u j).natAbs ≤ 9) hx9.bg (by omega) (fun _ _ _ _ _ _ => trivial) (fun i acc H1 H2 D hD hR e => ⟨hx9.new hR.1 hD e, hR.2⟩) ⟨hx9, fun _ => 0, rfl, fun j hj => by omega⟩ (fun i x acc H1 H2 hi hl e hR y Pp hP => ?_) fun D acc H10 nD hl X10 hR eD => ?_)
      · obtain ⟨rfl, ex⟩ := y
        obtain ⟨hx2, u, rfl, hu⟩ := hR
        walk_at "rd"
        refine ⟨rfl, ?_⟩
        walk_at "rd"
        refine ⟨b, s, g, 19, rfl, hx2, by decide, by decide, fun d H3 d0 d1 X3 hx3 => ?_⟩
        walk_at "rd"
        refine hP _ H3 X3 ⟨hx3, fun j => if j = i then d - 9 else u j, ?_, fun j hj => ?_⟩
        · show _ = tab (i + 1) _
          rw [← tab_snoc]
          dsimp only
          rw [if_pos rfl]
          exact congrArg (· ++ _) (tab_ext fun j hj => by rw [if_neg (by omega)])
        · dsimp only
          by_cases h : j = i
          · rw [if_pos h]; omega
          · rw [if_neg h]; exact hu j (by omega)
      · obtain ⟨hx10, u, rfl, hu⟩ := hR
        walk_at "rd"
        have an10 : Ans H10 t n m r W L C := by
          obtain ⟨lt, it, x, y, h1, ⟨ls, h2, h3⟩, ⟨is, h4, h5⟩, h6⟩ := an8.ex e9
          exact ⟨lt, it, x, y, X10.at h1 (hx9.tin h1), ⟨ls, X10.at h2 (hx9.tin h2), fun k hk => X10.at (h3 k hk) (hx9.tin (h3 k hk))⟩, ⟨is, X10.at h4 (hx9.tin h4), fun k hk => X10.at (h5 k hk) (hx9.tin (h5 k hk))⟩, h6⟩
        refine ⟨t, D, n, m, r, W, L, C, u, rfl, an10, hn, eD, hu, fun H11 e11 => ?_⟩
        walk_at "rd"
        have hL10 : LVec H10 v n m (vbf n) W := (hL8.ex e9).xt hx9 vb X10
        have hL11 := hL10.ex e11
        obtain ⟨as11, ev11, hW11⟩ := id hL11
        refine rd_lenLt ev11 ?_
        walk_at "rd"
        refine rd_rg1 m rfl (by omega) (lc_pure wkR (fun i => .ref (as11 (m - 1 - i))) (by omega) (fun _ _ => trivial) (fun i x H12 H13 hi e12 y Pp hP => ?_) fun D2 H12 nD2 e12 eD2 => ?_)
        · obtain ⟨rfl, ex⟩ := y
          obtain rfl : x = .int (i : Int) := by rw [ex]; exact congrArg V.int (by omega)
          walk_at "rd"
          refine ⟨rfl, ?_⟩
          walk_at "rd"
          refine rd_lenLt (e12.at ev11) ?_
          walk_at "rd"
          refine rd_ixLt (m - 1 - i) (e12.at ev11) (by omega) (by omega) ?_
          exact hP _ Ex.rfl'
        · walk_at "rd"
          refine rd_slL eD2 fun l13 H13 nl13 e13 el13 => ?_
          have cl := cutV_length (tab m fun i => V.ref (as11 (m - 1 - i))) none (some 1)
          rw [tab_len] at cl
          refine rd_cat (e13.at eD2) el13 (sz (Nat.le_trans (Nat.add_le_add (Nat.le_of_eq tab_len) cl) (by omega))) fun v2 H14 nv2 e14 ev2 => ?_
          have e1114 : Ex H11 H14 := Xt.trans e12 (Xt.trans e13 e14)
          have cont : (tab m fun i => V.ref (as11 (m - 1 - i))) ++ cutV (tab m fun i => V.ref (as11 (m - 1 - i))) none (some 1) = tab (m + min 1 m) fun k => V.ref (if k < m then as11 (m - 1 - k) else as11 (m - 1)) := by
            have c1 : cutV (tab m fun i => V.ref (as11 (m - 1 - i))) none (some 1) = (tab m fun i => V.ref (as11 (m - 1 - i))).take (min 1 m) := by
              unfold cutV
              have e1 : HT.sIx (tab m fun i => V.ref (as11 (m - 1 - i))).length 0 none = 0 := rfl
              have e2 : HT.sIx (tab m fun i => V.ref (as11 (m - 1 - i))).length (tab m fun i => V.ref (as11 (m - 1 - i))).length (some 1) = min 1 m := by
                have q := HT.sIx_nat (tab m fun i => V.ref (as11 (m - 1 - i))).length (tab m fun i => V.ref (as11 (m - 1 - i))).length 1
                rw [tab_len] at q ⊢
                exact q
              rw [e1, e2, List.drop_zero, Nat.sub_zero]
            rw [c1]
            by_cases hm0 : m = 0
            · subst hm0; rfl
            · rw [show min 1 m = 1 by omega, ← tab_snoc]
              refine congr (congrArg _ (tab_ext fun k hk => by rw [if_pos hk])) ?_
              obtain ⟨q, rfl⟩ : ∃ q, m = q + 1 := ⟨m - 1, by omega⟩
              rw [if_neg (by omega)]
              rw [show (tab (q + 1) fun i => V.ref (as11 (q + 1 - 1 - i))) = V.ref (as11 (q + 1 - 1 - 0)) :: (List.range q).map (fun i => V.ref (as11 (q + 1 - 1 - (i + 1)))) from by
                show List.map _ (List.range (q + 1)) = _
                rw [List.range_succ_eq_map, List.map_cons, List.map_map]; rfl]
              rfl
          rw [cont] at ev2
          have hL14 : LVec H14 v2 n (m + min 1 m) (vbf n) (fun k => if k < m then W (m - 1 - k) else W (m - 1)) := by
            refine ⟨_, ev2, fun k hk => ?_⟩
            dsimp only
            by_cases h : k < m
            · rw [if_pos h, if_pos h]
              have q := hW11 (m - 1 - k) (by omega)
              exact ⟨Ex.at e1114 q.1, q.2⟩
            · rw [if_neg h, if_neg h]
              have q := hW11 (m - 1) (by omega)
              exact ⟨Ex.at e1114 q.1, q.2⟩
          walk_at "rd"
          obtain ⟨bs, ev3, hW14⟩ := id hL14
          refine rd_tupL ev3 fun t2 H15 nt2 e15 et2 => ?_
          walk_at "rd"
          refine ⟨t2, n, _, rfl, et2, by rw [tab_len]; omega, by omega, .inl ⟨m + min 1 m, qf n, vbf n, _, ⟨bs, et2, fun k hk => e15.at (hW14 k hk).1⟩, fits_of hn (by omega) fun k hk => (hW14 k hk).2, fun t3 lt3 it3 r3 L3 C3 H16 e16 et3 vl3 vi3 hred3 => ?_⟩⟩
          walk_at "rd"
          refine ⟨v2, t3, n, m + min 1 m, vbf n, r3, _, L3, C3, rfl, (hL14.ex e15).ex e16, by omega, hn, v34, ⟨lt3, it3, _, _, et3, vl3, vi3, hred3, hb.1, hb.2⟩, fun H17 e17 => ?_⟩
          walk_at "rd"
          have e1117 : Ex H11 H17 := Xt.trans e1114 (Xt.trans e15 (Xt.trans e16 e17))
          exact ⟨b, s, g, v, n, m, vbf n, W, rfl, (hx10.ex e11).ex e1117, hn, by omega, hL11.ex e1117, vb, k⟩
end
end K23
/-! the head, with what is told of the modules that no one looks at -/
namespace Y
open PySem PySem.Spec PyProof.Rows L2
/-- the law called at the heap behind the top: its promise may lean on the base that no one watches -/
theorem law_callS {P : Program} {w : World} {K : PySem.W.Frag} {mg mb : Str → Option Value} {CX : CXT} {k : Nat} {fa a : Addr} {fd : FuncData} {x : Str} {sp : Sp} {t : Shared} {vs : List Value} {ns : List Int}
    (KX : K.In t.heap) (gl : t.heap.Ns mainGlobals mg) (bl : t.heap.Ns builtinsNs mb) (bb : ∀ y : Str, y ≠ "__name__" → mb y = bootBuiltins y) (nl : t.heap.NoLimit) (se : t.heap.NoSeer) (ge : t.gens = #[])
    (ha : t.heap.get? a = some { cls := .type "list", data := .seq vs.toArray }) (hi : IntsAre vs ns) (hl : ns.length ≤ sizeLine) (hr : Room k callerA)
    (F : ∀ base : Heap, K.In base → base.Ns mainGlobals mg → base.NoSeer → FnOk P w K mg base CX k fa fd [x] sp) (bd : ∀ (s : Shared) (u : Value), BindsTo s fd ⟨[u], []⟩ [(x, u)])
    (hsp : ∀ H : Hp, Only H → SqL K H a (ns.map V.int) → sp [.ref a] H (fun v _ => v = .bl true) fun _ _ _ => False)
    (hCX : ∀ H e s', CX [] H t (fun _ _ _ => False) e s' → False) :
    codeAny (model P w) callerA (.call (.ref fa) ⟨[.ref a], []⟩) (fun r s' => r = .ok (.ret (.bool true)) ∧ OldK t.heap s'.heap ∧ s'.os = t.os ∧ AllBare s'.gens) t := by
  have rv := vals_ints hi
  have lv := hi.length
  have core : ∀ H : Hp, Only H → SqL K H a (ns.map V.int) → HOk P w H t.heap → (∀ b, H b ≠ none → b = a) → (H a ≠ none → K.lookup a = none) →
      codeAny (model P w) callerA (.call (.ref fa) ⟨[.ref a], []⟩) (fun r s' => r = .ok (.ret (.bool true)) ∧ OldK t.heap s'.heap ∧ s'.os = t.os ∧ AllBare s'.gens) t := by
    intro H only seq ok own alone
    have free : ∀ {b : Addr} {o : Obj}, t.heap.get? b = some o → o.cls ≠ .type "list" → H b = none := fun {b o} e d => by
      cases q : H b with
      | none => rfl
      | some u =>
        obtain rfl : b = a := own b (by rw [q]; simp)
        rw [ha] at e
        cases e
        exact absurd rfl d
    have freeD : ∀ {b : Addr} {o : Obj} {es : Array DictEntry} {ep : Nat}, t.heap.get? b = some o → o.data = .dict es ep → H b = none := fun {b o es ep} e d => by
      cases q : H b with
      | none => rfl
      | some u =>
        obtain rfl : b = a := own b (by rw [q]; simp)
        rw [ha] at e
        cases e
        have d' : Data.seq vs.toArray _ = Data.dict es ep := d
        cases d'
    have nsB : ∀ {b : Addr} {m : Str → Option Value}, t.heap.Ns b m → (hidT t.heap H).Ns b m := fun {b m} z => let ⟨o, es, ep, e, d, r⟩ := z; ⟨o, es, ep, hidT_get e (freeD e d), d, r⟩
    have kin : K.In (hidT t.heap H) := fun b o e => hidT_get (KX b o e) (by
      cases q : H b with
      | none => rfl
      | some u =>
        obtain rfl : b = a := own b (by rw [q]; simp)
        rw [alone (by rw [q]; simp)] at e
        cases e)
    have seB : (hidT t.heap H).NoSeer := by
      refine ⟨?_, ?_, ?_, ?_⟩
      · obtain ⟨mc, h1, h2⟩ := se.statics; exact ⟨mc, nsB h1, h2⟩
      · obtain ⟨mc, h1, h2⟩ := se.mods; exact ⟨mc, nsB h1, h2⟩
      · obtain ⟨mc, h1, h2⟩ := se.imp; exact ⟨mc, nsB h1, h2⟩
      · obtain ⟨m, bm, ob, h1, h2, h3, h4, h5⟩ := se.main
        exact ⟨m, bm, ob, nsB h1, h2, hidT_get h3 (free h3 (by rw [h4]; decide)), h4, h5⟩
    have md : Mod K mg (hidT t.heap H) := ⟨kin, nsB gl, ⟨mb, nsB bl, bb⟩, let ⟨mc, h1, h2⟩ := nl; ⟨mc, nsB h1, h2⟩⟩
    have env : Env0 P w K mg (hidT t.heap H) callerA [] t H := ⟨rfl, md, fun b o e => of_hidT e, Nat.le_of_eq (hidT_size _ _), trivial, fun b z => absurd (show b ∈ ([] : List Addr) from z) (by simp), ok, .of_eq ge⟩
    refine codeAny_mono ((F _ kin (nsB gl) seB).run callerA [] t H ⟨[.ref a], []⟩ [.ref a] [.ref a] _ _ hr env (bd t (.ref a)) (.cons rfl .nil) (hsp H only seq)) fun r s' h => ?_
    cases r with
    | error e => exact (hCX H e s' h).elim
    | ok fl =>
      cases fl with
      | ret u =>
        obtain ⟨v, H', os, bare, un, ok', r', q⟩ := h
        obtain rfl : v = .bl true := q
        obtain rfl : u = Value.bool true := r'
        refine ⟨rfl, OldK.of_keep fun b o e => ?_, os, bare⟩
        cases q : H b with
        | none => exact un.keep b o e q (fun z => absurd (show b ∈ ([] : List Addr) from z) (by simp)) (by simp)
        | some u =>
          rcases only b with z | ⟨ob, xs, z⟩
          · rw [q] at z; cases z
          · obtain ⟨e1, _⟩ := ok b _ z
            obtain ⟨e2, _⟩ := ok' b _ (un.frzs b ob _ z)
            rw [e] at e1
            cases e1
            exact e2
      | next => exact False.elim h
      | brk => exact False.elim h
      | cont => exact False.elim h
  cases hk : K.lookup a with
  | some o =>
    have e := KX a o hk
    rw [ha] at e
    cases e
    exact core (fun _ => none) (fun _ => .inl rfl) (.inr ⟨_, vs.toArray, _, hk, rfl, rfl, rfl, by rw [List.size_toArray, lv]; exact hl, by simpa using rv⟩) (fun b u z => by
      have z' : (none : Option HO) = some u := z
      cases z') (fun b z => absurd rfl z) fun z => absurd rfl z
  | none =>
    refine core (fun b => if b = a then some (.frz { cls := .type "list", data := .seq vs.toArray } (.lst (ns.map V.int))) else none) (fun b => ?_) (.inl (.inr ⟨{ cls := .type "list", data := .seq vs.toArray }, if_pos rfl⟩)) (fun b u z => ?_) (fun b z => ?_) fun _ => hk
    · by_cases h : b = a
      · exact .inr ⟨_, _, if_pos h⟩
      · exact .inl (if_neg h)
    · by_cases h : b = a
      · have z' := (if_pos h).symm.trans z
        cases z'
        subst h
        exact ⟨ha, by rw [List.length_map]; exact hl, vs, _, rv, ha⟩
      · have z' := (if_neg h).symm.trans z
        cases z'
    · by_cases h : b = a
      · exact h
      · exact absurd (if_neg h) z
theorem walk_ofS {l : PySem.W.OpenLaw} {n k : Nat} {q : Program} {loose : List Str} {XP : (Str → Option Value) → Heap → Prop} {YP : World → Heap → Prop} {d : DefRec} {K : Params → PySem.W.Frag} {CX : World → CXT} {sp : World → Sp} {x : Str}
    (hn : l.most = some n) (hn2 : n ≤ sizeLine) (hdf : d.params.defaults = []) (hr : Room k callerA) (hI : importsNone q = true)
    (hY : ∀ (w : World) (h : Heap), YP w h → (K w.params).In h)
    (F : ∀ (w : World) (mg : Str → Option Value) (fa : Addr) (h : Heap), (K w.params).In h → h.Ns mainGlobals mg → mg d.name = some (.ref fa) →
      ∃ fd : FuncData, (∀ (s : Shared) (u : Value), BindsTo s fd ⟨[u], []⟩ [(x, u)]) ∧ ∀ base : Heap, (K w.params).In base → base.Ns mainGlobals mg → base.NoSeer → FnOk l.prog w (K w.params) mg base (CX w) k fa fd [x] (sp w))
    (hsp : ∀ (w : World) (H : Hp) (a : Addr) (ns : List Int), ns.length ≤ n → Only H → SqL (K w.params) H a (ns.map V.int) → sp w [.ref a] H (fun v _ => v = .bl true) fun _ _ _ => False)
    (hCX : ∀ (w : World) (H : Hp) (s : Shared) (e : Value) (s' : Shared), CX w [] H s (fun _ _ _ => False) e s' → False) :
    PySem.W.WalkO q loose XP YP l.row.toRowW d [] (fun f vs => PySem.call f vs) := by
  refine Att.attach_call hn hdf fun w s₀ t mg mb fa o pm cd doc a vs ns G Y ho hd hcd hmg hobj hints hlen hg => ?_
  have KX := hY w _ Y
  obtain ⟨fd, hb, hF⟩ := F w mg fa _ KX G.T.g hmg
  exact law_callS KX G.T.g G.T.b G.T.builtins G.T.nolimit (G.T.seer hI) hg hobj hints (Nat.le_trans hlen hn2) hr hF hb (fun H hO hS => hsp w H a ns hlen hO hS) fun H e s' => hCX w H t e s'
end Y
/-! the end -/
namespace K23
open PySem PySem.Spec PyProof.Rows L2 Y L2H NdefX
/-- what super() finds, from what the base finds -/
theorem sup_in {K : PySem.W.Frag} {C M N NM : Addr} {nm q nmM qM : Str} {bs bm bsM bmM : List Value} {sn snM : List Str} {sub subM : List Value} {hd hdM ab abM : Bool} {col colM : Option Bool} {dd ddM : Option Addr} {m0 m1 m2 m3 m5 n0 n1 n2 n3 n5 : Option Value} {i j : String} {x : Str} {r : Option (Option Value)}
    (xL : K.lookup C = some (excClassObj nm q C N bs bm hd sn sub ab col dd m0 m1 m2 m3 m5 i)) (xM : K.lookup M = some (excClassObj nmM qM M NM bsM bmM hdM snM subM abM colM ddM n0 n1 n2 n3 n5 j)) (hb : bm = .ref M :: bmM) (h : PySem.W.findIn K (.ref M) x = r) : PySem.W.ks_superIn K C C x = r := by
  rw [← h]
  have e1 : PySem.W.findIn K (.ref M) x = PySem.W.alongIn K x (.ref M :: bmM) := by
    unfold PySem.W.findIn
    dsimp only
    rw [xM]
  rw [e1, ← hb]
  unfold PySem.W.ks_superIn PySem.W.clsIn
  rw [xL]
  show PySem.W.alongIn K x (((Value.ref C :: bm).dropWhile (· != .ref C)).drop 1) = _
  rw [List.dropWhile_cons, if_neg (by simp)]
  rfl
theorem kit_ref {K : PySem.W.Frag} {M NM : Addr} {t : Value} {nmM qM : Str} {bsM bmM : List Value} {snM : List Str} {subM : List Value} {hdM abM : Bool} {colM : Option Bool} {ddM : Option Addr} {n0 n1 n2 n3 n5 : Option Value} {j : String}
    (xM : K.lookup M = some (excClassObj nmM qM M NM bsM bmM hdM snM subM abM colM ddM n0 n1 n2 n3 n5 j)) (h1 : PySem.W.typeIn K (.ref M) = some (.type "type")) (h2 : PySem.W.subIn K t (.ref M) = some true) : PySem.W.kitOne K t (.ref M) = some true := by
  unfold PySem.W.kitOne
  split
  · rfl
  · show (if ((PySem.W.clsIn K M).isSome && PySem.W.typeIn K (.ref M) == some (.type "type")) = true then PySem.W.subIn K t (.ref M) else none) = some true
    have e1 : (PySem.W.clsIn K M).isSome = true := by unfold PySem.W.clsIn; rw [xM] <;> rfl
    rw [e1, h1, h2]
    rfl
theorem all_mk {l : PySem.W.OpenLaw} {w : World} {K : PySem.W.Frag} {h : Heap} {mg : Str → Option Value} {fa : Addr} (X : K.In h) (G : h.Ns mainGlobals mg) (hfa : mg "law" = some (.ref fa)) (hpt : l.prog.given.tree = none)
    {f_v0 : Addr} {od_v0 an_v0 : Option Addr} {sl_v0 : Array (Option Value)} {oc_v0 kV_v0 dc_v0 pm_v0 cd_v0 ct_v0 : Value}
    {f_v1 : Addr} {od_v1 an_v1 : Option Addr} {sl_v1 : Array (Option Value)} {oc_v1 kV_v1 dc_v1 pm_v1 cd_v1 ct_v1 : Value}
    {f_v2 : Addr} {od_v2 an_v2 : Option Addr} {sl_v2 : Array (Option Value)} {oc_v2 kV_v2 dc_v2 pm_v2 cd_v2 ct_v2 : Value}
    {f_v3 : Addr} {od_v3 an_v3 : Option Addr} {sl_v3 : Array (Option Value)} {oc_v3 kV_v3 dc_v3 pm_v3 cd_v3 ct_v3 : Value}
    {f_v4 : Addr} {od_v4 an_v4 : Option Addr} {sl_v4 : Array (Option Value)} {oc_v4 kV_v4 dc_v4 pm_v4 cd_v4 ct_v4 : Value}
    {f_v5 : Addr} {od_v5 an_v5 : Option Addr} {sl_v5 : Array (Option Value)} {oc_v5 kV_v5 dc_v5 pm_v5 cd_v5 ct_v5 : Value}
    {f_v6 : Addr} {od_v6 an_v6 : Option Addr} {sl_v6 : Array (Option Value)} {oc_v6 kV_v6 dc_v6 pm_v6 cd_v6 ct_v6 : Value}
    {f_v7 : Addr} {od_v7 an_v7 : Option Addr} {sl_v7 : Array (Option Value)} {oc_v7 kV_v7 dc_v7 pm_v7 cd_v7 ct_v7 : Value}
    {f_v8 : Addr} {od_v8 an_v8 : Option Addr} {sl_v8 : Array (Option Value)} {oc_v8 kV_v8 dc_v8 pm_v8 cd_v8 ct_v8 : Value}
    {f_v9 : Addr} {od_v9 an_v9 : Option Addr} {sl_v9 : Array (Option Value)} {oc_v9 kV_v9 dc_v9 pm_v9 cd_v9 ct_v9 : Value}
    {f_v10 : Addr} {od_v10 an_v10 : Option Addr} {sl_v10 : Array (Option Value)} {oc_v10 kV_v10 dc_v10 pm_v10 cd_v10 ct_v10 : Value}
    {f_v11 : Addr} {od_v11 an_v11 : Option Addr} {sl_v11 : Array (Option Value)} {oc_v11 kV_v11 dc_v11 pm_v11 cd_v11 ct_v11 : Value}
    {f_v12 : Addr} {od_v12 an_v12 : Option Addr} {sl_v12 : Array (Option Value)} {oc_v12 kV_v12 dc_v12 pm_v12 cd_v12 ct_v12 : Value}
    {f_v13 : Addr} {od_v13 an_v13 : Option Addr} {sl_v13 : Array (Option Value)} {oc_v13 kV_v13 dc_v13 pm_v13 cd_v13 ct_v13 : Value}
    {f_v14 : Addr} {od_v14 an_v14 : Option Addr} {sl_v14 : Array (Option Value)} {oc_v14 kV_v14 dc_v14 pm_v14 cd_v14 ct_v14 : Value}
    {f_v15 : Addr} {od_v15 an_v15 : Option Addr} {sl_v15 : Array (Option Value)} {oc_v15 kV_v15 dc_v15 pm_v15 cd_v15 ct_v15 : Value}
    {f_v16 : Addr} {od_v16 an_v16 : Option Addr} {sl_v16 : Array (Option Value)} {oc_v16 kV_v16 dc_v16 pm_v16 cd_v16 ct_v16 : Value}
    {f_v17 : Addr} {od_v17 an_v17 : Option Addr} {sl_v17 : Array (Option Value)} {oc_v17 kV_v17 dc_v17 pm_v17 cd_v17 ct_v17 : Value}
    {f_v18 : Addr} {od_v18 an_v18 : Option Addr} {sl_v18 : Array (Option Value)} {oc_v18 kV_v18 dc_v18 pm_v18 cd_v18 ct_v18 : Value}
    {f_v19 : Addr} {od_v19 an_v19 : Option Addr} {sl_v19 : Array (Option Value)} {oc_v19 kV_v19 dc_v19 pm_v19 cd_v19 ct_v19 : Value}
    {f_v20 : Addr} {od_v20 an_v20 : Option Addr} {sl_v20 : Array (Option Value)} {oc_v20 kV_v20 dc_v20 pm_v20 cd_v20 ct_v20 : Value}
    {f_v21 : Addr} {od_v21 an_v21 : Option Addr} {sl_v21 : Array (Option Value)} {oc_v21 kV_v21 dc_v21 pm_v21 cd_v21 ct_v21 : Value}
    {f_v22 : Addr} {od_v22 an_v22 : Option Addr} {sl_v22 : Array (Option Value)} {oc_v22 kV_v22 dc_v22 pm_v22 cd_v22 ct_v22 : Value}
    {f_v23 : Addr} {od_v23 an_v23 : Option Addr} {sl_v23 : Array (Option Value)} {oc_v23 kV_v23 dc_v23 pm_v23 cd_v23 ct_v23 : Value}
    {f_v24 : Addr} {od_v24 an_v24 : Option Addr} {sl_v24 : Array (Option Value)} {oc_v24 kV_v24 dc_v24 pm_v24 cd_v24 ct_v24 : Value}
    {f_v25 : Addr} {od_v25 an_v25 : Option Addr} {sl_v25 : Array (Option Value)} {oc_v25 kV_v25 dc_v25 pm_v25 cd_v25 ct_v25 : Value}
    {f_v26 : Addr} {od_v26 an_v26 : Option Addr} {sl_v26 : Array (Option Value)} {oc_v26 kV_v26 dc_v26 pm_v26 cd_v26 ct_v26 : Value}
    {C M f1 cc cda N NM : Addr} {nm q nmM qM : Str} {bs bm bsM bmM : List Value} {sn snM : List Str} {sub subM : List Value} {ab abM hdM : Bool} {colM : Option Bool} {ddM : Option Addr} {n0 n1 n2 n3 n5 : Option Value} {col : Option Bool} {dd od1 an1 dc2 dk : Option Addr} {m0 m1 m2 m3 m5 : Option Value} {sl1 sl2 sl3 : Array (Option Value)} {oc1 kV1 dc1 pm1 ct1 oc2 oc3 : Value} {vs1 : Array Value} {fl : Str} {tf : Tok}
    (a_v0 : PySem.W.nsIn K mainGlobals "is_whole" = some (some (.ref f_v0)))
    (l_v0 : K.lookup f_v0 = some ⟨oc_v0, od_v0, .func (PySem.W.fnOf "is_whole" "is_whole" (defArgs s_is_whole) (defBody s_is_whole) (defScope s_is_whole) .none kV_v0 dc_v0 pm_v0 an_v0 cd_v0 ct_v0), sl_v0⟩)
    (c_v0 : PySem.W.codeIn K cd_v0 "is_whole" = true)
    (k_v0 : PySem.W.keepIn K (.ref f_v0) = true)
    (a_v1 : PySem.W.nsIn K mainGlobals "is_vector" = some (some (.ref f_v1)))
    (l_v1 : K.lookup f_v1 = some ⟨oc_v1, od_v1, .func (PySem.W.fnOf "is_vector" "is_vector" (defArgs s_is_vector) (defBody s_is_vector) (defScope s_is_vector) .none kV_v1 dc_v1 pm_v1 an_v1 cd_v1 ct_v1), sl_v1⟩)
    (c_v1 : PySem.W.codeIn K cd_v1 "is_vector" = true)
    (k_v1 : PySem.W.keepIn K (.ref f_v1) = true)
    (a_v2 : PySem.W.nsIn K mainGlobals "dot" = some (some (.ref f_v2)))
    (l_v2 : K.lookup f_v2 = some ⟨oc_v2, od_v2, .func (PySem.W.fnOf "dot" "dot" (defArgs s_dot) (defBody s_dot) (defScope s_dot) .none kV_v2 dc_v2 pm_v2 an_v2 cd_v2 ct_v2), sl_v2⟩)
    (c_v2 : PySem.W.codeIn K cd_v2 "dot" = true)
    (k_v2 : PySem.W.keepIn K (.ref f_v2) = true)
    (a_v3 : PySem.W.nsIn K mainGlobals "_take" = some (some (.ref f_v3)))
    (l_v3 : K.lookup f_v3 = some ⟨oc_v3, od_v3, .func (PySem.W.fnOf "_take" "_take" (defArgs s__take) (defBody s__take) (defScope s__take) .none kV_v3 dc_v3 pm_v3 an_v3 cd_v3 ct_v3), sl_v3⟩)
    (c_v3 : PySem.W.codeIn K cd_v3 "_take" = true)
    (k_v3 : PySem.W.keepIn K (.ref f_v3) = true)
    (a_v4 : PySem.W.nsIn K mainGlobals "_smallest" = some (some (.ref f_v4)))
    (l_v4 : K.lookup f_v4 = some ⟨oc_v4, od_v4, .func (PySem.W.fnOf "_smallest" "_smallest" (defArgs s__smallest) (defBody s__smallest) (defScope s__smallest) .none kV_v4 dc_v4 pm_v4 an_v4 cd_v4 ct_v4), sl_v4⟩)
    (c_v4 : PySem.W.codeIn K cd_v4 "_smallest" = true)
    (k_v4 : PySem.W.keepIn K (.ref f_v4) = true)
    (a_v5 : PySem.W.nsIn K mainGlobals "_cleared" = some (some (.ref f_v5)))
    (l_v5 : K.lookup f_v5 = some ⟨oc_v5, od_v5, .func (PySem.W.fnOf "_cleared" "_cleared" (defArgs s__cleared) (defBody s__cleared) (defScope s__cleared) .none kV_v5 dc_v5 pm_v5 an_v5 cd_v5 ct_v5), sl_v5⟩)
    (c_v5 : PySem.W.codeIn K cd_v5 "_cleared" = true)
    (k_v5 : PySem.W.keepIn K (.ref f_v5) = true)
    (a_v6 : PySem.W.nsIn K mainGlobals "_unit_lines" = some (some (.ref f_v6)))
    (l_v6 : K.lookup f_v6 = some ⟨oc_v6, od_v6, .func (PySem.W.fnOf "_unit_lines" "_unit_lines" (defArgs s__unit_lines) (defBody s__unit_lines) (defScope s__unit_lines) .none kV_v6 dc_v6 pm_v6 an_v6 cd_v6 ct_v6), sl_v6⟩)
    (c_v6 : PySem.W.codeIn K cd_v6 "_unit_lines" = true)
    (k_v6 : PySem.W.keepIn K (.ref f_v6) = true)
    (a_v7 : PySem.W.nsIn K mainGlobals "reduced" = some (some (.ref f_v7)))
    (l_v7 : K.lookup f_v7 = some ⟨oc_v7, od_v7, .func (PySem.W.fnOf "reduced" "reduced" (defArgs s_reduced) (defBody s_reduced) (defScope s_reduced) .none kV_v7 dc_v7 pm_v7 an_v7 cd_v7 ct_v7), sl_v7⟩)
    (c_v7 : PySem.W.codeIn K cd_v7 "reduced" = true)
    (k_v7 : PySem.W.keepIn K (.ref f_v7) = true)
    (a_v8 : PySem.W.nsIn K mainGlobals "forms" = some (some (.ref f_v8)))
    (l_v8 : K.lookup f_v8 = some ⟨oc_v8, od_v8, .func (PySem.W.fnOf "forms" "forms" (defArgs s_forms) (defBody s_forms) (defScope s_forms) .none kV_v8 dc_v8 pm_v8 an_v8 cd_v8 ct_v8), sl_v8⟩)
    (c_v8 : PySem.W.codeIn K cd_v8 "forms" = true)
    (k_v8 : PySem.W.keepIn K (.ref f_v8) = true)
    (a_v9 : PySem.W.nsIn K mainGlobals "_law_mixed" = some (some (.ref f_v9)))
    (l_v9 : K.lookup f_v9 = some ⟨oc_v9, od_v9, .func (PySem.W.fnOf "_law_mixed" "_law_mixed" (defArgs s__law_mixed) (defBody s__law_mixed) (defScope s__law_mixed) .none kV_v9 dc_v9 pm_v9 an_v9 cd_v9 ct_v9), sl_v9⟩)
    (c_v9 : PySem.W.codeIn K cd_v9 "_law_mixed" = true)
    (k_v9 : PySem.W.keepIn K (.ref f_v9) = true)
    (a_v10 : PySem.W.nsIn K mainGlobals "_law_box" = some (some (.ref f_v10)))
    (l_v10 : K.lookup f_v10 = some ⟨oc_v10, od_v10, .func (PySem.W.fnOf "_law_box" "_law_box" (defArgs s__law_box) (defBody s__law_box) (defScope s__law_box) .none kV_v10 dc_v10 pm_v10 an_v10 cd_v10 ct_v10), sl_v10⟩)
    (c_v10 : PySem.W.codeIn K cd_v10 "_law_box" = true)
    (k_v10 : PySem.W.keepIn K (.ref f_v10) = true)
    (a_v11 : PySem.W.nsIn K mainGlobals "_law_take" = some (some (.ref f_v11)))
    (l_v11 : K.lookup f_v11 = some ⟨oc_v11, od_v11, .func (PySem.W.fnOf "_law_take" "_law_take" (defArgs s__law_take) (defBody s__law_take) (defScope s__law_take) .none kV_v11 dc_v11 pm_v11 an_v11 cd_v11 ct_v11), sl_v11⟩)
    (c_v11 : PySem.W.codeIn K cd_v11 "_law_take" = true)
    (k_v11 : PySem.W.keepIn K (.ref f_v11) = true)
    (a_v12 : PySem.W.nsIn K mainGlobals "_law_is_integer" = some (some (.ref f_v12)))
    (l_v12 : K.lookup f_v12 = some ⟨oc_v12, od_v12, .func (PySem.W.fnOf "_law_is_integer" "_law_is_integer" (defArgs s__law_is_integer) (defBody s__law_is_integer) (defScope s__law_is_integer) .none kV_v12 dc_v12 pm_v12 an_v12 cd_v12 ct_v12), sl_v12⟩)
    (c_v12 : PySem.W.codeIn K cd_v12 "_law_is_integer" = true)
    (k_v12 : PySem.W.keepIn K (.ref f_v12) = true)
    (a_v13 : PySem.W.nsIn K mainGlobals "_law_integers" = some (some (.ref f_v13)))
    (l_v13 : K.lookup f_v13 = some ⟨oc_v13, od_v13, .func (PySem.W.fnOf "_law_integers" "_law_integers" (defArgs s__law_integers) (defBody s__law_integers) (defScope s__law_integers) .none kV_v13 dc_v13 pm_v13 an_v13 cd_v13 ct_v13), sl_v13⟩)
    (c_v13 : PySem.W.codeIn K cd_v13 "_law_integers" = true)
    (k_v13 : PySem.W.keepIn K (.ref f_v13) = true)
    (a_v14 : PySem.W.nsIn K mainGlobals "_law_product" = some (some (.ref f_v14)))
    (l_v14 : K.lookup f_v14 = some ⟨oc_v14, od_v14, .func (PySem.W.fnOf "_law_product" "_law_product" (defArgs s__law_product) (defBody s__law_product) (defScope s__law_product) .none kV_v14 dc_v14 pm_v14 an_v14 cd_v14 ct_v14), sl_v14⟩)
    (c_v14 : PySem.W.codeIn K cd_v14 "_law_product" = true)
    (k_v14 : PySem.W.keepIn K (.ref f_v14) = true)
    (a_v15 : PySem.W.nsIn K mainGlobals "_law_vector" = some (some (.ref f_v15)))
    (l_v15 : K.lookup f_v15 = some ⟨oc_v15, od_v15, .func (PySem.W.fnOf "_law_vector" "_law_vector" (defArgs s__law_vector) (defBody s__law_vector) (defScope s__law_vector) .none kV_v15 dc_v15 pm_v15 an_v15 cd_v15 ct_v15), sl_v15⟩)
    (c_v15 : PySem.W.codeIn K cd_v15 "_law_vector" = true)
    (k_v15 : PySem.W.keepIn K (.ref f_v15) = true)
    (a_v16 : PySem.W.nsIn K mainGlobals "_law_mixture" = some (some (.ref f_v16)))
    (l_v16 : K.lookup f_v16 = some ⟨oc_v16, od_v16, .func (PySem.W.fnOf "_law_mixture" "_law_mixture" (defArgs s__law_mixture) (defBody s__law_mixture) (defScope s__law_mixture) .none kV_v16 dc_v16 pm_v16 an_v16 cd_v16 ct_v16), sl_v16⟩)
    (c_v16 : PySem.W.codeIn K cd_v16 "_law_mixture" = true)
    (k_v16 : PySem.W.keepIn K (.ref f_v16) = true)
    (a_v17 : PySem.W.nsIn K mainGlobals "_law_vectors" = some (some (.ref f_v17)))
    (l_v17 : K.lookup f_v17 = some ⟨oc_v17, od_v17, .func (PySem.W.fnOf "_law_vectors" "_law_vectors" (defArgs s__law_vectors) (defBody s__law_vectors) (defScope s__law_vectors) .none kV_v17 dc_v17 pm_v17 an_v17 cd_v17 ct_v17), sl_v17⟩)
    (c_v17 : PySem.W.codeIn K cd_v17 "_law_vectors" = true)
    (k_v17 : PySem.W.keepIn K (.ref f_v17) = true)
    (a_v18 : PySem.W.nsIn K mainGlobals "_law_less" = some (some (.ref f_v18)))
    (l_v18 : K.lookup f_v18 = some ⟨oc_v18, od_v18, .func (PySem.W.fnOf "_law_less" "_law_less" (defArgs s__law_less) (defBody s__law_less) (defScope s__law_less) .none kV_v18 dc_v18 pm_v18 an_v18 cd_v18 ct_v18), sl_v18⟩)
    (c_v18 : PySem.W.codeIn K cd_v18 "_law_less" = true)
    (k_v18 : PySem.W.keepIn K (.ref f_v18) = true)
    (a_v19 : PySem.W.nsIn K mainGlobals "_law_rank" = some (some (.ref f_v19)))
    (l_v19 : K.lookup f_v19 = some ⟨oc_v19, od_v19, .func (PySem.W.fnOf "_law_rank" "_law_rank" (defArgs s__law_rank) (defBody s__law_rank) (defScope s__law_rank) .none kV_v19 dc_v19 pm_v19 an_v19 cd_v19 ct_v19), sl_v19⟩)
    (c_v19 : PySem.W.codeIn K cd_v19 "_law_rank" = true)
    (k_v19 : PySem.W.keepIn K (.ref f_v19) = true)
    (a_v20 : PySem.W.nsIn K mainGlobals "_law_matrix" = some (some (.ref f_v20)))
    (l_v20 : K.lookup f_v20 = some ⟨oc_v20, od_v20, .func (PySem.W.fnOf "_law_matrix" "_law_matrix" (defArgs s__law_matrix) (defBody s__law_matrix) (defScope s__law_matrix) .none kV_v20 dc_v20 pm_v20 an_v20 cd_v20 ct_v20), sl_v20⟩)
    (c_v20 : PySem.W.codeIn K cd_v20 "_law_matrix" = true)
    (k_v20 : PySem.W.keepIn K (.ref f_v20) = true)
    (a_v21 : PySem.W.nsIn K mainGlobals "_law_column" = some (some (.ref f_v21)))
    (l_v21 : K.lookup f_v21 = some ⟨oc_v21, od_v21, .func (PySem.W.fnOf "_law_column" "_law_column" (defArgs s__law_column) (defBody s__law_column) (defScope s__law_column) .none kV_v21 dc_v21 pm_v21 an_v21 cd_v21 ct_v21), sl_v21⟩)
    (c_v21 : PySem.W.codeIn K cd_v21 "_law_column" = true)
    (k_v21 : PySem.W.keepIn K (.ref f_v21) = true)
    (a_v22 : PySem.W.nsIn K mainGlobals "_law_right" = some (some (.ref f_v22)))
    (l_v22 : K.lookup f_v22 = some ⟨oc_v22, od_v22, .func (PySem.W.fnOf "_law_right" "_law_right" (defArgs s__law_right) (defBody s__law_right) (defScope s__law_right) .none kV_v22 dc_v22 pm_v22 an_v22 cd_v22 ct_v22), sl_v22⟩)
    (c_v22 : PySem.W.codeIn K cd_v22 "_law_right" = true)
    (k_v22 : PySem.W.keepIn K (.ref f_v22) = true)
    (a_v23 : PySem.W.nsIn K mainGlobals "_law_point" = some (some (.ref f_v23)))
    (l_v23 : K.lookup f_v23 = some ⟨oc_v23, od_v23, .func (PySem.W.fnOf "_law_point" "_law_point" (defArgs s__law_point) (defBody s__law_point) (defScope s__law_point) .none kV_v23 dc_v23 pm_v23 an_v23 cd_v23 ct_v23), sl_v23⟩)
    (c_v23 : PySem.W.codeIn K cd_v23 "_law_point" = true)
    (k_v23 : PySem.W.keepIn K (.ref f_v23) = true)
    (a_v24 : PySem.W.nsIn K mainGlobals "_law_wrong" = some (some (.ref f_v24)))
    (l_v24 : K.lookup f_v24 = some ⟨oc_v24, od_v24, .func (PySem.W.fnOf "_law_wrong" "_law_wrong" (defArgs s__law_wrong) (defBody s__law_wrong) (defScope s__law_wrong) .none kV_v24 dc_v24 pm_v24 an_v24 cd_v24 ct_v24), sl_v24⟩)
    (c_v24 : PySem.W.codeIn K cd_v24 "_law_wrong" = true)
    (k_v24 : PySem.W.keepIn K (.ref f_v24) = true)
    (a_v25 : PySem.W.nsIn K mainGlobals "_law_refused" = some (some (.ref f_v25)))
    (l_v25 : K.lookup f_v25 = some ⟨oc_v25, od_v25, .func (PySem.W.fnOf "_law_refused" "_law_refused" (defArgs s__law_refused) (defBody s__law_refused) (defScope s__law_refused) .none kV_v25 dc_v25 pm_v25 an_v25 cd_v25 ct_v25), sl_v25⟩)
    (c_v25 : PySem.W.codeIn K cd_v25 "_law_refused" = true)
    (k_v25 : PySem.W.keepIn K (.ref f_v25) = true)
    (a_v26 : PySem.W.nsIn K mainGlobals "law" = some (some (.ref f_v26)))
    (l_v26 : K.lookup f_v26 = some ⟨oc_v26, od_v26, .func (PySem.W.fnOf "law" "law" (defArgs s_law) (defBody s_law) (defScope s_law) .none kV_v26 dc_v26 pm_v26 an_v26 cd_v26 ct_v26), sl_v26⟩)
    (c_v26 : PySem.W.codeIn K cd_v26 "law" = true)
    (k_v26 : PySem.W.keepIn K (.ref f_v26) = true)
    (b_int : PySem.W.nsIn K mainGlobals "int" = some none)
    (b_len : PySem.W.nsIn K mainGlobals "len" = some none)
    (b_range : PySem.W.nsIn K mainGlobals "range" = some none)
    (b_isinstance : PySem.W.nsIn K mainGlobals "isinstance" = some none)
    (b_abs : PySem.W.nsIn K mainGlobals "abs" = some none)
    (b_zip : PySem.W.nsIn K mainGlobals "zip" = some none)
    (b_sum : PySem.W.nsIn K mainGlobals "sum" = some none)
    (b_all : PySem.W.nsIn K mainGlobals "all" = some none)
    (b_tuple : PySem.W.nsIn K mainGlobals "tuple" = some none)
    (b_list : PySem.W.nsIn K mainGlobals "list" = some none)
    (b_bool : PySem.W.nsIn K mainGlobals "bool" = some none)
    (b_max : PySem.W.nsIn K mainGlobals "max" = some none)
    (b_min : PySem.W.nsIn K mainGlobals "min" = some none)
    (bsup : PySem.W.nsIn K mainGlobals "super" = some none)
    (aC : PySem.W.nsIn K mainGlobals "BadRows" = some (some (.ref C)))
    (aM : PySem.W.nsIn K mainGlobals "MixError" = some (some (.ref M)))
    (xL : K.lookup C = some (excClassObj nm q C N bs bm true sn sub ab col dd m0 m1 m2 m3 m5 "ValueError.__new__"))
    (xR : PySem.HandSPX.refsVE bm = true)
    (sa : PySem.W.findIn K (.ref C) "__setattr__" = some (some (.builtin "object.__setattr__")))
    (ga : PySem.W.findIn K (.ref C) "__getattribute__" = some (some (.builtin "BaseException.__getattribute__")))
    (gg : PySem.W.findIn K (.ref C) "__getattr__" = some none)
    (gc : PySem.W.findIn K (.ref C) "__class__" = some (some (.builtin "object.__class__")))
    (gr : PySem.W.findIn K (.ref C) "row" = some none)
    (sn : PySem.W.specialIn K (.builtin "object.__class__") "__get__" = some (some (.builtin "getset_descriptor.__get__")))
    (tk : PySem.W.takesIn K (.builtin "object.__class__") = some true)
    (eC : PySem.W.subIn K (.ref C) (.type "BaseException") = some true)
    (eV : PySem.W.subIn K (.ref C) (.type "ValueError") = some true)
    (eS : PySem.W.subIn K (.ref C) (.ref C) = some true)
    (tC : PySem.W.typeIn K (.ref C) = some (.type "type"))
    (hC : PySem.W.hasDictIn K C = true)
    (kC : PySem.W.keepIn K (.ref C) = true)
    (mO : PySem.W.mroIn K C (.type "object") = some true)
    (mC : PySem.W.mroIn K C (.ref C) = some true)
    (eM : PySem.W.subIn K (.ref C) (.ref M) = some true)
    (tM : PySem.W.typeIn K (.ref M) = some (.type "type"))
    (xM : K.lookup M = some (excClassObj nmM qM M NM bsM bmM hdM snM subM abM colM ddM n0 n1 n2 n3 n5 "ValueError.__new__"))
    (bM : bm = .ref M :: bmM)
    (iM : PySem.W.findIn K (.ref M) "__init__" = some (some (.builtin "ValueError.__init__")))
    (iC : PySem.W.findIn K (.ref C) "__init__" = some (some (.ref f1)))
    (t1 : PySem.W.typeIn K (.ref f1) = some (.type "function"))
    (l1 : K.lookup f1 = some ⟨oc1, od1, .func (PySem.W.fnX "__init__" "BadRows.__init__" (defArgs s_init) (defBody s_init) (defScope s_init) (cl1 cc) .none kV1 dc1 pm1 an1 (.ref cda) ct1), sl1⟩)
    (c1 : PySem.W.codeIn K (.ref cda) "BadRows.__init__" = true)
    (l2 : K.lookup cda = some ⟨oc2, dc2, .fields vs1, sl2⟩)
    (l3 : K.lookup cc = some ⟨oc3, dk, .cell (some (.ref C)), sl3⟩)
    (v2 : vs1[2]? = some (.str fl tf))
    (pf : ((l.prog.main.file : Str) == fl) = true)
    (pt : (l.prog.main.scope.names.lookup ("super" : Str)).isSome = false)
    (so : PySem.W.nsIn K cStatics "thirdparty.any" = some none) :
    ∃ fd : FuncData, (∀ (s : Shared) (v : Value), BindsTo s fd ⟨[v], []⟩ [("script", v)]) ∧ ∀ base : Heap, K.In base → base.Ns mainGlobals mg → base.NoSeer → FnOk l.prog w K mg base CX0 51 fa fd ["script"] (sp_law (K := K)) := by
  have e := hfa.symm.trans (PySem.W.mg_of X G a_v26)
  cases e
  have B : Bi mg := ⟨PySem.W.mg_none_of X G b_int, PySem.W.mg_none_of X G b_len, PySem.W.mg_none_of X G b_range, PySem.W.mg_none_of X G b_isinstance, PySem.W.mg_none_of X G b_abs, PySem.W.mg_none_of X G b_zip, PySem.W.mg_none_of X G b_sum, PySem.W.mg_none_of X G b_all, PySem.W.mg_none_of X G b_tuple, PySem.W.mg_none_of X G b_list, PySem.W.mg_none_of X G b_bool, PySem.W.mg_none_of X G b_max, PySem.W.mg_none_of X G b_min⟩
  have F_v0 := fun_mk (st := s_is_whole) l_v0 c_v0 k_v0
  have B_v0 := F_v0.binds (ps := ["worth"]) fun _ _ _ _ _ _ us hl => match us, hl with | [_], _ => rfl
  have F_v1 := fun_mk (st := s_is_vector) l_v1 c_v1 k_v1
  have B_v1 := F_v1.binds (ps := ["worth", "many"]) fun _ _ _ _ _ _ us hl => match us, hl with | [_, _], _ => rfl
  have F_v2 := fun_mk (st := s_dot) l_v2 c_v2 k_v2
  have B_v2 := F_v2.binds (ps := ["left", "right"]) fun _ _ _ _ _ _ us hl => match us, hl with | [_, _], _ => rfl
  have F_v3 := fun_mk (st := s__take) l_v3 c_v3 k_v3
  have B_v3 := F_v3.binds (ps := ["lines", "columns", "source", "target", "times"]) fun _ _ _ _ _ _ us hl => match us, hl with | [_, _, _, _, _], _ => rfl
  have F_v4 := fun_mk (st := s__smallest) l_v4 c_v4 k_v4
  have B_v4 := F_v4.binds (ps := ["products", "start"]) fun _ _ _ _ _ _ us hl => match us, hl with | [_, _], _ => rfl
  have F_v5 := fun_mk (st := s__cleared) l_v5 c_v5 k_v5
  have B_v5 := F_v5.binds (ps := ["lines", "columns", "rank", "vector"]) fun _ _ _ _ _ _ us hl => match us, hl with | [_, _, _, _], _ => rfl
  have F_v6 := fun_mk (st := s__unit_lines) l_v6 c_v6 k_v6
  have B_v6 := F_v6.binds (ps := ["many"]) fun _ _ _ _ _ _ us hl => match us, hl with | [_], _ => rfl
  have F_v7 := fun_mk (st := s_reduced) l_v7 c_v7 k_v7
  have B_v7 := F_v7.binds (ps := ["vectors", "many"]) fun _ _ _ _ _ _ us hl => match us, hl with | [_, _], _ => rfl
  have F_v8 := fun_mk (st := s_forms) l_v8 c_v8 k_v8
  have B_v8 := F_v8.binds (ps := ["vectors", "many"]) fun _ _ _ _ _ _ us hl => match us, hl with | [_, _], _ => rfl
  have F_v9 := fun_mk (st := s__law_mixed) l_v9 c_v9 k_v9
  have B_v9 := F_v9.binds (ps := ["seed", "turn"]) fun _ _ _ _ _ _ us hl => match us, hl with | [_, _], _ => rfl
  have F_v10 := fun_mk (st := s__law_box) l_v10 c_v10 k_v10
  have B_v10 := F_v10.binds (ps := ["script"]) fun _ _ _ _ _ _ us hl => match us, hl with | [_], _ => rfl
  have F_v11 := fun_mk (st := s__law_take) l_v11 c_v11 k_v11
  have B_v11 := F_v11.binds (ps := ["box", "size"]) fun _ _ _ _ _ _ us hl => match us, hl with | [_, _], _ => rfl
  have F_v12 := fun_mk (st := s__law_is_integer) l_v12 c_v12 k_v12
  have B_v12 := F_v12.binds (ps := ["thing"]) fun _ _ _ _ _ _ us hl => match us, hl with | [_], _ => rfl
  have F_v13 := fun_mk (st := s__law_integers) l_v13 c_v13 k_v13
  have B_v13 := F_v13.binds (ps := ["thing", "size"]) fun _ _ _ _ _ _ us hl => match us, hl with | [_, _], _ => rfl
  have F_v14 := fun_mk (st := s__law_product) l_v14 c_v14 k_v14
  have B_v14 := F_v14.binds (ps := ["left", "right"]) fun _ _ _ _ _ _ us hl => match us, hl with | [_, _], _ => rfl
  have F_v15 := fun_mk (st := s__law_vector) l_v15 c_v15 k_v15
  have B_v15 := F_v15.binds (ps := ["box", "many", "wide"]) fun _ _ _ _ _ _ us hl => match us, hl with | [_, _, _], _ => rfl
  have F_v16 := fun_mk (st := s__law_mixture) l_v16 c_v16 k_v16
  have B_v16 := F_v16.binds (ps := ["box", "many", "some"]) fun _ _ _ _ _ _ us hl => match us, hl with | [_, _, _], _ => rfl
  have F_v17 := fun_mk (st := s__law_vectors) l_v17 c_v17 k_v17
  have B_v17 := F_v17.binds (ps := ["box", "many"]) fun _ _ _ _ _ _ us hl => match us, hl with | [_, _], _ => rfl
  have F_v18 := fun_mk (st := s__law_less) l_v18 c_v18 k_v18
  have B_v18 := F_v18.binds (ps := ["one", "pivot", "at"]) fun _ _ _ _ _ _ us hl => match us, hl with | [_, _, _], _ => rfl
  have F_v19 := fun_mk (st := s__law_rank) l_v19 c_v19 k_v19
  have B_v19 := F_v19.binds (ps := ["vectors", "many"]) fun _ _ _ _ _ _ us hl => match us, hl with | [_, _], _ => rfl
  have F_v20 := fun_mk (st := s__law_matrix) l_v20 c_v20 k_v20
  have B_v20 := F_v20.binds (ps := ["thing", "many"]) fun _ _ _ _ _ _ us hl => match us, hl with | [_, _], _ => rfl
  have F_v21 := fun_mk (st := s__law_column) l_v21 c_v21 k_v21
  have B_v21 := F_v21.binds (ps := ["matrix", "at"]) fun _ _ _ _ _ _ us hl => match us, hl with | [_, _], _ => rfl
  have F_v22 := fun_mk (st := s__law_right) l_v22 c_v22 k_v22
  have B_v22 := F_v22.binds (ps := ["vectors", "many", "answer"]) fun _ _ _ _ _ _ us hl => match us, hl with | [_, _, _], _ => rfl
  have F_v23 := fun_mk (st := s__law_point) l_v23 c_v23 k_v23
  have B_v23 := F_v23.binds (ps := ["answer", "worths"]) fun _ _ _ _ _ _ us hl => match us, hl with | [_, _], _ => rfl
  have F_v24 := fun_mk (st := s__law_wrong) l_v24 c_v24 k_v24
  have B_v24 := F_v24.binds (ps := ["box", "many"]) fun _ _ _ _ _ _ us hl => match us, hl with | [_, _], _ => rfl
  have F_v25 := fun_mk (st := s__law_refused) l_v25 c_v25 k_v25
  have B_v25 := F_v25.binds (ps := ["box", "many", "vectors"]) fun _ _ _ _ _ _ us hl => match us, hl with | [_, _, _], _ => rfl
  have F_v26 := fun_mk (st := s_law) l_v26 c_v26 k_v26
  have xo : OexC K C := ⟨⟨_, _, _, _, _, _, _, _, _, _, _, _, _, _, _, xL, xR⟩, sa, eC, tC, kC⟩
  have xc : ExcC K C := ⟨ga, gg, eC, hC, gc, sn, tk, mO⟩
  have xf : XfC K C := ⟨ga, gg, eC, hC⟩
  have sk : SupK l.prog K mg C f1 cc cda "self" (cellF "__init__" "BadRows.__init__" (defArgs s_init) (defBody s_init) (defScope s_init) cc cda) _ :=
    ⟨⟨_, _, _, _, _, _, _, _, _, rfl, l1⟩, c1, ⟨_, _, _, _, _, _, l2, v2, pf⟩, ⟨_, _, _, l3⟩, (by obtain ⟨cd, hc, _⟩ := PySem.W.any_some hC; exact ⟨cd, hc⟩), mC, so, sup_in xL xM bM iM, eV, xo, PySem.W.mg_none_of X G bsup, pt, ⟨_, rfl, rfl⟩, (show (defScope s_init).names.lookup ("super" : Str) = some .globalImplicit by decide +kernel), (show (defScope s_init).names.lookup ("__class__" : Str) = some .free by decide +kernel)⟩
  have gC := PySem.W.mg_of X G aC
  have gM := PySem.W.mg_of X G aM
  refine ⟨PySem.W.fnOf "law" "law" (defArgs s_law) (defBody s_law) (defScope s_law) .none kV_v26 dc_v26 pm_v26 an_v26 cd_v26 ct_v26, fun s v => .of_eq rfl, fun base _ _ hs => ?_⟩
  have bI : Binds K _ ["self", "row"] [] := .all (fd := PySem.W.fnX "__init__" "BadRows.__init__" (defArgs s_init) (defBody s_init) (defScope s_init) (cl1 cc) .none kV1 dc1 pm1 an1 (.ref cda) ct1) fun us hl => match us, hl with | [_, _], _ => rfl
  have bR : BR l.prog w K mg base C := ⟨f1, _, xo, iC, t1, ok_init sk gr, bI, gC⟩
  have C_is_whole := Cl.mk (P := l.prog) (w := w) (mg := mg) (base := base) ⟨f_v0, _, ok_is_whole F_v0 B, PySem.W.mg_of X G a_v0, k_v0, B_v0⟩
  have C_is_vector := Cl.mk (P := l.prog) (w := w) (mg := mg) (base := base) ⟨f_v1, _, ok_is_vector F_v1 B C_is_whole, PySem.W.mg_of X G a_v1, k_v1, B_v1⟩
  have C_dot := Cl.mk (P := l.prog) (w := w) (mg := mg) (base := base) ⟨f_v2, _, ok_dot F_v2 B, PySem.W.mg_of X G a_v2, k_v2, B_v2⟩
  have C__take := Cl.mk (P := l.prog) (w := w) (mg := mg) (base := base) ⟨f_v3, _, ok__take F_v3 B, PySem.W.mg_of X G a_v3, k_v3, B_v3⟩
  have C__smallest := Cl.mk (P := l.prog) (w := w) (mg := mg) (base := base) ⟨f_v4, _, ok__smallest F_v4 B, PySem.W.mg_of X G a_v4, k_v4, B_v4⟩
  have C__unit_lines := Cl.mk (P := l.prog) (w := w) (mg := mg) (base := base) ⟨f_v6, _, ok__unit_lines F_v6 B, PySem.W.mg_of X G a_v6, k_v6, B_v6⟩
  have C__cleared := Cl.mk (P := l.prog) (w := w) (mg := mg) (base := base) ⟨f_v5, _, ok__cleared F_v5 B hs hpt C_dot C__smallest C__take, PySem.W.mg_of X G a_v5, k_v5, B_v5⟩
  have C_reduced := Cl.mk (P := l.prog) (w := w) (mg := mg) (base := base) ⟨f_v7, _, ok_reduced F_v7 B hs hpt C_dot C__unit_lines C__cleared C__take, PySem.W.mg_of X G a_v7, k_v7, B_v7⟩
  have C_forms := Cl.mk (P := l.prog) (w := w) (mg := mg) (base := base) ⟨f_v8, _, ok_forms F_v8 B bR C_is_vector C_reduced, PySem.W.mg_of X G a_v8, k_v8, B_v8⟩
  have C__law_mixed := Cl.mk (P := l.prog) (w := w) (mg := mg) (base := base) ⟨f_v9, _, ok__law_mixed F_v9 B, PySem.W.mg_of X G a_v9, k_v9, B_v9⟩
  have C__law_box := Cl.mk (P := l.prog) (w := w) (mg := mg) (base := base) ⟨f_v10, _, ok__law_box F_v10 B, PySem.W.mg_of X G a_v10, k_v10, B_v10⟩
  have C__law_take := Cl.mk (P := l.prog) (w := w) (mg := mg) (base := base) ⟨f_v11, _, ok__law_take F_v11 B C__law_mixed, PySem.W.mg_of X G a_v11, k_v11, B_v11⟩
  have C__law_is_integer := Cl.mk (P := l.prog) (w := w) (mg := mg) (base := base) ⟨f_v12, _, ok__law_is_integer F_v12 B, PySem.W.mg_of X G a_v12, k_v12, B_v12⟩
  have C__law_integers := Cl.mk (P := l.prog) (w := w) (mg := mg) (base := base) ⟨f_v13, _, ok__law_integers F_v13 B C__law_is_integer, PySem.W.mg_of X G a_v13, k_v13, B_v13⟩
  have C__law_product := Cl.mk (P := l.prog) (w := w) (mg := mg) (base := base) ⟨f_v14, _, ok__law_product F_v14 B, PySem.W.mg_of X G a_v14, k_v14, B_v14⟩
  have C__law_vector := Cl.mk (P := l.prog) (w := w) (mg := mg) (base := base) ⟨f_v15, _, ok__law_vector F_v15 B C__law_take, PySem.W.mg_of X G a_v15, k_v15, B_v15⟩
  have C__law_mixture := Cl.mk (P := l.prog) (w := w) (mg := mg) (base := base) ⟨f_v16, _, ok__law_mixture F_v16 B C__law_take, PySem.W.mg_of X G a_v16, k_v16, B_v16⟩
  have C__law_vectors := Cl.mk (P := l.prog) (w := w) (mg := mg) (base := base) ⟨f_v17, _, ok__law_vectors F_v17 B C__law_take C__law_vector C__law_mixture, PySem.W.mg_of X G a_v17, k_v17, B_v17⟩
  have C__law_less := Cl.mk (P := l.prog) (w := w) (mg := mg) (base := base) ⟨f_v18, _, ok__law_less F_v18 B, PySem.W.mg_of X G a_v18, k_v18, B_v18⟩
  have C__law_rank := Cl.mk (P := l.prog) (w := w) (mg := mg) (base := base) ⟨f_v19, _, ok__law_rank F_v19 B C__law_less, PySem.W.mg_of X G a_v19, k_v19, B_v19⟩
  have C__law_matrix := Cl.mk (P := l.prog) (w := w) (mg := mg) (base := base) ⟨f_v20, _, ok__law_matrix F_v20 B C__law_integers, PySem.W.mg_of X G a_v20, k_v20, B_v20⟩
  have C__law_column := Cl.mk (P := l.prog) (w := w) (mg := mg) (base := base) ⟨f_v21, _, ok__law_column F_v21 B, PySem.W.mg_of X G a_v21, k_v21, B_v21⟩
  have C__law_right := Cl.mk (P := l.prog) (w := w) (mg := mg) (base := base) ⟨f_v22, _, ok__law_right F_v22 B C__law_is_integer C__law_rank C__law_matrix C__law_column C__law_product, PySem.W.mg_of X G a_v22, k_v22, B_v22⟩
  have C__law_point := Cl.mk (P := l.prog) (w := w) (mg := mg) (base := base) ⟨f_v23, _, ok__law_point F_v23 B C__law_product, PySem.W.mg_of X G a_v23, k_v23, B_v23⟩
  have C__law_wrong := Cl.mk (P := l.prog) (w := w) (mg := mg) (base := base) ⟨f_v24, _, ok__law_wrong F_v24 B C__law_take C__law_vector, PySem.W.mg_of X G a_v24, k_v24, B_v24⟩
  have bX : BX l.prog w K mg base C M := ⟨gC, gM, xc, xf, gr, PySem.W.exm_ref eC hC tC eS, kit_ref xM tM eM, ⟨f_v12, _, okP__law_is_integer F_v12 B, PySem.W.mg_of X G a_v12, k_v12, B_v12⟩⟩
  have C__law_refused := Cl.mk (P := l.prog) (w := w) (mg := mg) (base := base) ⟨f_v25, _, ok__law_refused F_v25 B bX C__law_take C__law_wrong C_forms, PySem.W.mg_of X G a_v25, k_v25, B_v25⟩
  exact ok_law F_v26 B C__law_box C__law_take C__law_vectors C_forms C__law_right C__law_point C__law_refused
end K23
open PySem PySem.W PyProof.Rows
set_option maxRecDepth 100000 in
set_option maxHeartbeats 0 in
theorem PySem.Challenge.cw_mixproof_k23_forms_and_inverse_holds : PySem.Challenge.rw_mixproof_k23_forms_and_inverse.Holds := by
  w_on; o_law; k_head; (case hw => w_witness2)
  k_fill
  refine Y.walk_ofS (l := PySem.Challenge.rw_mixproof_k23_forms_and_inverse) (n := 63) (k := 51) (x := "script") (CX := fun _ => L2.CX0) (sp := fun w => K23.sp_law) rfl (by decide) rfl ⟨rfl, by decide, by decide⟩ (by decide +kernel) (fun w h Y => PySem.W.kIn_of Y) ?F (fun _ _ a ns hl _ hS => ⟨a, ns, rfl, hS, fun _ => rfl⟩) fun _ _ _ _ _ z => z
  case F =>
    intro w mg fa h KX G hmg
    refine' K23.all_mk KX G hmg rfl ?a_v0 ?l_v0 ?c_v0 ?k_v0 ?a_v1 ?l_v1 ?c_v1 ?k_v1 ?a_v2 ?l_v2 ?c_v2 ?k_v2 ?a_v3 ?l_v3 ?c_v3 ?k_v3 ?a_v4 ?l_v4 ?c_v4 ?k_v4 ?a_v5 ?l_v5 ?c_v5 ?k_v5 ?a_v6 ?l_v6 ?c_v6 ?k_v6 ?a_v7 ?l_v7 ?c_v7 ?k_v7 ?a_v8 ?l_v8 ?c_v8 ?k_v8 ?a_v9 ?l_v9 ?c_v9 ?k_v9 ?a_v10 ?l_v10 ?c_v10 ?k_v10 ?a_v11 ?l_v11 ?c_v11 ?k_v11 ?a_v12 ?l_v12 ?c_v12 ?k_v12 ?a_v13 ?l_v13 ?c_v13 ?k_v13 ?a_v14 ?l_v14 ?c_v14 ?k_v14 ?a_v15 ?l_v15 ?c_v15 ?k_v15 ?a_v16 ?l_v16 ?c_v16 ?k_v16 ?a_v17 ?l_v17 ?c_v17 ?k_v17 ?a_v18 ?l_v18 ?c_v18 ?k_v18 ?a_v19 ?l_v19 ?c_v19 ?k_v19 ?a_v20 ?l_v20 ?c_v20 ?k_v20 ?a_v21 ?l_v21 ?c_v21 ?k_v21 ?a_v22 ?l_v22 ?c_v22 ?k_v22 ?a_v23 ?l_v23 ?c_v23 ?k_v23 ?a_v24 ?l_v24 ?c_v24 ?k_v24 ?a_v25 ?l_v25 ?c_v25 ?k_v25 ?a_v26 ?l_v26 ?c_v26 ?k_v26 ?b_int ?b_len ?b_range ?b_isinstance ?b_abs ?b_zip ?b_sum ?b_all ?b_tuple ?b_list ?b_bool ?b_max ?b_min ?bsup ?aC ?aM ?xL ?xR ?sa ?ga ?gg ?gc ?gr ?sn ?tk ?eC ?eV ?eS ?tC ?hC ?kC ?mO ?mC ?eM ?tM ?xM ?bM ?iM ?iC ?t1 ?l1 ?c1 ?l2 ?l3 ?v2 ?pf ?pt ?so
    (case a_v0 => k_is)
    (case l_v0 => k_is)
    (case c_v0 => k_is)
    (case k_v0 => k_is)
    (case a_v1 => k_is)
    (case l_v1 => k_is)
    (case c_v1 => k_is)
    (case k_v1 => k_is)
    (case a_v2 => k_is)
    (case l_v2 => k_is)
    (case c_v2 => k_is)
    (case k_v2 => k_is)
    (case a_v3 => k_is)
    (case l_v3 => k_is)
    (case c_v3 => k_is)
    (case k_v3 => k_is)
    (case a_v4 => k_is)
    (case l_v4 => k_is)
    (case c_v4 => k_is)
    (case k_v4 => k_is)
    (case a_v5 => k_is)
    (case l_v5 => k_is)
    (case c_v5 => k_is)
    (case k_v5 => k_is)
    (case a_v6 => k_is)
    (case l_v6 => k_is)
    (case c_v6 => k_is)
    (case k_v6 => k_is)
    (case a_v7 => k_is)
    (case l_v7 => k_is)
    (case c_v7 => k_is)
    (case k_v7 => k_is)
    (case a_v8 => k_is)
    (case l_v8 => k_is)
    (case c_v8 => k_is)
    (case k_v8 => k_is)
    (case a_v9 => k_is)
    (case l_v9 => k_is)
    (case c_v9 => k_is)
    (case k_v9 => k_is)
    (case a_v10 => k_is)
    (case l_v10 => k_is)
    (case c_v10 => k_is)
    (case k_v10 => k_is)
    (case a_v11 => k_is)
    (case l_v11 => k_is)
    (case c_v11 => k_is)
    (case k_v11 => k_is)
    (case a_v12 => k_is)
    (case l_v12 => k_is)
    (case c_v12 => k_is)
    (case k_v12 => k_is)
    (case a_v13 => k_is)
    (case l_v13 => k_is)
    (case c_v13 => k_is)
    (case k_v13 => k_is)
    (case a_v14 => k_is)
    (case l_v14 => k_is)
    (case c_v14 => k_is)
    (case k_v14 => k_is)
    (case a_v15 => k_is)
    (case l_v15 => k_is)
    (case c_v15 => k_is)
    (case k_v15 => k_is)
    (case a_v16 => k_is)
    (case l_v16 => k_is)
    (case c_v16 => k_is)
    (case k_v16 => k_is)
    (case a_v17 => k_is)
    (case l_v17 => k_is)
    (case c_v17 => k_is)
    (case k_v17 => k_is)
    (case a_v18 => k_is)
    (case l_v18 => k_is)
    (case c_v18 => k_is)
    (case k_v18 => k_is)
    (case a_v19 => k_is)
    (case l_v19 => k_is)
    (case c_v19 => k_is)
    (case k_v19 => k_is)
    (case a_v20 => k_is)
    (case l_v20 => k_is)
    (case c_v20 => k_is)
    (case k_v20 => k_is)
    (case a_v21 => k_is)
    (case l_v21 => k_is)
    (case c_v21 => k_is)
    (case k_v21 => k_is)
    (case a_v22 => k_is)
    (case l_v22 => k_is)
    (case c_v22 => k_is)
    (case k_v22 => k_is)
    (case a_v23 => k_is)
    (case l_v23 => k_is)
    (case c_v23 => k_is)
    (case k_v23 => k_is)
    (case a_v24 => k_is)
    (case l_v24 => k_is)
    (case c_v24 => k_is)
    (case k_v24 => k_is)
    (case a_v25 => k_is)
    (case l_v25 => k_is)
    (case c_v25 => k_is)
    (case k_v25 => k_is)
    (case a_v26 => k_is)
    (case l_v26 => k_is)
    (case c_v26 => k_is)
    (case k_v26 => k_is)
    (case b_int => k_is)
    (case b_len => k_is)
    (case b_range => k_is)
    (case b_isinstance => k_is)
    (case b_abs => k_is)
    (case b_zip => k_is)
    (case b_sum => k_is)
    (case b_all => k_is)
    (case b_tuple => k_is)
    (case b_list => k_is)
    (case b_bool => k_is)
    (case b_max => k_is)
    (case b_min => k_is)
    (case bsup => k_is)
    (case aC => k_is)
    (case aM => k_is)
    (case xL => k_is)
    (case xR => first | rfl | decide +kernel | k_is)
    (case sa => k_is)
    (case ga => k_is)
    (case gg => k_is)
    (case gc => k_is)
    (case gr => k_is)
    (case sn => k_is)
    (case tk => k_is)
    (case eC => k_is)
    (case eV => k_is)
    (case eS => first | rfl | k_is)
    (case tC => k_is)
    (case hC => k_is)
    (case kC => k_is)
    (case mO => k_is)
    (case mC => k_is)
    (case eM => k_is)
    (case tM => k_is)
    (case xM => k_is)
    (case bM => rfl)
    (case iM => k_is)
    (case iC => k_is)
    (case t1 => k_is)
    (case l1 => k_is)
    (case c1 => k_is)
    (case l2 => k_is)
    (case l3 => k_is)
    (case v2 => first | rfl | decide +kernel | k_is)
    (case pf => first | rfl | decide +kernel | k_is)
    (case pt => first | rfl | decide +kernel | k_is)
    (case so => k_is)
