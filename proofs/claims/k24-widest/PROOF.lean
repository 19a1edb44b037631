import PyProof.Rows.All
import Wide.All
import OpenK.AllK
import Wide.FinOn
import HandS.ForSpec
import HandS.ExcInit
import HandS.ExcField
import HandS.IsInst
import HandS.Comp
import HandS.Iter
import HandS.Zip
import HandS.Walk
import HandS.Conv
import HandS.HotCalls
import HandS.Wide
import KE.IntBitsLaws
import HandS.TupAny
import HandS.Zip0
import HandS.Nested
import HandS.FStr
import HandS.WordsExc
import KE.KExcSuper
import HandS.ExcIs
import HandS.Gcd
import HandS.WideBits
import KE.KMathGC
import HandS.Deep
import PySem.Challenge.RW_mixproof_k24_widest_direction
set_option Elab.async false
set_option linter.all false
set_option maxRecDepth 100000
set_option maxHeartbeats 4000000
set_option exponentiation.threshold 5000
/-! my own layer over HandS: readings told step by step, calls by name, more rules -/
namespace Y
open PySem PySem.Spec PyProof.Rows L2

/-! ### heaps: what is kept -/
/-- all that was tracked stands, but at the addresses of S -/
def Xt (S : List Addr) (H H' : Hp) : Prop := ∀ a o, a ∉ S → H a = some o → H' a = some o
abbrev Ex (H H' : Hp) : Prop := Xt [] H H'
theorem Xt.refl {S : List Addr} (H : Hp) : Xt S H H := fun _ _ _ h => h
theorem Xt.trans {S : List Addr} {H H1 H2 : Hp} (a : Xt S H H1) (b : Xt S H1 H2) : Xt S H H2 := fun x o n h => b x o n (a x o n h)
theorem Ex.at {H H' : Hp} (e : Ex H H') {a : Addr} {o : HO} (h : H a = some o) : H' a = some o := e a o (by simp) h
theorem Xt.at {S : List Addr} {H H' : Hp} (e : Xt S H H') {a : Addr} {o : HO} (h : H a = some o) (n : a ∉ S) : H' a = some o := e a o n h
theorem Ex.xt {S : List Addr} {H H' : Hp} (e : Ex H H') : Xt S H H' := fun a o _ h => e a o (by simp) h
theorem Ex.rfl' {H : Hp} : Ex H H := Xt.refl H
theorem Xt.sub {S T : List Addr} {H H' : Hp} (e : Xt S H H') (h : ∀ a ∈ S, a ∈ T) : Xt T H H' := fun a o n q => e a o (fun z => n (h a z)) q
theorem ex_new {H : Hp} {p : Addr} {o : HO} (h : H p = none) : Ex H (upd H p o) := fun a u _ e => by
  rw [upd_ne (ne_of_none e h)]; exact e
theorem xt_upd {S : List Addr} {H : Hp} {p : Addr} {o : HO} (h : p ∈ S) : Xt S H (upd H p o) := fun a u n e => by
  rw [upd_ne (fun z => n (by rw [z]; exact h))]; exact e
/-- what S names was not tracked at first -/
theorem Xt.fresh {S : List Addr} {H H1 H2 : Hp} (a : Ex H H1) (b : Xt S H1 H2) (h : ∀ x ∈ S, H x = none) : Ex H H2 := fun x o _ q =>
  b x o (fun z => by rw [h x z] at q; cases q) (a x o (by simp) q)
theorem fresh_of {S : List Addr} {H H' : Hp} (e : Xt S H H') {p : Addr} (h : H' p = none) (n : p ∉ S) : H p = none := by
  cases q : H p with
  | none => rfl
  | some o => rw [e p o n q] at h; cases h
theorem Ex.back {H H' : Hp} (e : Ex H H') {p : Addr} (h : H' p = none) : H p = none := fresh_of e h (by simp)
theorem Ex.sql {K : PySem.W.Frag} {H H' : Hp} {a : Addr} {xs : List V} (e : Ex H H') (h : SqL K H a xs) : SqL K H' a xs := by
  rcases h with (h | ⟨o, h⟩) | h
  · exact .inl (.inl (e.at h))
  · exact .inl (.inr ⟨o, e.at h⟩)
  · exact .inr h

/-! ### calls by name -/
structure Cl (P : Program) (w : World) (K : PySem.W.Frag) (mg : Str → Option Value) (base : Heap) (CX : CXT) (k : Nat) (x : Str) (ps : List Str) (sp : Sp) : Prop where
  ex : ∃ (f : Addr) (fd : FuncData), FnOk P w K mg base CX k f fd ps sp ∧ mg x = some (.ref f) ∧ PySem.W.keepIn K (.ref f) = true ∧ Binds K fd ps []
theorem pe_y {X : Cx} {CX : CXT} {k j : Nat} {x : Str} {ps : List Str} {sp : Sp} {E : XK} {p pos : Pos} {e : Expr} {es : List Expr} {t : TA} (c : Cl X.prog X.w X.K X.mg X.base CX k x ps sp) (hr : Room j X.A) (hk : k ≤ j) (hx : Passes CX X E) (hg : Gl X x) (ha : PA X (e :: es) t)
    (hdb : (x == ("__debug__" : Str)) = false := by decide) (he : starEach (e :: es) X.env = (false, eval e X.env) :: starEach es X.env := by rfl) (hpl : (backTo pos (starEach es X.env)).any (·.1) = false := by rfl) :
    PE X (.Call (.Name x p) (e :: es) [] pos) (tCall sp [] E t) := by
  obtain ⟨f, fd, F, hm, kp, b⟩ := c.ex
  exact pe_call F (hr.mono hk) hg hm kp b .nil hx ha hdb he hpl

/-! ### readings, told by lemmas -/
section
variable {K : PySem.W.Frag} {σ : L2.St} {H : Hp} {ta tb te tc : TE} {t u : TT} {tu tw tz : TS} {Q : VK} {R : Bool → Hp → Prop} {D : Ends} {g : TG}
theorem rd_seq (h : tu { D with nx := tz D } σ H) : tSeq tu tz D σ H := h
theorem rd_asg (h : te σ H fun x H1 => g x σ H1 D.nx) : tAsg te g D σ H := h
theorem rd_name {i : Nat} {v : V} {q : L2.St → Hp → Prop} (h : q (σ.set i (some v)) H) : gName i v σ H q := h
theorem rd_var {i : Nat} {v : V} (e : σ[i]? = some (some v)) (h : Q v H) : tVar i σ H Q := ⟨v, e, h⟩
theorem rd_c {v : V} (h : Q v H) : tC v σ H Q := h
theorem rd_op {r : R2} (h : ta σ H fun x H1 => tb σ H1 fun y H2 => r x y H2 Q) : tOp r ta tb σ H Q := h
theorem rd_un {r : V → Hp → VK → Prop} (h : ta σ H fun x H1 => r x H1 Q) : tUn r ta σ H Q := h
theorem rd_I0 {f : Int → Int → V} {i j : Int} (h : Q (f i j) H) : rI0 f (.int i) (.int j) H Q := ⟨i, j, rfl, rfl, h⟩
theorem rd_I {C : Int → Int → Prop} {f : Int → Int → V} {i j : Int} (c : C i j) (h : Q (f i j) H) : rI C f (.int i) (.int j) H Q := ⟨i, j, rfl, rfl, c, h⟩
theorem rd_U {f : Int → V} {i : Int} (h : Q (f i) H) : rU f (.int i) H Q := ⟨i, rfl, h⟩
theorem rd_eq {x y : V} (c : scal x y = true) (h : Q (.bl (decide (x = y))) H) : rEq x y H Q := ⟨c, h⟩
theorem rd_ne {x y : V} (c : scal x y = true) (h : Q (.bl (!decide (x = y))) H) : rNe x y H Q := ⟨c, h⟩
theorem rd_eqI {i j : Int} (h : Q (.bl (decide (i = j))) H) : rEq (.int i) (.int j) H Q := ⟨rfl, by
  have e : decide (V.int i = V.int j) = decide (i = j) := decide_eq_decide.mpr ⟨fun z => by injection z, fun z => by rw [z]⟩
  rw [e]; exact h⟩
theorem rd_neI {i j : Int} (h : Q (.bl (!decide (i = j))) H) : rNe (.int i) (.int j) H Q := ⟨rfl, by
  have e : decide (V.int i = V.int j) = decide (i = j) := decide_eq_decide.mpr ⟨fun z => by injection z, fun z => by rw [z]⟩
  rw [e]; exact h⟩
theorem rd_test (h : te σ H fun x H' => ∃ k, x = .bl k ∧ R k H') : tTest te σ H R := h
theorem rd_tB (h : te σ H fun x H' => ∃ k, x = .bl k ∧ R k H') : tB te σ H R := h
theorem rd_bl {b : Bool} (h : R b H) : ∃ k, V.bl b = .bl k ∧ R k H := ⟨b, rfl, h⟩
theorem rd_not (h : t σ H fun c H1 => R (!c) H1) : tNot t σ H R := h
theorem rd_and (h : t σ H fun c H1 => if c = true then u σ H1 R else R false H1) : tAnd t u σ H R := h
theorem rd_or (h : t σ H fun c H1 => if c = true then R true H1 else u σ H1 R) : tOr t u σ H R := h
theorem rd_ifS (h : t σ H fun b H1 => if b = true then tu D σ H1 else tw D σ H1) : tIfS t tu tw D σ H := h
theorem rd_if (h : t σ H fun c H1 => if c = true then ta σ H1 Q else tb σ H1 Q) : tIf t ta tb σ H Q := h
theorem rd_andV (h : ta σ H fun x H1 => ∃ c, x = .bl c ∧ if c = true then tb σ H1 Q else Q (.bl false) H1) : tAndV ta tb σ H Q := h
theorem rd_orV (h : ta σ H fun x H1 => ∃ c, x = .bl c ∧ if c = true then Q (.bl true) H1 else tb σ H1 Q) : tOrV ta tb σ H Q := h
theorem rd_notV (h : ta σ H fun x H1 => ∃ c, x = .bl c ∧ Q (.bl (!c)) H1) : tNotV ta σ H Q := h
theorem rd_blV {b : Bool} {A : Bool → Prop} (h : A b) : ∃ k, V.bl b = .bl k ∧ A k := ⟨b, rfl, h⟩
theorem rd_next (h : D.nx σ H) : tNext D σ H := h
theorem rd_ret (h : te σ H D.rt) : tRet te D σ H := h
theorem rd_drop (h : te σ H fun _ H1 => D.nx σ H1) : tDrop te D σ H := h
theorem rd_nil {A : List V → Hp → Prop} (h : A [] H) : tNil σ H A := h
theorem rd_cons {tr : TA} {A : List V → Hp → Prop} (h : ta σ H fun x H1 => tr σ H1 fun xs H2 => A (x :: xs) H2) : tCons ta tr σ H A := h
theorem rd_cb {r : List V → Hp → VK → Prop} {tr : TA} (h : tr σ H fun vs H1 => r vs H1 Q) : tCB r tr σ H Q := h
theorem rd_call {sp : Sp} {E : XK} {tr : TA} (h : tr σ H fun vs H1 => sp vs H1 Q E) : tCall sp [] E tr σ H Q := by
  show tr σ H fun vs H1 => sp (vs ++ []) H1 Q E
  simp only [List.append_nil]
  exact h
/-- a new object -/
theorem new_tup {xs : List V} (hl : xs.length ≤ sizeLine) (h : ∀ p H2, H p = none → Ex H H2 → H2 p = some (.tup xs) → Q (.ref p) H2) : xs.length ≤ sizeLine ∧ ∀ p, H p = none → Q (.ref p) (upd H p (.tup xs)) :=
  ⟨hl, fun p hp => h p _ hp (ex_new hp) upd_same⟩
theorem new_lst {xs : List V} (hl : xs.length ≤ sizeLine) (h : ∀ p H2, H p = none → Ex H H2 → H2 p = some (.lst xs) → Q (.ref p) H2) : xs.length ≤ sizeLine ∧ ∀ p, H p = none → Q (.ref p) (upd H p (.lst xs)) :=
  ⟨hl, fun p hp => h p _ hp (ex_new hp) upd_same⟩
theorem newL {xs : List V} (h : ∀ p H2, H p = none → Ex H H2 → H2 p = some (.lst xs) → Q (.ref p) H2) : ∀ p, H p = none → Q (.ref p) (upd H p (.lst xs)) :=
  fun p hp => h p _ hp (ex_new hp) upd_same
theorem newT {xs : List V} (h : ∀ p H2, H p = none → Ex H H2 → H2 p = some (.tup xs) → Q (.ref p) H2) : ∀ p, H p = none → Q (.ref p) (upd H p (.tup xs)) :=
  fun p hp => h p _ hp (ex_new hp) upd_same
theorem rd_tup {tr : TA} (h : tr σ H fun xs H1 => xs.length ≤ sizeLine ∧ ∀ p, H1 p = none → Q (.ref p) (upd H1 p (.tup xs))) : tTup tr σ H Q := h
theorem rd_lst {tr : TA} (h : tr σ H fun xs H1 => xs.length ≤ sizeLine ∧ ∀ p, H1 p = none → Q (.ref p) (upd H1 p (.lst xs))) : tLst tr σ H Q := h
theorem rd_bm {T : String} {r : V → List V → Hp → VK → Prop} {tr : TA} (h : ta σ H fun x H1 => tyV K T x H1 ∧ tr σ H1 fun xs H2 => r x xs H2 Q) : tBM K T r ta tr σ H Q := h
theorem rd_sl {r : V → Option Int → Option Int → Hp → VK → Prop} {tl th : TO} (h : te σ H fun x H1 => tl σ H1 fun l H2 => th σ H2 fun u H3 => r x l u H3 Q) : tSl r te tl th σ H Q := h
theorem rd_nopart {A : Option Int → Hp → Prop} (h : A none H) : tNoPart σ H A := h
theorem rd_part {A : Option Int → Hp → Prop} (h : te σ H fun x H1 => ∃ i, x = .int i ∧ A (some i) H1) : tPart te σ H A := h
theorem rd_iv {i : Int} {A : Int → Prop} (h : A i) : ∃ j, V.int i = .int j ∧ A j := ⟨i, rfl, h⟩
end
/-! ### named readings of calls -/
def rInt : List V → Hp → VK → Prop := fun xs H Q => (∃ i, xs = [.int i] ∧ Q (.int i) H) ∨ ∃ k, xs = [.bl k] ∧ Q (.int (if k then 1 else 0)) H
def rLen (K : PySem.W.Frag) : List V → Hp → VK → Prop := fun xs H Q => ∃ p ys, xs = [.ref p] ∧ (SqL K H p ys ∨ SqT K H p ys) ∧ Q (.int ys.length) H
def rAbs : List V → Hp → VK → Prop := fun xs H Q => ∃ i, xs = [.int i] ∧ Q (.int (if i < 0 then -i else i)) H
def rTupOf (K : PySem.W.Frag) : List V → Hp → VK → Prop := fun xs H Q => ∃ p ys, xs = [.ref p] ∧ ((SqL K H p ys ∧ ∀ l, H l = none → Q (.ref l) (upd H l (.tup ys))) ∨ (SqT K H p ys ∧ Q (.ref p) H))
def rLstOf (K : PySem.W.Frag) : List V → Hp → VK → Prop := fun xs H Q => ∃ p ys, xs = [.ref p] ∧ (SqL K H p ys ∨ SqT K H p ys) ∧ ∀ l, H l = none → Q (.ref l) (upd H l (.lst ys))
def rMx2 : List V → Hp → VK → Prop := fun xs H Q => ∃ i j, xs = [.int i, .int j] ∧ Q (.int (if j > i then j else i)) H
def rMn2 : List V → Hp → VK → Prop := fun xs H Q => ∃ i j, xs = [.int i, .int j] ∧ Q (.int (if j < i then j else i)) H
section
variable {X : Cx}
theorem cr_int : CallR X (.type "int") rInt := call_int1
theorem cr_len : CallR X (.builtin "len") (rLen X.K) := call_len_seq
theorem cr_abs : CallR X (.builtin "abs") rAbs := call_abs
theorem cr_tupOf : CallR X (.type "tuple") (rTupOf X.K) := call_tuple_of
theorem cr_lstOf : CallR X (.type "list") (rLstOf X.K) := call_list_of
theorem cr_mx2 (hc : X.calm = true) : CallR X (.builtin "max") rMx2 := call_max2 hc
theorem cr_mn2 (hc : X.calm = true) : CallR X (.builtin "min") rMn2 := call_min2 hc
end
section
variable {K : PySem.W.Frag} {σ : L2.St} {H : Hp} {Q : VK}
theorem rd_int {i : Int} (h : Q (.int i) H) : rInt [.int i] H Q := .inl ⟨i, rfl, h⟩
theorem rd_intb {b : Bool} (h : Q (.int (if b then 1 else 0)) H) : rInt [.bl b] H Q := .inr ⟨b, rfl, h⟩
theorem rd_abs {i : Int} (h : Q (.int (if i < 0 then -i else i)) H) : rAbs [.int i] H Q := ⟨i, rfl, h⟩
theorem rd_mx2 {i j : Int} (h : Q (.int (if j > i then j else i)) H) : rMx2 [.int i, .int j] H Q := ⟨i, j, rfl, h⟩
theorem rd_mn2 {i j : Int} (h : Q (.int (if j < i then j else i)) H) : rMn2 [.int i, .int j] H Q := ⟨i, j, rfl, h⟩
theorem rd_lenL {p : Addr} {ys : List V} (e : H p = some (.lst ys)) (h : Q (.int ys.length) H) : rLen K [.ref p] H Q := ⟨p, ys, rfl, .inl (SqL.of e), h⟩
theorem rd_lenT {p : Addr} {ys : List V} (e : H p = some (.tup ys)) (h : Q (.int ys.length) H) : rLen K [.ref p] H Q := ⟨p, ys, rfl, .inr (SqT.of e), h⟩
theorem rd_tupL {p : Addr} {ys : List V} (e : H p = some (.lst ys)) (h : ∀ l H2, H l = none → Ex H H2 → H2 l = some (.tup ys) → Q (.ref l) H2) : rTupOf K [.ref p] H Q := ⟨p, ys, rfl, .inl ⟨SqL.of e, fun l hl => h l _ hl (ex_new hl) upd_same⟩⟩
theorem rd_tupT {p : Addr} {ys : List V} (e : H p = some (.tup ys)) (h : Q (.ref p) H) : rTupOf K [.ref p] H Q := ⟨p, ys, rfl, .inr ⟨SqT.of e, h⟩⟩
theorem rd_lstL {p : Addr} {ys : List V} (e : H p = some (.lst ys)) (h : ∀ l H2, H l = none → Ex H H2 → H2 l = some (.lst ys) → Q (.ref l) H2) : rLstOf K [.ref p] H Q := ⟨p, ys, rfl, .inl (SqL.of e), fun l hl => h l _ hl (ex_new hl) upd_same⟩
theorem rd_lstT {p : Addr} {ys : List V} (e : H p = some (.tup ys)) (h : ∀ l H2, H l = none → Ex H H2 → H2 l = some (.lst ys) → Q (.ref l) H2) : rLstOf K [.ref p] H Q := ⟨p, ys, rfl, .inr (SqT.of e), fun l hl => h l _ hl (ex_new hl) upd_same⟩
theorem rd_ixL {p : Addr} {xs : List V} {i : Int} {v : V} (e : H p = some (.lst xs)) (a : atI xs i = some v) (h : Q v H) : rIxL K (.ref p) (.int i) H Q := ⟨p, xs, i, v, rfl, rfl, SqL.of e, a, h⟩
theorem rd_ixT {p : Addr} {xs : List V} {i : Int} {v : V} (e : H p = some (.tup xs)) (a : atI xs i = some v) (h : Q v H) : rIxT K (.ref p) (.int i) H Q := ⟨p, xs, i, v, rfl, rfl, SqT.of e, a, h⟩
theorem atI_of {α : Type} {xs : List α} {i : Int} {j : Nat} {v : α} (e : i = (j : Int)) (h : xs[j]? = some v) : atI xs i = some v := by rw [e]; exact atI_nat h
theorem rd_ixLn {p : Addr} {xs : List V} {i : Int} (j : Nat) {v : V} (e : H p = some (.lst xs)) (ei : i = (j : Int)) (a : xs[j]? = some v) (h : Q v H) : rIxL K (.ref p) (.int i) H Q := rd_ixL e (atI_of ei a) h
theorem rd_ixTn {p : Addr} {xs : List V} {i : Int} (j : Nat) {v : V} (e : H p = some (.tup xs)) (ei : i = (j : Int)) (a : xs[j]? = some v) (h : Q v H) : rIxT K (.ref p) (.int i) H Q := rd_ixT e (atI_of ei a) h
/-- a store into a list -/
theorem rd_sub {ta tb : TE} {t : TSet} {v : V} {q : L2.St → Hp → Prop} (h : ta σ H fun o H1 => tb σ H1 fun i H2 => t o i v H2 fun H3 => q σ H3) : gSub ta tb t v σ H q := h
theorem rd_setL {p : Addr} {xs : List V} {i : Int} (j : Nat) {v : V} {q : Hp → Prop} (e : H p = some (.lst xs)) (ei : i = (j : Int)) (hj : j < xs.length) (h : ∀ H2, Xt [p] H H2 → H2 p = some (.lst (xs.set j v)) → q H2) : rSetL (.ref p) (.int i) v H q :=
  ⟨p, xs, i, j, rfl, rfl, e, by unfold ixN; rw [ei, if_pos (by omega), if_pos (by omega)]; simp, h _ (xt_upd (by simp)) upd_same⟩
theorem rd_append {p : Addr} {xs : List V} {v : V} (e : H p = some (.lst xs)) (hz : xs.length < sizeLine) (h : ∀ H2, Xt [p] H H2 → H2 p = some (.lst (xs ++ [v])) → Q .non H2) : rAppend (.ref p) [v] H Q :=
  ⟨p, xs, v, rfl, rfl, e, hz, h _ (xt_upd (by simp)) upd_same⟩
theorem tyL {p : Addr} {xs : List V} (e : H p = some (.lst xs)) : tyV K "list" (.ref p) H := .inl ⟨rfl, _, SqL.of e⟩
/-- cutting: xs[lo:hi] -/
theorem rd_slL {p : Addr} {xs : List V} {lo hi : Option Int} (e : H p = some (.lst xs)) (h : ∀ l H2, H l = none → Ex H H2 → H2 l = some (.lst (cutV xs lo hi)) → Q (.ref l) H2) : rSlL K (.ref p) lo hi H Q := ⟨p, xs, rfl, SqL.of e, fun l hl => h l _ hl (ex_new hl) upd_same⟩
theorem rd_sum {p : Addr} {ns : List Int} (e : H p = some (.lst (ns.map V.int))) (h : Q (.int ns.sum) H) : rSum K [.ref p] H Q := ⟨p, ns, rfl, SqL.of e, h⟩
theorem rd_all {p : Addr} {bs : List Bool} (e : H p = some (.lst (bs.map V.bl))) (h : Q (.bl (bs.all id)) H) : rAll K [.ref p] H Q := ⟨p, bs, rfl, SqL.of e, h⟩
theorem rd_cat {p q : Addr} {xs ys : List V} (e : H p = some (.lst xs)) (f : H q = some (.lst ys)) (hz : xs.length + ys.length ≤ sizeLine) (h : ∀ l H2, H l = none → Ex H H2 → H2 l = some (.lst (xs ++ ys)) → Q (.ref l) H2) : rCat (.ref p) (.ref q) H Q :=
  ⟨p, q, xs, ys, rfl, rfl, e, f, hz, fun l hl => h l _ hl (ex_new hl) upd_same⟩
theorem sz {n : Nat} (h : n ≤ 100000) : n ≤ sizeLine := Nat.le_trans h (by decide)
theorem szl {n : Nat} (h : n < 100000) : n < sizeLine := Nat.lt_of_lt_of_le h (by decide)
end
/-- a decided test -/
theorem if_dec {p : Prop} [Decidable p] {A B : Prop} (h1 : p → A) (h2 : ¬ p → B) : if decide p = true then A else B := by
  by_cases h : p
  · rw [decide_eq_true h]; exact iteT (h1 h)
  · rw [decide_eq_false h]; exact iteF (h2 h)
theorem if_ndec {p : Prop} [Decidable p] {A B : Prop} (h1 : ¬ p → A) (h2 : p → B) : if (!decide p) = true then A else B := by
  by_cases h : p
  · rw [decide_eq_true h]; exact iteF (h2 h)
  · rw [decide_eq_false h]; exact iteT (h1 h)

/-! ### more rules -/
section
variable {X : Cx}
/-- int(x) of an int -/
theorem int_small {i : Int} (h1 : -(2 ^ 64) < i) (h2 : i < 2 ^ 64) : -(2 ^ 64) < i ∧ i < 2 ^ 64 := ⟨h1, h2⟩
theorem op_mulB : OpR X (binaryOp .Mult) (rI IntMulOk fun i j => .int (i * j)) := opI fun _ _ _ _ _ _ _ hc q => mul_int q hc
theorem op_modG : OpR X (binaryOp .Mod) (rI (fun _ j => j ≠ 0) fun i j => .int (i.fmod j)) := op_modN
theorem mulok_r {i j : Int} (h1 : -(2 ^ 63) ≤ j) (h2 : j < 2 ^ 63) : IntMulOk i j := .of_right (intBits_le_64 (by omega) (by omega))
theorem mulok_l {i j : Int} (h1 : -(2 ^ 63) ≤ i) (h2 : i < 2 ^ 63) : IntMulOk i j := .of_left (intBits_le_64 (by omega) (by omega))
end
end Y
/-! loops and comprehensions, told by what each turn does -/
namespace Y
open PySem PySem.Spec PyProof.Rows L2
def LcB (J : It) (g : TG) (tt : TT) (te : TE) (vs : List Nat) (σ : L2.St) (H1 : Hp) (Q : VK) : Prop := ∀ D, H1 D = none → ∃ W : Nat → Nat → Hp → Prop, (∃ m, W 0 m (upd H1 D (.lst []))) ∧ ∀ i m H, W i m H →
  (J.stop i H ∧ Q (.ref D) H) ∨ (J.go i H ∧ ∃ Nx : Hp → Prop, (∀ H', Nx H' → ∃ m', m' < m ∧ W (i + 1) m' H') ∧ ∀ x H', J.yld i H x H' → g x (wipe σ vs) H' fun σ2 H2 => wipe σ2 vs = wipe σ vs ∧ tt σ2 H2 fun b H3 =>
    if b = true then te σ2 H3 fun y H4 => ∃ acc, H4 D = some (.lst acc) ∧ acc.length < sizeLine ∧ Nx (upd H4 D (.lst (acc ++ [y]))) else Nx H3)
def ForB (J : It) (g : TG) (tb : TS) (D : Ends) (σ : L2.St) (H1 : Hp) : Prop := ∃ W : Nat → Nat → L2.St → Hp → Prop, (∃ m, W 0 m σ H1) ∧ ∀ i m σ H, W i m σ H →
  (J.stop i H ∧ D.nx σ H) ∨ (J.go i H ∧ ∃ N : L2.St → Hp → Prop, (∀ σ' H', N σ' H' → ∃ m', m' < m ∧ W (i + 1) m' σ' H') ∧ ∀ x H', J.yld i H x H' → g x σ H' fun σ2 H2 => tb { D with nx := N, ct := N, bk := D.nx } σ2 H2)
def ItL (K : PySem.W.Frag) (x : V) (H : Hp) (R : It → Hp → Prop) : Prop := ∃ a, x = .ref a ∧ (∃ xs, SqL K H a xs) ∧ R (Itl K a) H
def ItT (K : PySem.W.Frag) (x : V) (H : Hp) (R : It → Hp → Prop) : Prop := ∃ a, x = .ref a ∧ (∃ xs, SqT K H a xs) ∧ R (Itt K a) H
def Rg1 (vs : List V) (H : Hp) (R : It → Hp → Prop) : Prop := ∃ j : Int, vs = [.int j] ∧ -(2 ^ 62) ≤ j ∧ j < 2 ^ 62 ∧ R (Itr 0 j.toNat) H
def Rg2 (vs : List V) (H : Hp) (R : It → Hp → Prop) : Prop := ∃ i j : Int, vs = [.int i, .int j] ∧ (-(2 ^ 62) ≤ i ∧ i < 2 ^ 62 ∧ -(2 ^ 62) ≤ j ∧ j < 2 ^ 62) ∧ R (Itr i (j - i).toNat) H
def Zp (K : PySem.W.Frag) (vs : List V) (H : Hp) (R : It → Hp → Prop) : Prop := ∃ a b xs ys, vs = [.ref a, .ref b] ∧ SqL K H a xs ∧ SqL K H b ys ∧ R (Itz K a b) H
section
variable {K : PySem.W.Frag} {σ : L2.St} {H : Hp} {ta tl te : TE} {tr : TA} {tt : TT} {tb : TS} {wi : TI} {g : TG} {vs : List Nat} {Q : VK} {R : It → Hp → Prop} {D : Ends} {J : It} {n : Nat} {G : Hp → Prop} {Y : Nat → Hp → V → Hp → Prop} {p q : Addr} {xs ys : List V}
theorem rd_lc (h : wi σ H fun J H1 => LcB J g tt te vs σ H1 Q) : tLc wi g tt te vs σ H Q := h
theorem rd_for (h : wi σ H fun J H1 => ForB J g tb D σ H1) : tFor wi g tb D σ H := h
theorem rd_iL (h : tl σ H fun x H1 => ItL K x H1 R) : iList K tl σ H R := h
theorem rd_iT (h : tl σ H fun x H1 => ItT K x H1 R) : iTup K tl σ H R := h
theorem rd_r1 (h : tr σ H fun vs H1 => Rg1 vs H1 R) : iRng1 tr σ H R := h
theorem rd_r2 (h : tr σ H fun vs H1 => Rg2 vs H1 R) : iRng2 tr σ H R := h
theorem rd_iZ (h : tr σ H fun vs H1 => Zp K vs H1 R) : iZip K tr σ H R := h
theorem rd_itL (e : H p = some (.lst xs)) (h : R (Itl K p) H) : ItL K (.ref p) H R := ⟨p, rfl, ⟨_, SqL.of e⟩, h⟩
theorem rd_itT (e : H p = some (.tup xs)) (h : R (Itt K p) H) : ItT K (.ref p) H R := ⟨p, rfl, ⟨_, SqT.of e⟩, h⟩
theorem rd_rg1 (n : Nat) {j : Int} (e : j = (n : Int)) (hn : n ≤ 1000000) (h : R (Itr 0 n) H) : Rg1 [.int j] H R := ⟨j, rfl, by omega, by omega, by rw [e]; exact h⟩
theorem rd_rg2 (lo n : Nat) {i j : Int} (ei : i = (lo : Int)) (ej : j = ((lo + n : Nat) : Int)) (hn : lo + n ≤ 1000000) (h : R (Itr i n) H) : Rg2 [.int i, .int j] H R := ⟨i, j, rfl, ⟨by omega, by omega, by omega, by omega⟩, by
  rw [show (j - i).toNat = n by omega]; exact h⟩
theorem rd_zp (e : H p = some (.lst xs)) (f : H q = some (.lst ys)) (h : R (Itz K p q) H) : Zp K [.ref p, .ref q] H R := ⟨p, q, xs, ys, rfl, SqL.of e, SqL.of f, h⟩
/-! ### walks over what is tracked -/
theorem wkL : Walk (Itl K p) xs.length (fun H => H p = some (.lst xs)) (YAt xs) := walk_list.mono (fun _ h => SqL.of h) fun _ _ _ _ _ _ y => y
theorem wkT : Walk (Itt K p) xs.length (fun H => H p = some (.tup xs)) (YAt xs) := walk_tup.mono (fun _ h => SqT.of h) fun _ _ _ _ _ _ y => y
theorem wkR {lo : Int} : Walk (Itr lo n) n (fun _ => True) (YFn fun i => .int (lo + i)) := walk_range
theorem wkZ (hl : xs.length = ys.length) : Walk (Itz K p q) xs.length (fun H => H p = some (.lst xs) ∧ H q = some (.lst ys)) (YPair (fun i => xs[i]?) (fun i => ys[i]?)) :=
  (walk_zip (by omega)).mono (fun _ h => ⟨SqL.of h.1, SqL.of h.2⟩) fun _ _ _ _ _ _ y => y
/-- a for: a word for each turn -/
theorem for_w (w : Walk J n G Y) (Pv : Nat → L2.St → Hp → Prop) (h0 : Pv 0 σ H) (hG : ∀ i σ H, i ≤ n → Pv i σ H → G H)
    (hs : ∀ i x σ H H', i < n → Pv i σ H → Y i H x H' → g x σ H' fun σ2 H2 => tb { D with nx := Pv (i + 1), ct := Pv (i + 1), bk := D.nx } σ2 H2) (hd : ∀ σ H, Pv n σ H → D.nx σ H) : ForB J g tb D σ H :=
  for_it w Pv h0 hG hs hd
/-- a comprehension that makes objects alone: its items are vals -/
theorem lc_pure (w : Walk J n G Y) (vals : Nat → V) (hn : n ≤ 100000) (hG : ∀ H', Ex H H' → G H')
    (hs : ∀ i x H1 H2, i < n → Ex H H1 → Y i H1 x H2 → ∀ P : VK, (∀ H4, Ex H1 H4 → P (vals i) H4) → g x (wipe σ vs) H2 fun σ2 H3 => wipe σ2 vs = wipe σ vs ∧ te σ2 H3 P)
    (hd : ∀ D H', H D = none → Ex H H' → H' D = some (.lst ((List.range n).map vals)) → Q (.ref D) H') : LcB J g tYes te vs σ H Q := fun D hD =>
  lc_it w (fun i H' => Ex H H' ∧ H' D = some (.lst ((List.range i).map vals))) ⟨ex_new hD, upd_same⟩ (fun i H' _ h => hG H' h.1) (fun i x H1 H2 hi h y => by
    refine hs i x H1 H2 hi h.1 y _ fun H4 e4 => ⟨_, e4.at h.2, szl (by rw [List.length_map, List.length_range]; omega), ?_, ?_⟩
    · exact Xt.fresh (S := [D]) (Xt.trans h.1 e4) (xt_upd (by simp)) (by simp [hD])
    · rw [List.range_succ, List.map_append]; exact upd_same) fun H' h => hd D H' hD h.1 h.2
/-- .. with a test: the items are those of vals that are there -/
theorem lc_some (w : Walk J n G Y) (vals : Nat → Option V) (hn : n ≤ 100000) (hG : ∀ H', Ex H H' → G H')
    (hs : ∀ i x H1 H2, i < n → Ex H H1 → Y i H1 x H2 → ∀ (P : VK) (N : Hp → Prop), (∀ v H4, vals i = some v → Ex H1 H4 → P v H4) → (vals i = none → ∀ H4, Ex H1 H4 → N H4) →
      g x (wipe σ vs) H2 fun σ2 H3 => wipe σ2 vs = wipe σ vs ∧ tt σ2 H3 fun b H4 => if b = true then te σ2 H4 P else N H4)
    (hd : ∀ D H', H D = none → Ex H H' → H' D = some (.lst ((List.range n).filterMap vals)) → Q (.ref D) H') : LcB J g tt te vs σ H Q := fun D hD =>
  lc_it w (fun i H' => Ex H H' ∧ H' D = some (.lst ((List.range i).filterMap vals))) ⟨ex_new hD, upd_same⟩ (fun i H' _ h => hG H' h.1) (fun i x H1 H2 hi h y => by
    have hlen : ((List.range i).filterMap vals).length ≤ i := by
      have := List.length_filterMap_le vals (List.range i)
      rw [List.length_range] at this; exact this
    refine hs i x H1 H2 hi h.1 y _ _ (fun v H4 ev e4 => ⟨_, e4.at h.2, szl (by omega), ?_, ?_⟩) fun ev H4 e4 => ⟨Xt.trans h.1 e4, ?_⟩
    · exact Xt.fresh (S := [D]) (Xt.trans h.1 e4) (xt_upd (by simp)) (by simp [hD])
    · rw [List.range_succ, List.filterMap_append, List.filterMap_cons, ev]; exact upd_same
    · rw [List.range_succ, List.filterMap_append, List.filterMap_cons, ev]
      show H4 D = some (.lst (_ ++ []))
      rw [List.append_nil]; exact e4.at h.2) fun H' h => hd D H' hD h.1 h.2
/-- a comprehension whose element changes what S names: R keeps the books -/
theorem lc_eff (w : Walk J n G Y) (S : List Addr) (R : Nat → List V → Hp → Prop) (hS : ∀ a ∈ S, H a ≠ none) (hn : n ≤ 100000) (hG : ∀ i acc H', i ≤ n → Xt S H H' → R i acc H' → G H')
    (hR : ∀ i acc H1 H2 D, H D = none → R i acc H1 → Xt [D] H1 H2 → R i acc H2) (h0 : R 0 [] H)
    (hs : ∀ i x acc H1 H2, i < n → acc.length = i → Xt S H H1 → R i acc H1 → Y i H1 x H2 → ∀ P : VK, (∀ y H4, Xt S H1 H4 → R (i + 1) (acc ++ [y]) H4 → P y H4) → g x (wipe σ vs) H2 fun σ2 H3 => wipe σ2 vs = wipe σ vs ∧ te σ2 H3 P)
    (hd : ∀ D acc H', H D = none → acc.length = n → Xt S H H' → R n acc H' → H' D = some (.lst acc) → Q (.ref D) H') : LcB J g tYes te vs σ H Q := fun D hD => by
  have hDS : D ∉ S := fun z => hS D z hD
  refine lc_it w (fun i H' => ∃ acc : List V, acc.length = i ∧ Xt S H H' ∧ R i acc H' ∧ H' D = some (.lst acc)) ⟨[], rfl, Ex.xt (ex_new hD), hR 0 [] H _ D hD h0 (Ex.xt (ex_new hD)), upd_same⟩ (fun i H' hi h => ?_) (fun i x H1 H2 hi h y => ?_) fun H' h => ?_
  · obtain ⟨acc, _, e, r, _⟩ := h
    exact hG i acc H' hi e r
  · obtain ⟨acc, el, e, r, ed⟩ := h
    refine hs i x acc H1 H2 hi el e r y _ fun z H4 e4 r4 => ⟨acc, e4.at ed hDS, szl (by omega), acc ++ [z], by rw [List.length_append, el]; rfl, ?_, hR _ _ H4 _ D hD r4 (xt_upd (by simp)), upd_same⟩
    refine fun a o na ha => ?_
    have nd : a ≠ D := fun z => by rw [z, hD] at ha; cases ha
    rw [upd_ne nd]
    exact e4 a o na (e a o na ha)
  · obtain ⟨acc, el, e, r, ed⟩ := h
    exact hd D acc H' hD el e r ed
end
/-! ### tests that are told -/
theorem rd_T {A B : Prop} (h : A) : if true = true then A else B := h
theorem rd_F {A B : Prop} (h : B) : if false = true then A else B := h
theorem rd_nT {A B : Prop} (h : B) : if (!true) = true then A else B := h
theorem rd_nF {A B : Prop} (h : A) : if (!false) = true then A else B := h
theorem rd_dec {p : Prop} [Decidable p] {A B : Prop} (h1 : p → A) (h2 : ¬ p → B) : if decide p = true then A else B := if_dec h1 h2
theorem rd_ndec {p : Prop} [Decidable p] {A B : Prop} (h1 : ¬ p → A) (h2 : p → B) : if (!decide p) = true then A else B := if_ndec h1 h2
end Y
/-! zip over a tuple and a list: the turns of a comprehension's target (x, y) -/
namespace Y
open PySem PySem.Spec PyProof.Rows L2
section
variable {prog : Program} {w : World} {A : Around} {s : Shared}
/-- an iterator at it, known by St, gives x and is then known by Fi; it alone is changed -/
def Gives (prog : Program) (w : World) (A : Around) (it : Addr) (St Fi : Heap → Prop) (x : Value) : Prop :=
  ∀ (s0 : Shared) (P : Value → Shared → Prop) (E : Value → Shared → Prop), St s0.heap → (∀ g', Fi g' → Heap.SameBut it s0.heap g' → P x { s0 with heap := g' }) → wpAny (model prog w) A (Builtin.SmallTypes.nextOf (.ref it)) P E s0
theorem zipG_item {E : Value → Shared → Prop} {zz ti oo j1 j2 : Addr} {x y u v : Value} {S1 F1 S2 F2 : Heap → Prop} {Q : Value → Shared → Prop}
    (n1 : ti ≠ zz) (n2 : oo ≠ zz) (n3 : j1 ≠ zz) (n4 : j2 ≠ zz) (n5 : ti ≠ oo) (n6 : oo ≠ j1) (n7 : oo ≠ j2)
    (hz : IsZip s.heap zz ti oo .none) (ht : IsPair s.heap ti (.ref j1) (.ref j2)) (ho : IsPair s.heap oo u v) (g1 : Gives prog w A j1 S1 F1 x) (g2 : Gives prog w A j2 S2 F2 y)
    (st1 : ∀ h1, Heap.SameBut zz s.heap h1 → S1 h1) (st2 : ∀ h1 h2 h3, Heap.SameBut zz s.heap h1 → Heap.SameBut j1 h1 h2 → Heap.SameBut oo h2 h3 → S2 h3)
    (hQ : ∀ h2 h4 h', F1 h2 → F2 h4 → (∀ c ob, c ≠ zz → c ≠ oo → c ≠ j2 → h2.get? c = some ob → h'.get? c = some ob) → (∀ c ob, c ≠ zz → c ≠ oo → h4.get? c = some ob → h'.get? c = some ob) →
      IsZip h' zz ti oo (rawInt s.heap.objs.size) → IsPair h' oo x y → IsPair h' s.heap.objs.size x y → h'.objs.size = s.heap.objs.size + 1 →
      (∀ c ob, c ≠ zz → c ≠ oo → c ≠ j1 → c ≠ j2 → s.heap.get? c = some ob → h'.get? c = some ob) → Q (.ref s.heap.objs.size) { s with heap := h' }) :
    wpAny (model prog w) A (Builtin.«zip.__next__» ⟨[.ref zz], []⟩) (fun fin s' => ∃ r, fin = .done (.ret r) ∧ Q r s') E s := by
  show wpAny _ _ (field (.ref zz) 2 >>= _) _ E s
  refine wpAny_bind (wpAny_field hz rfl (x := .bool false) rfl ?_)
  show wpAny _ _ (field (.ref zz) 3 >>= _) _ E s
  refine wpAny_bind (wpAny_field hz rfl (x := .ref ti) rfl (wpAny_bind (wpAny_seqItems ht rfl ?_)))
  show wpAny _ _ (Builtin.SmallTypes.ownedTupleIsFree (.ref zz) >>= _) _ E s
  refine wpAny_bind ?_
  unfold Builtin.SmallTypes.ownedTupleIsFree
  refine wpAny_bind (wpAny_field hz rfl (x := .none) rfl (wpAny_pure ?_))
  simp only [if_true]
  refine wpAny_bind (wpAny_rule (wpAny_bind (wpAny_field hz rfl (x := .ref oo) rfl (wpAny_bind (wpAny_setField_rec hz (by simp) fun h1 z1 k1 => ?_)))))
  replace z1 : IsZip h1 zz ti oo .ellipsis := z1
  refine wpAny_bind ?_
  simp only [List.zipIdx_cons, List.zipIdx_nil, List.forIn_cons, List.forIn_nil]
  refine wpAny_bind (wpAny_bind (wpAny_onRaise ?_))
  show wpAny _ _ (Builtin.SmallTypes.nextOf (.ref j1) >>= _) _ _ _
  refine wpAny_bind (g1 _ _ _ (st1 h1 k1) fun h2 f2 k2 => wpAny_pure ?_)
  have o2 : IsPair h2 oo u v := k2.extBut _ _ n6 (k1.extBut _ _ n2 ho)
  refine wpAny_bind (wpAny_seqItems o2 rfl (wpAny_bind (wpAny_updateSeq_pair o2 fun h3 o3 k3 => ?_)))
  replace o3 : IsPair h3 oo x v := o3
  refine wpAny_bind (wpAny_letGo (wpAny_pure ?_))
  refine wpAny_bind (wpAny_bind (wpAny_onRaise ?_))
  show wpAny _ _ (Builtin.SmallTypes.nextOf (.ref j2) >>= _) _ _ _
  refine wpAny_bind (g2 _ _ _ (st2 h1 h2 h3 k1 k2 k3) fun h4 f4 k4 => wpAny_pure ?_)
  have o4 : IsPair h4 oo x v := k4.extBut _ _ n7 o3
  refine wpAny_bind (wpAny_seqItems o4 rfl (wpAny_bind (wpAny_updateSeq_pair o4 fun h5 o5 k5 => ?_)))
  replace o5 : IsPair h5 oo x y := o5
  refine wpAny_bind (wpAny_letGo (wpAny_pure (wpAny_pure (wpAny_bind (wpAny_seqItems o5 rfl (wpAny_bind (wpAny_newTuple ?_)))))))
  have es : h5.objs.size = s.heap.objs.size := by rw [k5.1, k4.1, k3.1, k2.1, k1.1]
  have z5 : IsZip h5 zz ti oo .ellipsis := k5.extBut _ _ n2.symm (k4.extBut _ _ n4.symm (k3.extBut _ _ n2.symm (k2.extBut _ _ n3.symm z1)))
  have lz : zz < h5.objs.size := Heap.lt_size z5
  show wpAny _ _ (Builtin.SmallTypes.ownedTupleHandOut (.ref zz) (.ref h5.objs.size) >>= _) _ E _
  refine wpAny_bind ?_
  unfold Builtin.SmallTypes.ownedTupleHandOut
  have z6 : IsZip (h5.push { cls := .type "tuple", data := .seq #[x, y] }) zz ti oo .ellipsis := Heap.get?_push_of_some _ z5
  refine wpAny_bind (wpAny_setField_rec z6 (by simp) fun h7 z7 k7 => ?_)
  replace z7 : IsZip h7 zz ti oo (rawInt h5.objs.size) := z7
  refine wpAny_setField_rec z7 (by simp) fun h8 z8 k8 => ?_
  replace z8 : IsZip h8 zz ti oo (rawInt h5.objs.size) := z8
  have up : ∀ c ob, c ≠ zz → h5.get? c = some ob → h8.get? c = some ob := fun c ob q e => k8.extBut _ _ q (k7.extBut _ _ q (Heap.get?_push_of_some _ e))
  have pn : IsPair h8 h5.objs.size x y := k8.extBut _ _ (Nat.ne_of_gt lz) (k7.extBut _ _ (Nat.ne_of_gt lz) (Heap.get?_push_size _ rfl))
  have sz8 : h8.objs.size = h5.objs.size + 1 := by rw [k8.1, k7.1, Heap.size_push]
  refine wpAny_pure ⟨_, rfl, ?_⟩
  show Q (.ref h5.objs.size) _
  rw [es] at z8 pn sz8 ⊢
  have up4 : ∀ c ob, c ≠ zz → c ≠ oo → h4.get? c = some ob → h8.get? c = some ob := fun c ob q1 q2 e => up c ob q1 (k5.extBut _ _ q2 e)
  have up2 : ∀ c ob, c ≠ zz → c ≠ oo → c ≠ j2 → h2.get? c = some ob → h8.get? c = some ob := fun c ob q1 q2 q3 e => up4 c ob q1 q2 (k4.extBut _ _ q3 (k3.extBut _ _ q2 e))
  exact hQ h2 h4 h8 f2 f4 up2 up4 z8 (up _ _ n2 o5) pn sz8 fun c ob q1 q2 q3 q4 e => up2 c ob q1 q2 q4 (k2.extBut _ _ q3 (k1.extBut _ _ q1 e))
/-- the first iterator is at its end -/
theorem zipG_end {E : Value → Shared → Prop} {zz ti oo j1 j2 : Addr} {u v : Value} {S1 : Heap → Prop} {Q : Fin → Shared → Prop} (n3 : j1 ≠ zz) (hz : IsZip s.heap zz ti oo .none) (ht : IsPair s.heap ti (.ref j1) (.ref j2)) (ho : IsPair s.heap oo u v)
    (g1 : ∀ (s0 : Shared) (P : Value → Shared → Prop) (E : Value → Shared → Prop), S1 s0.heap → (∀ g' e, Heap.ExtBut j1 s0.heap g' → (∃ o, g'.get? e = some o ∧ o.cls = .type "StopIteration") → E (.ref e) { s0 with heap := g' }) → wpAny (model prog w) A (Builtin.SmallTypes.nextOf (.ref j1)) P E s0)
    (st1 : ∀ h1, Heap.SameBut zz s.heap h1 → S1 h1)
    (hE : ∀ h' e, (∀ c ob, c ≠ zz → c ≠ j1 → s.heap.get? c = some ob → h'.get? c = some ob) → (∃ o, h'.get? e = some o ∧ o.cls = .type "StopIteration") → E (.ref e) { s with heap := h' }) :
    wpAny (model prog w) A (Builtin.«zip.__next__» ⟨[.ref zz], []⟩) Q E s := by
  show wpAny _ _ (field (.ref zz) 2 >>= _) _ E s
  refine wpAny_bind (wpAny_field hz rfl (x := .bool false) rfl ?_)
  show wpAny _ _ (field (.ref zz) 3 >>= _) _ E s
  refine wpAny_bind (wpAny_field hz rfl (x := .ref ti) rfl (wpAny_bind (wpAny_seqItems ht rfl ?_)))
  show wpAny _ _ (Builtin.SmallTypes.ownedTupleIsFree (.ref zz) >>= _) _ E s
  refine wpAny_bind ?_
  unfold Builtin.SmallTypes.ownedTupleIsFree
  refine wpAny_bind (wpAny_field hz rfl (x := .none) rfl (wpAny_pure ?_))
  simp only [if_true]
  refine wpAny_bind (wpAny_rule (wpAny_bind (wpAny_field hz rfl (x := .ref oo) rfl (wpAny_bind (wpAny_setField_rec hz (by simp) fun h1 z1 k1 => ?_)))))
  replace z1 : IsZip h1 zz ti oo .ellipsis := z1
  refine wpAny_bind ?_
  simp only [List.zipIdx_cons, List.zipIdx_nil, List.forIn_cons, List.forIn_nil]
  refine wpAny_bind (wpAny_bind (wpAny_onRaise ?_))
  show wpAny _ _ (Builtin.SmallTypes.nextOf (.ref j1) >>= _) _ _ _
  refine wpAny_bind (g1 _ _ _ (st1 h1 k1) fun h2 e k2 he => ?_)
  obtain ⟨oe, e1, e2⟩ := he
  have z2 : IsZip h2 zz ti oo .ellipsis := k2 _ _ n3.symm z1
  have ne : e ≠ zz := fun q => by
    subst q; rw [z2] at e1; cases e1; simp at e2
  exact wpAny_setField_rec z2 (by simp) fun h3 _ k3 => hE h3 e (fun c ob q1 q2 q => k3.extBut _ _ q1 (k2 _ _ q2 (k1.extBut _ _ q1 q))) ⟨oe, k3.extBut _ _ ne e1, e2⟩
end
/-! ### the walk over both -/
def ItM (K : PySem.W.Frag) (a b : Addr) : It :=
  ⟨fun i H => ∃ (xs ys : List V) (x y : V), SqT K H a xs ∧ SqL K H b ys ∧ xs[i]? = some x ∧ ys[i]? = some y,
   fun i H v H' => ∃ T x y, v = .ref T ∧ H T = none ∧ H' = upd H T (.tup [x, y]) ∧ (∀ l, SqT K H a l → l[i]? = some x) ∧ ∀ l, SqL K H b l → l[i]? = some y,
   fun i H => ∃ xs : List V, SqT K H a xs ∧ xs.length ≤ i⟩
def KnowM (zz ti oo j1 j2 a b : Addr) (i : Nat) (h : Heap) : Prop := IsZip h zz ti oo .none ∧ IsPair h ti (.ref j1) (.ref j2) ∧ (∃ u v, IsPair h oo u v) ∧ h.IsTupleIter j1 a i ∧ h.IsListIter j2 b i
theorem turnM {P : Program} {w : World} {K : PySem.W.Frag} {es : List Expr} {kk : Nat} {tp : Pos} {a b zz ti oo j1 j2 : Addr} (D : ZipApart zz ti oo j1 j2 a b) : Turn P w K (.Tuple es kk tp) (ItM K a b) [zz, ti, oo, j1, j2] zz (KnowM zz ti oo j1 j2 a b) where
  mem := List.mem_cons_self ..
  obj := fun i h st c hc => by
    obtain ⟨k1, k2, ⟨u, v, k3⟩, ⟨o4, k4, _, d4⟩, ⟨o5, k5, _, d5⟩⟩ := st
    simp only [List.mem_cons, List.not_mem_nil, or_false] at hc
    rcases hc with rfl | rfl | rfl | rfl | rfl
    · exact ⟨_, k1, fun _ q => nomatch q⟩
    · exact ⟨_, k2, fun _ q => nomatch q⟩
    · exact ⟨_, k3, fun _ q => nomatch q⟩
    · exact ⟨o4, k4, fun _ q => by rw [d4] at q; cases q⟩
    · exact ⟨o5, k5, fun _ q => by rw [d5] at q; cases q⟩
  keep := fun i h h' st k => by
    obtain ⟨k1, k2, ⟨u, v, k3⟩, k4, k5⟩ := st
    exact ⟨k _ (by simp) _ k1, k _ (by simp) _ k2, ⟨u, v, k _ (by simp) _ k3⟩, k4.at fun o q => k _ (by simp) o q, k5.at fun o q => k _ (by simp) o q⟩
  item := by
    rintro X rfl rfl rfl hc i pins s σ H E I hf st ⟨xs, ys, x, y, qx, qy, ex, ey⟩
    obtain ⟨k1, k2, ⟨u0, v0, k3⟩, k4, k5⟩ := st
    obtain ⟨us, ru, pu, _⟩ := I.tuple qx
    obtain ⟨vs, rv, pv', _⟩ := I.list qy
    obtain ⟨u, eu, rxu⟩ := ru.get ex
    obtain ⟨v, ev, ryv⟩ := rv.get ey
    have T0 : s.TypeIs (.ref zz) "zip" := ⟨_, k1, rfl⟩
    have L : zz < s.heap.objs.size := Heap.lt_size k1
    have pt : s.heap.IsTuple a us.toArray := pu
    unfold pyNext
    refine wpAny_bind (wpAny_attempt (wpAny_callSpecial?_slot (name := Str.ofString "__next__") T0 F.slot_zip_next (wpAny_call_entry F.slot_zip_next T0 F.entry_zip_next ?_ (F.args_zip_next_1 _))))
    refine zipG_item (S1 := fun h => h.IsTupleIter j1 a i ∧ h.IsTuple a us.toArray) (F1 := fun h => h.IsTupleIter j1 a (i + 1)) (S2 := fun h => h.IsListIter j2 b i ∧ h.IsList b vs.toArray) (F2 := fun h => h.IsListIter j2 b (i + 1)) (x := u) (y := v)
      D.TIz D.TOz D.i1z D.i2z D.TITO D.TOi1 D.TOi2 k1 k2 k3
      (fun s0 P E h k => RZ.nextOf_tuple_item h.1 h.2 (by simpa using eu) fun g' f e => k g' f e) (fun s0 P E h k => wpAny_nextOf_list_item h.1 h.2 (by simpa using ev) fun g' f e => k g' f e)
      (fun h1 e => ⟨k4.extBut e.extBut D.i1z, pt.extBut e.extBut D.l1z⟩)
      (fun h1 h2 h3 e1 e2 e3 => ⟨((k5.extBut e1.extBut D.i2z).extBut e2.extBut D.i12.symm).extBut e3.extBut D.TOi2.symm, ((pv'.isList.extBut e1.extBut D.l2z).extBut e2.extBut D.l2i1).extBut e3.extBut D.l2TO⟩)
      fun h2 h4 h' f1 f2 up2 up4 z' o' pn' sz' kp' => ?_
    refine wpAny_pure ⟨_, rfl, wpAny_letOwnedTupleGo_zip (s := { s with heap := h' }) z' fun h'' z'' sb => ?_⟩
    have ht2 : IsPair h'' s.heap.objs.size u v := (sb.2 _ (Nat.ne_of_gt L)).trans pn'
    have nw : ObjOk X.prog X.w (upd H s.heap.objs.size (.tup [x, y])) h'' s.heap.objs.size (.tup [x, y]) := ⟨(show (2 : Nat) ≤ sizeLine by decide), [u, v], .cons rxu (.cons ryv .nil), ⟨_, ht2, rfl, _, rfl⟩⟩
    have kall : ∀ c ob, c ∉ [zz, ti, oo, j1, j2] → s.heap.get? c = some ob → h''.get? c = some ob := fun c ob hn q => by
      simp only [List.mem_cons, List.not_mem_nil, or_false, not_or] at hn
      exact (sb.2 c hn.1).trans (kp' c ob hn.1 hn.2.2.1 hn.2.2.2.1 hn.2.2.2.2 q)
    have I1 := I.turnedNew (t' := s.toks) (T := s.heap.objs.size) kall hf (Nat.le_refl _) nw
    refine ⟨.ref s.heap.objs.size, _, I1, rfl, ⟨_, x, y, rfl, I.hok.fresh (Nat.le_refl _), rfl, fun l hl => by rw [I.tuple_inj hl qx]; exact ex, fun l hl => by rw [I.list_inj hl qy]; exact ey⟩, ⟨z'', ?_, ⟨u, v, ?_⟩, ?_, ?_⟩, fun c hcm => ?_⟩
    · exact (sb.2 _ D.TIz).trans (kp' _ _ D.TIz D.TITO D.TIi1 D.TIi2 k2)
    · exact (sb.2 _ D.TOz).trans o'
    · exact f1.at fun o q => (sb.2 _ D.i1z).trans (up2 _ o D.i1z D.TOi1.symm D.i12 q)
    · exact f2.at fun o q => (sb.2 _ D.i2z).trans (up4 _ o D.i2z D.TOi2.symm q)
    · have hlt : c < s.heap.objs.size := by
        simp only [List.mem_cons, List.not_mem_nil, or_false] at hcm
        obtain ⟨o4, e4, _⟩ := k4
        obtain ⟨o5, e5, _⟩ := k5
        rcases hcm with rfl | rfl | rfl | rfl | rfl
        · exact L
        · exact Heap.lt_size k2
        · exact Heap.lt_size k3
        · exact Heap.lt_size e4
        · exact Heap.lt_size e5
      rw [upd_ne (Nat.ne_of_lt hlt)]
      exact (hf c hcm).1
  done := by
    rintro X rfl rfl rfl hc i pins s σ H E I hf st ⟨xs, qx, hle⟩
    obtain ⟨k1, k2, ⟨u0, v0, k3⟩, k4, k5⟩ := st
    obtain ⟨us, ru, pu, _⟩ := I.tuple qx
    have pt : s.heap.IsTuple a us.toArray := pu
    have lu := ru.length
    have T0 : s.TypeIs (.ref zz) "zip" := ⟨_, k1, rfl⟩
    unfold pyNext
    refine wpAny_bind (wpAny_attempt (wpAny_callSpecial?_slot (name := Str.ofString "__next__") T0 F.slot_zip_next (wpAny_call_entry F.slot_zip_next T0 F.entry_zip_next ?_ (F.args_zip_next_1 _))))
    refine zipG_end (S1 := fun h => h.IsTupleIter j1 a i ∧ h.IsTuple a us.toArray) D.i1z k1 k2 k3 (fun s0 P E h k => RZ.nextOf_tuple_end (I.ok.hd hc) h.1 h.2 (by simp; omega) fun g' e q1 q2 => k g' e q1 q2)
      (fun h1 e => ⟨k4.extBut e.extBut D.i1z, pt.extBut e.extBut D.l1z⟩) fun h' e kp he => ?_
    obtain ⟨oe, e1, e2⟩ := he
    refine wpAny_bind (wpAny_isInstance (T := "StopIteration") (b := true) ⟨oe, e1, e2⟩ isSubtype_stop (wpAny_pure ⟨rfl, I.turnedL (t' := s.toks) (ch := [zz, ti, oo, j1, j2]) (fun c ob hn q => ?_) hf⟩))
    simp only [List.mem_cons, List.not_mem_nil, or_false, not_or] at hn
    exact kp c ob hn.1 hn.2.2.2.1 q
  self := fun A i s Q E st h => wpAny_pyIter_zip st.1 h
/-! ### made -/
abbrev oTi (a : Addr) : Obj := { cls := .type "tuple_iterator", data := .fields #[.ref a, .int 0 0] }
abbrev oLi (b : Addr) : Obj := { cls := .type "list_iterator", data := .fields #[.ref b, .int 0 0] }
abbrev oPr (u v : Value) : Obj := { cls := .type "tuple", data := .seq #[u, v] }
abbrev mA (h : Heap) (a : Addr) : Heap := h.push (oTi a)
abbrev mB (h : Heap) (a b : Addr) : Heap := (mA h a).push (oLi b)
abbrev mC (h : Heap) (a b : Addr) : Heap := (mB h a b).push (oPr (.ref h.objs.size) (.ref (mA h a).objs.size))
abbrev mD (h : Heap) (a b : Addr) : Heap := (mC h a b).push (oPr .none .none)
abbrev made (h : Heap) (a b : Addr) : Heap := (mD h a b).push { cls := .type "zip", data := .fields #[.none, .bool false, .bool false, .ref (mB h a b).objs.size, .ref (mC h a b).objs.size] }
theorem meetsM (a b : Addr) (xs ys : Array Value) : Meets (Builtin.«zip.__new__» ⟨[.type "zip", .ref a, .ref b], []⟩) (fun _ R s => s.heap.IsTuple a xs ∧ s.heap.IsList b ys ∧ R (.ok (.ret (.ref (mD s.heap a b).objs.size))) { s with heap := made s.heap a b }) :=
  .of_wp fun prog w A R s h => by
    obtain ⟨hp, gs, dr, tk, os⟩ := s
    obtain ⟨ha, hb, h⟩ := h
    have zs := sub_zip
    have q1 : Heap.IsTuple (Shared.heap ⟨hp, gs, dr, tk, os⟩) a xs := ha
    have q2 : Heap.IsList (Shared.heap ⟨hp.push { cls := .type "tuple_iterator", data := .fields #[.ref a, .int 0 0] }, gs, dr, tk, os⟩) b ys := Heap.IsList.push hb _
    wp_walk using wpAny_pyIter_tuple q1, wpAny_pyIter_list q2
    exact ⟨_, rfl, h⟩
theorem szA {h : Heap} {a : Addr} : (mA h a).objs.size = h.objs.size + 1 := Heap.size_push ..
theorem szB {h : Heap} {a b : Addr} : (mB h a b).objs.size = h.objs.size + 2 := by rw [Heap.size_push, szA]
theorem szC {h : Heap} {a b : Addr} : (mC h a b).objs.size = h.objs.size + 3 := by rw [Heap.size_push, szB]
theorem szD {h : Heap} {a b : Addr} : (mD h a b).objs.size = h.objs.size + 4 := by rw [Heap.size_push, szC]
section
variable {prog : Program} {w : World} {A : Around} {E : Value → Shared → Prop} {s : Shared}
theorem callM {a b : Addr} {xs ys : Array Value} {Q : Value → Shared → Prop} (ha : s.heap.IsTuple a xs) (hb : s.heap.IsList b ys) (h : Q (.ref (s.heap.objs.size + 4)) { s with heap := made s.heap a b }) :
    wpAny (model prog w) A (call (.type "zip") [.ref a, .ref b]) Q E s := by
  refine callType_new F.called_zip (by decide) (F.typeCall_zip_2 _ _) (F.newCall_zip_2 _ _) (fun obj => F.args_object_init_3 obj _ _) F.entry_zip_new (meetsM a b xs ys) ⟨ha, hb, ⟨_, Heap.get?_push_size _ rfl, rfl⟩, ?_⟩
  show Q (.ref (mD s.heap a b).objs.size) _
  rw [szD]
  exact h
end
def iZipM (K : PySem.W.Frag) (ta : TA) : TI := fun σ H R => ta σ H fun vs H1 => ∃ a b xs ys, vs = [.ref a, .ref b] ∧ SqT K H1 a xs ∧ SqL K H1 b ys ∧ R (ItM K a b) H1
theorem pi_zipM {X : Cx} {e e2 : Expr} {ta : TA} {p pos tp : Pos} {es : List Expr} {kk : Nat} (hg : Gl X "zip") (hm : X.mg "zip" = none) (ha : PA X [e, e2] ta)
    (hs : starEach [e, e2] X.env = (false, eval e X.env) :: starEach [e2] X.env := by rfl) (hpl : (backTo pos (starEach [e2] X.env)).any (·.1) = false := by rfl) :
    PI X (.Tuple es kk tp) (.Call (.Name "zip" p) [e, e2] [] pos) (iZipM X.K ta) := by
  refine ⟨fun ps s0 τ G R I h => ?_⟩
  refine Call_ (ld_blt I hg hm boot_zip (callWith_type1 (thn (ha.run pos ps s0 τ G _ I h) fun us s1 ⟨vs, H1, I1, r1, a, b, xs, ys, ev, qx, qy, q⟩ => ?_) hs hpl))
  subst ev
  cases r1 with
  | @cons _ u1 _ u2 r r1 =>
    cases r1 with
    | @cons _ u3 _ u4 r' r1 =>
      cases r1
      obtain rfl : u1 = Value.ref a := r
      obtain rfl : u3 = Value.ref b := r'
      obtain ⟨its, rv, p1, _⟩ := I1.tuple qx
      obtain ⟨its2, rv2, p2, _⟩ := I1.list qy
      have pt : s1.heap.IsTuple a its.toArray := p1
      have kept : ∀ c o, s1.heap.get? c = some o → (made s1.heap a b).get? c = some o := fun c o e => Heap.get?_push_of_some _ (Heap.get?_push_of_some _ (Heap.get?_push_of_some _ (Heap.get?_push_of_some _ (Heap.get?_push_of_some _ e))))
      have k0 : (made s1.heap a b).get? s1.heap.objs.size = some (oTi a) := Heap.get?_push_of_some _ (Heap.get?_push_of_some _ (Heap.get?_push_of_some _ (Heap.get?_push_of_some _ (Heap.get?_push_size _ rfl))))
      have k1 : (made s1.heap a b).get? (s1.heap.objs.size + 1) = some (oLi b) := Heap.get?_push_of_some _ (Heap.get?_push_of_some _ (Heap.get?_push_of_some _ (Heap.get?_push_at szA.symm rfl)))
      have k2 : (made s1.heap a b).get? (s1.heap.objs.size + 2) = some (oPr (.ref s1.heap.objs.size) (.ref (s1.heap.objs.size + 1))) := by
        rw [← szA (h := s1.heap) (a := a)]
        exact Heap.get?_push_of_some _ (Heap.get?_push_of_some _ (Heap.get?_push_at szB.symm rfl))
      have k3 : (made s1.heap a b).get? (s1.heap.objs.size + 3) = some (oPr .none .none) := Heap.get?_push_of_some _ (Heap.get?_push_at szC.symm rfl)
      have zz : IsZip (made s1.heap a b) (s1.heap.objs.size + 4) (s1.heap.objs.size + 2) (s1.heap.objs.size + 3) .none := by
        show (made s1.heap a b).get? (s1.heap.objs.size + 4) = _
        rw [← szB (h := s1.heap) (a := a) (b := b), ← szC (h := s1.heap) (a := a) (b := b), ← szD (h := s1.heap) (a := a) (b := b)]
        exact Heap.get?_push_size _ rfl
      refine callM pt p2.isList (wpAny_pyIter_zip zz ?_)
      have I2 : Inv X ps τ H1 { s1 with heap := made s1.heap a b } := I1.kept (t' := s1.toks) kept
      refine ⟨s1.heap.objs.size + 4, [s1.heap.objs.size + 4, s1.heap.objs.size + 2, s1.heap.objs.size + 3, s1.heap.objs.size, s1.heap.objs.size + 1], _, _, H1, rfl, I2,
        turnM (PySem.W.ktu_apart s1.heap.objs.size a b p1.lt p2.lt), ⟨zz, k2, ⟨_, _, k3⟩, ⟨_, k0, rfl, rfl⟩, ⟨_, k1, rfl, rfl⟩⟩, fun c hcm => ?_, q⟩
      have hle : s1.heap.objs.size ≤ c := by
        simp only [List.mem_cons, List.not_mem_nil, or_false] at hcm
        rcases hcm with rfl | rfl | rfl | rfl | rfl <;> first | exact Nat.le_add_right _ _ | exact Nat.le_refl _
      exact I1.fpOk hle (I1.hok.fresh hle)
theorem walkM {K : PySem.W.Frag} {a b : Addr} {xs ys : List V} (hl : xs.length = ys.length) : Walk (ItM K a b) xs.length (fun H => SqT K H a xs ∧ SqL K H b ys) (YPair (fun i => xs[i]?) (fun i => ys[i]?)) where
  goes := fun i H hi h => ⟨xs, ys, xs[i], ys[i], h.1, h.2, List.getElem?_eq_getElem hi, List.getElem?_eq_getElem (by omega)⟩
  stops := fun H h => ⟨xs, h.1, Nat.le_refl _⟩
  yields := fun i H v H' hi h y => by
    obtain ⟨T, x, z, e1, e2, e3, f1, f2⟩ := y
    exact ⟨T, x, z, e1, e2, e3, f1 xs h.1, f2 ys h.2⟩
end Y
/-! // of ints of any size -/
namespace Y
open PySem PySem.Spec PyProof.Rows L2
section
variable {X : Cx}
theorem op_fdivB (hs : X.base.NoSeer) (ht : X.prog.given.tree = none) (hst : X.stack = X.env :: X.outer) (hg : X.env.scope.isGenerator = false) (hco : X.env.scope.isCoroutine = false) (hd : X.A.depth + Builtin.pylongFrames < recursionLimit) :
    OpR X (binaryOp .FloorDiv) (rI (fun _ j => j ≠ 0) fun i j => .int (i.fdiv j)) := by
  intro pins s σ H x y v u Q I r1 r2 h
  obtain ⟨i, j, e1, e2, c, q⟩ := h
  subst e1; subst e2
  obtain ⟨t, rfl⟩ := r1
  obtain ⟨t', rfl⟩ := r2
  refine floordiv_int c ⟨.int _, H, I.tok _, ⟨_, rfl⟩, q⟩ (.inr (PySem.PylongRoom.of I.nolimit hd ?_))
  exact SeerAt.of (hs.keeps I.bk) ht (by rw [I.ok.frames, hst]) hg hco I.ok.blt I.ok.glob
end
end Y
/-! plain: sums, two tables inverse to each other, the remainder of a floor division -/
namespace Y
/-- f 0 + .. + f (n - 1) -/
def sm : Nat → (Nat → Int) → Int
  | 0, _ => 0
  | n + 1, f => sm n f + f n
theorem sm_list (f : Nat → Int) : ∀ n, ((List.range n).map f).sum = sm n f
  | 0 => rfl
  | n + 1 => by rw [List.range_succ, List.map_append, List.sum_append, sm_list f n]; simp [sm]
theorem sm_congr {f g : Nat → Int} : ∀ {n : Nat}, (∀ i, i < n → f i = g i) → sm n f = sm n g
  | 0, _ => rfl
  | n + 1, h => by
    show sm n f + f n = sm n g + g n
    rw [sm_congr fun i hi => h i (by omega), h n (by omega)]
theorem sm_zero {f : Nat → Int} {n : Nat} (h : ∀ i, i < n → f i = 0) : sm n f = 0 := by
  induction n with
  | zero => rfl
  | succ n ih => show sm n f + f n = 0; rw [ih fun i hi => h i (by omega), h n (by omega)]; rfl
theorem sm_add (f g : Nat → Int) : ∀ n, sm n (fun i => f i + g i) = sm n f + sm n g
  | 0 => rfl
  | n + 1 => by show sm n (fun i => f i + g i) + (f n + g n) = (sm n f + f n) + (sm n g + g n); rw [sm_add f g n]; omega
theorem sm_mul (c : Int) (f : Nat → Int) : ∀ n, sm n (fun i => c * f i) = c * sm n f
  | 0 => by show (0 : Int) = c * 0; rw [Int.mul_zero]
  | n + 1 => by show sm n _ + _ = c * (sm n f + f n); rw [sm_mul c f n, Int.mul_add]
theorem sm_swap (f : Nat → Nat → Int) (m : Nat) : ∀ n, sm n (fun i => sm m fun j => f i j) = sm m fun j => sm n fun i => f i j
  | 0 => by
    show (0 : Int) = sm m fun _ => 0
    rw [sm_zero fun _ _ => rfl]
  | n + 1 => by
    show sm n _ + sm m _ = _
    rw [sm_swap f m n, ← sm_add]
    rfl
/-- one place changed -/
theorem sm_upd {f g : Nat → Int} {s : Nat} (h : ∀ i, i ≠ s → g i = f i) : ∀ {n : Nat}, s < n → sm n g = sm n f + (g s - f s)
  | 0, hs => by omega
  | n + 1, hs => by
    show sm n g + g n = sm n f + f n + (g s - f s)
    by_cases e : s = n
    · subst e
      rw [sm_congr fun i hi => h i (by omega)]
      omega
    · rw [sm_upd h (n := n) (by omega), h n (Ne.symm e)]
      omega
theorem sm_upd2 {f g : Nat → Int} {s t n : Nat} (h : ∀ i, i ≠ s → i ≠ t → g i = f i) (st : s ≠ t) (hs : s < n) (ht : t < n) : sm n g = sm n f + (g s - f s) + (g t - f t) := by
  have h1 : sm n (fun i => if i = s then g s else f i) = sm n f + ((if s = s then g s else f s) - f s) := sm_upd (g := fun i => if i = s then g s else f i) (fun i hi => if_neg hi) hs
  have h2 : sm n g = sm n (fun i => if i = s then g s else f i) + (g t - (if t = s then g s else f t)) := sm_upd (fun i hi => by
    by_cases e : i = s
    · rw [e]; exact (if_pos rfl).symm
    · rw [h i e hi]; exact (if_neg e).symm) ht
  rw [if_pos rfl] at h1
  rw [if_neg (Ne.symm st)] at h2
  rw [h2, h1]
theorem sm_one {f : Nat → Int} {s n : Nat} (hs : s < n) (h : ∀ i, i ≠ s → f i = 0) : sm n f = f s := by
  have q := sm_upd (f := fun _ => 0) (g := f) (s := s) (fun i hi => h i hi) hs
  rw [sm_zero (fun _ _ => rfl)] at q
  omega
abbrev dt (n : Nat) (u v : Nat → Int) : Int := sm n fun j => u j * v j
theorem dt_lin {n : Nat} {u a b : Nat → Int} {t : Int} : dt n u (fun j => a j + t * b j) = dt n u a + t * dt n u b := by
  unfold dt
  rw [← sm_mul, ← sm_add]
  exact sm_congr fun i _ => by rw [Int.mul_add, Int.mul_left_comm]
theorem dt_neg {n : Nat} {u a : Nat → Int} : dt n u (fun j => - a j) = - dt n u a := by
  have q := sm_mul (-1) (fun j => u j * a j) n
  unfold dt
  rw [show -sm n (fun j => u j * a j) = -1 * sm n (fun j => u j * a j) by omega, ← q]
  exact sm_congr fun i _ => by rw [Int.mul_neg]; omega
theorem dt_congr {n : Nat} {u v a b : Nat → Int} (h1 : ∀ j, j < n → u j = v j) (h2 : ∀ j, j < n → a j = b j) : dt n u a = dt n v b := sm_congr fun j hj => by rw [h1 j hj, h2 j hj]
def dlt (i j : Nat) : Int := if j = i then 1 else 0
theorem dlt_self {i : Nat} : dlt i i = 1 := if_pos rfl
theorem dlt_ne {i j : Nat} (h : i ≠ j) : dlt i j = 0 := if_neg (Ne.symm h)
/-- row i gets t times row k -/
def addR (M : Nat → Nat → Int) (i k : Nat) (t : Int) : Nat → Nat → Int := fun a j => if a = i then M i j + t * M k j else M a j
theorem addR_at {M : Nat → Nat → Int} {i k : Nat} {t : Int} : addR M i k t i = fun j => M i j + t * M k j := by funext j; exact if_pos rfl
theorem addR_ne {M : Nat → Nat → Int} {i k a : Nat} {t : Int} (h : a ≠ i) : addR M i k t a = M a := by funext j; exact if_neg h
/-- the tables are inverse to each other -/
structure Inv2 (n : Nat) (L C : Nat → Nat → Int) : Prop where
  a : ∀ i j, i < n → j < n → dt n (L i) (C j) = dlt i j
  b : ∀ i k, i < n → k < n → (sm n fun j => L j i * C j k) = dlt i k
theorem inv_unit (n : Nat) : Inv2 n dlt dlt := ⟨fun i j hi hj => by
    show sm n (fun k => dlt i k * dlt j k) = _
    rw [sm_one hi fun k hk => by rw [dlt_ne (Ne.symm hk), Int.zero_mul], dlt_self, Int.one_mul]
    unfold dlt
    by_cases e : i = j
    · rw [if_pos e, if_pos e.symm]
    · rw [if_neg e, if_neg (Ne.symm e)], fun i k hi hk => by
    rw [sm_one hi fun j hj => by rw [dlt_ne hj, Int.zero_mul], dlt_self, Int.one_mul]⟩
theorem Inv2.congr {n : Nat} {L C L' C' : Nat → Nat → Int} (v : Inv2 n L C) (h1 : ∀ i, i < n → ∀ j, j < n → L' i j = L i j) (h2 : ∀ i, i < n → ∀ j, j < n → C' i j = C i j) : Inv2 n L' C' :=
  ⟨fun i j hi hj => (dt_congr (h1 i hi) (h2 j hj)).trans (v.a i j hi hj), fun i k hi hk => (sm_congr fun j hj => by rw [h1 j hj i hi, h2 j hj k hk]).trans (v.b i k hi hk)⟩
theorem Inv2.take {n : Nat} {L C : Nat → Nat → Int} {s t : Nat} (v : Inv2 n L C) (x : Int) (hs : s < n) (ht : t < n) (st : s ≠ t) : Inv2 n (addR L s t x) (addR C t s (-x)) := by
  have comm : ∀ a b : Nat → Int, dt n a b = dt n b a := fun a b => sm_congr fun j _ => Int.mul_comm _ _
  refine ⟨fun i j hi hj => ?_, fun i k hi hk => ?_⟩
  · have key : ∀ u : Nat → Int, dt n u (addR C t s (-x) j) = dt n u (C j) + (if j = t then -x * dt n u (C s) else 0) := fun u => by
      by_cases e : j = t
      · rw [e, addR_at, if_pos rfl]; exact dt_lin
      · rw [addR_ne e, if_neg e]; omega
    by_cases ei : i = s
    · rw [ei, addR_at, comm, dt_lin, comm _ (L s), comm _ (L t), key, key, v.a s j hs hj, v.a t j ht hj, v.a s s hs hs, v.a t s ht hs, dlt_self, dlt_ne (Ne.symm st)]
      by_cases e : j = t
      · rw [if_pos e, if_pos e, e, dlt_ne st, dlt_self]; omega
      · rw [if_neg e, if_neg e, dlt_ne (Ne.symm e)]; omega
    · rw [addR_ne ei, key, v.a i j hi hj, v.a i s hi hs, dlt_ne ei]
      by_cases e : j = t
      · rw [if_pos e]; omega
      · rw [if_neg e]; omega
  · rw [sm_upd2 (f := fun j => L j i * C j k) (g := fun j => addR L s t x j i * addR C t s (-x) j k) (s := s) (t := t) (fun j h1 h2 => by rw [addR_ne h1, addR_ne h2]) st hs ht, v.b i k hi hk]
    rw [addR_at, addR_ne (Ne.symm st), addR_ne st, addR_at]
    have e1 : (L s i + x * L t i) * C s k = L s i * C s k + x * (L t i * C s k) := by rw [Int.add_mul, Int.mul_assoc]
    have e2 : L t i * (C t k + -x * C s k) = L t i * C t k - x * (L t i * C s k) := by rw [Int.mul_add, Int.mul_left_comm, Int.neg_mul]; omega
    show dlt i k + ((L s i + x * L t i) * C s k - L s i * C s k) + (L t i * (C t k + -x * C s k) - L t i * C t k) = dlt i k
    rw [e1, e2]; omega
/-- rows a and b change places -/
def swR (M : Nat → Nat → Int) (a b : Nat) : Nat → Nat → Int := fun i => if i = b then M a else if i = a then M b else M i
theorem swR_b {M : Nat → Nat → Int} {a b : Nat} : swR M a b b = M a := if_pos rfl
theorem swR_a {M : Nat → Nat → Int} {a b : Nat} : swR M a b a = M b := by
  unfold swR
  split
  · rename_i h; rw [h]
  · rw [if_pos rfl]
theorem swR_o {M : Nat → Nat → Int} {a b i : Nat} (h1 : i ≠ a) (h2 : i ≠ b) : swR M a b i = M i := by unfold swR; rw [if_neg h2, if_neg h1]
theorem swR_same {M : Nat → Nat → Int} {a : Nat} : swR M a a = M := by
  funext i
  unfold swR
  by_cases h : i = a
  · rw [if_pos h, h]
  · rw [if_neg h, if_neg h]
theorem Inv2.swap {n : Nat} {L C : Nat → Nat → Int} {s t : Nat} (v : Inv2 n L C) (hs : s < n) (ht : t < n) : Inv2 n (swR L s t) (swR C s t) := by
  by_cases st : s = t
  · subst st; rw [swR_same, swR_same]; exact v
  have at_ : ∀ i, i < n → ∃ i', i' < n ∧ (∀ M : Nat → Nat → Int, swR M s t i = M i') ∧ (i' = if i = t then s else if i = s then t else i) := fun i hi => by
    by_cases e1 : i = t
    · exact ⟨s, hs, fun M => by rw [e1]; exact swR_b, (if_pos e1).symm⟩
    · by_cases e2 : i = s
      · exact ⟨t, ht, fun M => by rw [e2]; exact swR_a, by rw [if_neg e1, if_pos e2]⟩
      · exact ⟨i, hi, fun M => swR_o e2 e1, by rw [if_neg e1, if_neg e2]⟩
  refine ⟨fun i j hi hj => ?_, fun i k hi hk => ?_⟩
  · obtain ⟨i', hi', ei, fi⟩ := at_ i hi
    obtain ⟨j', hj', ej, fj⟩ := at_ j hj
    rw [ei, ej, v.a i' j' hi' hj']
    unfold dlt
    have : (j' = i') ↔ (j = i) := by
      subst fi; subst fj
      split <;> split <;> (try split) <;> (try split) <;> omega
    by_cases e : j = i
    · rw [if_pos e, if_pos (this.mpr e)]
    · rw [if_neg e, if_neg (fun z => e (this.mp z))]
  · rw [sm_upd2 (f := fun j => L j i * C j k) (g := fun j => swR L s t j i * swR C s t j k) (s := s) (t := t) (fun j h1 h2 => by rw [swR_o h1 h2, swR_o h1 h2]) st hs ht, v.b i k hi hk]
    rw [swR_a, swR_a, swR_b, swR_b]
    omega
def ngR (M : Nat → Nat → Int) (a : Nat) : Nat → Nat → Int := fun i j => if i = a then - M a j else M i j
theorem ngR_at {M : Nat → Nat → Int} {a : Nat} : ngR M a a = fun j => - M a j := by funext j; exact if_pos rfl
theorem ngR_ne {M : Nat → Nat → Int} {a i : Nat} (h : i ≠ a) : ngR M a i = M i := by funext j; exact if_neg h
theorem Inv2.neg {n : Nat} {L C : Nat → Nat → Int} {s : Nat} (v : Inv2 n L C) (hs : s < n) : Inv2 n (ngR L s) (ngR C s) := by
  have comm : ∀ a b : Nat → Int, dt n a b = dt n b a := fun a b => sm_congr fun j _ => Int.mul_comm _ _
  refine ⟨fun i j hi hj => ?_, fun i k hi hk => ?_⟩
  · by_cases ei : i = s <;> by_cases ej : j = s
    · subst ei; subst ej; rw [ngR_at, ngR_at, dt_neg, comm, dt_neg, comm, v.a _ _ hi hi]; omega
    · subst ei; rw [ngR_at, ngR_ne ej, comm, dt_neg, comm, v.a _ _ hi hj, dlt_ne (Ne.symm ej)]; rfl
    · subst ej; rw [ngR_at, ngR_ne ei, dt_neg, v.a _ _ hi hj, dlt_ne ei]; rfl
    · rw [ngR_ne ei, ngR_ne ej, v.a _ _ hi hj]
  · rw [← v.b i k hi hk]
    refine sm_congr fun j _ => ?_
    by_cases e : j = s
    · subst e; rw [ngR_at, ngR_at]; show - L j i * - C j k = _; rw [Int.neg_mul_neg]
    · rw [ngR_ne e, ngR_ne e]
/-! ### floor division -/
theorem fd_pos {a b : Int} (h : 0 < b) : 0 ≤ a - a.fdiv b * b ∧ a - a.fdiv b * b < b := by
  have e : a.fdiv b = a / b := Int.fdiv_eq_ediv_of_nonneg a (Int.le_of_lt h)
  have h1 := Int.emod_nonneg a (Int.ne_of_gt h)
  have h2 := Int.emod_lt_of_pos a h
  have h3 := Int.emod_add_mul_ediv a b
  rw [e, Int.mul_comm]
  omega
theorem fd_neg {a b : Int} (h : b < 0) : b < a - a.fdiv b * b ∧ a - a.fdiv b * b ≤ 0 := by
  have e : a.fdiv b = (-a).fdiv (-b) := by rw [Int.neg_fdiv_neg]
  have q := fd_pos (a := -a) (b := -b) (by omega)
  rw [← e, Int.mul_neg] at q
  omega
/-- the remainder: less than the divisor, of its sign -/
theorem fd_rem {a b : Int} (h : b ≠ 0) : (a - a.fdiv b * b).natAbs < b.natAbs ∧ (a - a.fdiv b * b ≠ 0 → (0 < a - a.fdiv b * b ↔ 0 < b)) := by
  rcases Int.lt_or_gt_of_ne h with q | q
  · have := fd_neg (a := a) q; constructor <;> omega
  · have := fd_pos (a := a) q; constructor <;> omega
theorem fd_quo {a b : Int} (h : b ≠ 0) : (a.fdiv b).natAbs * b.natAbs ≤ a.natAbs + b.natAbs := by
  have r := (fd_rem (a := a) h).1
  rw [← Int.natAbs_mul]
  omega
theorem fd_half {a b : Int} (h : b ≠ 0) (hab : b.natAbs ≤ a.natAbs) (hs : 0 < a ↔ 0 < b) (hr : a - a.fdiv b * b ≠ 0) : 2 * (a - a.fdiv b * b).natAbs < a.natAbs := by
  have key : ∀ a b : Int, 0 < b → b ≤ a → a - a.fdiv b * b ≠ 0 → 2 * (a - a.fdiv b * b) < a := fun a b hb hab _ => by
    have q := fd_pos (a := a) hb
    have e : a.fdiv b = a / b := Int.fdiv_eq_ediv_of_nonneg a (Int.le_of_lt hb)
    have h1 : 1 ≤ a.fdiv b := by
      rw [e]
      exact (Int.le_ediv_iff_mul_le hb).mpr (by omega)
    have h2 : 1 * b ≤ a.fdiv b * b := Int.mul_le_mul_of_nonneg_right h1 (by omega)
    omega
  rcases Int.lt_or_gt_of_ne h with q | q
  · have e : a.fdiv b = (-a).fdiv (-b) := by rw [Int.neg_fdiv_neg]
    have q1 := key (-a) (-b) (by omega) (by omega) (by rw [← e, Int.mul_neg]; omega)
    have q2 := fd_neg (a := a) q
    rw [← e, Int.mul_neg] at q1
    omega
  · have q1 := key a b (by omega) (by omega) hr
    have q2 := fd_pos (a := a) q
    omega
end Y
/-! rows as functions, while, pairs -/
namespace Y
open PySem PySem.Spec PyProof.Rows L2
/-- the list of f 0 .. f (n - 1) -/
abbrev tab (n : Nat) (f : Nat → V) : List V := (List.range n).map f
abbrev vl (n : Nat) (u : Nat → Int) : List V := tab n fun j => .int (u j)
theorem tab_len {n : Nat} {f : Nat → V} : (tab n f).length = n := by rw [List.length_map, List.length_range]
theorem tab_get {n : Nat} {f : Nat → V} {i : Nat} (h : i < n) : (tab n f)[i]? = some (f i) := by rw [List.getElem?_map, List.getElem?_range h]; rfl
theorem tab_at {n : Nat} {f : Nat → V} {i : Nat} {x : V} (h : (tab n f)[i]? = some x) : i < n ∧ x = f i := by
  by_cases hi : i < n
  · rw [tab_get hi] at h; cases h; exact ⟨hi, rfl⟩
  · rw [List.getElem?_eq_none (by rw [tab_len]; omega)] at h; cases h
theorem tab_ext {n : Nat} {f g : Nat → V} (h : ∀ i, i < n → f i = g i) : tab n f = tab n g := List.map_congr_left fun i hi => h i (List.mem_range.mp hi)
theorem tab_set {n : Nat} {f : Nat → V} {i : Nat} {x : V} : (tab n f).set i x = tab n fun k => if k = i then x else f k := by
  refine List.ext_getElem? fun k => ?_
  by_cases hk : k < n
  · rw [List.getElem?_set, tab_get hk, tab_get hk, tab_len]
    by_cases e : i = k
    · subst e; rw [if_pos rfl, if_pos hk, if_pos rfl]
    · rw [if_neg e, if_neg (Ne.symm e)]
  · rw [List.getElem?_eq_none (by rw [List.length_set, tab_len]; omega), List.getElem?_eq_none (by rw [tab_len]; omega)]
theorem tab_snoc {n : Nat} {f : Nat → V} : tab n f ++ [f n] = tab (n + 1) f := by
  show _ = (List.range (n + 1)).map f
  rw [List.range_succ, List.map_append]; rfl
theorem tab_of (xs : List V) : xs = tab xs.length fun i => xs.getD i .non := by
  refine List.ext_getElem? fun k => ?_
  by_cases hk : k < xs.length
  · rw [tab_get hk, List.getElem?_eq_getElem hk, List.getD_eq_getElem?_getD, List.getElem?_eq_getElem hk]; rfl
  · rw [List.getElem?_eq_none (by omega), List.getElem?_eq_none (by rw [tab_len]; omega)]
theorem vl_ints {n : Nat} {u : Nat → Int} : vl n u = ((List.range n).map u).map V.int := by rw [List.map_map]; rfl
section
variable {K : PySem.W.Frag} {σ : L2.St} {H : Hp} {Q : VK} {D : Ends} {tc : TT} {tb : TS} {tr : TA} {R : It → Hp → Prop} {g1 g2 : TG} {T p q : Addr} {x z : V} {G : L2.St → Hp → Prop} {xs ys : List V}
theorem rd_gpair (e : H T = some (.tup [x, z])) (h : g1 x σ H fun σ1 H1 => g2 z σ1 H1 G) : gTup K 2 (gCons g1 (gCons g2 gNil)) (.ref T) σ H G :=
  ⟨T, [x, z], rfl, SqT.of e, rfl, x, [z], rfl, by
    show g1 x σ H fun σ1 H1 => gCons g2 gNil [z] σ1 H1 G
    have e2 : (fun σ1 H1 => gCons g2 gNil [z] σ1 H1 G) = fun σ1 H1 => g2 z σ1 H1 G := by
      funext σ1 H1
      refine propext ⟨fun k => ?_, fun k => ⟨z, [], rfl, ?_⟩⟩
      · obtain ⟨v, vr, ev, k⟩ := k
        cases ev
        have e3 : (fun σ2 H2 => gNil [] σ2 H2 G) = G := by funext σ2 H2; exact propext ⟨fun k => k.2, fun k => ⟨rfl, k⟩⟩
        have k' : g2 z σ1 H1 fun σ2 H2 => gNil [] σ2 H2 G := k
        rw [e3] at k'
        exact k'
      · show g2 z σ1 H1 fun σ2 H2 => gNil [] σ2 H2 G
        have e3 : (fun σ2 H2 => gNil [] σ2 H2 G) = G := by funext σ2 H2; exact propext ⟨fun k => k.2, fun k => ⟨rfl, k⟩⟩
        rw [e3]
        exact k
    rw [e2]
    exact h⟩
def WhB (c : TT) (tb : TS) (D : Ends) (σ : L2.St) (H : Hp) : Prop := tWhile c tb D σ H
theorem rd_while (h : WhB tc tb D σ H) : tWhile tc tb D σ H := h
theorem while_w (W : Nat → L2.St → Hp → Prop) (m : Nat) (h0 : W m σ H)
    (hs : ∀ m σ H, W m σ H → tc σ H fun b H1 => if b = true then ∃ N : L2.St → Hp → Prop, (∀ σ' H', N σ' H' → ∃ m', m' < m ∧ W m' σ' H') ∧ tb { D with nx := N, ct := N, bk := D.nx } σ H1 else D.nx σ H1) : WhB tc tb D σ H := ⟨W, ⟨m, h0⟩, hs⟩
theorem while_in {W : Nat → L2.St → Hp → Prop} {m : Nat} (h : tb { D with nx := fun σ' H' => ∃ m', m' < m ∧ W m' σ' H', ct := fun σ' H' => ∃ m', m' < m ∧ W m' σ' H', bk := D.nx } σ H) :
    ∃ N : L2.St → Hp → Prop, (∀ σ' H', N σ' H' → ∃ m', m' < m ∧ W m' σ' H') ∧ tb { D with nx := N, ct := N, bk := D.nx } σ H := ⟨_, fun _ _ h => h, h⟩
/-- zip of a tuple and a list -/
def ZpM (K : PySem.W.Frag) (vs : List V) (H : Hp) (R : It → Hp → Prop) : Prop := ∃ a b xs ys, vs = [.ref a, .ref b] ∧ SqT K H a xs ∧ SqL K H b ys ∧ R (ItM K a b) H
theorem rd_iZM (h : tr σ H fun vs H1 => ZpM K vs H1 R) : iZipM K tr σ H R := h
theorem rd_zpM (e : H p = some (.tup xs)) (f : H q = some (.lst ys)) (h : R (ItM K p q) H) : ZpM K [.ref p, .ref q] H R := ⟨p, q, xs, ys, rfl, SqT.of e, SqL.of f, h⟩
theorem wkM (hl : xs.length = ys.length) : Walk (ItM K p q) xs.length (fun H => H p = some (.tup xs) ∧ H q = some (.lst ys)) (YPair (fun i => xs[i]?) (fun i => ys[i]?)) :=
  (walkM hl).mono (fun _ h => ⟨SqT.of h.1, SqL.of h.2⟩) fun _ _ _ _ _ _ y => y
/-- the walks over rows told by functions -/
theorem wkMt {n : Nat} {f g : Nat → V} : Walk (ItM K p q) n (fun H => H p = some (.tup (tab n f)) ∧ H q = some (.lst (tab n g))) (YPair (fun i => some (f i)) fun i => some (g i)) := by
  have w := wkM (K := K) (p := p) (q := q) (xs := tab n f) (ys := tab n g) (by rw [tab_len, tab_len])
  rw [tab_len] at w
  exact w.mono (fun _ h => h) fun i H x H' hi _ y => by
    obtain ⟨T, a, b, e1, e2, e3, e4, e5⟩ := y
    exact ⟨T, a, b, e1, e2, e3, (tab_get hi).symm.trans e4, (tab_get hi).symm.trans e5⟩
theorem wkZt {n : Nat} {f g : Nat → V} : Walk (Itz K p q) n (fun H => H p = some (.lst (tab n f)) ∧ H q = some (.lst (tab n g))) (YPair (fun i => some (f i)) fun i => some (g i)) := by
  have w := wkZ (K := K) (p := p) (q := q) (xs := tab n f) (ys := tab n g) (by rw [tab_len, tab_len])
  rw [tab_len] at w
  exact w.mono (fun _ h => h) fun i H x H' hi _ y => by
    obtain ⟨T, a, b, e1, e2, e3, e4, e5⟩ := y
    exact ⟨T, a, b, e1, e2, e3, (tab_get hi).symm.trans e4, (tab_get hi).symm.trans e5⟩
theorem wkLt {n : Nat} {f : Nat → V} : Walk (Itl K p) n (fun H => H p = some (.lst (tab n f))) (YFn f) := by
  have w := wkL (K := K) (p := p) (xs := tab n f)
  rw [tab_len] at w
  exact w.mono (fun _ h => h) fun i H x H' hi _ y => ⟨y.1, (tab_at y.2).2⟩
theorem wkTt {n : Nat} {f : Nat → V} : Walk (Itt K p) n (fun H => H p = some (.tup (tab n f))) (YFn f) := by
  have w := wkT (K := K) (p := p) (xs := tab n f)
  rw [tab_len] at w
  exact w.mono (fun _ h => h) fun i H x H' hi _ y => ⟨y.1, (tab_at y.2).2⟩
theorem rd_lenLt {n : Nat} {f : Nat → V} (e : H p = some (.lst (tab n f))) (h : Q (.int n) H) : rLen K [.ref p] H Q := rd_lenL e (by rw [tab_len]; exact h)
theorem rd_lenTt {n : Nat} {f : Nat → V} (e : H p = some (.tup (tab n f))) (h : Q (.int n) H) : rLen K [.ref p] H Q := rd_lenT e (by rw [tab_len]; exact h)
theorem rd_ixLt {n : Nat} {f : Nat → V} {i : Int} (j : Nat) (e : H p = some (.lst (tab n f))) (ei : i = (j : Int)) (hj : j < n) (h : Q (f j) H) : rIxL K (.ref p) (.int i) H Q := rd_ixLn j e ei (tab_get hj) h
theorem rd_ixTt {n : Nat} {f : Nat → V} {i : Int} (j : Nat) (e : H p = some (.tup (tab n f))) (ei : i = (j : Int)) (hj : j < n) (h : Q (f j) H) : rIxT K (.ref p) (.int i) H Q := rd_ixTn j e ei (tab_get hj) h
theorem rd_setLt {n : Nat} {f : Nat → V} {i : Int} (j : Nat) {v : V} {q : Hp → Prop} (e : H p = some (.lst (tab n f))) (ei : i = (j : Int)) (hj : j < n) (h : ∀ H2, Xt [p] H H2 → H2 p = some (.lst (tab n fun k => if k = j then v else f k)) → q H2) : rSetL (.ref p) (.int i) v H q :=
  rd_setL j e ei (by rw [tab_len]; exact hj) fun H2 x y => h H2 x (by rw [tab_set] at y; exact y)
theorem room_pyl {k : Nat} {A : Around} (r : Room k A) (h : 40 ≤ k) : A.depth + Builtin.pylongFrames < recursionLimit := by
  have := r.dp
  show A.depth + 100 < _
  omega
end
end Y
/-! an own exception over ValueError whose maker begins with super().__init__(one) -/
namespace Y
open PySem PySem.Spec PyProof.Rows L2 NdefX
abbrev cl1 (cc : Addr) : List (Str × Addr) := [("__class__", cc)]
def cellF (name qual : Str) (params : Arguments) (body : List Stmt) (scope : Scope) (cc cda : Addr) : NF := ⟨name, qual, params, body, scope, cl1 cc, cda⟩
/-- what the written part says of the maker at f, of the class C -/
structure SupK (P : Program) (K : PySem.W.Frag) (mg : Str → Option Value) (C f cc cda : Addr) (me : Str) (F : NF) (fd : FuncData) : Prop where
  fun_ : ∃ (oc : Value) (od : Option Addr) (osl : Array (Option Value)) (dV kV doc pm ct : Value) (an : Option Addr), fd = PySem.W.fnX F.name F.qual F.params F.body F.scope (cl1 cc) dV kV doc pm an (.ref cda) ct ∧ K.lookup f = some ⟨oc, od, .func fd, osl⟩
  code : PySem.W.codeIn K (.ref cda) F.qual = true
  file : ∃ (cl : Value) (dd : Option Addr) (vs : Array Value) (sl : Array (Option Value)) (nm : Str) (tf : Tok), K.lookup cda = some ⟨cl, dd, .fields vs, sl⟩ ∧ vs[2]? = some (.str nm tf) ∧ ((P.main.file : Str) == nm) = true
  cell : ∃ (cl : Value) (dd : Option Addr) (sl : Array (Option Value)), K.lookup cc = some ⟨cl, dd, .cell (some (.ref C)), sl⟩
  cls : ∃ cd, PySem.W.clsIn K C = some cd
  self : PySem.W.mroIn K C (.ref C) = some true
  ost : PySem.W.nsIn K cStatics "thirdparty.any" = some none
  up : PySem.W.ks_superIn K C C "__init__" = some (some (.builtin "ValueError.__init__"))
  ve : PySem.W.subIn K (.ref C) (.type "ValueError") = some true
  exc : OexC K C
  nosup : mg "super" = none
  top : (P.main.scope.names.lookup ("super" : Str)).isSome = false
  head : ∃ ar : Arg, (F.params.posonlyargs ++ F.params.args).head? = some ar ∧ ar.arg = me
  ks : F.scope.names.lookup ("super" : Str) = some .globalImplicit
  kc : F.scope.names.lookup ("__class__" : Str) = some .free
theorem boot_super : bootBuiltins "super" = some (.type "super") := by decide +kernel
section
variable {CX : CXT} {P : Program} {w : World} {K : PySem.W.Frag} {mg : Str → Option Value} {base : Heap} {C f cc cda : Addr} {me : Str} {F : NF} {fd : FuncData} {N ps : List Str} {k : Nat} {sp : Sp}
/-- ValueError.__init__ bound to an exception of ours, called -/
theorem run_bound {A : Around} {E : Value → Shared → Prop} {h : Heap} {g : Array GenState} {d : Drawn} {t : Nat} {os : OsState} {nm q : Str} {N : Addr} {bs bm : List Value} {hdct : Bool} {sn : List Str} {sub : List Value} {ab : Bool} {col : Option Bool} {dd : Option Addr} {k0 k1 k2 k3 k5 : Option Value} {e u t0 : Addr} {more : List Value} {Q : Value → Shared → Prop}
    (hC : h.get? C = some (excClassObj nm q C N bs bm hdct sn sub ab col dd k0 k1 k2 k3 k5 "ValueError.__new__")) (he : h.get? e = some ({ cls := .ref C, dict := none, data := .fields #[.ref t0, .none, .none, .none, .bool false, .none] } : Obj)) (hu : h.get? u = some (PySem.W.kxs_mw "ValueError.__init__" e)) (hz : more.length ≤ sizeLine)
    (hq : ∀ h' t1, (∀ b o, b ≠ e → h.get? b = some o → h'.get? b = some o) → h'.get? e = some ({ cls := .ref C, dict := none, data := .fields #[.ref t1, .none, .none, .none, .bool false, .none] } : Obj) → Q .none ⟨h', g, d, t, os⟩) :
    wpAny (model P w) A (call (.ref u) more) Q E ⟨h, g, d, t, os⟩ := by
  have FB := F.excBase_ValueError
  have e1 : (Value.type "method-wrapper" == Value.type "method" || Value.type "method-wrapper" == Value.type "builtin_function_or_method" || Value.type "method-wrapper" == Value.type "method-wrapper") = true := by decide
  refine wpAny_call (codeAny_of_tree ?_); show wpAny _ A.in1 (callAny (.ref u) ⟨more, []⟩) _ _ _
  simp only [callAny]
  refine wpAny_bind (wpAny_load hu ?_)
  simp only [PySem.W.kxs_mw, e1, if_true]
  refine PySem.W.KFB.if_so (by decide) (wpAny_bind (PySem.W.check_bound_init FB.toExcCallFacts hC he rfl ?_))
  refine wpAny_bind (wpAny_pure (wpAny_pure ⟨plainId_quiet FB.init.plain _, codeAny_builtin FB.initEntry ?_⟩))
  exact PySem.W.exc_init_tree (cls := .ref C) (t0 := t0) (dv := none) (c2 := .none) (c3 := .none) (b4 := .bool false) he hz fun h' k1 k2 _ => hq h' _ k1 k2

/-- the maker: super().__init__(one), then the rest -/
theorem sup_ok {p0 p1 p2 p3 p4 : Pos} {one : Expr} {rest : List Stmt} (S : SupK P K mg C f cc cda me F fd) (hF : F.cl = cl1 cc) (hc : F.c = cda) (N1 : NScope N ps ["__class__"] F.scope) (h0 : ps[0]? = some me) (len : ∀ vs H Q E, sp vs H Q E → vs.length = ps.length)
    (hb : F.body = .Expr (.Call (.Attribute (.Call (.Name "super" p0) [] [] p1) "__init__" p2) [one] [] p3) p4 :: rest)
    (hev : ∀ L : Addr, ∃ pl : Sem Bool, eval (.Call (.Attribute (.Call (.Name "super" p0) [] [] p1) "__init__" p2) [one] [] p3) (envF F f L) = (do
      let ov ← attributeBase (.Call (.Name "super" p0) [] [] p1) "__init__" (envF F f L) (eval (.Call (.Name "super" p0) [] [] p1) (envF F f L))
      standAt p2.atName
      let (g, first) ← holding [ov] (getMethod ov "__init__" pl)
      callWith p3 g first (backTo p3 (starEach [one] (envF F f L))) []))
    (hsw : ∀ L : Addr, swapsWith (.Call (.Attribute (.Call (.Name "super" p0) [] [] p1) "__init__" p2) [one] [] p3) none p4.line (envF F f L) = pure false)
    (hin : ∀ L : Addr, interactive (envF F f L) = false)
    (hst : ∀ L : Addr, starEach [one] (envF F f L) = [(false, eval one (envF F f L))])
    (hbody : ∀ (A : Around) (outer : List Env) (s : Shared) (H : Hp) (vs : List V) (Q : VK) (E : XK), Room k (A.deeper (envF F f s.heap.objs.size)) → sp vs H Q E →
      ∃ (te : TA) (t : TS) (a : Addr), PA (ncx CX P w K mg base N F f A outer s H E) [one] te ∧ PSs (ncx CX P w K mg base N F f A outer s H E) rest t ∧ vs[0]? = some (.ref a) ∧ H a = some (exo a C none) ∧
        te (startF N vs [none]) H fun ws H1 => ws.length ≤ 1000 ∧ H1 a = some (exo a C none) ∧ t { nx := fun _ H' => Q .non H', rt := Q } (startF N vs [none]) H1) :
    FnOk P w K mg base CX (k + 1) f fd ps sp := by
  refine ⟨len, fun A outer s H args us vs Q E hr e0 hbn r hsp => ?_⟩
  have hl := len _ _ _ _ hsp
  obtain ⟨oc, od, osl, dV, kV, doc, pm, ct, an, rfl, lk⟩ := S.fun_
  have KX : K.In s.heap := e0.mod.kin.keeps fun b o e => (e0.bs b o e).1
  have nol : s.heap.NoLimit := e0.mod.nolimit.keeps fun b o e => (e0.bs b o e).1
  obtain ⟨ccl, cdd, csl, lcell⟩ := S.cell
  have atK : ∀ {b : Addr} {o : Obj}, K.lookup b = some o → H b = none := fun {b o} q => (e0.bs b o (e0.mod.kin _ _ q)).2
  have bx : ∀ {y : Str} {c : Addr}, F.cl.lookup y = some c → y = "__class__" ∧ c = cc := fun {y c} q => by
    rw [hF] at q
    unfold cl1 List.lookup at q
    split at q
    · rename_i hy
      cases q
      exact ⟨beq_iff_eq.mp hy, rfl⟩
    · cases q
  have cells : CellsAt F.cl ["__class__"] [none] s.heap H := ⟨rfl, fun y c q => by
      obtain ⟨_, rfl⟩ := bx q
      exact ⟨atK lcell, _, _, KX _ _ lcell, rfl⟩, fun x y c q1 q2 => (bx q1).1.trans (bx q2).1.symm, fun i y q => by
      cases i with
      | zero =>
        cases q
        exact ⟨cc, by rw [hF]; rfl, fun v z => by cases z⟩
      | succ i => cases q⟩
  have e4 : callEnv (PySem.W.fnX F.name F.qual F.params F.body F.scope (cl1 cc) dV kV doc pm an (.ref cda) ct) s.heap.objs.size f = envF F f s.heap.objs.size := by
    show _ = PySem.W.envX F.qual F.scope s.heap.objs.size f (.ref F.c) F.cl
    rw [hF, hc]; rfl
  refine ks_codeAny_call_defAt (fd := PySem.W.fnX F.name F.qual F.params F.body F.scope (cl1 cc) dV kV doc pm an (.ref cda) ct) (body := F.body) (binds := ps.zip us) hr.depth (KX _ _ lk) rfl nol (PySem.W.codeRec_of KX S.code) rfl hbn N1.nocell
    (fun ⟨n, _⟩ hy => N1.par n (List.of_mem_zip hy).1) (fun h₁ hns kp => ?_) N1.co N1.gen N1.kind
  rw [e4]
  obtain ⟨te, t, a, he, ht, ea, hA, hq⟩ := hbody A outer s H vs Q E (hr.deeper _) hsp
  have I : Inv (ncx CX P w K mg base N F f A outer s H E) [] (startF N vs [none]) H { s with heap := h₁, toks := s.toks + (ps.zip us).length } := inv_startN N1 hr.hd e0 hl r cells hns kp
  have fin : ∀ {σ' : L2.St} {H' : Hp} {v : V} {u : Value} {s' : Shared}, Inv (ncx CX P w K mg base N F f A outer s H E) [] σ' H' s' → L2.RelV v u → Q v H' → CE outer P w H s Q u s' :=
    fun {σ' H' v u s'} J rv q => ⟨v, H', J.os, J.bare, J.base, J.hok, rv, q⟩
  obtain ⟨u0, hu0, ru0⟩ := r.get ea
  obtain rfl : u0 = Value.ref a := ru0
  obtain ⟨ar, har, earg⟩ := S.head
  obtain ⟨fcl, fdd, fvs, fsl, nm, tf, lcode, hvs, hfile⟩ := S.file
  obtain ⟨cdC, hcd⟩ := S.cls
  obtain ⟨mb, hb1, hb2⟩ := I.mod.blt
  have psN : ps.Nodup := by
    have q := N1.nd.sublist (List.take_sublist (ps.length + [("__class__" : Str)].length) N)
    rw [N1.pre] at q
    exact (List.nodup_append.mp q).1
  have K1 : K.In h₁ := I.kIn
  obtain ⟨oD, hD1, hD2⟩ : ∃ oD, h₁.get? C = some oD ∧ oD.data = .cls cdC := by
    have q := hcd
    unfold PySem.W.clsIn at q
    split at q
    · rename_i c d cd' sl ho
      cases q
      exact ⟨_, K1 _ _ ho, rfl⟩
    · cases q
  obtain ⟨t0, hx0⟩ := exo_at I.hok hA
  have hx0' : h₁.get? a = some ({ cls := .ref C, dict := none, data := .fields #[.ref t0, .none, .none, .none, .bool false, .none] } : Obj) := hx0
  rw [hb]
  refine ks_wpAt_execs_cons (ks_wpAt_Expr_any ?_ (hin _) (hsw _))
  obtain ⟨pl, hev'⟩ := hev s.heap.objs.size
  refine ks_wpAt_MethodCall (pl := pl) ?_ hev'
  refine ks_wpAt_super_base (env := envF F f s.heap.objs.size) S.ks S.kc (by decide) rfl (K1 _ _ lk) rfl har (show Value.ref F.c = .ref cda by rw [hc]) (K1 _ _ lcode) rfl hvs hfile S.top ?_
  refine PySem.W.ks_loadName_global (env := envF F f s.heap.objs.size) N1.kind S.ks (Calls.loadGlobal_builtin (env := envF F f s.heap.objs.size) (I.mod.glob.keeps I.bk) S.nosup (hb1.keeps I.bk) ((hb2 _ (by decide)).trans boot_super) ⟨rfl, ?_⟩)
  refine wpAny_loadName_free (env := envF F f s.heap.objs.size) N1.kind S.kc (show F.cl.lookup _ = some cc by rw [hF]; rfl) ⟨_, K1 _ _ lcell, rfl⟩ ?_
  rw [earg]
  refine wpAny_loadName_local (env := envF F f s.heap.objs.size) N1.kind (N1.par me (List.mem_of_getElem? h0)) hns (zip_look psN h0 hu0) ?_
  refine ks_wpAny_isType_cls hD1 hD2 ⟨rfl, ?_⟩
  refine ks_wpAny_call_super hD1 hD2 hx0' rfl (fun c e => by cases e) (PySem.W.looks_mroIn K1 S.self) (fun h2 so2 kp2 => ?_)
  have I2 := I.kept (h' := h2) (t' := s.toks + (ps.zip us).length) kp2
  have K2 : K.In h2 := I2.kIn
  have ia : PySem.W.InstAt h2 a { cls := .ref C, data := .fields #[.ref t0, .none, .none, .none, .bool false, .none] } C none := ⟨kp2 _ _ hx0', rfl, rfl, trivial⟩
  have hup := S.up
  unfold PySem.W.ks_superIn at hup
  rw [hcd] at hup
  refine PySem.W.kxs_getMethod PySem.W.kxs_ValueError so2 (PySem.W.looks_opaque K2 S.ost) (l₀ := cdC.mro) (fun A Q E s k q => wpAny_bind ((PySem.W.looks_clsIn K2 hcd) A _ E s k (wpAny_pure q))) rfl K2 hup (ia.type.andThen (PySem.W.looks_subIn K2 S.ve)) (PySem.W.ks_ne K2 ia hcd) (by decide) ?_
  have kp3 : ∀ b o, h2.get? b = some o → (h2.push (PySem.W.kxs_mw "ValueError.__init__" a)).get? b = some o := fun b o q => Heap.get?_push_of_some _ q
  have hu3 : (h2.push (PySem.W.kxs_mw "ValueError.__init__" a)).get? h2.objs.size = some (PySem.W.kxs_mw "ValueError.__init__" a) := Heap.get?_push_at rfl rfl
  have I3 := (I2.kept (h' := h2.push (PySem.W.kxs_mw "ValueError.__init__" a)) (t' := s.toks + (ps.zip us).length + 1) kp3).pins_of (pins' := [(h2.objs.size, PySem.W.kxs_mw "ValueError.__init__" a)]) fun p hp => by
    obtain rfl : p = (h2.objs.size, PySem.W.kxs_mw "ValueError.__init__" a) := by simpa using hp
    exact ⟨hu3, I2.hok.fresh (Nat.le_refl _), Nat.ne_of_gt I2.lt, I2.nofs (Nat.le_refl _), fun v z => by cases z⟩
  refine PySem.W.kxs_callWith (i := "ValueError.__init__") (x := a) (by rw [hst]; rfl) ?_
  have hpa := he.run p3 _ _ _ _ _ I3 hq
  have es : starEach [one] (ncx CX P w K mg base N F f A outer s H E).env = [(false, eval one (envF F f s.heap.objs.size))] := hst _
  rw [es] at hpa
  rw [hst]
  refine PySem.Calls.evalArgs_plain (thn hpa fun us4 s4 hh4 => ?_)
  obtain ⟨vs4, H4, I4, r4, hz4, hA4, q4⟩ := hh4
  obtain ⟨hh4, g4, d4, tk4, os4⟩ := s4
  have hu4 : hh4.get? h2.objs.size = some (PySem.W.kxs_mw "ValueError.__init__" a) := (I4.pin (h2.objs.size, PySem.W.kxs_mw "ValueError.__init__" a) (by simp [ncx])).1
  refine ⟨hu4, ?_⟩
  obtain ⟨t4, hx4⟩ := exo_at I4.hok hA4
  obtain ⟨nmC, qC, NC, bsC, bmC, snC, subC, abC, colC, ddC, k0, k1, k2, k3, k5, hC, hbm⟩ := S.exc.cls
  refine run_bound (P := P) (I4.kIn _ _ hC) hx4 hu4 (by show us4.length ≤ sizeLine; rw [← r4.length, sizeLine_eq]; omega) fun h5 t5 kp5 hx5 => ?_
  have J := (I4.write (t' := tk4) (x := a) (e := a) (o := exo a C none) (by rw [hA4]; exact True.intro) (.inl rfl) kp5 ⟨_, hx5⟩ (exo_ok hx5)).pins_of (pins' := []) (fun p hp => by simp at hp)
  have eu : upd H4 a (exo a C none) = H4 := by
    funext b
    by_cases hb : b = a
    · rw [hb, upd_same, hA4]
    · exact upd_ne hb
  rw [eu] at J
  refine wpAt_of_wpAny (wpAny_mono (ht.run [] _ _ _ _ J q4) (fun fl s' hs => ?_) fun e s' hs => hs)
  cases fl with
  | ret u =>
    obtain ⟨v, σ', H', J', rv, q⟩ := hs
    exact fin J' rv q
  | next =>
    obtain ⟨σ', H', J', q⟩ := hs
    exact fin (v := V.non) (u := Value.none) J' rfl q
  | brk => exact (let ⟨_, _, _, q⟩ := hs; False.elim q)
  | cont => exact (let ⟨_, _, _, q⟩ := hs; False.elim q)
end
end Y
/-! three targets, comprehensions that make objects -/
namespace Y
open PySem PySem.Spec PyProof.Rows L2
section
variable {K : PySem.W.Frag} {σ : L2.St} {H : Hp} {Q : VK} {D : Ends} {g g1 g2 g3 : TG} {te : TE} {T p q : Addr} {x y z : V} {G : L2.St → Hp → Prop} {xs ys : List V} {J : It} {n : Nat} {Gd : Hp → Prop} {Yl : Nat → Hp → V → Hp → Prop} {vs : List Nat}
def isTp : HO → Prop
  | .tup _ => True
  | _ => False
/-- a comprehension whose elements are objects: o i the i-th -/
theorem lc_refs (w : Walk J n Gd Yl) (o : Nat → HO) (hn : n ≤ 100000) (hG : ∀ H', Ex H H' → Gd H')
    (hs : ∀ i x H1 H2, i < n → Ex H H1 → Yl i H1 x H2 → ∀ P : VK, (∀ p H4, Ex H1 H4 → H4 p = some (o i) → (H1 p = none ∨ isTp (o i)) → P (.ref p) H4) → g x (wipe σ vs) H2 fun σ2 H3 => wipe σ2 vs = wipe σ vs ∧ te σ2 H3 P)
    (hd : ∀ (D : Addr) (ps : Nat → Addr) (H' : Hp), H D = none → Ex H H' → H' D = some (.lst (tab n fun i => .ref (ps i))) → (∀ i, i < n → H' (ps i) = some (o i) ∧ ps i ≠ D) → Q (.ref D) H') : LcB J g tYes te vs σ H Q := fun D hD =>
  lc_it w (fun i H' => ∃ ps : Nat → Addr, Ex H H' ∧ H' D = some (.lst (tab i fun k => .ref (ps k))) ∧ ∀ k, k < i → H' (ps k) = some (o k) ∧ ps k ≠ D) ⟨fun _ => 0, ex_new hD, upd_same, fun k hk => by omega⟩ (fun i H' _ ⟨ps, h, _⟩ => hG H' h) (fun i x H1 H2 hi h yy => by
    obtain ⟨ps, e, eD, hp⟩ := h
    refine hs i x H1 H2 hi e yy _ fun p H4 e4 ep fr => ?_
    have pD : p ≠ D := fun z => by
      rcases fr with fr | fr
      · rw [z, eD] at fr; cases fr
      · rw [z, e4.at eD] at ep
        have q := Option.some.inj ep
        rw [← q] at fr
        exact fr.elim
    refine ⟨_, e4.at eD, szl (by rw [tab_len]; omega), fun k => if k = i then p else ps k, ?_, ?_, fun k hk => ?_⟩
    · exact Xt.fresh (S := [D]) (Xt.trans e e4) (xt_upd (by simp)) (by simp [hD])
    · rw [upd_same]
      refine congrArg (fun z => some (HO.lst z)) ?_
      rw [← tab_snoc]
      dsimp only
      rw [if_pos rfl]
      refine congrArg (· ++ _) (tab_ext fun k hk => ?_)
      rw [if_neg (by omega)]
    · dsimp only
      by_cases hki : k = i
      · subst hki; rw [if_pos rfl]; exact ⟨by rw [upd_ne pD]; exact ep, pD⟩
      · rw [if_neg hki]
        have q := hp k (by omega)
        exact ⟨by rw [upd_ne q.2]; exact e4.at q.1, q.2⟩) fun H' h => by
    obtain ⟨ps, e, eD, hp⟩ := h
    exact hd D ps H' hD e eD hp
theorem gcons_nil (e : z = z) : (fun (σ1 : L2.St) (H1 : Hp) => gCons g3 gNil [z] σ1 H1 G) = fun σ1 H1 => g3 z σ1 H1 G := by
  funext σ1 H1
  have e3 : (fun σ2 H2 => gNil [] σ2 H2 G) = G := by funext σ2 H2; exact propext ⟨fun k => k.2, fun k => ⟨rfl, k⟩⟩
  refine propext ⟨fun k => ?_, fun k => ⟨z, [], rfl, ?_⟩⟩
  · obtain ⟨v, vr, ev, k⟩ := k
    cases ev
    have k' : g3 z σ1 H1 fun σ2 H2 => gNil [] σ2 H2 G := k
    rw [e3] at k'
    exact k'
  · show g3 z σ1 H1 fun σ2 H2 => gNil [] σ2 H2 G
    rw [e3]
    exact k
theorem gcons_two : (fun (σ1 : L2.St) (H1 : Hp) => gCons g2 (gCons g3 gNil) [y, z] σ1 H1 G) = fun σ1 H1 => g2 y σ1 H1 fun σ2 H2 => g3 z σ2 H2 G := by
  funext σ1 H1
  refine propext ⟨fun k => ?_, fun k => ⟨y, [z], rfl, ?_⟩⟩
  · obtain ⟨v, vr, ev, k⟩ := k
    cases ev
    have k' : g2 y σ1 H1 fun σ2 H2 => gCons g3 gNil [z] σ2 H2 G := k
    rw [gcons_nil rfl] at k'
    exact k'
  · show g2 y σ1 H1 fun σ2 H2 => gCons g3 gNil [z] σ2 H2 G
    rw [gcons_nil rfl]
    exact k
theorem rd_gtrip (e : H T = some (.tup [x, y, z])) (h : g1 x σ H fun σ1 H1 => g2 y σ1 H1 fun σ2 H2 => g3 z σ2 H2 G) : gTup K 3 (gCons g1 (gCons g2 (gCons g3 gNil))) (.ref T) σ H G :=
  ⟨T, [x, y, z], rfl, SqT.of e, rfl, x, [y, z], rfl, by
    show g1 x σ H fun σ1 H1 => gCons g2 (gCons g3 gNil) [y, z] σ1 H1 G
    rw [gcons_two]
    exact h⟩
end
section
variable {K : PySem.W.Frag} {σ : L2.St} {H : Hp} {Q : VK} {g : TG} {te : TE} {J : It} {n : Nat} {Gd : Hp → Prop} {Yl : Nat → Hp → V → Hp → Prop} {vs : List Nat}
/-- a comprehension whose elements are tuples and change what S names; R0 keeps the books -/
theorem lc_eft (w : Walk J n Gd Yl) (S : List Addr) (R0 : Hp → Prop) (Pr : Nat → List V → Prop) (hS : ∀ a ∈ S, H a ≠ none) (hn : n ≤ 100000) (hG : ∀ H', Xt S H H' → R0 H' → Gd H') (hT : ∀ H1, R0 H1 → ∀ a ∈ S, ∀ xs, H1 a ≠ some (.tup xs))
    (hR : ∀ H1 H2 D, H D = none → R0 H1 → Xt [D] H1 H2 → R0 H2) (h0 : R0 H)
    (hs : ∀ i x H1 H2, i < n → Xt S H H1 → R0 H1 → Yl i H1 x H2 → ∀ P : VK, (∀ p xs H4, Xt S H1 H4 → R0 H4 → H4 p = some (.tup xs) → Pr i xs → P (.ref p) H4) → g x (wipe σ vs) H2 fun σ2 H3 => wipe σ2 vs = wipe σ vs ∧ te σ2 H3 P)
    (hd : ∀ (D : Addr) (ps : Nat → Addr) (xss : Nat → List V) (H' : Hp), H D = none → Xt S H H' → R0 H' → H' D = some (.lst (tab n fun i => .ref (ps i))) → (∀ i, i < n → H' (ps i) = some (.tup (xss i)) ∧ Pr i (xss i)) → Q (.ref D) H') : LcB J g tYes te vs σ H Q := fun D hD => by
  have hDS : D ∉ S := fun z => hS D z hD
  refine lc_it w (fun i H' => ∃ (ps : Nat → Addr) (xss : Nat → List V), Xt S H H' ∧ R0 H' ∧ H' D = some (.lst (tab i fun k => .ref (ps k))) ∧ ∀ k, k < i → H' (ps k) = some (.tup (xss k)) ∧ Pr k (xss k)) ⟨fun _ => 0, fun _ => [], Ex.xt (ex_new hD), hR H _ D hD h0 (Ex.xt (ex_new hD)), upd_same, fun k hk => by omega⟩ (fun i H' hi h => ?_) (fun i x H1 H2 hi h yy => ?_) fun H' h => ?_
  · obtain ⟨_, _, e, r, _⟩ := h
    exact hG H' e r
  · obtain ⟨ps, xss, e, r, eD, hp⟩ := h
    refine hs i x H1 H2 hi e r yy _ fun p xs H4 e4 r4 ep pr => ?_
    have pD : p ≠ D := fun z => by
      rw [z, e4.at eD hDS] at ep
      cases ep
    refine ⟨_, e4.at eD hDS, szl (by rw [tab_len]; omega), fun k => if k = i then p else ps k, fun k => if k = i then xs else xss k, ?_, hR _ _ D hD r4 (xt_upd (by simp)), ?_, fun k hk => ?_⟩
    · refine fun a o na ha => ?_
      have nd : a ≠ D := fun z => by rw [z, hD] at ha; cases ha
      rw [upd_ne nd]
      exact e4 a o na (e a o na ha)
    · rw [upd_same]
      refine congrArg (fun z => some (HO.lst z)) ?_
      rw [← tab_snoc]
      dsimp only
      rw [if_pos rfl]
      refine congrArg (· ++ _) (tab_ext fun k hk => ?_)
      rw [if_neg (by omega)]
    · dsimp only
      by_cases hki : k = i
      · subst hki; rw [if_pos rfl, if_pos rfl]; exact ⟨by rw [upd_ne pD]; exact ep, pr⟩
      · rw [if_neg hki, if_neg hki]
        have q := hp k (by omega)
        have kS : ps k ∉ S := fun z => hT H1 r _ z _ q.1
        have kD : ps k ≠ D := fun z => by rw [z, eD] at q; cases q.1
        exact ⟨by rw [upd_ne kD]; exact e4.at q.1 kS, q.2⟩
  · obtain ⟨ps, xss, e, r, eD, hp⟩ := h
    exact hd D ps xss H' hD e r eD hp
end
theorem rd_brk {D : Ends} {σ : L2.St} {H : Hp} (h : D.bk σ H) : tBreak D σ H := h
/-- an if without else whose branch ends where the rest begins -/
theorem rd_ifG {p : Prop} [Decidable p] {tu : TS} {σ : L2.St} {H : Hp} {tz bk ct : L2.St → Hp → Prop} {dr : VK} (G : L2.St → Prop) (h1 : p → ∀ tz' : L2.St → Hp → Prop, (∀ σ', G σ' → tz' σ' H) → tu { nx := tz', rt := dr, bk := bk, ct := ct } σ H) (h2 : ¬ p → G σ)
    (hk : ∀ σ', G σ' → tz σ' H) : if decide p = true then tu { nx := tz, rt := dr, bk := bk, ct := ct } σ H else tNext { nx := tz, rt := dr, bk := bk, ct := ct } σ H := by
  by_cases hp : p
  · rw [decide_eq_true hp]; exact h1 hp tz hk
  · rw [decide_eq_false hp]; exact hk σ (h2 hp)
theorem rd_ifH {p : Prop} [Decidable p] {tu : TS} {σ : L2.St} {H : Hp} {tz bk ct : L2.St → Hp → Prop} {dr : VK} (G : L2.St → Hp → Prop) (h1 : p → ∀ tz' : L2.St → Hp → Prop, (∀ σ' H', G σ' H' → tz' σ' H') → tu { nx := tz', rt := dr, bk := bk, ct := ct } σ H) (h2 : ¬ p → G σ H)
    (hk : ∀ σ' H', G σ' H' → tz σ' H') : if decide p = true then tu { nx := tz, rt := dr, bk := bk, ct := ct } σ H else tNext { nx := tz, rt := dr, bk := bk, ct := ct } σ H := by
  by_cases hp : p
  · rw [decide_eq_true hp]; exact h1 hp tz hk
  · rw [decide_eq_false hp]; exact hk σ H (h2 hp)
/-! ### truth, //, pop -/
def tTru (K : PySem.W.Frag) (ta : TE) : TT := fun σ H Q => ta σ H fun x H' => ∃ k, TruV K x H' k ∧ Q k H'
theorem pt_tru {X : Cx} {a : Expr} {ta : TE} (ha : PE X a ta) (he : ∀ whole, isTrue a X.env whole = (do let v ← whole; standAt a.pos; holding [v] (truthy v))) : PT X a (tTru X.K ta) := pt_truth ha he
theorem op_fdivS {X : Cx} : OpR X (binaryOp .FloorDiv) (rI (fun _ j => j ≠ 0 ∧ j.natAbs.log2 < 9000) fun i j => .int (i.fdiv j)) := opI fun _ _ _ _ _ _ _ hc q => floordiv_int hc.1 q (.inl (PyProof.noPylong_of_log2 hc.2))
section
variable {K : PySem.W.Frag} {σ : L2.St} {H : Hp} {Q : VK} {R : Bool → Hp → Prop} {ta : TE} {p : Addr} {xs : List V}
def Tr (K : PySem.W.Frag) (x : V) (H : Hp) (R : Bool → Hp → Prop) : Prop := ∃ k, TruV K x H k ∧ R k H
theorem rd_tru (h : ta σ H fun x H' => Tr K x H' R) : tTru K ta σ H R := h
theorem rd_truL (e : H p = some (.lst xs)) (h : R (!xs.isEmpty) H) : Tr K (.ref p) H R := ⟨_, .inl ⟨xs, SqL.of e, rfl⟩, h⟩
theorem rd_tru0 (e : H p = some (.lst [])) (h : R false H) : Tr K (.ref p) H R := rd_truL e h
theorem rd_tru1 {x : V} (e : H p = some (.lst (x :: xs))) (h : R true H) : Tr K (.ref p) H R := rd_truL e h
theorem rd_truT {n : Nat} {f : Nat → V} (e : H p = some (.lst (tab n f))) (hn : 0 < n) (h : R true H) : Tr K (.ref p) H R := rd_truL e (by
  have z : (tab n f).isEmpty = false := by
    cases n with
    | zero => omega
    | succ n => show (List.map f (List.range (n + 1))).isEmpty = false; rw [List.range_succ]; simp
  rw [z]; exact h)
theorem rd_popAt {x : V} {xs : List V} (e : H p = some (.lst (x :: xs))) (h : ∀ H2, Xt [p] H H2 → H2 p = some (.lst xs) → Q x H2) : rPopAt (.ref p) [.int 0] H Q :=
  ⟨p, x :: xs, 0, 0, x, rfl, rfl, e, by decide, by decide, by unfold seqIndex?; simp, rfl, h _ (xt_upd (by simp)) upd_same⟩
end
/-! ### rules with the written part named -/
section
variable {X : Cx} {K : PySem.W.Frag} {tg l : Expr} {tl : TE}
theorem ix_listK (h : X.K = K) : IxR X (rIxL K) := by subst h; exact ix_list
theorem ix_tupK (h : X.K = K) : IxR X (rIxT K) := by subst h; exact ix_tup
theorem sl_listK (h : X.K = K) : SlR X (rSlL K) := by subst h; exact sl_list
theorem cr_lenK (h : X.K = K) : CallR X (.builtin "len") (rLen K) := by subst h; exact cr_len
theorem cr_tupOfK (h : X.K = K) : CallR X (.type "tuple") (rTupOf K) := by subst h; exact cr_tupOf
theorem cr_lstOfK (h : X.K = K) : CallR X (.type "list") (rLstOf K) := by subst h; exact cr_lstOf
theorem cr_isiK (h : X.K = K) : CallR X (.builtin "isinstance") (rIsi K) := by subst h; exact call_isi
theorem pi_listK (h : X.K = K) (hl : PE X l tl) : PI X tg l (iList K tl) := by subst h; exact pi_list hl
theorem pi_tupK (h : X.K = K) (hl : PE X l tl) : PI X tg l (iTup K tl) := by subst h; exact pi_tup hl
end
end Y
/-! within an except suite: isinstance of the caught error (with its fields), a plain def called -/
namespace Y
open PySem PySem.Spec PyProof.Rows L2 L2H
/-! ### isinstance of a caught error that has fields -/
section
open PySem.W PySem.Calls
variable {prog : Program} {w : World} {A : Around} {E : Value → Shared → Prop} {s : Shared} {K : Frag} {x D : Addr} {ox : Obj} {od : Option Obj}
theorem obj_data {C : Addr} {name : Str} {a g : Value} (hc : (clsIn K C).isSome = true) (ha : findIn K (.ref C) name = some (some a)) (hg : specialIn K a "__get__" = some (some g)) (ht : takesIn K a = some true) : findObj K C od name = some (.bind g a) := by
  obtain ⟨cd, hc⟩ := Option.isSome_iff_exists.mp hc
  unfold findObj
  rw [hc, Option.bind_some, ha, Option.bind_some]
  simp [hg, ht]
theorem cls_of {Q : Option Value → Shared → Prop} (T : L2.ExcC K D) (X : K.In s.heap) (I : InstAt s.heap x ox D od) (h : Q (some (.ref D)) { s with toks := s.toks + 1 }) : wpAny (model prog w) A (getAttr? (.ref x) "__class__") Q E s := by
  have hf : findObj K D od "__class__" = some (.bind (.builtin "getset_descriptor.__get__") (.builtin "object.__class__")) := obj_data (by
    obtain ⟨cd, hc, _⟩ := any_some T.hd
    rw [hc]; rfl) T.ha T.hn T.ht
  obtain ⟨hp, g, d, t, os⟩ := s
  have k0 := I.type (M := model prog w)
  have k1 := looks_findIn (M := model prog w) X T.hg
  have k2 := looks_findIn (M := model prog w) X T.hk
  have k3 := looks_find (M := model prog w) X I hf
  have sub : Looks (model prog w) hp (isInstance (.ref x) (.type "BaseException")) true := k0.andThen (looks_subIn X T.hs)
  have n0 : (false && onTheHeap (Value.builtin "BaseException.__getattribute__")) = false := rfl
  have n2 : (Value.builtin "BaseException.__getattribute__" == Value.builtin "object.__getattribute__") = false := by decide +kernel
  have n1 : (onTheHeap (Value.ref D) && Value.builtin "BaseException.__getattribute__" == Value.builtin "object.__getattribute__") = false := by rw [n2]; rfl
  unfold getAttr? getAttrBy? getAttrBy
  refine wpAny_bind (wpAny_mkText (wpAny_bind (wpAny_attempt (wpAny_holding (wpAny_bind (k0.at (wpAny_bind (k1.at ?_))))))))
  show wpAny _ _ (if (onTheHeap (Value.ref D) && Value.builtin "BaseException.__getattribute__" == Value.builtin "object.__getattribute__") = true then _ else _) _ _ _
  rw [n1, if_neg Bool.false_ne_true]
  unfold getAttrByItsOwn hookBefore
  refine wpAny_bind ?_
  rw [if_pos (show onTheHeap (Value.ref D) = true from rfl)]
  refine k2.at ?_
  refine wpAny_bind (wpAny_attempt (wpAny_holding ?_))
  unfold callGetattribute
  rw [n0, if_neg Bool.false_ne_true]
  unfold boundAndCalled
  rw [PySem.F.excAttr_ValueError.ga.bind (.ref x)]
  refine wpAny_bind (wpAny_pure ?_)
  show wpAny _ _ (call (.builtin "BaseException.__getattribute__") [.ref x, .str "__class__" t]) _ _ _
  refine wpAny_call (codeAny_call_builtin PySem.F.excAttr_ValueError.ga.plain PySem.F.entry_bexc_ga ?_)
  refine @check_slot (model prog w) _ _ ⟨hp, g, d, t + 1, os⟩ "BaseException.__getattribute__" "BaseException" "__getattribute__" (.ref x) [.str "__class__" t] [] _ (by decide +kernel) (by decide +kernel) sub (PySem.F.args_bexc_ga (.ref x) (.str "__class__" t)) ?_
  unfold Builtin.«object.__getattribute__»
  refine wpAny_bind (wpAny_of_eq (a := ((Value.ref x : Value), [Value.str "__class__" t])) (by first | rfl | (simp only [slotArgs]; rfl)) ?_)
  refine wpAny_bind (wpAny_pure (wpAny_bind (k0.at (wpAny_bind (k3.at ?_)))))
  show wpAny _ _ (holding [Value.builtin "object.__class__"] (call (.builtin "getset_descriptor.__get__") [.builtin "object.__class__", .ref x, .ref D]) >>= ret) _ _ _
  refine wpAny_bind (wpAny_holding (wpAny_call (class_get (s := ⟨hp, g, d, t + 1, os⟩) (ox := ox) (od := od) X I T.hm ?_)))
  refine wpAny_pure ?_
  show wpAny _ _ (handedOut (.ref D)) _ _ _
  rw [handedOut_of (v := .ref D) rfl]
  first
    | exact wpAny_pure (wpAny_pure h)
    | exact wpAny_pure h
    | exact wpAny_pure (wpAny_bind (wpAny_pure (wpAny_pure h)))
theorem kit_exc (T : L2.ExcC K D) : KitX K (.ref x) (.ref D) (fun h => InstAt h x ox D od) where
  ty := fun _ _ _ I => I.type
  it := fun _ _ X _ => by
    obtain ⟨cdD, hcD, _⟩ := any_some T.hd
    unfold clsIn at hcD
    split at hcD
    · rename_i c' d' cd' sl' ho
      intro A' Q' E' s' k q
      unfold isType loadHead
      exact wpAny_bind (wpAny_loadPart (k _ _ (X _ _ ho)) (wpAny_pure q))
    · cases hcD
  ne := fun h tp dd its n sl X htp => by
    obtain ⟨cdD, hcD, _⟩ := any_some T.hd
    refine Bool.eq_false_iff.mpr fun q => ?_
    have e : D = tp := Value.ref.inj (beq_iff_eq.mp q)
    subst e
    unfold clsIn at hcD
    split at hcD
    · rename_i c' d' cd' sl' ho
      have z := (X _ _ ho).symm.trans htp
      cases z
    · cases hcD
  ca := fun X I k => cls_of T X I k
end
/-- isinstance(e, c), e the caught error of the class D that has fields -/
def rIsF (K : PySem.W.Frag) (D a : Addr) (cls : Value) (d : Option Addr) : List V → Hp → VK → Prop := fun xs H Q => ∃ (c : V) (cv : Value) (b : Bool) (dd : Addr) (fs : List (Str × V)), xs = [.ref a, c] ∧ (∀ u, RelV c u → u = cv) ∧ PySem.W.kitOne K (.ref D) cv = some b ∧ cls = .ref D ∧ d = some dd ∧ H dd = some (.xd fs) ∧ Q (.bl b) H
theorem call_isF {X : Cx} {a D : Addr} {oe : Obj} {cls : Value} {d : Option Addr} {pn : List (Addr × Obj)} (C : ExcC X.K D) (hz : Zc cls d oe) (hf : ∃ vs, oe.data = .fields vs) : CallR (X.suite a ((a, oe) :: pn)) (.builtin "isinstance") (rIsF X.K D a cls d) := by
  intro pins s σ H xs us Q I r h
  obtain ⟨c, cv, b, dd, fs, rfl, hcv, e, rfl, rfl, hd, q⟩ := h
  cases r with
  | cons rx rr =>
    cases rr with
    | cons rt rr =>
      cases rr
      cases rx
      have ec := hcv _ rt
      subst ec
      obtain ⟨hget, _⟩ := I.pin (a, oe) (List.mem_append.mpr (.inl List.mem_cons_self))
      obtain ⟨vs, hv⟩ := hf
      have hx : ObjOk X.prog X.w H s.heap dd (.xd fs) := I.hok dd _ hd
      obtain ⟨mA, hns, _⟩ := hx
      obtain ⟨od, ho, _⟩ := lookIn_ns hns
      have J : PySem.W.InstAt s.heap a oe D (some od) := ⟨hget, hz.1, by unfold PySem.W.notCls; rw [hv] <;> rfl, by rw [hz.2]; exact ho⟩
      exact PySem.W.kia_one (kit_exc C) I.kIn J e (fun z => nomatch z) fun tk => ⟨.bl b, H, I.kept (t' := tk) fun _ _ z => z, rfl, q⟩
/-! ### a plain def, called there -/
structure FnP (P : Program) (w : World) (K : PySem.W.Frag) (mg : Str → Option Value) (base : Heap) (CX : CXT) (k : Nat) (f : Addr) (fd : FuncData) (ps : List Str) (sp : Sp) : Prop where
  len : ∀ vs H Q E, sp vs H Q E → vs.length = ps.length
  run : ∀ (A : Around) (outer : List Env) (s : Shared) (H : Hp) (ar : Args) (us : List Value) (vs : List V) (Q : VK) (E : XK) (p : Addr × Obj), RoomH k A → PinOk outer H s p → Env0 P w K mg base A outer s H → BindsTo s fd ar (ps.zip us) → Vals vs us → sp vs H Q E → codeAny (model P w) A (.call (.ref f) ar) (CR CX outer P w H s Q E) s
theorem Fun.okP {P : Program} {w : World} {K : PySem.W.Frag} {mg : Str → Option Value} {base : Heap} {x qual : Str} {st : Stmt} {f : Addr} {fd : FuncData} {N ps : List Str} {k : Nat} {sp : Sp} (F : L2.Fun K x qual st f fd) (S : FnScope N ps (defScope st)) (len : ∀ vs H Q E, sp vs H Q E → vs.length = ps.length)
    (hb : ∀ (cdv : Value) (A : Around) (outer : List Env) (s : Shared) (H : Hp) (vs : List V) (Q : VK) (E : XK) (p : Addr × Obj), sp vs H Q E → ∃ t, PSs (cxH CX0 P w K mg base N qual (defScope st) f cdv A outer s H E p) (defBody st) t ∧ t { nx := fun _ H' => Q .non H', rt := Q } (L2.start N vs) H) : FnP P w K mg base CX0 (k + 1) f fd ps sp := by
  obtain ⟨oc, od, kV, doc, pm, an, cdv, ct, osl, rfl, lk, hcd⟩ := F.ex
  refine ⟨len, fun A outer s H ar us vs Q E p room pin e0 bd r hsp => ?_⟩
  have hl := len _ _ _ _ hsp
  have kx : K.In s.heap := e0.mod.kin.keeps fun b o q => (e0.bs b o q).1
  have nl : s.heap.NoLimit := e0.mod.nolimit.keeps fun b o q => (e0.bs b o q).1
  have kd : ∀ y ∈ ps.zip us, (defScope st).names.lookup y.1 = some .local ∨ ((defScope st).names.lookup y.1 = some .cell ∧ ((cellsFrom (s.heap.objs.size + 1) (defScope st).names []).lookup y.1).isSome = true) := by
    rintro ⟨n, v⟩ hy
    rcases S.par n (List.of_mem_zip hy).1 with q | q
    · exact .inl q
    · exact .inr ⟨q, PySem.W.cellsFrom_some _ _ _ (.inl q)⟩
  refine codeAny_call_function room.depth (kx _ _ lk) rfl S.co S.gen rfl (PySem.W.codeRec_of kx hcd) (bd _ _ _ _ (wpAny_newFunctionEnv_cells S.kind kd fun env he s1 x => ?_))
  subst he
  obtain ⟨t, ht, hq⟩ := hb cdv A outer s H vs Q E p hsp
  have I := inv_startH (CX := CX0) (E := E) (f := f) (cd := cdv) (qual := qual) S pin e0 hl r x
  refine ⟨nl.keeps x.toInCall.keep, codeAny_func (wpAny_mono (ht.run [] s1 (L2.start N vs) H _ I hq) (fun fl s' hs => ?_) fun e s' hs => hs)⟩
  cases fl with
  | ret u => exact (let ⟨v, _, H', J, rv, q⟩ := hs; ⟨v, H', J.os, J.bare, J.base, J.hok, rv, q⟩)
  | next => exact (let ⟨_, H', J, q⟩ := hs; ⟨V.non, H', J.os, J.bare, J.base, J.hok, rfl, q⟩)
  | brk => exact (let ⟨_, _, _, q⟩ := hs; False.elim q)
  | cont => exact (let ⟨_, _, _, q⟩ := hs; False.elim q)
structure ClP (P : Program) (w : World) (K : PySem.W.Frag) (mg : Str → Option Value) (base : Heap) (k : Nat) (x : Str) (ps : List Str) (sp : Sp) : Prop where
  ex : ∃ (f : Addr) (fd : FuncData), FnP P w K mg base CX0 k f fd ps sp ∧ mg x = some (.ref f) ∧ PySem.W.keepIn K (.ref f) = true ∧ Binds K fd ps []
theorem pe_callP {X : Cx} {a : Addr} {oe : Obj} {pn : List (Addr × Obj)} {j k : Nat} {x : Str} {ps : List Str} {sp : Sp} {p pos : Pos} {e : Expr} {es : List Expr} {t : TA} (c : ClP X.prog X.w X.K X.mg X.base k x ps sp) (hr : Room j X.A) (hk : k ≤ j) (hg : Gl X x) (ha : PA (X.suite a ((a, oe) :: pn)) (e :: es) t)
    (hdb : (x == ("__debug__" : Str)) = false := by decide) (he : starEach (e :: es) X.env = (false, eval e X.env) :: starEach es X.env := by rfl) (hpl : (backTo pos (starEach es X.env)).any (·.1) = false := by rfl) :
    PE (X.suite a ((a, oe) :: pn)) (.Call (.Name x p) (e :: es) [] pos) (tCall sp [] E0 t) := by
  obtain ⟨f, fd, F, hm, kp, b⟩ := c.ex
  refine ⟨fun pins s σ H Q I h => ?_⟩
  refine wpAny_Call_Name_kw (ld_glob I hg hm ?_ hdb)
  refine PySem.W.callWith_K (h₀ := X.base) I.ok.mod.kin kp (thn (ha.run pos pins s σ H _ I h) fun us s1 hh => ?_) he hpl
  obtain ⟨vs, H1, I1, r, q⟩ := hh
  refine ⟨I1.kIn, ?_⟩
  have q' : sp vs H1 Q E0 := by
    have z : sp (vs ++ []) H1 Q E0 := q
    rw [List.append_nil] at z
    exact z
  have hl : us.length = ps.length := by rw [← r.length]; exact F.len _ _ _ _ q'
  have bd := b s1 us I1.kIn (by rw [List.append_nil]; exact hl)
  rw [List.append_nil] at bd
  have p1 := I1.pin (a, oe) (List.mem_append_left _ List.mem_cons_self)
  have pin : PinOk X.stack H1 s1 (a, oe) := ⟨p1.1, p1.2.1, fun hm => (List.mem_cons.mp (I1.stkSub a hm)).elim p1.2.2.1 p1.2.2.2.1, p1.2.2.2.2⟩
  have rm : RoomH k (X.suite a ((a, oe) :: pn)).A := ⟨by have := (hr.mono hk).dp; exact this, by have := (hr.mono hk).un; exact this⟩
  refine wpAny_call (codeAny_mono (F.run _ X.stack s1 H1 ⟨us, []⟩ us vs Q E0 (a, oe) rm pin I1.env0 bd r q') fun res s' hq => ?_)
  cases res with
  | error er => exact False.elim hq
  | ok fl =>
    cases fl with
    | ret u => exact I1.after hq
    | next => exact False.elim hq
    | brk => exact False.elim hq
    | cont => exact False.elim hq
/-- a call in a try's body: what it lets out is told by the slots -/
theorem pe_yS {X : Cx} {CX : CXT} {E : L2.St → XK} {k j : Nat} {x : Str} {ps : List Str} {sp : Sp} {p pos : Pos} {e : Expr} {es : List Expr} {t : TA} (c : Cl X.prog X.w X.K X.mg X.base CX k x ps sp) (hr : Room j X.A) (hk : k ≤ j) (hx : ∀ σ, PassesAt CX X σ (E σ)) (hg : Gl X x) (ha : PA X (e :: es) t)
    (hdb : (x == ("__debug__" : Str)) = false := by decide) (he : starEach (e :: es) X.env = (false, eval e X.env) :: starEach es X.env := by rfl) (hpl : (backTo pos (starEach es X.env)).any (·.1) = false := by rfl) :
    PE X (.Call (.Name x p) (e :: es) [] pos) (tCallS sp E t) := by
  obtain ⟨f, fd, F, hm, kp, b⟩ := c.ex
  exact pe_callS F (hr.mono hk) hg hm kp b hx ha hdb he hpl
theorem rd_callS {σ : L2.St} {H : Hp} {Q : VK} {sp : Sp} {E : L2.St → XK} {t : TA} (h : t σ H fun vs H1 => sp vs H1 Q (E σ)) : tCallS sp E t σ H Q := h
end Y
/-! plain: a determinant of integer rows, by expansion along the first column -/
namespace Y
theorem sm_oneB {f : Nat → Int} {s n : Nat} (hs : s < n) (h : ∀ i, i < n → i ≠ s → f i = 0) : sm n f = f s := by
  have q := sm_congr (n := n) (f := f) (g := fun i => if i = s then f s else 0) fun i hi => by
    by_cases e : i = s
    · rw [if_pos e, e]
    · rw [if_neg e, h i hi e]
  rw [q, sm_one hs fun i hi => if_neg hi, if_pos rfl]
theorem sm_twoB {f : Nat → Int} {s t n : Nat} (st : s ≠ t) (hs : s < n) (ht : t < n) (h : ∀ i, i < n → i ≠ s → i ≠ t → f i = 0) : sm n f = f s + f t := by
  have q := sm_congr (n := n) (f := f) (g := fun i => if i = s then f s else if i = t then f t else 0) fun i hi => by
    by_cases e : i = s
    · rw [if_pos e, e]
    · rw [if_neg e]
      by_cases e2 : i = t
      · rw [if_pos e2, e2]
      · rw [if_neg e2, h i hi e e2]
  rw [q, sm_upd2 (f := fun _ => 0) (fun i h1 h2 => by rw [if_neg h1, if_neg h2]) st hs ht, sm_zero (fun _ _ => rfl), if_pos rfl, if_neg (Ne.symm st), if_pos rfl]
  omega
def sg : Nat → Int
  | 0 => 1
  | n + 1 => -sg n
def skip (j i : Nat) : Nat := if i < j then i else i + 1
def det : Nat → (Nat → Nat → Int) → Int
  | 0, _ => 1
  | n + 1, M => sm (n + 1) fun j => sg j * (M j 0 * det n fun i k => M (skip j i) (k + 1))
def up (M : Nat → Nat → Int) (r : Nat) (v : Nat → Int) : Nat → Nat → Int := fun i k => if i = r then v k else M i k
theorem skip_ne (j i : Nat) : skip j i ≠ j := by unfold skip; split <;> omega
def unskip (j r : Nat) : Nat := if r < j then r else r - 1
theorem skip_un {j r : Nat} (h : j ≠ r) (i : Nat) : skip j i = r ↔ i = unskip j r := by
  unfold skip unskip; split <;> split <;> omega
theorem det_up_other {M : Nat → Nat → Int} {r : Nat} {v : Nat → Int} : (fun i k => up M r v (skip r i) (k + 1)) = fun i k => M (skip r i) (k + 1) := by
  funext i k; exact if_neg (skip_ne r i)
theorem det_up_in {M : Nat → Nat → Int} {r j : Nat} {v : Nat → Int} (h : j ≠ r) : (fun i k => up M r v (skip j i) (k + 1)) = up (fun i k => M (skip j i) (k + 1)) (unskip j r) fun k => v (k + 1) := by
  funext i k
  unfold up
  by_cases e : skip j i = r
  · rw [if_pos e, if_pos ((skip_un h i).mp e)]
  · rw [if_neg e, if_neg fun q => e ((skip_un h i).mpr q)]
theorem det_lin (a b : Int) : ∀ (n : Nat) (M : Nat → Nat → Int) (r : Nat) (u v : Nat → Int), r < n →
    det n (up M r fun k => a * u k + b * v k) = a * det n (up M r u) + b * det n (up M r v)
  | 0, _, _, _, _, h => by omega
  | n + 1, M, r, u, v, h => by
    show sm (n + 1) _ = a * sm (n + 1) _ + b * sm (n + 1) _
    rw [← sm_mul, ← sm_mul, ← sm_add]
    refine sm_congr fun j hj => ?_
    by_cases e : j = r
    · subst e
      rw [det_up_other, det_up_other, det_up_other]
      show sg j * ((if j = j then _ else _) * _) = a * (sg j * ((if j = j then _ else _) * _)) + b * (sg j * ((if j = j then _ else _) * _))
      rw [if_pos rfl, if_pos rfl, if_pos rfl]
      grind
    · rw [det_up_in e, det_up_in e, det_up_in e]
      rw [det_lin a b n _ (unskip j r) (fun k => u (k + 1)) (fun k => v (k + 1)) (by unfold unskip; split <;> omega)]
      show sg j * ((if j = r then _ else _) * _) = a * (sg j * ((if j = r then _ else _) * _)) + b * (sg j * ((if j = r then _ else _) * _))
      rw [if_neg e, if_neg e, if_neg e]
      grind
theorem det_adj : ∀ (n : Nat) (M : Nat → Nat → Int) (r : Nat), r + 1 < n → (∀ k, M r k = M (r + 1) k) → det n M = 0
  | 0, _, _, h, _ => by omega
  | n + 1, M, r, h, e => by
    have q := sm_twoB (f := fun j => sg j * (M j 0 * det n fun i k => M (skip j i) (k + 1))) (s := r) (t := r + 1) (n := n + 1) (by omega) (by omega) (by omega) (fun j hj h1 h2 => by
      show sg j * (M j 0 * det n fun i k => M (skip j i) (k + 1)) = 0
      have z : (det n fun i k => M (skip j i) (k + 1)) = 0 := by
        by_cases c : j < r
        · refine det_adj n _ (r - 1) (by omega) fun k => ?_
          show M (skip j (r - 1)) (k + 1) = M (skip j (r - 1 + 1)) (k + 1)
          have a1 : skip j (r - 1) = r := by unfold skip; rw [if_neg (by omega)]; omega
          have a2 : skip j (r - 1 + 1) = r + 1 := by unfold skip; rw [if_neg (by omega)]; omega
          rw [a1, a2]; exact e _
        · refine det_adj n _ r (by omega) fun k => ?_
          show M (skip j r) (k + 1) = M (skip j (r + 1)) (k + 1)
          have a1 : skip j r = r := by unfold skip; rw [if_pos (by omega)]
          have a2 : skip j (r + 1) = r + 1 := by unfold skip; rw [if_pos (by omega)]
          rw [a1, a2]; exact e _
      rw [z, Int.mul_zero, Int.mul_zero])
    show sm (n + 1) _ = 0
    rw [q]
    have w : (fun i k => M (skip r i) (k + 1)) = fun i k => M (skip (r + 1) i) (k + 1) := by
      funext i k
      by_cases c : i = r
      · subst c
        have a1 : skip i i = i + 1 := by unfold skip; rw [if_neg (by omega)]
        have a2 : skip (i + 1) i = i := by unfold skip; rw [if_pos (by omega)]
        rw [a1, a2]; exact (e _).symm
      · have a : skip r i = skip (r + 1) i := by unfold skip; split <;> split <;> omega
        rw [a]
    show sg r * (M r 0 * det n fun i k => M (skip r i) (k + 1)) + -sg r * (M (r + 1) 0 * det n fun i k => M (skip (r + 1) i) (k + 1)) = 0
    rw [w, e 0]
    grind
theorem up_up {M : Nat → Nat → Int} {r : Nat} {u v : Nat → Int} : up (up M r u) r v = up M r v := by
  funext i k; unfold up; split <;> rfl
theorem up_comm {M : Nat → Nat → Int} {r s : Nat} {u v : Nat → Int} (h : r ≠ s) : up (up M r u) s v = up (up M s v) r u := by
  funext i k; unfold up
  by_cases a : i = r
  · rw [if_neg (by omega), if_pos a, if_pos a]
  · by_cases b : i = s
    · rw [if_pos b, if_neg a, if_pos b]
    · rw [if_neg b, if_neg a, if_neg a, if_neg b]
theorem up_self {M : Nat → Nat → Int} {r : Nat} : up M r (M r) = M := by
  funext i k; unfold up; split
  · rename_i h; rw [h]
  · rfl
/-- where equal rows r, s give 0, a change of r for s turns the sign -/
theorem det_swap_of {n r s : Nat} (hr : r < n) (hs : s < n) (rs : r ≠ s) (H : ∀ M : Nat → Nat → Int, (∀ k, M r k = M s k) → det n M = 0) (M : Nat → Nat → Int) (u v : Nat → Int) :
    det n (up (up M r u) s v) = -det n (up (up M r v) s u) := by
  have z : ∀ w : Nat → Int, det n (up (up M r w) s w) = 0 := fun w => H _ fun k => by
    unfold up; rw [if_neg rs, if_pos rfl, if_pos rfl]
  have q := z fun k => 1 * u k + 1 * v k
  rw [det_lin 1 1 n _ s u v hs, up_comm rs, up_comm rs, det_lin 1 1 n _ r u v hr, det_lin 1 1 n _ r u v hr, ← up_comm rs, ← up_comm rs, ← up_comm rs, ← up_comm rs] at q
  rw [z u, z v] at q
  omega
theorem det_alt : ∀ (d n : Nat) (M : Nat → Nat → Int) (r : Nat), r + d + 1 < n → (∀ k, M r k = M (r + d + 1) k) → det n M = 0
  | 0, n, M, r, h, e => det_adj n M r h e
  | d + 1, n, M, r, h, e => by
    have q := det_swap_of (n := n) (r := r + d + 1) (s := r + d + 1 + 1) (by omega) h (by omega) (fun M => det_adj n M _ h) M (M (r + d + 1)) (M (r + d + 1 + 1))
    rw [up_self, up_self] at q
    rw [q, det_alt d n _ r (by omega) fun k => ?_]
    · rfl
    · unfold up
      rw [if_neg (by omega), if_neg (by omega), if_neg (by omega), if_pos rfl]
      exact e k
theorem det_eq {n : Nat} {M : Nat → Nat → Int} {r s : Nat} (hr : r < n) (hs : s < n) (rs : r ≠ s) (e : ∀ k, M r k = M s k) : det n M = 0 := by
  by_cases c : r < s
  · exact det_alt (s - r - 1) n M r (by omega) (by rw [show r + (s - r - 1) + 1 = s from by omega]; exact e)
  · exact det_alt (r - s - 1) n M s (by omega) (by rw [show s + (r - s - 1) + 1 = r from by omega]; exact fun k => (e k).symm)
theorem det_swap {n r s : Nat} (hr : r < n) (hs : s < n) (rs : r ≠ s) (M : Nat → Nat → Int) (u v : Nat → Int) :
    det n (up (up M r u) s v) = -det n (up (up M r v) s u) := det_swap_of hr hs rs (fun _ => det_eq hr hs rs) M u v
theorem det_id : ∀ n : Nat, det n (fun i k => if i = k then 1 else 0) = 1
  | 0 => rfl
  | n + 1 => by
    show sm (n + 1) _ = 1
    rw [sm_one (s := 0) (by omega) fun j hj => by show sg j * ((if j = 0 then 1 else 0) * _) = 0; rw [if_neg hj, Int.zero_mul, Int.mul_zero]]
    have w : (fun i k => if skip 0 i = k + 1 then (1 : Int) else 0) = fun i k => if i = k then 1 else 0 := by
      funext i k
      have a : skip 0 i = i + 1 := by unfold skip; rw [if_neg (by omega)]
      rw [a]
      by_cases c : i = k
      · rw [if_pos (by omega), if_pos c]
      · rw [if_neg (by omega), if_neg c]
    rw [w, det_id n]
    rfl
theorem det_zero_row {n : Nat} {M : Nat → Nat → Int} {r : Nat} (hr : r < n) : det n (up M r fun _ => 0) = 0 := by
  have q := det_lin 0 0 n M r (fun _ => 0) (fun _ => 0) hr
  have a : (fun k : Nat => (0 : Int) * 0 + 0 * 0) = fun _ => 0 := by funext k; rfl
  rw [a] at q
  omega
theorem det_sum {n : Nat} {M : Nat → Nat → Int} {r : Nat} (hr : r < n) (t : Nat → Int) (F : Nat → Nat → Int) : ∀ m : Nat,
    det n (up M r fun k => sm m fun j => t j * F j k) = sm m fun j => t j * det n (up M r (F j))
  | 0 => det_zero_row hr
  | m + 1 => by
    have q := det_lin 1 (t m) n M r (fun k => sm m fun j => t j * F j k) (F m) hr
    have a : (fun k => 1 * (sm m fun j => t j * F j k) + t m * F m k) = fun k => sm (m + 1) fun j => t j * F j k := by funext k; rw [Int.one_mul]; rfl
    rw [a, det_sum hr t F m] at q
    rw [q, Int.one_mul]
    rfl
/-- a row written as a sum of the rows -/
theorem det_coord {n : Nat} {M : Nat → Nat → Int} {c : Nat} (hc : c < n) (t : Nat → Int) :
    det n (up M c fun k => sm n fun j => t j * M j k) = t c * det n M := by
  rw [det_sum hc, sm_oneB hc fun j h hj => ?_, up_self]
  rw [det_eq hc h (Ne.symm hj) fun k => by unfold up; rw [if_pos rfl, if_neg hj], Int.mul_zero]
theorem up_rev {M : Nat → Nat → Int} {c l : Nat} (h : c ≠ l) : up (up M c (M c)) l (M l) = M := by
  rw [up_self, up_self]
/-- two rows written as sums of the rows -/
theorem det_coord2 {n : Nat} {M : Nat → Nat → Int} {c l : Nat} (hc : c < n) (hl : l < n) (cl : c ≠ l) (t s : Nat → Int) :
    det n (up (up M c fun k => sm n fun j => t j * M j k) l fun k => sm n fun j => s j * M j k) = (t c * s l - t l * s c) * det n M := by
  rw [det_sum hl, sm_twoB cl hc hl fun j h j1 j2 => ?_]
  · have e1 : det n (up (up M c fun k => sm n fun j => t j * M j k) l (M l)) = t c * det n M := by
      rw [up_comm cl, up_self, det_coord hc]
    have e2 : det n (up (up M c fun k => sm n fun j => t j * M j k) l (M c)) = -(t l * det n M) := by
      rw [up_comm cl, det_sum hc, sm_oneB hl fun j h hj => ?_, up_comm (Ne.symm cl), det_swap hc hl cl, up_rev cl]
      · grind
      · by_cases e : j = c
        · subst e
          rw [det_eq hc hl cl fun k => by unfold up; rw [if_pos rfl, if_neg (Ne.symm cl), if_pos rfl], Int.mul_zero]
        · rw [det_eq hc h (Ne.symm e) fun k => by unfold up; rw [if_pos rfl, if_neg e, if_neg hj], Int.mul_zero]
    rw [e1, e2]
    grind
  · rw [det_eq hl h (Ne.symm j2) fun k => by unfold up; rw [if_pos rfl, if_neg j2, if_neg j1], Int.mul_zero]
end Y
/-! plain: tables of the simplex rows, exchanges, exactness of the division -/
namespace Y
/-- n unknowns, m rows: numbers R i k (k < n), right side C i, is the row an equation -/
structure Rws where
  n : Nat
  m : Nat
  R : Nat → Nat → Int
  C : Nat → Int
  q : Nat → Bool
structure Stt where
  T : Nat → Nat → Int
  b : Nat → Nat
  f : Nat → Nat
  d : Int
variable (W : Rws)
def Rws.vec (v k : Nat) : Int := if v < W.n then (if v = k then 1 else 0) else if k < W.n then W.R (v - W.n) k else if k = W.n then -W.C (v - W.n) else 0
def Rws.one (k : Nat) : Int := if k = W.n then 1 else 0
def Rws.F (S : Stt) (j : Nat) : Nat → Int := if j < W.n then W.vec (S.f j) else W.one
def Stt.inB (S : Stt) (W : Rws) (v : Nat) : Prop := ∃ i, i < W.m ∧ S.b i = v
def Stt.inF (S : Stt) (W : Rws) (v : Nat) : Prop := ∃ j, j < W.n ∧ S.f j = v
structure Ok (S : Stt) : Prop where
  pos : 0 < S.d
  cov : ∀ v, v < W.n + W.m → S.inB W v ∨ S.inF W v
  dis : ∀ v, S.inB W v → S.inF W v → False
  bj : ∀ i i', i < W.m → i' < W.m → S.b i = S.b i' → i = i'
  fj : ∀ j j', j < W.n → j' < W.n → S.f j = S.f j' → j = j'
  bl : ∀ i, i < W.m → S.b i < W.n + W.m
  fl : ∀ j, j < W.n → S.f j < W.n + W.m
  eqn : ∀ i k, i < W.m → S.d * W.vec (S.b i) k = sm (W.n + 1) fun j => S.T i j * W.F S j k
  dtr : det (W.n + 1) (W.F S) = S.d ∨ det (W.n + 1) (W.F S) = -S.d
/-- the exchange at line l, column c -/
def sgn (p : Int) : Int := if p < 0 then -1 else 1
def Stt.ex (S : Stt) (l c : Nat) : Stt where
  T i j := if i = l then (if j = c then sgn (S.T l c) * S.d else -sgn (S.T l c) * S.T l j)
    else if j = c then sgn (S.T l c) * S.T i c else sgn (S.T l c) * (S.T i j * S.T l c - S.T i c * S.T l j) / S.d
  b i := if i = l then S.f c else S.b i
  f j := if j = c then S.b l else S.f j
  d := (S.T l c).natAbs
theorem sgn_mul (p : Int) : sgn p * p = p.natAbs := by unfold sgn; split <;> omega
theorem sgn_sq (p : Int) : sgn p * sgn p = 1 := by unfold sgn; split <;> rfl
theorem sgn_cases (p : Int) : sgn p = 1 ∨ sgn p = -1 := by unfold sgn; split <;> simp
variable {W} {S : Stt}
theorem Ok.row (h : Ok W S) {i : Nat} (hi : i < W.m) : (fun k => S.d * W.vec (S.b i) k) = fun k => sm (W.n + 1) fun j => S.T i j * W.F S j k := funext fun k => h.eqn i k hi
theorem det_mul1 {n : Nat} {M : Nat → Nat → Int} {r : Nat} (hr : r < n) (a : Int) (u : Nat → Int) : det n (up M r fun k => a * u k) = a * det n (up M r u) := by
  have q := det_lin a 0 n M r u (fun _ => 0) hr
  have e : (fun k => a * u k + 0 * (0 : Int)) = fun k => a * u k := by funext k; omega
  rw [e] at q
  rw [q, Int.zero_mul, Int.add_zero]
theorem Ok.exact (h : Ok W S) {i l c j : Nat} (hi : i < W.m) (hl : l < W.m) (hc : c < W.n) (hj : j < W.n + 1) (cj : c ≠ j) : S.d ∣ S.T i j * S.T l c - S.T i c * S.T l j := by
  have q := det_coord2 (M := W.F S) (n := W.n + 1) (c := c) (l := j) (by omega) hj cj (S.T l) (S.T i)
  rw [← h.row hl, ← h.row hi, det_mul1 hj, up_comm cj, det_mul1 (by omega)] at q
  have hd := h.pos
  generalize det (W.n + 1) (up (up (W.F S) j fun k => W.vec (S.b i) k) c fun k => W.vec (S.b l) k) = E at q
  rcases h.dtr with e | e
  · rw [e] at q
    refine ⟨E, ?_⟩
    have : S.d * (S.d * E) = S.d * (S.T i j * S.T l c - S.T i c * S.T l j) := by rw [q]; grind
    exact (Int.eq_of_mul_eq_mul_left (by omega) this).symm
  · rw [e] at q
    refine ⟨-E, ?_⟩
    have : S.d * (S.d * -E) = S.d * (S.T i j * S.T l c - S.T i c * S.T l j) := by grind
    exact (Int.eq_of_mul_eq_mul_left (by omega) this).symm
theorem F_ex {l c : Nat} (hc : c < W.n) : W.F (S.ex l c) = up (W.F S) c (W.vec (S.b l)) := by
  funext j k
  unfold up Rws.F Stt.ex
  by_cases e : j = c
  · subst e; rw [if_pos hc, if_pos rfl]; show W.vec (if j = j then _ else _) k = _; rw [if_pos rfl]
  · rw [if_neg e]
    by_cases g : j < W.n
    · rw [if_pos g, if_pos g]; show W.vec (if j = c then _ else _) k = _; rw [if_neg e]
    · rw [if_neg g, if_neg g]
theorem Ok.exDet (h : Ok W S) {l c : Nat} (hl : l < W.m) (hc : c < W.n) :
    det (W.n + 1) (W.F (S.ex l c)) = ((S.T l c).natAbs : Int) ∨ det (W.n + 1) (W.F (S.ex l c)) = -((S.T l c).natAbs : Int) := by
  have q := det_coord (M := W.F S) (n := W.n + 1) (c := c) (by omega) (S.T l)
  rw [← h.row hl, det_mul1 (by omega)] at q
  rw [F_ex hc]
  have hd := h.pos
  have e0 : (up (W.F S) c fun k => W.vec (S.b l) k) = up (W.F S) c (W.vec (S.b l)) := rfl
  rw [e0] at q
  generalize det (W.n + 1) (up (W.F S) c (W.vec (S.b l))) = E at q ⊢
  rcases h.dtr with e | e
  · rw [e] at q
    have : S.d * E = S.d * S.T l c := by rw [q]; grind
    have := Int.eq_of_mul_eq_mul_left (by omega) this
    omega
  · rw [e] at q
    have : S.d * E = S.d * -S.T l c := by rw [q]; grind
    have := Int.eq_of_mul_eq_mul_left (by omega) this
    omega
theorem sm_split {f : Nat → Int} {n c : Nat} (hc : c < n) : sm n f = f c + sm n fun j => if j = c then 0 else f j := by
  have q := sm_upd (f := fun j => if j = c then 0 else f j) (g := f) (s := c) (n := n) (fun i hi => by rw [if_neg hi]) hc
  rw [if_pos rfl] at q
  omega
theorem Ok.exEqn (h : Ok W S) {l c : Nat} (hl : l < W.m) (hc : c < W.n) (hp : S.T l c ≠ 0) (i k : Nat) (hi : i < W.m) :
    (S.ex l c).d * W.vec ((S.ex l c).b i) k = sm (W.n + 1) fun j => (S.ex l c).T i j * W.F (S.ex l c) j k := by
  have hd := h.pos
  have hs := sgn_mul (S.T l c)
  have hq := sgn_sq (S.T l c)
  have el := h.eqn l k hl
  have ei := h.eqn i k hi
  rw [sm_split (c := c) (by omega)] at el ei
  rw [sm_split (c := c) (by omega), F_ex hc]
  have fc : W.F S c = W.vec (S.f c) := by unfold Rws.F; rw [if_pos hc]
  rw [fc] at el ei
  have uc : up (W.F S) c (W.vec (S.b l)) c k = W.vec (S.b l) k := by unfold up; rw [if_pos rfl]
  rw [uc]
  show ((S.T l c).natAbs : Int) * W.vec (if i = l then S.f c else S.b i) k = (if i = l then (if c = c then _ else _) else if c = c then _ else _) * _ + _
  by_cases e : i = l
  · subst e
    rw [if_pos rfl, if_pos rfl, if_pos rfl]
    have r : (sm (W.n + 1) fun j => if j = c then 0 else (S.ex i c).T i j * up (W.F S) c (W.vec (S.b i)) j k) = -sgn (S.T i c) * sm (W.n + 1) fun j => if j = c then 0 else S.T i j * W.F S j k := by
      rw [← sm_mul]
      refine sm_congr fun j hj => ?_
      by_cases a : j = c
      · rw [if_pos a, if_pos a]; omega
      · rw [if_neg a, if_neg a]
        have a1 : (S.ex i c).T i j = -sgn (S.T i c) * S.T i j := by show (if i = i then (if j = c then _ else _) else _) = _; rw [if_pos rfl, if_neg a]
        have a2 : up (W.F S) c (W.vec (S.b i)) j k = W.F S j k := by unfold up; rw [if_neg a]
        rw [a1, a2, Int.mul_assoc]
    rw [r, ← hs]
    generalize (sm (W.n + 1) fun j => if j = c then 0 else S.T i j * W.F S j k) = X at *
    grind
  · rw [if_neg e, if_neg e, if_pos rfl]
    have r : S.d * (sm (W.n + 1) fun j => if j = c then 0 else (S.ex l c).T i j * up (W.F S) c (W.vec (S.b l)) j k) =
        sgn (S.T l c) * S.T l c * (sm (W.n + 1) fun j => if j = c then 0 else S.T i j * W.F S j k) + -sgn (S.T l c) * S.T i c * (sm (W.n + 1) fun j => if j = c then 0 else S.T l j * W.F S j k) := by
      rw [← sm_mul, ← sm_mul, ← sm_mul, ← sm_add]
      refine sm_congr fun j hj => ?_
      by_cases a : j = c
      · rw [if_pos a, if_pos a, if_pos a]; omega
      · rw [if_neg a, if_neg a, if_neg a]
        have a1 : (S.ex l c).T i j = sgn (S.T l c) * (S.T i j * S.T l c - S.T i c * S.T l j) / S.d := by show (if i = l then _ else if j = c then _ else _) = _; rw [if_neg e, if_neg a]
        have a2 : up (W.F S) c (W.vec (S.b l)) j k = W.F S j k := by unfold up; rw [if_neg a]
        have a3 : S.d * (sgn (S.T l c) * (S.T i j * S.T l c - S.T i c * S.T l j) / S.d) = sgn (S.T l c) * (S.T i j * S.T l c - S.T i c * S.T l j) :=
          Int.mul_ediv_cancel' (Int.dvd_trans (h.exact hi hl hc hj (Ne.symm a)) (Int.dvd_mul_left _ _))
        rw [a1, a2, ← Int.mul_assoc, a3]
        grind
    refine Int.eq_of_mul_eq_mul_left (a := S.d) (by omega) ?_
    rw [Int.mul_add, r, ← hs]
    generalize (sm (W.n + 1) fun j => if j = c then 0 else S.T i j * W.F S j k) = X at *
    generalize (sm (W.n + 1) fun j => if j = c then 0 else S.T l j * W.F S j k) = Z at *
    grind
end Y
/-! plain: an exchange keeps a state whole; the basic solution of a state -/
namespace Y
variable {W : Rws} {S : Stt}
theorem ex_b_l {l c : Nat} : (S.ex l c).b l = S.f c := if_pos rfl
theorem ex_b {l c i : Nat} (h : i ≠ l) : (S.ex l c).b i = S.b i := if_neg h
theorem ex_f_c {l c : Nat} : (S.ex l c).f c = S.b l := if_pos rfl
theorem ex_f {l c j : Nat} (h : j ≠ c) : (S.ex l c).f j = S.f j := if_neg h
theorem Ok.nbf (h : Ok W S) {i j : Nat} (hi : i < W.m) (hj : j < W.n) : S.b i ≠ S.f j := fun e => h.dis (S.b i) ⟨i, hi, rfl⟩ ⟨j, hj, e.symm⟩
theorem Ok.exB (h : Ok W S) {l c : Nat} (hl : l < W.m) (hc : c < W.n) (v : Nat) : (S.ex l c).inB W v ↔ v = S.f c ∨ (S.inB W v ∧ v ≠ S.b l) := by
  constructor
  · rintro ⟨i, hi, e⟩
    by_cases g : i = l
    · subst g; rw [ex_b_l] at e; exact .inl e.symm
    · rw [ex_b g] at e
      exact .inr ⟨⟨i, hi, e⟩, fun q => g (h.bj i l hi hl (e.trans q))⟩
  · rintro (e | ⟨⟨i, hi, e⟩, n⟩)
    · exact ⟨l, hl, ex_b_l.trans e.symm⟩
    · exact ⟨i, hi, (ex_b fun q => n (by rw [← e, q])).trans e⟩
theorem Ok.exF (h : Ok W S) {l c : Nat} (hl : l < W.m) (hc : c < W.n) (v : Nat) : (S.ex l c).inF W v ↔ v = S.b l ∨ (S.inF W v ∧ v ≠ S.f c) := by
  constructor
  · rintro ⟨i, hi, e⟩
    by_cases g : i = c
    · subst g; rw [ex_f_c] at e; exact .inl e.symm
    · rw [ex_f g] at e
      exact .inr ⟨⟨i, hi, e⟩, fun q => g (h.fj i c hi hc (e.trans q))⟩
  · rintro (e | ⟨⟨i, hi, e⟩, n⟩)
    · exact ⟨c, hc, ex_f_c.trans e.symm⟩
    · exact ⟨i, hi, (ex_f fun q => n (by rw [← e, q])).trans e⟩
theorem Ok.ex (h : Ok W S) {l c : Nat} (hl : l < W.m) (hc : c < W.n) (hp : S.T l c ≠ 0) : Ok W (S.ex l c) where
  pos := by show 0 < ((S.T l c).natAbs : Int); omega
  cov v hv := by
    rw [h.exB hl hc, h.exF hl hc]
    by_cases e1 : v = S.f c
    · exact .inl (.inl e1)
    · by_cases e2 : v = S.b l
      · exact .inr (.inl e2)
      · rcases h.cov v hv with a | a
        · exact .inl (.inr ⟨a, e2⟩)
        · exact .inr (.inr ⟨a, e1⟩)
  dis v a b := by
    rw [h.exB hl hc] at a
    rw [h.exF hl hc] at b
    rcases a with a | ⟨a, a'⟩ <;> rcases b with b | ⟨b, b'⟩
    · exact h.nbf hl hc (b.symm.trans a)
    · exact b' a
    · exact a' b
    · exact h.dis v a b
  bj i i' hi hi' e := by
    by_cases a : i = l <;> by_cases b : i' = l
    · omega
    · rw [a, ex_b_l, ex_b b] at e; exact (h.nbf hi' hc e.symm).elim
    · rw [b, ex_b_l, ex_b a] at e; exact (h.nbf hi hc e).elim
    · rw [ex_b a, ex_b b] at e; exact h.bj i i' hi hi' e
  fj i i' hi hi' e := by
    by_cases a : i = c <;> by_cases b : i' = c
    · omega
    · rw [a, ex_f_c, ex_f b] at e; exact (h.nbf hl hi' e).elim
    · rw [b, ex_f_c, ex_f a] at e; exact (h.nbf hl hi e.symm).elim
    · rw [ex_f a, ex_f b] at e; exact h.fj i i' hi hi' e
  bl i hi := by
    by_cases a : i = l
    · rw [a, ex_b_l]; exact h.fl c hc
    · rw [ex_b a]; exact h.bl i hi
  fl i hi := by
    by_cases a : i = c
    · rw [a, ex_f_c]; exact h.bl l hl
    · rw [ex_f a]; exact h.fl i hi
  eqn i k hi := h.exEqn hl hc hp i k hi
  dtr := h.exDet hl hc
/-- the basic solution, as a linear form on rows -/
def Rws.phi (W : Rws) (S : Stt) (w : Nat → Int) : Int := (if det (W.n + 1) (W.F S) = S.d then 1 else -1) * det (W.n + 1) (up (W.F S) W.n w)
theorem phi_sum (t : Nat → Int) (V : Nat → Nat → Int) (m : Nat) : W.phi S (fun k => sm m fun j => t j * V j k) = sm m fun j => t j * W.phi S (V j) := by
  unfold Rws.phi
  rw [det_sum (by omega), ← sm_mul]
  exact sm_congr fun j hj => by grind
theorem phi_mul (a : Int) (v : Nat → Int) : W.phi S (fun k => a * v k) = a * W.phi S v := by
  unfold Rws.phi
  rw [det_mul1 (by omega)]; grind
theorem phi_f {j : Nat} (hj : j < W.n) : W.phi S (W.vec (S.f j)) = 0 := by
  have z : det (W.n + 1) (up (W.F S) W.n (W.vec (S.f j))) = 0 := det_eq (r := j) (s := W.n) (by omega) (by omega) (by omega) fun k => by
    unfold up
    rw [if_neg (by omega), if_pos rfl]
    unfold Rws.F
    rw [if_pos hj]
  unfold Rws.phi
  rw [z, Int.mul_zero]
theorem Ok.phi_one (h : Ok W S) : W.phi S W.one = S.d := by
  unfold Rws.phi
  have e : up (W.F S) W.n W.one = W.F S := by
    have : W.one = W.F S W.n := by unfold Rws.F; rw [if_neg (by omega)]
    rw [this, up_self]
  rw [e]
  rcases h.dtr with a | a
  · rw [if_pos a, a]; omega
  · have := h.pos
    rw [if_neg (by omega), a]; omega
theorem phi_F (h : Ok W S) {S' : Stt} (i : Nat) : (sm (W.n + 1) fun j => S'.T i j * W.phi S (W.F S' j)) = (sm W.n fun j => S'.T i j * W.phi S (W.vec (S'.f j))) + S'.T i W.n * S.d := by
  show (sm W.n fun j => S'.T i j * W.phi S (W.F S' j)) + S'.T i W.n * W.phi S (W.F S' W.n) = _
  have e : W.F S' W.n = W.one := by unfold Rws.F; rw [if_neg (by omega)]
  rw [e, h.phi_one, sm_congr (n := W.n) (g := fun j => S'.T i j * W.phi S (W.vec (S'.f j))) fun j hj => by unfold Rws.F; rw [if_pos hj]]
/-- a row of one state at the basic solution of another -/
theorem Ok.phi_row (h : Ok W S) {S' : Stt} (h' : Ok W S') {i : Nat} (hi : i < W.m) :
    S'.d * W.phi S (W.vec (S'.b i)) = (sm W.n fun j => S'.T i j * W.phi S (W.vec (S'.f j))) + S'.T i W.n * S.d := by
  rw [← phi_F h, ← phi_sum, ← h'.row hi, phi_mul]
theorem Ok.phi_b (h : Ok W S) {i : Nat} (hi : i < W.m) : W.phi S (W.vec (S.b i)) = S.T i W.n := by
  have q := h.phi_row h hi
  rw [sm_zero (fun j hj => by rw [phi_f hj, Int.mul_zero])] at q
  have := h.pos
  refine Int.eq_of_mul_eq_mul_left (a := S.d) (by omega) ?_
  rw [q]; grind
end Y
/-! plain: the least index rule comes to an end -/
namespace Y
variable {W : Rws} {S : Stt}
/-- line i of S is violated -/
def Rws.vio (W : Rws) (S : Stt) (i : Nat) : Prop := W.n ≤ S.b i ∧ (0 < S.T i W.n ∨ (S.T i W.n < 0 ∧ W.q (S.b i - W.n) = true))
/-- column j of S can move so that line l comes nearer -/
def Rws.mov (W : Rws) (S : Stt) (l j : Nat) : Prop :=
  if S.f j < W.n then S.T l j ≠ 0 else 0 < sgn (S.T l W.n) * S.T l j ∧ W.q (S.f j - W.n) = false
/-- the step of the least index rule: line l, column c -/
structure Pk (W : Rws) (S : Stt) (l c : Nat) : Prop where
  hl : l < W.m
  hc : c < W.n
  vl : W.vio S l
  ml : ∀ i, i < W.m → W.vio S i → S.b l ≤ S.b i
  mv : W.mov S l c
  mc : ∀ j, j < W.n → W.mov S l j → S.f c ≤ S.f j
theorem Pk.ne {l c : Nat} (h : Pk W S l c) : S.T l c ≠ 0 := by
  have q := h.mv
  unfold Rws.mov at q
  split at q
  · exact q
  · intro e; rw [e, Int.mul_zero] at q; omega
theorem vio_pos {i : Nat} (h : W.vio S i) : 0 < sgn (S.T i W.n) * S.T i W.n := by
  rw [sgn_mul]
  rcases h.2 with a | a <;> omega
theorem not_vio {i : Nat} (h : ¬ W.vio S i) (hb : W.n ≤ S.b i) : S.T i W.n ≤ 0 ∧ (W.q (S.b i - W.n) = true → S.T i W.n = 0) := by
  unfold Rws.vio at h
  constructor
  · refine Int.not_lt.mp fun q => h ⟨hb, .inl q⟩
  · intro e
    have a : ¬ 0 < S.T i W.n := fun q => h ⟨hb, .inl q⟩
    have b : ¬ S.T i W.n < 0 := fun q => h ⟨hb, .inr ⟨q, e⟩⟩
    omega
theorem sm_nonneg {f : Nat → Int} : ∀ {n : Nat}, (∀ i, i < n → 0 ≤ f i) → 0 ≤ sm n f
  | 0, _ => by show (0 : Int) ≤ 0; omega
  | n + 1, h => by
    show 0 ≤ sm n f + f n
    have := sm_nonneg (n := n) fun i hi => h i (by omega)
    have := h n (by omega)
    omega
/-- what enters at S does not leave at S', where all above it stand alike -/
theorem bland (h : Ok W S) {S' : Stt} (h' : Ok W S') {l c l' c' : Nat} (p : Pk W S l c) (p' : Pk W S' l' c') (e : S'.b l' = S.f c) (hq : S.b l ≤ S.f c)
    (up : ∀ v, S.f c < v → S.inF W v → S'.inF W v) : False := by
  have q := h'.phi_row h p.hl
  have ps := vio_pos p.vl
  have hd := h.pos
  have hd' := h'.pos
  have hrn : W.n ≤ S.f c := by rw [← e]; exact p'.vl.1
  have hqn : W.n ≤ S.b l := p.vl.1
  have hne : S.b l ≠ S.f c := h.nbf p.hl p.hc
  have g := sgn_cases (S.T l W.n)
  -- what is not violated below r in S'
  have low : ∀ v, v < S.f c → W.n ≤ v → v < W.n + W.m → W.phi S' (W.vec v) ≤ 0 ∧ (W.q (v - W.n) = true → W.phi S' (W.vec v) = 0) := by
    intro v hv hn hvm
    rcases h'.cov v hvm with ⟨i, hi, a⟩ | ⟨j, hj, a⟩
    · subst a
      rw [h'.phi_b hi]
      refine not_vio (fun w => ?_) hn
      have := p'.ml i hi w
      omega
    · subst a
      rw [phi_f hj]
      exact ⟨by omega, fun _ => rfl⟩
  have terms : 0 ≤ sm W.n fun j => sgn (S.T l W.n) * (S.T l j * W.phi S' (W.vec (S.f j))) := by
    refine sm_nonneg fun j hj => ?_
    rw [← Int.mul_assoc]
    rcases Nat.lt_trichotomy (S.f j) (S.f c) with a | a | a
    · have nm : ¬ W.mov S l j := fun w => by have := p.mc j hj w; omega
      unfold Rws.mov at nm
      by_cases b : S.f j < W.n
      · rw [if_pos b] at nm
        have : S.T l j = 0 := by omega
        rw [this]; omega
      · rw [if_neg b] at nm
        have k := low (S.f j) a (by omega) (h.fl j hj)
        by_cases z : W.q (S.f j - W.n) = true
        · rw [k.2 z, Int.mul_zero]; omega
        · have : ¬ 0 < sgn (S.T l W.n) * S.T l j := fun w => nm ⟨w, by simpa using z⟩
          exact Int.mul_nonneg_of_nonpos_of_nonpos (by omega) k.1
    · have jc := h.fj j c hj p.hc a
      subst jc
      have m := p.mv
      unfold Rws.mov at m
      rw [if_neg (by omega)] at m
      rw [← e, h'.phi_b p'.hl]
      rcases p'.vl.2 with w | w
      · exact Int.mul_nonneg (by omega) (by omega)
      · rw [e, m.2] at w; exact absurd w.2 (by simp)
    · rcases up (S.f j) a ⟨j, hj, rfl⟩ with ⟨j', hj', b⟩
      rw [← b, phi_f hj', Int.mul_zero]; omega
  rw [sm_mul] at terms
  have tot : 0 < sgn (S.T l W.n) * (S.d * W.phi S' (W.vec (S.b l))) := by
    rw [q, Int.mul_add, ← Int.mul_assoc _ (S.T l W.n)]
    have := Int.mul_pos ps hd'
    omega
  have k := low (S.b l) (by omega) hqn (h.bl l p.hl)
  generalize W.phi S' (W.vec (S.b l)) = y at k tot
  rcases g with g | g
  · rw [g, Int.one_mul] at tot
    have z := Int.mul_le_mul_of_nonneg_left k.1 (Int.le_of_lt hd)
    rw [Int.mul_zero] at z
    omega
  · rw [g] at tot ps
    rcases p.vl.2 with w | w
    · omega
    · rw [k.2 w.2] at tot; simp at tot
end Y
/-! plain: runs of the least index rule are short -/
namespace Y
variable {W : Rws}
structure Run (W : Rws) (s : Nat → Stt) (l c : Nat → Nat) (N : Nat) : Prop where
  ok : Ok W (s 0)
  pk : ∀ i, i < N → Pk W (s i) (l i) (c i)
  st : ∀ i, i < N → s (i + 1) = (s i).ex (l i) (c i)
variable {s : Nat → Stt} {l c : Nat → Nat} {N : Nat}
theorem Run.all (r : Run W s l c N) : ∀ i, i ≤ N → Ok W (s i)
  | 0, _ => r.ok
  | i + 1, h => by
    have p := r.pk i (by omega)
    rw [r.st i (by omega)]
    exact (r.all i (by omega)).ex p.hl p.hc p.ne
theorem Run.B (r : Run W s l c N) {i : Nat} (h : i < N) (v : Nat) : (s (i + 1)).inB W v ↔ v = (s i).f (c i) ∨ ((s i).inB W v ∧ v ≠ (s i).b (l i)) := by
  rw [r.st i h]; exact (r.all i (by omega)).exB (r.pk i h).hl (r.pk i h).hc v
theorem Run.Fr (r : Run W s l c N) {i : Nat} (h : i < N) (v : Nat) : (s (i + 1)).inF W v ↔ v = (s i).b (l i) ∨ ((s i).inF W v ∧ v ≠ (s i).f (c i)) := by
  rw [r.st i h]; exact (r.all i (by omega)).exF (r.pk i h).hl (r.pk i h).hc v
theorem Run.outs (r : Run W s l c N) {v x : Nat} : ∀ d, x + d ≤ N → (s x).inB W v → (s (x + d)).inF W v → ∃ z, x ≤ z ∧ z < x + d ∧ (s z).b (l z) = v
  | 0, h, a, b => ((r.all x (by omega)).dis v a b).elim
  | d + 1, h, a, b => by
    rw [show x + (d + 1) = x + d + 1 from rfl, r.Fr (by omega)] at b
    rcases b with b | b
    · exact ⟨x + d, by omega, by omega, b.symm⟩
    · rcases r.outs d (by omega) a b.1 with ⟨z, h1, h2, h3⟩
      exact ⟨z, h1, by omega, h3⟩
theorem Run.ins (r : Run W s l c N) {v x : Nat} : ∀ d, x + d ≤ N → (s x).inF W v → (s (x + d)).inB W v → ∃ z, x ≤ z ∧ z < x + d ∧ (s z).f (c z) = v
  | 0, h, a, b => ((r.all x (by omega)).dis v b a).elim
  | d + 1, h, a, b => by
    rw [show x + (d + 1) = x + d + 1 from rfl, r.B (by omega)] at b
    rcases b with b | b
    · exact ⟨x + d, by omega, by omega, b.symm⟩
    · rcases r.ins d (by omega) a b.1 with ⟨z, h1, h2, h3⟩
      exact ⟨z, h1, by omega, h3⟩
/-- above all that move, nothing changes -/
theorem Run.same (r : Run W s l c N) {v x : Nat} : ∀ d, x + d ≤ N → (∀ z, x ≤ z → z < x + d → (s z).f (c z) ≠ v ∧ (s z).b (l z) ≠ v) → ((s (x + d)).inF W v ↔ (s x).inF W v)
  | 0, _, _ => Iff.rfl
  | d + 1, h, k => by
    have q := k (x + d) (by omega) (by omega)
    rw [show x + (d + 1) = x + d + 1 from rfl, r.Fr (by omega), ← r.same d (by omega) fun z h1 h2 => k z h1 (by omega)]
    constructor
    · rintro (e | e)
      · exact (q.2 e.symm).elim
      · exact e.1
    · exact fun e => .inr ⟨e, fun w => q.1 w.symm⟩
theorem Run.same2 (r : Run W s l c N) {v a t : Nat} (h : a + t ≤ N) (k : ∀ z, a ≤ z → z < a + t → (s z).f (c z) ≠ v ∧ (s z).b (l z) ≠ v) {i j : Nat} (hi : a ≤ i) (hi' : i < a + t) (hj : a ≤ j) (hj' : j < a + t) : (s i).inF W v → (s j).inF W v := by
  have p := r.same (v := v) (x := a) (i - a) (by omega) fun z h1 h2 => k z h1 (by omega)
  have q := r.same (v := v) (x := a) (j - a) (by omega) fun z h1 h2 => k z h1 (by omega)
  rw [show a + (i - a) = i from by omega] at p
  rw [show a + (j - a) = j from by omega] at q
  rw [p, q]; exact id
/-- stretch [a, a + t) where nothing above k moves -/
theorem Run.inout (r : Run W s l c N) {a t k : Nat} (h : a + t ≤ N) (hk : ∀ z, a ≤ z → z < a + t → (s z).f (c z) ≤ k ∧ (s z).b (l z) ≤ k) {i j : Nat} (hi : a ≤ i) (hi' : i < a + t) (hj : a ≤ j) (hj' : j < a + t)
    (e : (s i).f (c i) = k) (o : (s j).b (l j) = k) : False :=
  bland (r.all i (by omega)) (r.all j (by omega)) (r.pk i (by omega)) (r.pk j (by omega)) (by rw [e, o]) (by rw [e]; exact (hk i hi hi').2)
    fun v hv => r.same2 h (fun z h1 h2 => by have := hk z h1 h2; omega) hi hi' hj hj'
theorem Run.once (r : Run W s l c N) {a t k : Nat} (h : a + t ≤ N) (hk : ∀ z, a ≤ z → z < a + t → (s z).f (c z) ≤ k ∧ (s z).b (l z) ≤ k) {i j : Nat} (hi : a ≤ i) (ij : i < j) (hj' : j < a + t)
    (p : (s i).f (c i) = k ∨ (s i).b (l i) = k) (q : (s j).f (c j) = k ∨ (s j).b (l j) = k) : False := by
  have pi := r.pk i (by omega)
  have pj := r.pk j (by omega)
  rcases p with p | p <;> rcases q with q | q
  · have b1 : (s (i + 1)).inB W k := (r.B (by omega) k).mpr (.inl p.symm)
    have b2 : (s (i + 1 + (j - i - 1))).inF W k := by rw [show i + 1 + (j - i - 1) = j from by omega]; exact ⟨c j, pj.hc, q⟩
    rcases r.outs (j - i - 1) (by omega) b1 b2 with ⟨z, h1, h2, h3⟩
    exact r.inout h hk (i := i) (j := z) hi (by omega) (by omega) (by omega) p h3
  · exact r.inout h hk (i := i) (j := j) hi (by omega) (by omega) (by omega) p q
  · exact r.inout h hk (i := j) (j := i) (by omega) (by omega) hi (by omega) q p
  · have b1 : (s (i + 1)).inF W k := (r.Fr (by omega) k).mpr (.inl p.symm)
    have b2 : (s (i + 1 + (j - i - 1))).inB W k := by rw [show i + 1 + (j - i - 1) = j from by omega]; exact ⟨l j, pj.hl, q⟩
    rcases r.ins (j - i - 1) (by omega) b1 b2 with ⟨z, h1, h2, h3⟩
    exact r.inout h hk (i := z) (j := i) (by omega) (by omega) hi (by omega) h3 p
theorem Run.few (r : Run W s l c N) : ∀ k a t, a + t ≤ N → (∀ z, a ≤ z → z < a + t → (s z).f (c z) < k ∧ (s z).b (l z) < k) → t < 2 ^ k
  | 0, a, t, h, w => by
    rcases Nat.eq_zero_or_pos t with e | e
    · rw [e]; decide
    · have := w a (by omega) (by omega); omega
  | k + 1, a, t, h, w => by
    by_cases ex : ∃ i, a ≤ i ∧ i < a + t ∧ ((s i).f (c i) = k ∨ (s i).b (l i) = k)
    · rcases ex with ⟨i, i1, i2, i3⟩
      have hk : ∀ z, a ≤ z → z < a + t → (s z).f (c z) ≤ k ∧ (s z).b (l z) ≤ k := fun z h1 h2 => by have := w z h1 h2; omega
      have p := r.few k a (i - a) (by omega) fun z h1 h2 => by
        have g := hk z h1 (by omega)
        have n1 : ¬ ((s z).f (c z) = k ∨ (s z).b (l z) = k) := fun q => r.once h hk h1 (j := i) (by omega) i2 q i3
        omega
      have q := r.few k (i + 1) (a + t - (i + 1)) (by omega) fun z h1 h2 => by
        have g := hk z (by omega) (by omega)
        have n1 : ¬ ((s z).f (c z) = k ∨ (s z).b (l z) = k) := fun q => r.once h hk i1 (j := z) (by omega) (by omega) i3 q
        omega
      rw [Nat.pow_succ]; omega
    · have p := r.few k a t h fun z h1 h2 => by
        have g := w z h1 h2
        have n1 : ¬ ((s z).f (c z) = k ∨ (s z).b (l z) = k) := fun q => ex ⟨z, h1, h2, q⟩
        omega
      rw [Nat.pow_succ]; omega
theorem Run.short (r : Run W s l c N) : N < 2 ^ (W.n + W.m) :=
  r.few _ 0 N (by omega) fun z _ h => ⟨(r.all z (by omega)).fl _ (r.pk z (by omega)).hc, (r.all z (by omega)).bl _ (r.pk z (by omega)).hl⟩
end Y
/-! plain: the first state, bounds of the numbers, the picks as the loops make them, the end of the loop -/
namespace Y
theorem det_congr : ∀ {n : Nat} {M M' : Nat → Nat → Int}, (∀ i, i < n → ∀ k, M i k = M' i k) → det n M = det n M'
  | 0, _, _, _ => rfl
  | n + 1, M, M', h => sm_congr fun j hj => by
    show sg j * (M j 0 * det n fun i k => M (skip j i) (k + 1)) = sg j * (M' j 0 * det n fun i k => M' (skip j i) (k + 1))
    rw [h j hj, det_congr (n := n) fun i hi k => h (skip j i) (by unfold skip; split <;> omega) (k + 1)]
def bdd : Nat → Nat → Nat
  | 0, _ => 1
  | n + 1, B => (n + 1) * (B * bdd n B)
theorem sg_abs : ∀ j, (sg j).natAbs = 1
  | 0 => rfl
  | j + 1 => by show (-sg j).natAbs = 1; rw [Int.natAbs_neg]; exact sg_abs j
theorem sm_absB {f : Nat → Int} {B : Nat} : ∀ {n : Nat}, (∀ i, i < n → (f i).natAbs ≤ B) → (sm n f).natAbs ≤ n * B
  | 0, _ => by show (0 : Int).natAbs ≤ _; simp
  | n + 1, h => by
    have h1 := sm_absB (n := n) fun i hi => h i (by omega)
    have h2 := h n (by omega)
    show (sm n f + f n).natAbs ≤ _
    rw [Nat.succ_mul]; omega
theorem det_abs {B : Nat} : ∀ {n : Nat} {M : Nat → Nat → Int}, (∀ i, i < n → ∀ k, (M i k).natAbs ≤ B) → (det n M).natAbs ≤ bdd n B
  | 0, _, _ => by show (1 : Int).natAbs ≤ 1; decide
  | n + 1, M, h => sm_absB fun j hj => by
    rw [Int.natAbs_mul, Int.natAbs_mul, sg_abs, Nat.one_mul]
    exact Nat.mul_le_mul (h j hj 0) (det_abs fun i hi k => h _ (by unfold skip; split <;> omega) _)
variable {W : Rws} {S : Stt}
/-- all numbers of the rows are at most B -/
def Rws.le (W : Rws) (B : Nat) : Prop := 1 ≤ B ∧ (∀ i, i < W.m → (W.C i).natAbs ≤ B) ∧ ∀ i, i < W.m → ∀ k, k < W.n → (W.R i k).natAbs ≤ B
theorem Rws.le.vec {B : Nat} (h : W.le B) {v : Nat} (hv : v < W.n + W.m) (k : Nat) : (W.vec v k).natAbs ≤ B := by
  have h1 := h.1
  unfold Rws.vec
  split
  · split
    · exact h1
    · exact Nat.zero_le _
  · split
    · exact h.2.2 _ (by omega) k (by assumption)
    · split
      · rw [Int.natAbs_neg]; exact h.2.1 _ (by omega)
      · exact Nat.zero_le _
theorem Rws.le.F {B : Nat} (h : W.le B) (o : Ok W S) (j k : Nat) : (W.F S j k).natAbs ≤ B := by
  unfold Rws.F
  split
  · exact h.vec (o.fl j (by assumption)) k
  · have h1 := h.1
    unfold Rws.one
    split
    · exact h1
    · exact Nat.zero_le _
theorem Ok.dle {B : Nat} (o : Ok W S) (h : W.le B) : S.d.natAbs ≤ bdd (W.n + 1) B := by
  have q := det_abs (n := W.n + 1) (M := W.F S) fun i _ k => h.F o i k
  rcases o.dtr with e | e <;> rw [e] at q
  · exact q
  · rwa [Int.natAbs_neg] at q
theorem Ok.Tle {B : Nat} (o : Ok W S) (h : W.le B) {i j : Nat} (hi : i < W.m) (hj : j < W.n + 1) : (S.T i j).natAbs ≤ bdd (W.n + 1) B := by
  have q := det_coord (M := W.F S) (n := W.n + 1) (c := j) hj (S.T i)
  rw [← o.row hi, det_mul1 hj] at q
  have b := det_abs (n := W.n + 1) (M := up (W.F S) j fun k => W.vec (S.b i) k) fun x _ k => by
    unfold up; split
    · exact h.vec (o.bl i hi) k
    · exact h.F o x k
  have hd := o.pos
  generalize det (W.n + 1) (up (W.F S) j fun k => W.vec (S.b i) k) = E at q b
  rcases o.dtr with e | e <;> rw [e] at q
  · have : S.d * E = S.d * S.T i j := by rw [q]; grind
    have := Int.eq_of_mul_eq_mul_left (by omega) this
    omega
  · have : S.d * E = S.d * -S.T i j := by rw [q]; grind
    have := Int.eq_of_mul_eq_mul_left (by omega) this
    omega
def Rws.s0 (W : Rws) : Stt where
  T i j := if j < W.n then W.R i j else -W.C i
  b i := W.n + i
  f j := j
  d := 1
theorem Rws.ok0 (W : Rws) : Ok W W.s0 where
  pos := by show (0 : Int) < 1; decide
  cov v hv := by
    by_cases h : v < W.n
    · exact .inr ⟨v, h, rfl⟩
    · exact .inl ⟨v - W.n, by omega, by show W.n + (v - W.n) = v; omega⟩
  dis v a b := by
    obtain ⟨i, hi, e⟩ := a
    obtain ⟨j, hj, g⟩ := b
    have e : W.n + i = v := e
    have g : j = v := g
    omega
  bj i i' _ _ e := by have e : W.n + i = W.n + i' := e; omega
  fj j j' _ _ e := e
  bl i hi := by show W.n + i < _; omega
  fl i hi := by show i < _; omega
  eqn i k hi := by
    show 1 * W.vec (W.n + i) k = sm W.n (fun j => (if j < W.n then W.R i j else -W.C i) * W.F W.s0 j k) + (if W.n < W.n then _ else -W.C i) * W.F W.s0 W.n k
    have e : W.F W.s0 W.n k = W.one k := by unfold Rws.F; rw [if_neg (by omega)]
    rw [e, if_neg (by omega), Int.one_mul]
    have g : sm W.n (fun j => (if j < W.n then W.R i j else -W.C i) * W.F W.s0 j k) = sm W.n fun j => if j = k then W.R i k else 0 := sm_congr fun j hj => by
      rw [if_pos hj]
      unfold Rws.F
      rw [if_pos hj]
      show W.R i j * W.vec j k = _
      unfold Rws.vec
      rw [if_pos hj]
      by_cases z : j = k
      · rw [if_pos z, if_pos z, z, Int.mul_one]
      · rw [if_neg z, if_neg z, Int.mul_zero]
    rw [g]
    unfold Rws.vec Rws.one
    rw [if_neg (by omega), Nat.add_sub_cancel_left]
    by_cases z : k < W.n
    · rw [if_pos z, if_neg (by omega), sm_one (s := k) z fun j hj => if_neg hj, if_pos rfl]; omega
    · rw [if_neg z, sm_zero fun j hj => if_neg (by omega)]
      by_cases y : k = W.n
      · rw [if_pos y, if_pos y]; omega
      · rw [if_neg y, if_neg y]; omega
  dtr := .inl <| by
    show _ = (1 : Int)
    rw [← det_id (W.n + 1)]
    refine det_congr fun j hj k => ?_
    unfold Rws.F Rws.one
    by_cases z : j < W.n
    · rw [if_pos z]
      show W.vec j k = _
      unfold Rws.vec
      rw [if_pos z]
    · rw [if_neg z]
      have : j = W.n := by omega
      subst this
      by_cases y : k = W.n
      · rw [if_pos y, if_pos y.symm]
      · rw [if_neg y, if_neg (Ne.symm y)]
/-- the smallest key among those that pass, as a loop finds it -/
def lst (p : Nat → Bool) (key : Nat → Nat) : Nat → Int
  | 0 => -1
  | k + 1 => if p k = true ∧ (lst p key k < 0 ∨ key k < key (lst p key k).toNat) then k else lst p key k
theorem lst_spec (p : Nat → Bool) (key : Nat → Nat) : ∀ k, (lst p key k = -1 ∧ ∀ i, i < k → p i = false) ∨ ∃ l : Nat, l < k ∧ lst p key k = (l : Int) ∧ p l = true ∧ ∀ i, i < k → p i = true → key l ≤ key i
  | 0 => .inl ⟨rfl, fun i h => by omega⟩
  | k + 1 => by
    unfold lst
    rcases lst_spec p key k with ⟨e, h⟩ | ⟨l, hl, e, pl, h⟩
    · rw [e]
      by_cases c : p k = true
      · rw [if_pos ⟨c, .inl (by decide)⟩]
        refine .inr ⟨k, by omega, rfl, c, fun i hi pi => ?_⟩
        by_cases z : i = k
        · rw [z]; exact Nat.le_refl _
        · rw [h i (by omega)] at pi; exact absurd pi (by simp)
      · rw [if_neg fun q => c q.1]
        refine .inl ⟨rfl, fun i hi => ?_⟩
        by_cases z : i = k
        · rw [z]; simpa using c
        · exact h i (by omega)
    · rw [e]
      by_cases c : p k = true ∧ ((l : Int) < 0 ∨ key k < key (l : Int).toNat)
      · rw [if_pos c]
        have c2 : key k < key l := by rcases c.2 with q | q; · omega
                                      · exact q
        refine .inr ⟨k, by omega, rfl, c.1, fun i hi pi => ?_⟩
        by_cases z : i = k
        · rw [z]; exact Nat.le_refl _
        · have := h i (by omega) pi; omega
      · rw [if_neg c]
        refine .inr ⟨l, by omega, rfl, pl, fun i hi pi => ?_⟩
        by_cases z : i = k
        · subst z
          exact Nat.not_lt.mp fun q => c ⟨pi, .inr q⟩
        · exact h i (by omega) pi
instance {i : Nat} : Decidable (W.vio S i) := by unfold Rws.vio; infer_instance
instance {l j : Nat} : Decidable (W.mov S l j) := by unfold Rws.mov; infer_instance
def Rws.ln (W : Rws) (S : Stt) (k : Nat) : Int := lst (fun i => decide (W.vio S i)) S.b k
def Rws.cl (W : Rws) (S : Stt) (l k : Nat) : Int := lst (fun j => decide (W.mov S l j)) S.f k
theorem ln_spec : (W.ln S W.m = -1 ∧ ∀ i, i < W.m → ¬ W.vio S i) ∨ ∃ l : Nat, l < W.m ∧ W.ln S W.m = (l : Int) ∧ W.vio S l ∧ ∀ i, i < W.m → W.vio S i → S.b l ≤ S.b i := by
  rcases lst_spec (fun i => decide (W.vio S i)) S.b W.m with ⟨e, h⟩ | ⟨l, hl, e, pl, h⟩
  · exact .inl ⟨e, fun i hi => by simpa using h i hi⟩
  · exact .inr ⟨l, hl, e, by simpa using pl, fun i hi q => h i hi (by simpa using q)⟩
theorem cl_spec {l : Nat} : (W.cl S l W.n = -1 ∧ ∀ j, j < W.n → ¬ W.mov S l j) ∨ ∃ c : Nat, c < W.n ∧ W.cl S l W.n = (c : Int) ∧ W.mov S l c ∧ ∀ j, j < W.n → W.mov S l j → S.f c ≤ S.f j := by
  rcases lst_spec (fun i => decide (W.mov S l i)) S.f W.n with ⟨e, h⟩ | ⟨c, hc, e, pc, h⟩
  · exact .inl ⟨e, fun i hi => by simpa using h i hi⟩
  · exact .inr ⟨c, hc, e, by simpa using pc, fun i hi q => h i hi (by simpa using q)⟩
/-- the next state, where there is one -/
def Rws.nx (W : Rws) (S : Stt) : Stt := S.ex (W.ln S W.m).toNat (W.cl S (W.ln S W.m).toNat W.n).toNat
def Rws.go (W : Rws) (S : Stt) : Prop := 0 ≤ W.ln S W.m ∧ 0 ≤ W.cl S (W.ln S W.m).toNat W.n
theorem go_pk (h : W.go S) : Pk W S (W.ln S W.m).toNat (W.cl S (W.ln S W.m).toNat W.n).toNat := by
  rcases ln_spec (W := W) (S := S) with ⟨e, _⟩ | ⟨l, hl, e, vl, ml⟩
  · rw [Rws.go, e] at h; omega
  · rw [Rws.go, e] at h
    rw [e, Int.toNat_natCast]
    rw [Int.toNat_natCast] at h
    rcases cl_spec (W := W) (S := S) (l := l) with ⟨g, _⟩ | ⟨c, hc, g, mc, mm⟩
    · rw [g] at h; omega
    · rw [g, Int.toNat_natCast]
      exact ⟨hl, hc, vl, ml, mc, mm⟩
def Rws.at (W : Rws) : Nat → Stt
  | 0 => W.s0
  | k + 1 => W.nx (W.at k)
/-- the loop ends -/
theorem Rws.ends (W : Rws) : ∃ k, k < 2 ^ (W.n + W.m) + 1 ∧ ¬ W.go (W.at k) ∧ ∀ i, i < k → W.go (W.at i) := by
  have ex : ∃ k, k < 2 ^ (W.n + W.m) + 1 ∧ ¬ W.go (W.at k) := by
    refine Classical.byContradiction fun q => ?_
    have g : ∀ k, k < 2 ^ (W.n + W.m) + 1 → W.go (W.at k) := fun k hk => Classical.byContradiction fun z => q ⟨k, hk, z⟩
    have r : Run W W.at (fun i => (W.ln (W.at i) W.m).toNat) (fun i => (W.cl (W.at i) (W.ln (W.at i) W.m).toNat W.n).toNat) (2 ^ (W.n + W.m)) :=
      ⟨W.ok0, fun i hi => go_pk (g i (by omega)), fun i hi => rfl⟩
    have := r.short
    omega
  have : ∀ N k, k < N → k < 2 ^ (W.n + W.m) + 1 → ¬ W.go (W.at k) → ∃ k, k < 2 ^ (W.n + W.m) + 1 ∧ ¬ W.go (W.at k) ∧ ∀ i, i < k → W.go (W.at i) := by
    intro N
    induction N with
    | zero => intro k h; omega
    | succ N ih =>
      intro k hk hb hn
      by_cases z : ∀ i, i < k → W.go (W.at i)
      · exact ⟨k, hb, hn, z⟩
      · have : ∃ i, i < k ∧ ¬ W.go (W.at i) := Classical.byContradiction fun q => z fun i hi => Classical.byContradiction fun y => q ⟨i, hi, y⟩
        rcases this with ⟨i, hi, y⟩
        exact ih i (by omega) (by omega) y
  rcases ex with ⟨k, h1, h2⟩
  exact this (k + 1) k (by omega) h1 h2
theorem Rws.okAt (W : Rws) : ∀ k, (∀ i, i < k → W.go (W.at i)) → Ok W (W.at k)
  | 0, _ => W.ok0
  | k + 1, h => by
    have p := go_pk (h k (by omega))
    exact (W.okAt k fun i hi => h i (by omega)).ex p.hl p.hc p.ne
end Y
/-! plain: what the two ends of the loop say -/
namespace Y
variable {W : Rws} {S : Stt}
theorem Ok.low (h : Ok W S) (nv : ∀ i, i < W.m → ¬ W.vio S i) {v : Nat} (hn : W.n ≤ v) (hv : v < W.n + W.m) : W.phi S (W.vec v) ≤ 0 ∧ (W.q (v - W.n) = true → W.phi S (W.vec v) = 0) := by
  rcases h.cov v hv with ⟨i, hi, a⟩ | ⟨j, hj, a⟩
  · subst a
    rw [h.phi_b hi]
    exact not_vio (nv i hi) hn
  · subst a
    rw [phi_f hj]
    exact ⟨by omega, fun _ => rfl⟩
theorem vec_slack (i : Nat) : W.vec (W.n + i) = fun k => sm (W.n + 1) fun j => (if j < W.n then W.R i j else -W.C i) * (if j < W.n then W.vec j else W.one) k := by
  funext k
  show _ = sm W.n (fun j => (if j < W.n then W.R i j else -W.C i) * (if j < W.n then W.vec j else W.one) k) + (if W.n < W.n then W.R i W.n else -W.C i) * (if W.n < W.n then W.vec W.n else W.one) k
  rw [if_neg (by omega : ¬ W.n < W.n), if_neg (by omega : ¬ W.n < W.n)]
  have g : sm W.n (fun j => (if j < W.n then W.R i j else -W.C i) * (if j < W.n then W.vec j else W.one) k) = sm W.n fun j => if j = k then W.R i k else 0 := sm_congr fun j hj => by
    rw [if_pos hj, if_pos hj]
    unfold Rws.vec
    rw [if_pos hj]
    by_cases z : j = k
    · rw [if_pos z, if_pos z, z, Int.mul_one]
    · rw [if_neg z, if_neg z, Int.mul_zero]
  rw [g]
  unfold Rws.vec Rws.one
  rw [if_neg (by omega), Nat.add_sub_cancel_left]
  by_cases z : k < W.n
  · rw [if_pos z, if_neg (by omega), sm_one (s := k) z fun j hj => if_neg hj, if_pos rfl]; omega
  · rw [if_neg z, sm_zero fun j hj => if_neg (by omega)]
    by_cases y : k = W.n
    · rw [if_pos y, if_pos y]; omega
    · rw [if_neg y, if_neg y]; omega
/-- the unknowns at the basic solution, times d -/
def Rws.X (W : Rws) (S : Stt) (k : Nat) : Int := W.phi S (W.vec k)
theorem Ok.slack (h : Ok W S) (i : Nat) : W.phi S (W.vec (W.n + i)) = (sm W.n fun k => W.R i k * W.X S k) - W.C i * S.d := by
  rw [vec_slack, phi_sum]
  show sm W.n (fun j => (if j < W.n then W.R i j else -W.C i) * W.phi S (if j < W.n then W.vec j else W.one)) + (if W.n < W.n then W.R i W.n else -W.C i) * W.phi S (if W.n < W.n then W.vec W.n else W.one) = _
  rw [if_neg (by omega : ¬ W.n < W.n), if_neg (by omega : ¬ W.n < W.n), h.phi_one, sm_congr (n := W.n) (g := fun k => W.R i k * W.X S k) fun j hj => by rw [if_pos hj, if_pos hj]; rfl]
  grind
theorem Ok.point (h : Ok W S) (nv : ∀ i, i < W.m → ¬ W.vio S i) {i : Nat} (hi : i < W.m) :
    (sm W.n fun k => W.R i k * W.X S k) ≤ W.C i * S.d ∧ (W.q i = true → (sm W.n fun k => W.R i k * W.X S k) = W.C i * S.d) := by
  have q := h.low nv (v := W.n + i) (by omega) (by omega)
  rw [h.slack, Nat.add_sub_cancel_left] at q
  exact ⟨by omega, fun e => by have := q.2 e; omega⟩
theorem Ok.X_b (h : Ok W S) {i : Nat} (hi : i < W.m) : W.X S (S.b i) = S.T i W.n := h.phi_b hi
theorem X_f {j : Nat} (hj : j < W.n) : W.X S (S.f j) = 0 := phi_f hj
/-- the multipliers, as the loop over the columns fills them in -/
def Rws.fnd (W : Rws) (S : Stt) (l : Nat) : Nat → Nat → Int
  | 0, i => if W.n + i = S.b l then sgn (S.T l W.n) * S.d else 0
  | k + 1, i => if S.f k = W.n + i then -sgn (S.T l W.n) * S.T l k else W.fnd S l k i
theorem fnd_zero {l i : Nat} : ∀ {k : Nat}, W.n + i ≠ S.b l → (∀ j, j < k → S.f j ≠ W.n + i) → W.fnd S l k i = 0
  | 0, h, _ => if_neg h
  | k + 1, h, g => by
    show (if _ then _ else _) = (0 : Int)
    rw [if_neg (g k (by omega))]
    exact fnd_zero h fun j hj => g j (by omega)
theorem Ok.fnd_sum (h : Ok W S) {l : Nat} (hl : l < W.m) (hb : W.n ≤ S.b l) (g : Nat → Int) : ∀ k, k ≤ W.n →
    (sm W.m fun i => W.fnd S l k i * g (W.n + i)) = sgn (S.T l W.n) * S.d * g (S.b l) + sm k fun j => if S.f j < W.n then 0 else -sgn (S.T l W.n) * S.T l j * g (S.f j)
  | 0, _ => by
    have bl := h.bl l hl
    rw [sm_one (s := S.b l - W.n) (by omega) fun i hi => ?_]
    · show (if W.n + (S.b l - W.n) = S.b l then _ else _) * _ = _ + (0 : Int)
      rw [if_pos (by omega), show W.n + (S.b l - W.n) = S.b l from by omega]; omega
    · show (if W.n + i = S.b l then _ else _) * _ = (0 : Int)
      rw [if_neg (by omega), Int.zero_mul]
  | k + 1, hk => by
    show _ = _ + (sm k _ + (if S.f k < W.n then 0 else -sgn (S.T l W.n) * S.T l k * g (S.f k)))
    rw [← Int.add_assoc, ← h.fnd_sum hl hb g k (by omega)]
    by_cases z : S.f k < W.n
    · rw [if_pos z, Int.add_zero]
      refine sm_congr fun i hi => ?_
      show (if S.f k = W.n + i then _ else _) * _ = _
      rw [if_neg (by omega)]
    · have fl := h.fl k (by omega)
      rw [if_neg z, sm_upd (f := fun i => W.fnd S l k i * g (W.n + i)) (g := fun i => W.fnd S l (k + 1) i * g (W.n + i)) (s := S.f k - W.n) (fun i hi => ?_) (by omega)]
      · show _ + ((if S.f k = W.n + (S.f k - W.n) then _ else _) * _ - _) = _
        rw [if_pos (by omega), fnd_zero (by rw [show W.n + (S.f k - W.n) = S.f k from by omega]; exact (h.nbf hl (by omega)).symm) fun j hj e => ?_, show W.n + (S.f k - W.n) = S.f k from by omega]
        · omega
        · have := h.fj j k (by omega) (by omega) (by omega); omega
      · show (if S.f k = W.n + i then _ else _) * _ = _
        rw [if_neg (by omega)]
theorem fnd_nonneg {l : Nat} (p : 0 ≤ S.d) (vl : W.vio S l) (nm : ∀ j, j < W.n → ¬ W.mov S l j) {i : Nat} (hq : W.q i = false) : ∀ {k : Nat}, k ≤ W.n → 0 ≤ W.fnd S l k i
  | 0, _ => by
    show (0 : Int) ≤ if W.n + i = S.b l then sgn (S.T l W.n) * S.d else 0
    split
    · rename_i e
      rcases vl.2 with a | a
      · unfold sgn; rw [if_neg (by omega), Int.one_mul]; exact p
      · rw [← e, Nat.add_sub_cancel_left, hq] at a; exact absurd a.2 (by simp)
    · omega
  | k + 1, hk => by
    show (0 : Int) ≤ if S.f k = W.n + i then -sgn (S.T l W.n) * S.T l k else W.fnd S l k i
    split
    · rename_i e
      have q := nm k (by omega)
      unfold Rws.mov at q
      rw [if_neg (by omega), e, Nat.add_sub_cancel_left] at q
      have : ¬ 0 < sgn (S.T l W.n) * S.T l k := fun z => q ⟨z, hq⟩
      rw [Int.neg_mul]; omega
    · exact fnd_nonneg p vl nm hq (by omega)
theorem Ok.fnd_eqn (h : Ok W S) {l : Nat} (hl : l < W.m) (vl : W.vio S l) (nm : ∀ j, j < W.n → ¬ W.mov S l j) (k : Nat) :
    (sm W.m fun i => W.fnd S l W.n i * W.vec (W.n + i) k) = sgn (S.T l W.n) * S.T l W.n * W.one k := by
  rw [h.fnd_sum hl vl.1 (fun v => W.vec v k) W.n (Nat.le_refl _)]
  have e := h.eqn l k hl
  have e2 : (sm W.n fun j => if S.f j < W.n then 0 else -sgn (S.T l W.n) * S.T l j * W.vec (S.f j) k) = -sgn (S.T l W.n) * sm W.n fun j => S.T l j * W.F S j k := by
    rw [← sm_mul]
    refine sm_congr fun j hj => ?_
    unfold Rws.F
    rw [if_pos hj]
    by_cases z : S.f j < W.n
    · rw [if_pos z]
      have q := nm j hj
      unfold Rws.mov at q
      rw [if_pos z] at q
      have : S.T l j = 0 := by omega
      rw [this, Int.zero_mul, Int.mul_zero]
    · rw [if_neg z, Int.mul_assoc]
  have e3 : W.F S W.n k = W.one k := by unfold Rws.F; rw [if_neg (by omega)]
  have e4 : S.d * W.vec (S.b l) k = (sm W.n fun j => S.T l j * W.F S j k) + S.T l W.n * W.one k := by rw [e, ← e3]; rfl
  rw [e2]
  show sgn (S.T l W.n) * S.d * W.vec (S.b l) k + _ = _
  generalize (sm W.n fun j => S.T l j * W.F S j k) = Y at *
  rw [Int.mul_assoc, e4]
  grind
theorem Ok.clash (h : Ok W S) {l : Nat} (hl : l < W.m) (vl : W.vio S l) (nm : ∀ j, j < W.n → ¬ W.mov S l j) :
    (∀ i, W.q i = false → 0 ≤ W.fnd S l W.n i) ∧ (∀ k, k < W.n → (sm W.m fun i => W.fnd S l W.n i * W.R i k) = 0) ∧ (sm W.m fun i => W.fnd S l W.n i * W.C i) < 0 := by
  refine ⟨fun i hq => fnd_nonneg (Int.le_of_lt h.pos) vl nm hq (Nat.le_refl _), fun k hk => ?_, ?_⟩
  · have q := h.fnd_eqn hl vl nm k
    have o : W.one k = 0 := by unfold Rws.one; rw [if_neg (by omega)]
    rw [o, Int.mul_zero] at q
    rw [← q]
    refine sm_congr fun i hi => ?_
    unfold Rws.vec
    rw [if_neg (by omega), if_pos hk, Nat.add_sub_cancel_left]
  · have q := h.fnd_eqn hl vl nm W.n
    have o : W.one W.n = 1 := by unfold Rws.one; rw [if_pos rfl]
    rw [o, Int.mul_one] at q
    have e : (sm W.m fun i => W.fnd S l W.n i * W.vec (W.n + i) W.n) = -1 * sm W.m fun i => W.fnd S l W.n i * W.C i := by
      rw [← sm_mul]
      refine sm_congr fun i hi => ?_
      unfold Rws.vec
      rw [if_neg (by omega), if_neg (by omega), if_pos rfl, Nat.add_sub_cancel_left]
      grind
    have := vio_pos vl
    omega
end Y
/-! x is True; gcd, lcm; list(range(n)); bit_length -/
namespace Y
open PySem PySem.Spec PyProof.Rows L2
section
variable {X : Cx} {H : Hp} {Q : VK} {K : PySem.W.Frag}
def rIsB : R2 := fun x y H Q => ∃ a b : Bool, x = .bl a ∧ y = .bl b ∧ Q (.bl (a == b)) H
theorem op_isB : OpR X (compareOp .Is) rIsB := by
  intro pins s σ H x y v u Q I rx ry h
  obtain ⟨a, b, rfl, rfl, q⟩ := h
  cases rx
  cases ry
  show wpAny _ _ ((isSame (Value.bool a) (Value.bool b)) >>= fun z => pure (Value.bool z)) _ _ s
  exact wpAny_bind (wpAny_isSame_plain (by rfl) (wpAny_pure (fin_bl I q (by cases a <;> cases b <;> rfl))))
theorem rd_isB {a b : Bool} (h : Q (.bl (a == b)) H) : rIsB (.bl a) (.bl b) H Q := ⟨a, b, rfl, rfl, h⟩
theorem rd_gcd {a b : Int} (h : Q (.int ((Nat.gcd a.natAbs b.natAbs : Nat) : Int)) H) : rGcd [.int a, .int b] H Q := ⟨a, b, rfl, h⟩
end
end Y
/-! x in a tuple of data, lists of ints compared -/
namespace Y
open PySem PySem.Spec PyProof.Rows L2
def rInT (K : PySem.W.Frag) : R2 := fun x y H Q => ∃ d ds, Dp K H x d ∧ Dp K H y (.tuple ds) ∧ SeqAt.shaped d = true ∧ SeqAt.shaped (.tuple ds) = true ∧ Q (.bl (ds.any fun z => PyData.eqv z d)) H
theorem r65 {k : Nat} {A : Around} (r : Room k A) : A.units + 65 < cLine := by have := r.un; omega
section
variable {X : Cx}
theorem op_inT (hu : X.A.units + 65 < cLine) : OpR X (compareOp .In) (rInT X.K) := by
  intro pins s σ H x y v u Q I rx ry h
  obtain ⟨d, ds, hd, he, sd, se, q⟩ := h
  obtain ⟨as, r1⟩ := Dp.reads I d x v hd rx
  obtain ⟨bs, r2⟩ := Dp.reads I (.tuple ds) y u he ry
  exact SeqAt.in_tuple_reads r2 r1 (SeqAt.canLay_of_shaped se) (SeqAt.canLay_of_shaped sd) (room_in_shaped sd hu) ⟨.bl _, H, I, rfl, q⟩
end
section
variable {K : PySem.W.Frag} {H : Hp} {Q : VK}
theorem rd_inT {x y : V} {d : PyData} {ds : List PyData} (b : Bool) (hd : Dp K H x d) (he : Dp K H y (.tuple ds)) (sd : SeqAt.shaped d = true) (se : SeqAt.shaped (.tuple ds) = true) (hb : (ds.any fun z => PyData.eqv z d) = b) (h : Q (.bl b) H) : rInT K x y H Q :=
  ⟨d, ds, hd, he, sd, se, by rw [hb]; exact h⟩
def Par2 (R : V → V → Prop) (vs : List V) : Prop := ∃ v w, vs = [v, w] ∧ R v w
theorem rd_par {σ : L2.St} {H : Hp} {D : Ends} {i j : Nat} {ta : TA} (h : ta σ H fun vs H1 => Par2 (fun v w => D.nx ((σ.set i (some v)).set j (some w)) H1) vs) : tPar i j ta D σ H := h
theorem rd_par2 {R : V → V → Prop} {v w : V} (h : R v w) : Par2 R [v, w] := ⟨v, w, rfl, h⟩
theorem rd_bits {σ : L2.St} {H : Hp} {Q : VK} {te : TE} (h : te σ H fun x H1 => ∃ i, x = .int i ∧ Q (.int (Builtin.Int.intBits i : Nat)) H1) : tBits te σ H Q := h
theorem dp_ints {a : Addr} {ns : List Int} (e : H a = some (.lst (ns.map V.int))) : Dp K H (.ref a) (.list (ns.map PyData.int)) := by
  refine .lst (SqL.of e) ?_
  clear e
  induction ns with
  | nil => exact .nil
  | cons n ns ih => exact .cons (.int n) ih
theorem ints_shaped (ns : List Int) : SeqAt.shaped (.list (ns.map PyData.int)) = true := by
  have c : PyData.canLayAll0 (ns.map PyData.int) = true := by
    induction ns with
    | nil => simp [PyData.canLayAll0]
    | cons n ns ih => simp [PyData.canLayAll0, PyData.canLay0, ih]
  have c2 : PyData.canLay0 (.list (ns.map PyData.int)) = true := by simpa [PyData.canLay0] using c
  have d : PyData.depthAll (ns.map PyData.int) = 0 := by
    clear c c2
    induction ns with
    | nil => simp [PyData.depthAll]
    | cons n ns ih => simp [PyData.depthAll, PyData.depth, ih]
  unfold SeqAt.shaped
  rw [c2]
  simp [PyData.depth, d]
theorem ints_eqv : ∀ ns ms : List Int, PyData.eqvAll (ns.map PyData.int) (ms.map PyData.int) = decide (ns = ms)
  | [], [] => by simp [PyData.eqvAll]
  | [], _ :: _ => by simp [PyData.eqvAll]
  | _ :: _, [] => by simp [PyData.eqvAll]
  | n :: ns, m :: ms => by
    have ih := ints_eqv ns ms
    simp only [List.map_cons, PyData.eqvAll, PyData.eqv, ih]
    by_cases h : n = m
    · subst h; simp
    · simp [h]
theorem rd_eqL {a b : Addr} {ns ms : List Int} (e : H a = some (.lst (ns.map V.int))) (f : H b = some (.lst (ms.map V.int))) (h : Q (.bl (decide (ns = ms))) H) : rEqD K (.ref a) (.ref b) H Q :=
  ⟨_, _, dp_ints e, dp_ints f, ints_shaped ns, ints_shaped ms, by
    have : PyData.eqv (.list (ns.map PyData.int)) (.list (ms.map PyData.int)) = decide (ns = ms) := by
      simp only [PyData.eqv]; exact ints_eqv ns ms
    rw [this]; exact h⟩
theorem range_eq {n : Nat} {u v : Nat → Int} : ((List.range n).map u = (List.range n).map v) ↔ ∀ i, i < n → u i = v i := by
  constructor
  · intro h i hi
    have q := congrArg (fun l => l[i]?) h

    rw [List.getElem?_map, List.getElem?_map, List.getElem?_range hi] at q
    exact Option.some.inj q
  · intro h
    exact List.map_congr_left fun i hi => h i (List.mem_range.mp hi)
end
end Y
/-! lists or tuples; lcm of any size -/
namespace Y
open PySem PySem.Spec PyProof.Rows L2 RZ
def rIxA (K : PySem.W.Frag) : R2 := fun x y H Q => rIxL K x y H Q ∨ rIxT K x y H Q
section
variable {X : Cx}
theorem ix_any : IxR X (rIxA X.K) := by
  intro value slice pins s σ H x y v u Q I rx ry h hs
  rcases h with h | h
  · exact ix_list value slice pins s σ H x y v u Q I rx ry h hs
  · exact ix_tup value slice pins s σ H x y v u Q I rx ry h hs
def iAny (K : PySem.W.Frag) (tl : TE) : TI := fun σ H R => tl σ H fun x H1 => ItL K x H1 R ∨ ItT K x H1 R
theorem pi_any {tg l : Expr} {tl : TE} (hl : PE X l tl) : PI X tg l (iAny X.K tl) := by
  refine ⟨fun pins s σ H R I h => ?_⟩
  refine thn (hl.run pins s σ H _ I h) fun v s1 ⟨x, H1, I1, r1, q1⟩ => ?_
  rcases q1 with q1 | q1
  · obtain ⟨a, e, ⟨xs, hq⟩, q⟩ := q1
    subst e
    cases r1
    obtain ⟨its, rv, p, hz⟩ := I1.list hq
    refine wpAny_pyIter_list p.isList ?_
    refine ⟨s1.heap.objs.size, [s1.heap.objs.size], _, _, H1, rfl, I1.kept (t' := s1.toks) fun b o e => Heap.get?_push_of_some _ e, turn_list a _, ⟨_, Heap.get?_push_size _ rfl, rfl, rfl⟩, fun b hb => ?_, q⟩
    have e : b = s1.heap.objs.size := by simpa using hb
    subst e
    exact I1.fpOk (Nat.le_refl _) (I1.hok.fresh (Nat.le_refl _))
  · obtain ⟨a, e, ⟨xs, hq⟩, q⟩ := q1
    subst e
    cases r1
    obtain ⟨its, rv, p, hz⟩ := I1.tuple hq
    refine wpAny_pyIter_tuple (show s1.heap.IsTuple a its.toArray from p) ?_
    refine ⟨s1.heap.objs.size, [s1.heap.objs.size], _, _, H1, rfl, I1.kept (t' := s1.toks) fun b o e => Heap.get?_push_of_some _ e, turn_tuple a _, ⟨_, Heap.get?_push_size _ rfl, rfl, rfl⟩, fun b hb => ?_, q⟩
    have e : b = s1.heap.objs.size := by simpa using hb
    subst e
    exact I1.fpOk (Nat.le_refl _) (I1.hok.fresh (Nat.le_refl _))
def rLcm : List V → Hp → VK → Prop := fun vs H Q => ∃ a b : Int, vs = [.int a, .int b] ∧ a.natAbs < 2 ^ 4000 ∧ b.natAbs < 2 ^ 4000 ∧ Q (.int ((Nat.lcm a.natAbs b.natAbs : Nat) : Int)) H
theorem cr_sumK {K : PySem.W.Frag} (h : X.K = K) (hc : X.calm = true) : CallR X (.builtin "sum") (rSum K) := by subst h; exact cr_sum hc
theorem op_in_seqK {K : PySem.W.Frag} (h : X.K = K) : OpR X (compareOp .In) (rIn K false) := by subst h; exact op_in_seq
theorem log_4000 {n : Nat} (h : n < 2 ^ 4000) : n.log2 < 4000 := by
  by_cases z : n = 0
  · subst z; decide
  · exact (Nat.log2_lt z).mpr h
theorem cr_lcm : CallR X (.builtin "math.lcm") rLcm := by
  intro pins s σ H vs us Q I r h
  obtain ⟨a, b, rfl, ha, hb, q⟩ := h
  obtain ⟨t, u, rfl⟩ := Vals.int2 r
  have e : (Nat.lcm 1 a.natAbs).lcm b.natAbs = a.natAbs.lcm b.natAbs := by rw [PySem.W.mc_lcm_one]
  have h1 : (max 1 a.natAbs).log2 < 4000 := log_4000 (Nat.max_lt.mpr ⟨Nat.one_lt_two_pow (by decide), ha⟩)
  have h2 : (max a.natAbs b.natAbs).log2 < 4000 := log_4000 (Nat.max_lt.mpr ⟨ha, hb⟩)
  have h3 : ((((Nat.lcm 1 a.natAbs).lcm b.natAbs : Nat) : Int)).natAbs.log2 < bitsLine := by
    rw [e, Int.natAbs_natCast]
    have hl : a.natAbs.lcm b.natAbs < 2 ^ 8000 := Nat.lt_of_le_of_lt (PySem.W.mc_lcm_le _ _) (by
      rw [show (8000 : Nat) = 4000 + 4000 from rfl, Nat.pow_add]
      exact Nat.mul_lt_mul'' ha hb)
    by_cases z : a.natAbs.lcm b.natAbs = 0
    · rw [z]; decide
    · exact Nat.lt_of_lt_of_le ((Nat.log2_lt z).mpr hl) (by decide)
  refine call_function_meets PySem.W.MGF.kind_lcm PySem.W.MGF.plain_lcm PySem.W.MGF.entry_lcm (PySem.W.MGF.args_lcm _ _) (PySem.W.mg_run_lcm a t b u (by omega) (by omega) h3).meets ?_
  refine ⟨.int _, H, I.tok _, ⟨_, rfl⟩, ?_⟩
  rw [e]
  exact q
end
section
variable {K : PySem.W.Frag} {σ : L2.St} {H : Hp} {Q : VK} {p : Addr} {R : It → Hp → Prop} {tl : TE} {n : Nat} {f : Nat → V}
theorem rd_lcm {a b : Int} (ha : a.natAbs < 2 ^ 4000) (hb : b.natAbs < 2 ^ 4000) (h : Q (.int ((Nat.lcm a.natAbs b.natAbs : Nat) : Int)) H) : rLcm [.int a, .int b] H Q := ⟨a, b, rfl, ha, hb, h⟩
/-- a list or a tuple -/
def SqE (H : Hp) (p : Addr) (xs : List V) : Prop := H p = some (.tup xs) ∨ H p = some (.lst xs)
theorem SqE.ex {H H' : Hp} {p : Addr} {xs : List V} (h : SqE H p xs) (e : Ex H H') : SqE H' p xs := h.elim (fun z => .inl (e.at z)) fun z => .inr (e.at z)
/-- zip of two tuples -/
def ZpA (K : PySem.W.Frag) (vs : List V) (H : Hp) (R : It → Hp → Prop) : Prop := ∃ a b xs ys, vs = [.ref a, .ref b] ∧ ((SqL K H a xs ∧ SqL K H b ys ∧ R (Itz K a b) H) ∨ (SqT K H a xs ∧ SqT K H b ys ∧ R (ItzT K a b) H))
theorem rd_iZA {tr : TA} (h : tr σ H fun vs H1 => ZpA K vs H1 R) : iZipA K tr σ H R := h
theorem rd_zpA {q : Addr} {xs ys : List V} (e : H p = some (.tup xs)) (f : H q = some (.tup ys)) (h : R (ItzT K p q) H) : ZpA K [.ref p, .ref q] H R := ⟨p, q, xs, ys, rfl, .inr ⟨SqT.of e, SqT.of f, h⟩⟩
theorem wkZT {q : Addr} {n : Nat} {f g : Nat → V} : Walk (ItzT K p q) n (fun H => H p = some (.tup (tab n f)) ∧ H q = some (.tup (tab n g))) (YPair (fun i => some (f i)) fun i => some (g i)) := by
  refine ⟨fun i H hi h => ?_, fun H h => ?_, fun i H v H' hi h y => ?_⟩
  · exact ⟨_, _, f i, g i, SqT.of h.1, SqT.of h.2, tab_get hi, tab_get hi⟩
  · exact ⟨_, _, SqT.of h.1, SqT.of h.2, .inl (by rw [tab_len]; exact Nat.le_refl _)⟩
  · obtain ⟨T, x, z, e1, e2, e3, f1, f2⟩ := y
    exact ⟨T, x, z, e1, e2, e3, (tab_get hi).symm.trans (f1 _ (SqT.of h.1)), (tab_get hi).symm.trans (f2 _ (SqT.of h.2))⟩
/-- a loop: the ways out end where the rest begins -/
theorem while_g {tc : TT} {tb : TS} {D : Ends} (G : L2.St → Hp → Prop) (hk : ∀ σ H, G σ H → D.nx σ H) (W : Nat → L2.St → Hp → Prop) (m : Nat) (h0 : W m σ H)
    (hs : ∀ m σ H, W m σ H → ∀ tz : L2.St → Hp → Prop, (∀ σ' H', G σ' H' → tz σ' H') → tc σ H fun b H1 => if b = true then ∃ N : L2.St → Hp → Prop, (∀ σ' H', N σ' H' → ∃ m', m' < m ∧ W m' σ' H') ∧ tb { D with nx := N, ct := N, bk := tz } σ H1 else tz σ H1) : WhB tc tb D σ H :=
  while_w W m h0 fun m σ H hW => hs m σ H hW D.nx hk
theorem while_in2 {tb : TS} {D : Ends} {W : Nat → L2.St → Hp → Prop} {m : Nat} {tz : L2.St → Hp → Prop} (h : tb { D with nx := fun σ' H' => ∃ m', m' < m ∧ W m' σ' H', ct := fun σ' H' => ∃ m', m' < m ∧ W m' σ' H', bk := tz } σ H) :
    ∃ N : L2.St → Hp → Prop, (∀ σ' H', N σ' H' → ∃ m', m' < m ∧ W m' σ' H') ∧ tb { D with nx := N, ct := N, bk := tz } σ H := ⟨_, fun _ _ h => h, h⟩
theorem rd_iA (h : tl σ H fun x H1 => ItL K x H1 R ∨ ItT K x H1 R) : iAny K tl σ H R := h
theorem rd_itA (e : SqE H p (tab n f)) (h : ∀ (J : It) (G : Hp → Prop), Walk J n G (YFn f) → (∀ H', Ex H H' → G H') → R J H) : ItL K (.ref p) H R ∨ ItT K (.ref p) H R := by
  rcases e with e | e
  · exact .inr (rd_itT e (h _ _ wkTt fun H' x => x.at e))
  · exact .inl (rd_itL e (h _ _ wkLt fun H' x => x.at e))
theorem rd_lenAt (e : SqE H p (tab n f)) (h : Q (.int n) H) : rLen K [.ref p] H Q := e.elim (fun z => rd_lenTt z h) fun z => rd_lenLt z h
theorem rd_ixAt {i : Int} (j : Nat) (e : SqE H p (tab n f)) (ei : i = (j : Int)) (hj : j < n) (h : Q (f j) H) : rIxA K (.ref p) (.int i) H Q := e.elim (fun z => .inr (rd_ixTt j z ei hj h)) fun z => .inl (rd_ixLt j z ei hj h)
end
end Y
/-! lists of places -/
namespace Y
open PySem PySem.Spec PyProof.Rows L2
section
variable {K : PySem.W.Frag} {H : Hp} {Q : VK} {p : Addr}
theorem inV_ints {k : Nat} : ∀ ls : List Nat, inV (.int (k : Nat)) (ls.map fun i => V.int (i : Nat)) = decide (k ∈ ls)
  | [] => rfl
  | a :: ls => by
    have ih := inV_ints (k := k) ls
    unfold inV at ih ⊢
    rw [List.map_cons, List.any_cons, ih]
    show (((a : Int) == (k : Int)) || _) = _
    by_cases h : k = a
    · subst h; simp
    · have : ((a : Int) == (k : Int)) = false := beq_eq_false_iff_ne.mpr (by omega)
      rw [this]
      simp [h]
theorem flat_ints (ls : List Nat) : (ls.map fun i => V.int (i : Nat)).all flatV = true := by
  rw [List.all_eq_true]
  intro y hy
  obtain ⟨i, _, rfl⟩ := List.mem_map.mp hy
  rfl
theorem rd_inI {k : Nat} {ls : List Nat} (e : H p = some (.tup (ls.map fun i => V.int (i : Nat)))) (h : Q (.bl (decide (k ∈ ls))) H) : rIn K false (.int (k : Nat)) (.ref p) H Q :=
  ⟨p, _, rfl, .inr (SqT.of e), rfl, flat_ints ls, by rw [inV_ints]; exact h⟩
theorem rd_ninI {k : Nat} {ls : List Nat} (e : H p = some (.tup (ls.map fun i => V.int (i : Nat)))) (h : Q (.bl (!decide (k ∈ ls))) H) : rIn K true (.int (k : Nat)) (.ref p) H Q :=
  ⟨p, _, rfl, .inr (SqT.of e), rfl, flat_ints ls, by rw [inV_ints]; exact h⟩
theorem rd_neL {a b : Addr} {ns ms : List Int} (e : H a = some (.lst (ns.map V.int))) (f : H b = some (.lst (ms.map V.int))) (h : Q (.bl (!decide (ns = ms))) H) : rNeD K (.ref a) (.ref b) H Q :=
  ⟨_, _, dp_ints e, dp_ints f, ints_shaped ns, ints_shaped ms, by
    have : PyData.eqv (.list (ns.map PyData.int)) (.list (ms.map PyData.int)) = decide (ns = ms) := by
      simp only [PyData.eqv]; exact ints_eqv ns ms
    rw [this]; exact h⟩
theorem dp_intsT {a : Addr} {ns : List Int} (e : H a = some (.tup (ns.map V.int))) : Dp K H (.ref a) (.tuple (ns.map PyData.int)) := by
  refine .tup (SqT.of e) ?_
  clear e
  induction ns with
  | nil => exact .nil
  | cons n ns ih => exact .cons (.int n) ih
theorem ints_shapedT (ns : List Int) : SeqAt.shaped (.tuple (ns.map PyData.int)) = true := by
  have q := ints_shaped ns
  unfold SeqAt.shaped at q ⊢
  simpa [PyData.canLay0, PyData.depth] using q
theorem rd_neT {a b : Addr} {ns ms : List Int} (e : H a = some (.tup (ns.map V.int))) (f : H b = some (.tup (ms.map V.int))) (h : Q (.bl (!decide (ns = ms))) H) : rNeD K (.ref a) (.ref b) H Q :=
  ⟨_, _, dp_intsT e, dp_intsT f, ints_shapedT ns, ints_shapedT ms, by
    have : PyData.eqv (.tuple (ns.map PyData.int)) (.tuple (ms.map PyData.int)) = decide (ns = ms) := by
      simp only [PyData.eqv]; exact ints_eqv ns ms
    rw [this]; exact h⟩
end
end Y
/-! Euclid's rounds, sums of fractions -/
namespace Y
def eu (a b : Nat) : Nat → Nat × Nat
  | 0 => (a, b)
  | k + 1 => if (eu a b k).2 = 0 then eu a b k else ((eu a b k).2, (eu a b k).1 % (eu a b k).2)
theorem eu_gcd (a b : Nat) : ∀ k, Nat.gcd (eu a b k).1 (eu a b k).2 = Nat.gcd a b
  | 0 => rfl
  | k + 1 => by
    have ih := eu_gcd a b k
    show Nat.gcd (if (eu a b k).2 = 0 then eu a b k else ((eu a b k).2, (eu a b k).1 % (eu a b k).2)).1 (if (eu a b k).2 = 0 then eu a b k else ((eu a b k).2, (eu a b k).1 % (eu a b k).2)).2 = _
    split
    · exact ih
    · show Nat.gcd (eu a b k).2 ((eu a b k).1 % (eu a b k).2) = _
      rw [← ih, Nat.gcd_comm (eu a b k).2, ← Nat.gcd_rec, Nat.gcd_comm]
theorem eu_stay {a b k : Nat} (h : (eu a b k).2 = 0) : eu a b (k + 1) = eu a b k := if_pos h
theorem eu_step {a b k : Nat} (h : (eu a b k).2 ≠ 0) : eu a b (k + 1) = ((eu a b k).2, (eu a b k).1 % (eu a b k).2) := if_neg h
theorem mod_half {r s : Nat} (h0 : 0 < s) (h : s < r) : 2 * (r % s) ≤ r := by
  have h1 := Nat.mod_lt r h0
  by_cases h2 : 2 * s ≤ r
  · omega
  · have : r % s = r - s := by
      rw [Nat.mod_eq_sub_mod (by omega), Nat.mod_eq_of_lt (by omega)]
    omega
theorem eu_half (a b k : Nat) : 2 * (eu a b (k + 2)).2 ≤ (eu a b k).2 := by
  by_cases h : (eu a b k).2 = 0
  · rw [show k + 2 = k + 1 + 1 from rfl, eu_stay (by rw [eu_stay h]; exact h), eu_stay h]; omega
  · have e1 := eu_step h
    by_cases h1 : (eu a b (k + 1)).2 = 0
    · rw [show k + 2 = k + 1 + 1 from rfl, eu_stay h1]; omega
    · have e2 := eu_step h1
      rw [show k + 2 = k + 1 + 1 from rfl, e2, e1]
      rw [e1] at h1
      exact mod_half (Nat.pos_of_ne_zero h1) (Nat.mod_lt _ (Nat.pos_of_ne_zero h))
theorem eu_pow (a b : Nat) : ∀ j, (eu a b (2 * j)).2 * 2 ^ j ≤ b
  | 0 => by show b * 1 ≤ b; omega
  | j + 1 => by
    have ih := eu_pow a b j
    have h := eu_half a b (2 * j)
    rw [show 2 * (j + 1) = 2 * j + 2 by omega, Nat.pow_succ]
    have := Nat.mul_le_mul_right (2 ^ j) h
    calc (eu a b (2 * j + 2)).2 * (2 ^ j * 2) = 2 * (eu a b (2 * j + 2)).2 * 2 ^ j := by grind
      _ ≤ (eu a b (2 * j)).2 * 2 ^ j := this
      _ ≤ b := ih
theorem eu_end {a b n : Nat} (h : b < 2 ^ n) : (eu a b (2 * n + 3)).2 = 0 := by
  have h1 := eu_pow a b n
  have h2 : (eu a b (2 * n)).2 = 0 := by
    by_cases z : (eu a b (2 * n)).2 = 0
    · exact z
    · have := Nat.mul_le_mul_right (2 ^ n) (show 1 ≤ (eu a b (2 * n)).2 by omega)
      omega
  have h3 := eu_stay h2
  have h4 := eu_stay (k := 2 * n + 1) (by rw [h3]; exact h2)
  have h5 := eu_stay (k := 2 * n + 2) (by rw [h4, h3]; exact h2)
  rw [show 2 * n + 3 = 2 * n + 2 + 1 from rfl, h5, h4, h3]; exact h2
/-! ### fractions -/
def blw (D : Nat → Int) : Nat → Int
  | 0 => 1
  | k + 1 => blw D k * D k
def tpw (N D u : Nat → Int) : Nat → Int
  | 0 => 0
  | k + 1 => tpw N D u k * D k + u k * N k * blw D k
theorem blw_pos {D : Nat → Int} : ∀ {k : Nat}, (∀ j, j < k → 0 < D j) → 0 < blw D k
  | 0, _ => by show (0 : Int) < 1; decide
  | k + 1, h => Int.mul_pos (blw_pos fun j hj => h j (by omega)) (h k (by omega))
theorem tpw_eq {N D u x : Nat → Int} {d : Int} : ∀ {k : Nat}, (∀ j, j < k → N j * d = x j * D j) → tpw N D u k * d = blw D k * sm k fun j => u j * x j
  | 0, _ => by show 0 * d = 1 * 0; simp
  | k + 1, h => by
    have ih := tpw_eq (u := u) (k := k) fun j hj => h j (by omega)
    have e := h k (by omega)
    show (tpw N D u k * D k + u k * N k * blw D k) * d = blw D k * D k * ((sm k fun j => u j * x j) + u k * x k)
    have e2 : u k * N k * blw D k * d = u k * blw D k * (N k * d) := by grind
    rw [Int.add_mul, e2, e]
    have e3 : tpw N D u k * D k * d = tpw N D u k * d * D k := by grind
    rw [e3, ih]
    grind
theorem blw_abs {D : Nat → Int} {M : Nat} : ∀ {k : Nat}, (∀ j, j < k → (D j).natAbs ≤ M) → (blw D k).natAbs ≤ M ^ k
  | 0, _ => by show 1 ≤ 1; decide
  | k + 1, h => by
    show (blw D k * D k).natAbs ≤ _
    rw [Int.natAbs_mul, Nat.pow_succ]
    exact Nat.mul_le_mul (blw_abs fun j hj => h j (by omega)) (h k (by omega))
theorem tpw_abs {N D u : Nat → Int} {M Z : Nat} : ∀ {k : Nat}, (∀ j, j < k → (D j).natAbs ≤ M) → (∀ j, j < k → (N j).natAbs ≤ M) → (∀ j, j < k → (u j).natAbs ≤ Z) → (tpw N D u k).natAbs ≤ k * (Z * M ^ k)
  | 0, _, _, _ => by show 0 ≤ _; omega
  | k + 1, h1, h2, h3 => by
    have ih := tpw_abs (k := k) (fun j hj => h1 j (by omega)) (fun j hj => h2 j (by omega)) fun j hj => h3 j (by omega)
    have b := blw_abs (k := k) fun j hj => h1 j (by omega)
    show (tpw N D u k * D k + u k * N k * blw D k).natAbs ≤ _
    have q1 : (tpw N D u k * D k).natAbs ≤ k * (Z * M ^ k) * M := by rw [Int.natAbs_mul]; exact Nat.mul_le_mul ih (h1 k (by omega))
    have q2 : (u k * N k * blw D k).natAbs ≤ Z * M * M ^ k := by rw [Int.natAbs_mul, Int.natAbs_mul]; exact Nat.mul_le_mul (Nat.mul_le_mul (h3 k (by omega)) (h2 k (by omega))) b
    have e1 : k * (Z * M ^ k) * M = k * (Z * M ^ (k + 1)) := by rw [Nat.pow_succ, Nat.mul_assoc, Nat.mul_assoc]
    have e2 : Z * M * M ^ k = Z * M ^ (k + 1) := by rw [Nat.pow_succ, Nat.mul_assoc, Nat.mul_comm M]
    rw [Nat.add_mul, Nat.one_mul]
    omega
/-- the row holds at the point -/
theorem tpw_le {N D u x : Nat → Int} {d c : Int} {n : Nat} (hd : 0 < d) (hD : ∀ j, j < n → 0 < D j) (h : ∀ j, j < n → N j * d = x j * D j) : ((sm n fun j => u j * x j) ≤ c * d → tpw N D u n ≤ c * blw D n) ∧ ((sm n fun j => u j * x j) = c * d → tpw N D u n = c * blw D n) := by
  have e := tpw_eq (u := u) h
  have bp := blw_pos hD
  constructor
  · intro q
    have q2 := Int.mul_le_mul_of_nonneg_left q (Int.le_of_lt bp)
    rw [← e] at q2
    have e2 : blw D n * (c * d) = c * blw D n * d := by grind
    rw [e2] at q2
    exact Int.le_of_mul_le_mul_right q2 hd
  · intro q
    rw [q] at e
    have e2 : blw D n * (c * d) = c * blw D n * d := by grind
    rw [e2] at e
    exact Int.eq_of_mul_eq_mul_right (by omega) e
end Y
/-! cones -/
namespace Y
def Cone (W : Rws) (v : Nat → Int) : Prop := ∀ i, i < W.m → dt W.n (W.R i) v ≤ 0 ∧ (W.q i = true → dt W.n (W.R i) v = 0)
def TightI (W : Rws) (i : Nat) : Prop := ∀ v, Cone W v → dt W.n (W.R i) v = 0
def fallW (W : Rws) (aim : Nat → Int) : Rws := ⟨W.n, W.m + 1, fun i => if i < W.m then W.R i else aim, fun i => if i < W.m then 0 else -1, fun i => if i < W.m then W.q i else false⟩
/-- what the multipliers of a clash are -/
def Cla (W : Rws) (y : Nat → Int) : Prop := (∀ i, i < W.m → W.q i = false → 0 ≤ y i) ∧ (∀ k, k < W.n → (sm W.m fun i => y i * W.R i k) = 0) ∧ (sm W.m fun i => y i * W.C i) ≤ -1
theorem sm_nonpos {f : Nat → Int} {n : Nat} (h : ∀ i, i < n → f i ≤ 0) : sm n f ≤ 0 := by
  have q := sm_nonneg (f := fun i => -1 * f i) (n := n) fun i hi => by have := h i hi; omega
  rw [sm_mul] at q
  omega
theorem sm_zero_each {f : Nat → Int} : ∀ {n : Nat}, (∀ i, i < n → f i ≤ 0) → sm n f = 0 → ∀ i, i < n → f i = 0
  | 0, _, _, i, hi => by omega
  | n + 1, h, e, i, hi => by
    have h1 := sm_nonpos (n := n) fun i hi => h i (by omega)
    have h2 := h n (by omega)
    have e : sm n f + f n = 0 := e
    by_cases z : i = n
    · rw [z]; omega
    · exact sm_zero_each (n := n) (fun i hi => h i (by omega)) (by omega) i (by omega)
theorem comb_dt {n m : Nat} {y : Nat → Int} {R : Nat → Nat → Int} {v : Nat → Int} (h : ∀ k, k < n → (sm m fun i => y i * R i k) = 0) : (sm m fun i => y i * dt n (R i) v) = 0 := by
  have e1 : (sm m fun i => y i * dt n (R i) v) = sm m fun i => sm n fun k => y i * (R i k * v k) := sm_congr fun i hi => by rw [sm_mul]
  rw [e1, sm_swap (fun i k => y i * (R i k * v k)) n m]
  refine sm_zero fun k hk => ?_
  have e2 : (sm m fun i => y i * (R i k * v k)) = v k * sm m fun i => y i * R i k := by
    rw [← sm_mul]
    exact sm_congr fun i hi => by grind
  rw [e2, h k hk, Int.mul_zero]
theorem clash_aim {W : Rws} {aim y : Nat → Int} (h : Cla (fallW W aim) y) {v : Nat → Int} (hv : Cone W v) : 0 ≤ dt W.n aim v := by
  obtain ⟨h1, h2, h3⟩ := h
  have c := comb_dt (v := v) h2
  have e : (sm (W.m + 1) fun i => y i * dt W.n ((fallW W aim).R i) v) = (sm W.m fun i => y i * dt W.n (W.R i) v) + y W.m * dt W.n aim v := by
    show (sm W.m fun i => y i * dt W.n ((fallW W aim).R i) v) + y W.m * dt W.n ((fallW W aim).R W.m) v = _
    have e1 : (sm W.m fun i => y i * dt W.n ((fallW W aim).R i) v) = sm W.m fun i => y i * dt W.n (W.R i) v := sm_congr fun i hi => by
      have : (fallW W aim).R i = W.R i := if_pos hi
      rw [this]
    have e2 : (fallW W aim).R W.m = aim := if_neg (by omega)
    rw [e1, e2]
  have c : (sm (W.m + 1) fun i => y i * dt W.n ((fallW W aim).R i) v) = 0 := c
  rw [e] at c
  have s0 : (sm W.m fun i => y i * dt W.n (W.R i) v) ≤ 0 := sm_nonpos fun i hi => by
    cases hq : W.q i with
    | true => rw [(hv i hi).2 hq, Int.mul_zero]; exact Int.le_refl _
    | false =>
      have yp := h1 i (by show i < W.m + 1; omega) (by show (if i < W.m then W.q i else false) = false; rw [if_pos hi]; exact hq)
      exact Int.mul_nonpos_of_nonneg_of_nonpos yp (hv i hi).1
  have cs : (sm (W.m + 1) fun i => y i * (fallW W aim).C i) = - y W.m := by
    show (sm W.m fun i => y i * (fallW W aim).C i) + y W.m * (fallW W aim).C W.m = _
    have e1 : (sm W.m fun i => y i * (fallW W aim).C i) = 0 := sm_zero fun i hi => by
      have : (fallW W aim).C i = 0 := if_pos hi
      rw [this, Int.mul_zero]
    have e2 : (fallW W aim).C W.m = -1 := if_neg (by omega)
    rw [e1, e2]; omega
  have h3 : (sm (W.m + 1) fun i => y i * (fallW W aim).C i) ≤ -1 := h3
  rw [cs] at h3
  by_cases z : 0 ≤ dt W.n aim v
  · exact z
  · have := Int.mul_le_mul_of_nonneg_right (show (1 : Int) ≤ y W.m by omega) (show (0 : Int) ≤ - dt W.n aim v by omega)
    simp only [Int.mul_neg, Int.one_mul] at this
    omega
/-! ### rays -/
def Ray (n : Nat) (z x : Nat → Int) : Prop := ∃ p q : Int, 0 < p ∧ 0 < q ∧ ∀ k, k < n → z k * p = x k * q
theorem Ray.dt {n : Nat} {z x : Nat → Int} (h : Ray n z x) (u : Nat → Int) : (dt n u z < 0 ↔ dt n u x < 0) ∧ (dt n u z = 0 ↔ dt n u x = 0) := by
  obtain ⟨p, q, hp, hq, e⟩ := h
  have e1 : p * Y.dt n u z = q * Y.dt n u x := by
    show p * (sm n fun j => u j * z j) = q * sm n fun j => u j * x j
    rw [← sm_mul, ← sm_mul]
    refine sm_congr fun j hj => ?_
    have := e j hj
    have a1 : p * (u j * z j) = u j * (z j * p) := by grind
    have a2 : q * (u j * x j) = u j * (x j * q) := by grind
    rw [a1, a2, this]
  generalize Y.dt n u z = a at *
  generalize Y.dt n u x = b at *
  have s1 : a < 0 → b < 0 := fun h => by
    by_cases z : b < 0
    · exact z
    · have h1 := Int.mul_neg_of_pos_of_neg hp h
      have h2 := Int.mul_nonneg (Int.le_of_lt hq) (show 0 ≤ b by omega)
      omega
  have s2 : b < 0 → a < 0 := fun h => by
    by_cases z : a < 0
    · exact z
    · have h1 := Int.mul_neg_of_pos_of_neg hq h
      have h2 := Int.mul_nonneg (Int.le_of_lt hp) (show 0 ≤ a by omega)
      omega
  refine ⟨⟨s1, s2⟩, fun h => ?_, fun h => ?_⟩
  · rw [h, Int.mul_zero] at e1
    rcases Int.mul_eq_zero.mp e1.symm with z | z
    · omega
    · exact z
  · rw [h, Int.mul_zero] at e1
    rcases Int.mul_eq_zero.mp e1 with z | z
    · omega
    · exact z
theorem Ray.cone {W : Rws} {z x : Nat → Int} (h : Ray W.n z x) (c : Cone W x) : Cone W z := fun i hi => by
  have d := h.dt (W.R i)
  have ci := c i hi
  refine ⟨?_, fun q => d.2.mpr (ci.2 q)⟩
  by_cases e : Y.dt W.n (W.R i) x = 0
  · rw [d.2.mpr e]; exact Int.le_refl _
  · have := d.1.mpr (by omega); omega
theorem fall_cone {W : Rws} {aim x : Nat → Int} {d : Int} (hd : 0 < d) (h : ∀ i, i < W.m + 1 → (sm W.n fun k => (fallW W aim).R i k * x k) ≤ (fallW W aim).C i * d ∧ ((fallW W aim).q i = true → (sm W.n fun k => (fallW W aim).R i k * x k) = (fallW W aim).C i * d)) : Cone W x ∧ dt W.n aim x < 0 := by
  constructor
  · intro i hi
    have := h i (by omega)
    have e1 : (fallW W aim).R i = W.R i := if_pos hi
    have e2 : (fallW W aim).C i = 0 := if_pos hi
    have e3 : (fallW W aim).q i = W.q i := if_pos hi
    rw [e1, e2, e3, Int.zero_mul] at this
    exact this
  · have := (h W.m (by omega)).1
    have e1 : (fallW W aim).R W.m = aim := if_neg (by omega)
    have e2 : (fallW W aim).C W.m = -1 := if_neg (by omega)
    rw [e1, e2] at this
    show (sm W.n fun k => aim k * x k) < 0
    omega
/-! ### lcm folds -/
def lcf (D : Nat → Int) : Nat → Nat
  | 0 => 1
  | k + 1 => Nat.lcm (lcf D k) (D k).natAbs
theorem lcf_dvd {D : Nat → Int} : ∀ {n i : Nat}, i < n → (D i).natAbs ∣ lcf D n
  | 0, _, h => by omega
  | n + 1, i, h => by
    by_cases e : i = n
    · rw [e]; exact Nat.dvd_lcm_right _ _
    · exact Nat.dvd_trans (lcf_dvd (by omega)) (Nat.dvd_lcm_left _ _)
theorem lcf_of {D : Nat → Int} {d : Nat} : ∀ {n : Nat}, (∀ i, i < n → (D i).natAbs ∣ d) → lcf D n ∣ d
  | 0, _ => Nat.one_dvd _
  | n + 1, h => Nat.lcm_dvd (lcf_of fun i hi => h i (by omega)) (h n (by omega))
/-! ### sums over chosen rows -/
def sI (idx : List Nat) (f : Nat → Int) : Int := (idx.map f).sum
theorem sI_nil {f : Nat → Int} : sI [] f = 0 := rfl
theorem sI_cons {i : Nat} {idx : List Nat} {f : Nat → Int} : sI (i :: idx) f = f i + sI idx f := by unfold sI; rw [List.map_cons, List.sum_cons]
theorem sI_dt {n : Nat} {R : Nat → Nat → Int} {v : Nat → Int} : ∀ idx : List Nat, dt n (fun c => sI idx fun i => R i c) v = sI idx fun i => dt n (R i) v
  | [] => sm_zero fun j _ => by show 0 * v j = 0; rw [Int.zero_mul]
  | i :: idx => by
    rw [sI_cons, ← sI_dt idx]
    show (sm n fun j => (sI (i :: idx) fun i => R i j) * v j) = (sm n fun j => R i j * v j) + sm n fun j => (sI idx fun i => R i j) * v j
    rw [← sm_add]
    refine sm_congr fun j _ => ?_
    rw [sI_cons, Int.add_mul]
theorem sI_abs {f : Nat → Int} {B : Nat} : ∀ {idx : List Nat}, (∀ i ∈ idx, (f i).natAbs ≤ B) → (sI idx f).natAbs ≤ idx.length * B
  | [], _ => by rw [sI_nil]; exact Nat.zero_le _
  | i :: idx, h => by
    have h1 := sI_abs (idx := idx) fun j hj => h j (List.mem_cons_of_mem _ hj)
    have h2 := h i (List.mem_cons_self)
    rw [sI_cons, List.length_cons, Nat.add_mul]
    omega
theorem sI_nonpos {f : Nat → Int} : ∀ {idx : List Nat}, (∀ i ∈ idx, f i ≤ 0) → sI idx f ≤ 0 ∧ (0 ≤ sI idx f → ∀ i ∈ idx, f i = 0)
  | [], _ => ⟨by rw [sI_nil]; exact Int.le_refl _, fun _ i hi => by cases hi⟩
  | i :: idx, h => by
    have h1 := sI_nonpos (idx := idx) fun j hj => h j (List.mem_cons_of_mem _ hj)
    have h2 := h i (List.mem_cons_self)
    rw [sI_cons]
    refine ⟨by omega, fun z j hj => ?_⟩
    rcases List.mem_cons.mp hj with rfl | hj
    · have := h1.1; omega
    · exact h1.2 (by omega) j hj
/-- the rows that hold with equality -/
def tls (W : Rws) (v : Nat → Int) : List Nat := (List.range W.m).filter fun i => decide (dt W.n (W.R i) v = 0)
theorem mem_tls {W : Rws} {v : Nat → Int} {i : Nat} : i ∈ tls W v ↔ i < W.m ∧ dt W.n (W.R i) v = 0 := by
  unfold tls
  rw [List.mem_filter, List.mem_range, decide_eq_true_iff]
/-- a widest direction -/
def Wid (W : Rws) (v : Nat → Int) : Prop := Cone W v ∧ ∀ i, i < W.m → dt W.n (W.R i) v = 0 → TightI W i
theorem Wid.tight {W : Rws} {v : Nat → Int} (h : Wid W v) {i : Nat} (hi : i < W.m) : dt W.n (W.R i) v = 0 ↔ TightI W i := ⟨h.2 i hi, fun z => z v h.1⟩
theorem tls_eq {W : Rws} {v u : Nat → Int} (h : Wid W v) (h2 : Wid W u) : tls W v = tls W u := by
  unfold tls
  refine List.filter_congr fun i hi => decide_eq_decide.mpr ?_
  have hi := List.mem_range.mp hi
  rw [h.tight hi, h2.tight hi]
theorem filterMap_if {α β : Type} (p : α → Bool) (f : α → β) : ∀ l : List α, l.filterMap (fun a => if p a = true then some (f a) else none) = (l.filter p).map f
  | [] => rfl
  | a :: l => by
    have ih := filterMap_if p f l
    cases h : p a with
    | true => rw [List.filterMap_cons, h, List.filter_cons, h]; simp [ih]
    | false => rw [List.filterMap_cons, h, List.filter_cons, h]; simp [ih]
/-- what widest's loop keeps -/
structure WLoop (W : Rws) (v : Nat → Int) (idx : List Nat) : Prop where
  mem : ∀ i ∈ idx, i < W.m ∧ W.q i = false ∧ dt W.n (W.R i) v = 0
  neg : ∀ i, i < W.m → W.q i = false → i ∉ idx → dt W.n (W.R i) v < 0
  eq : ∀ i, i < W.m → W.q i = true → dt W.n (W.R i) v = 0
theorem WLoop.cone {W : Rws} {v : Nat → Int} {idx : List Nat} (h : WLoop W v idx) : Cone W v := fun i hi => by
  refine ⟨?_, h.eq i hi⟩
  cases hq : W.q i with
  | true => rw [h.eq i hi hq]; exact Int.le_refl _
  | false =>
    by_cases m : i ∈ idx
    · rw [(h.mem i m).2.2]; exact Int.le_refl _
    · exact Int.le_of_lt (h.neg i hi hq m)
theorem WLoop.done {W : Rws} {v : Nat → Int} {idx : List Nat} (h : WLoop W v idx) (ht : ∀ i ∈ idx, TightI W i) : Wid W v := ⟨h.cone, fun i hi e => by
  cases hq : W.q i with
  | true => exact fun u hu => (hu i hi).2 hq
  | false =>
    by_cases m : i ∈ idx
    · exact ht i m
    · have := h.neg i hi hq m; omega⟩
theorem WLoop.clash {W : Rws} {v : Nat → Int} {idx : List Nat} (h : WLoop W v idx) (hc : ∀ u, Cone W u → 0 ≤ dt W.n (fun c => sI idx fun i => W.R i c) u) : Wid W v := h.done fun i hi u hu => by
  have q := hc u hu
  rw [sI_dt] at q
  exact (sI_nonpos fun j hj => (hu j (h.mem j hj).1).1).2 q i hi
theorem dt_plus {n : Nat} {u a b : Nat → Int} : dt n u (fun j => a j + b j) = dt n u a + dt n u b := by
  show (sm n fun j => u j * (a j + b j)) = (sm n fun j => u j * a j) + sm n fun j => u j * b j
  rw [← sm_add]
  exact sm_congr fun j _ => by rw [Int.mul_add]
theorem WLoop.next {W : Rws} {v z : Nat → Int} {idx : List Nat} (h : WLoop W v idx) (hz : Cone W z) : WLoop W (fun j => v j + z j) (idx.filter fun i => decide (dt W.n (W.R i) z = 0)) where
  mem i hi := by
    obtain ⟨h1, h2⟩ := List.mem_filter.mp hi
    have h2 := of_decide_eq_true h2
    obtain ⟨a, b, c⟩ := h.mem i h1
    exact ⟨a, b, by rw [dt_plus, c, h2]; rfl⟩
  neg i hi hq hn := by
    rw [dt_plus]
    have hz1 := (hz i hi).1
    by_cases m : i ∈ idx
    · have : ¬ dt W.n (W.R i) z = 0 := fun e => hn (List.mem_filter.mpr ⟨m, decide_eq_true e⟩)
      have := (h.mem i m).2.2
      omega
    · have := h.neg i hi hq m
      omega
  eq i hi hq := by rw [dt_plus, h.eq i hi hq, (hz i hi).2 hq]; rfl
theorem idx_less {W : Rws} {z : Nat → Int} {idx : List Nat} (hz : Cone W z) (hm : ∀ i ∈ idx, i < W.m) (h : dt W.n (fun c => sI idx fun i => W.R i c) z < 0) : (idx.filter fun i => decide (dt W.n (W.R i) z = 0)).length < idx.length := by
  rw [sI_dt] at h
  have hne : ∃ i ∈ idx, ¬ dt W.n (W.R i) z = 0 := by
    refine Classical.byContradiction fun hn => ?_
    have all : ∀ i ∈ idx, dt W.n (W.R i) z = 0 := fun i hi => Classical.byContradiction fun e => hn ⟨i, hi, e⟩
    have : sI idx (fun i => dt W.n (W.R i) z) = 0 := by
      clear h hm hn
      induction idx with
      | nil => rfl
      | cons i idx ih => rw [sI_cons, all i (List.mem_cons_self), ih fun j hj => all j (List.mem_cons_of_mem _ hj)]; rfl
    omega
  obtain ⟨i, hi, e⟩ := hne
  exact List.length_filter_lt_length_iff_exists.mpr ⟨i, hi, by simpa using e⟩
end Y
/-! the walks of the simplex -/
namespace Sx
open PySem PySem.Spec PyProof.Rows L2 Y
local macro_rules | `(tactic| walk_at "rd1") => `(tactic| first
  | with_reducible refine rd_var rfl ?_
  | with_reducible refine rd_op ?_
  | with_reducible refine rd_c ?_
  | with_reducible refine rd_I0 ?_
  | with_reducible refine rd_seq ?_
  | ((with_reducible refine rd_I ?_ ?_); focus (first | exact mulok_r (by decide) (by decide) | exact mulok_l (by decide) (by decide) | (show _ ≠ _; decide) | (show _ ∧ _; decide)))
  | with_reducible refine rd_asg ?_
  | with_reducible refine rd_name ?_
  | with_reducible refine rd_cb ?_
  | with_reducible refine rd_cons ?_
  | with_reducible refine rd_nil ?_
  | with_reducible refine rd_int ?_
  | with_reducible refine rd_eqI ?_
  | with_reducible refine rd_neI ?_
  | with_reducible refine rd_bl ?_
  | with_reducible refine rd_test ?_
  | with_reducible refine rd_tB ?_
  | with_reducible refine rd_ifS ?_
  | with_reducible refine rd_next ?_
  | with_reducible refine rd_T ?_
  | with_reducible refine rd_F ?_
  | with_reducible refine rd_nT ?_
  | with_reducible refine rd_nF ?_
  | with_reducible refine rd_blV ?_
  | with_reducible refine rd_ret ?_
  | with_reducible refine rd_call ?_
  | with_reducible refine rd_drop ?_
  | with_reducible refine rd_not ?_
  | with_reducible refine rd_and ?_
  | with_reducible refine rd_or ?_
  | with_reducible refine rd_un ?_
  | with_reducible refine rd_U ?_
  | with_reducible refine rd_tup ?_
  | with_reducible refine rd_lst ?_
  | with_reducible refine rd_if ?_
  | with_reducible refine rd_andV ?_
  | with_reducible refine rd_orV ?_
  | with_reducible refine rd_notV ?_
  | with_reducible refine rd_sl ?_
  | with_reducible refine rd_nopart ?_
  | with_reducible refine rd_part ?_
  | with_reducible refine rd_iv ?_
  | with_reducible refine rd_bm ?_
  | with_reducible refine rd_abs ?_
  | with_reducible refine rd_intb ?_
  | with_reducible refine rd_mx2 ?_
  | with_reducible refine rd_mn2 ?_
  | with_reducible refine rd_sub ?_
  | with_reducible refine rd_lc ?_
  | with_reducible refine rd_for ?_
  | with_reducible refine rd_iL ?_
  | with_reducible refine rd_iT ?_
  | with_reducible refine rd_r1 ?_
  | with_reducible refine rd_r2 ?_
  | with_reducible refine rd_iZ ?_
  | with_reducible refine rd_iZM ?_
  | with_reducible refine rd_while ?_
  | with_reducible refine rd_tru ?_
  | with_reducible refine rd_brk ?_
  | with_reducible refine rd_iA ?_
  | with_reducible refine rd_iZA ?_
  | with_reducible refine rd_par ?_
  | with_reducible refine rd_par2 ?_
  | with_reducible refine rd_bits ?_
  | with_reducible refine rd_callS ?_)
local macro_rules | `(tactic| walk_at "rd") => `(tactic| repeat walk_at "rd1")

def topS (i : Nat) : Stmt := PySem.Challenge.pw_mixproof_k24_widest_direction.main.body.getD i (.Pass ⟨0, 0, 0, 0⟩)
structure Bi (mg : Str → Option Value) : Prop where
  int : mg "int" = none
  len : mg "len" = none
  range : mg "range" = none
  isinstance : mg "isinstance" = none
  abs : mg "abs" = none
  zip : mg "zip" = none
  sum : mg "sum" = none
  all : mg "all" = none
  tuple : mg "tuple" = none
  list : mg "list" = none
  bool : mg "bool" = none
  max : mg "max" = none
  min : mg "min" = none
  gcd : mg "gcd" = some (.builtin "math.gcd")
  lcm : mg "lcm" = some (.builtin "math.lcm")
theorem b_int : bootBuiltins "int" = some (.type "int") := by decide +kernel
theorem b_tuple : bootBuiltins "tuple" = some (.type "tuple") := by decide +kernel
theorem b_list : bootBuiltins "list" = some (.type "list") := by decide +kernel
theorem b_bool : bootBuiltins "bool" = some (.type "bool") := by decide +kernel
theorem b_len : bootBuiltins "len" = some (.builtin "len") := by decide +kernel
theorem b_abs : bootBuiltins "abs" = some (.builtin "abs") := by decide +kernel
theorem b_sum : bootBuiltins "sum" = some (.builtin "sum") := by decide +kernel
theorem b_all : bootBuiltins "all" = some (.builtin "all") := by decide +kernel
theorem b_max : bootBuiltins "max" = some (.builtin "max") := by decide +kernel
theorem b_min : bootBuiltins "min" = some (.builtin "min") := by decide +kernel
theorem b_isinstance : bootBuiltins "isinstance" = some (.builtin "isinstance") := by decide +kernel
theorem b_range : bootBuiltins "range" = some (.type "range") := by decide +kernel
theorem b_zip : bootBuiltins "zip" = some (.type "zip") := by decide +kernel
section
variable {P : Program} {w : World} {K : PySem.W.Frag} {mg : Str → Option Value} {base : Heap}
def rel (q : Bool) : Str := if q then "equal" else "atmost"
/-- given rows, at a -/
def RwAt (H : Hp) (a : Addr) (W : Rws) : Prop := ∃ rp np : Nat → Addr, SqE H a (tab W.m fun i => .ref (rp i)) ∧
  (∀ i, i < W.m → H (rp i) = some (.tup [.ref (np i), .str (rel (W.q i)), .int (W.C i)])) ∧ ∀ i, i < W.m → H (np i) = some (.tup (vl W.n (W.R i)))
theorem RwAt.ex {H H' : Hp} {a : Addr} {W : Rws} (h : RwAt H a W) (e : Ex H H') : RwAt H' a W := by
  obtain ⟨rp, np, h1, h2, h3⟩ := h
  exact ⟨rp, np, h1.ex e, fun i hi => e.at (h2 i hi), fun i hi => e.at (h3 i hi)⟩
/-- a table, at t -/
def TbAt (H : Hp) (t : Addr) (W : Rws) (S : Stt) : Prop := ∃ tp : Nat → Addr, H t = some (.lst (tab W.m fun i => .ref (tp i))) ∧ ∀ i, i < W.m → H (tp i) = some (.lst (vl (W.n + 1) (S.T i)))
theorem rd_cont {D : Ends} {σ : L2.St} {H : Hp} (h : D.ct σ H) : tCont D σ H := h
theorem ln_no {W : Rws} {S : Stt} {i : Nat} (h : ¬ W.vio S i) : W.ln S (i + 1) = W.ln S i := if_neg fun q => h (by simpa using q.1)
theorem ln_yes {W : Rws} {S : Stt} {i : Nat} (h : W.vio S i) (g : W.ln S i < 0 ∨ S.b i < S.b (W.ln S i).toNat) : W.ln S (i + 1) = i := if_pos ⟨by simpa using h, g⟩
theorem ln_old {W : Rws} {S : Stt} {i : Nat} (g : ¬ (W.ln S i < 0 ∨ S.b i < S.b (W.ln S i).toNat)) : W.ln S (i + 1) = W.ln S i := if_neg fun q => g q.2
theorem ln_at {W : Rws} {S : Stt} {i : Nat} (h : ¬ W.ln S i < 0) : ∃ l : Nat, W.ln S i = (l : Int) ∧ l < i := by
  rcases lst_spec (fun i => decide (W.vio S i)) S.b i with ⟨e, _⟩ | ⟨l, hl, e, _⟩
  · have e : W.ln S i = -1 := e
    omega
  · exact ⟨l, e, hl⟩
theorem rel_eq {q : Bool} : V.str (rel q) = V.str "equal" ↔ q = true := by cases q <;> simp [rel] <;> decide
/-! ### _violated -/
abbrev s__violated : Stmt := topS 11
theorem sc__violated : FnScope ["rows", "many", "table", "basic", "found", "line", "variable", "constant"] ["rows", "many", "table", "basic"] (defScope s__violated) := ⟨rfl, rfl, rfl, by decide +kernel, rfl, by decide +kernel, by decide +kernel⟩
def sp__violated : Sp := fun vs H Q _ => ∃ (r t b : Addr) (W : Rws) (S : Stt), vs = [.ref r, .int W.n, .ref t, .ref b] ∧ RwAt H r W ∧ TbAt H t W S ∧ H b = some (.lst (vl W.m fun i => (S.b i : Int))) ∧ W.m ≤ 1000 ∧ (∀ i, i < W.m → S.b i < W.n + W.m) ∧
  ∀ H', Ex H H' → Q (.int (W.ln S W.m)) H'
theorem ok__violated {f : Addr} {fd : FuncData} (F : Fun K "_violated" "_violated" s__violated f fd) (B : Bi mg) : FnOk P w K mg base CX0 41 f fd ["rows", "many", "table", "basic"] sp__violated := by
  refine F.ok sc__violated (fun vs H Q E h => ?_) (fun cdv A outer s0 H vs Q E hr h => ?_)
  · obtain ⟨r, t, b, W, S, rfl, _⟩ := h; rfl
  · obtain ⟨r, t, b, W, S, rfl, hR, hT, hB, hm, hb, k⟩ := h
    have nd := sc__violated.nd
    refine ⟨_, (pss_cons (ps_set (i := 4) nd rfl (.inl rfl) (pe_un un_neg pe_int))
      (pss_cons (ps_for PassesOwn.never rfl (pi_range1 (by rfl) B.range (pa_cons (pe_callB cr_len (by rfl) B.len b_len (pa_cons (pv 2) pa_nil)) pa_nil)) (pg_name (i := 5) nd rfl (.inl rfl))
        (pss_cons (ps_set (i := 6) nd rfl (.inl rfl) (pe_ix ix_list (pv 3) (pv 5) (fun _ _ => rfl)))
        (pss_cons (ps_if (pt_cmpR op_lt (pv 6) (pv 1) (nomark _))
          (pss_one ps_continue)
          pss_nil)
        (pss_cons (ps_set (i := 7) nd rfl (.inl rfl) (pe_ix ix_list (pe_ix ix_list (pv 2) (pv 5) (fun _ _ => rfl)) (pv 1) (fun _ _ => rfl)))
        (pss_one (ps_if (PW.pt (pw_or (pt_cmpR op_gt (pv 7) pe_int (nomark _)) (pw_or1 (PW.pt (pw_and (pt_cmpR op_lt (pv 7) pe_int (nomark _)) (pw_and1 (pt_cmpR op_eq (pe_ix ix_tup (pe_ix ix_any (pv 0) (pe_op op_sub (pv 6) (pv 1)) (fun _ _ => rfl)) pe_int (fun _ _ => rfl)) pe_str (nomark _))))))))
          (pss_one (ps_if (PW.pt (pw_or (pt_cmpR op_lt (pv 4) pe_int (nomark _)) (pw_or1 (pt_cmpR op_lt (pv 6) (pe_ix ix_list (pv 3) (pv 4) (fun _ _ => rfl)) (nomark _)))))
            (pss_one (ps_set (i := 4) nd rfl (.inl rfl) (pv 5)))
            pss_nil))
          pss_nil))))))
      (pss_one (ps_ret (pv 4))))), ?_⟩
    obtain ⟨rp, np, e1, e2, e3⟩ := hR
    obtain ⟨tp, t1, t2⟩ := hT
    walk_at "rd"
    refine rd_lenLt t1 ?_
    walk_at "rd"
    refine rd_rg1 W.m rfl (by omega) (for_w wkR (fun i σ H2 => Ex H H2 ∧ ∃ o1 o2 o3, σ = [some (.ref r), some (.int W.n), some (.ref t), some (.ref b), some (.int (W.ln S i)), o1, o2, o3]) ⟨Ex.rfl', _, _, _, rfl⟩ (fun i σ H2 _ hP => trivial) (fun i x σ H2 H3 hi hP y => ?_) fun σ H2 hP => ?_)
    · obtain ⟨ex, o1, o2, o3, rfl⟩ := hP
      obtain ⟨rfl, exx⟩ := y
      obtain rfl : x = .int (i : Int) := by rw [exx]; exact congrArg V.int (by omega)
      walk_at "rd"
      refine rd_ixLt i (ex.at hB) rfl hi ?_
      walk_at "rd"
      have hbi := hb i hi
      refine rd_dec (fun hlt => ?_) fun hge => ?_
      · walk_at "rd"
        have nv : ¬ W.vio S i := fun q => by have := q.1; have : (S.b i : Int) < W.n := hlt; omega
        refine rd_cont ?_
        refine ⟨ex, ?_⟩
        rw [ln_no nv]
        exact ⟨_, _, _, rfl⟩
      · walk_at "rd"
        refine rd_ixLt i (ex.at t1) rfl hi ?_
        walk_at "rd"
        refine rd_ixLt W.n (ex.at (t2 i hi)) rfl (by omega) ?_
        walk_at "rd"
        have hge : ¬ ((S.b i : Int) < W.n) := hge
        refine rd_dec (fun h1 => ?_) fun h1 => ?_
        · have hv : W.vio S i := ⟨by omega, .inl h1⟩
          walk_at "rd"
          refine rd_dec (fun g1 => ?_) fun g1 => ?_
          · walk_at "rd"
            refine ⟨ex, ?_⟩
            rw [ln_yes hv (.inl g1)]
            exact ⟨_, _, _, rfl⟩
          · walk_at "rd"
            obtain ⟨l, el, hl⟩ := ln_at g1
            refine rd_ixLt l (ex.at hB) el (by omega) ?_
            walk_at "rd"
            have tl : (W.ln S i).toNat = l := by rw [el]; rfl
            refine rd_dec (fun g2 => ?_) fun g2 => ?_
            · have g2 : (S.b i : Int) < S.b l := g2
              walk_at "rd"
              refine ⟨ex, ?_⟩
              rw [ln_yes hv (.inr (by rw [tl]; omega))]
              exact ⟨_, _, _, rfl⟩
            · have g2 : ¬ (S.b i : Int) < S.b l := g2
              walk_at "rd"
              refine ⟨ex, ?_⟩
              rw [ln_old (by rw [tl]; omega)]
              exact ⟨_, _, _, rfl⟩
        · walk_at "rd"
          refine rd_dec (fun h2 => ?_) fun h2 => ?_
          · walk_at "rd"
            refine rd_ixAt (S.b i - W.n) (SqE.ex e1 ex) (show ((S.b i : Int) - W.n) = _ by omega) (by omega) ?_
            walk_at "rd"
            refine rd_ixTn 1 (ex.at (e2 _ (by omega))) rfl rfl ?_
            walk_at "rd"
            refine rd_eq rfl ?_
            walk_at "rd"
            refine rd_dec (fun h3 => ?_) fun h3 => ?_
            · have hv : W.vio S i := ⟨by omega, .inr ⟨h2, rel_eq.mp h3⟩⟩
              walk_at "rd"
              refine rd_dec (fun g1 => ?_) fun g1 => ?_
              · walk_at "rd"
                refine ⟨ex, ?_⟩
                rw [ln_yes hv (.inl g1)]
                exact ⟨_, _, _, rfl⟩
              · walk_at "rd"
                obtain ⟨l, el, hl⟩ := ln_at g1
                refine rd_ixLt l (ex.at hB) el (by omega) ?_
                walk_at "rd"
                have tl : (W.ln S i).toNat = l := by rw [el]; rfl
                refine rd_dec (fun g2 => ?_) fun g2 => ?_
                · have g2 : (S.b i : Int) < S.b l := g2
                  walk_at "rd"
                  refine ⟨ex, ?_⟩
                  rw [ln_yes hv (.inr (by rw [tl]; omega))]
                  exact ⟨_, _, _, rfl⟩
                · have g2 : ¬ (S.b i : Int) < S.b l := g2
                  walk_at "rd"
                  refine ⟨ex, ?_⟩
                  rw [ln_old (by rw [tl]; omega)]
                  exact ⟨_, _, _, rfl⟩
            · have nv : ¬ W.vio S i := fun q => q.2.elim (fun z => h1 z) fun z => h3 (rel_eq.mpr z.2)
              walk_at "rd"
              refine ⟨ex, ?_⟩
              rw [ln_no nv]
              exact ⟨_, _, _, rfl⟩
          · have nv : ¬ W.vio S i := fun q => q.2.elim (fun z => h1 z) fun z => h2 z.1
            walk_at "rd"
            refine ⟨ex, ?_⟩
            rw [ln_no nv]
            exact ⟨_, _, _, rfl⟩
    · obtain ⟨ex, o1, o2, o3, rfl⟩ := hP
      walk_at "rd"
      exact k H2 ex
end
end Sx
/-! the walk of _entering -/
namespace Sx
open PySem PySem.Spec PyProof.Rows L2 Y
local macro_rules | `(tactic| walk_at "rd1") => `(tactic| first
  | with_reducible refine rd_var rfl ?_
  | with_reducible refine rd_op ?_
  | with_reducible refine rd_c ?_
  | with_reducible refine rd_I0 ?_
  | with_reducible refine rd_seq ?_
  | ((with_reducible refine rd_I ?_ ?_); focus (first | exact mulok_r (by decide) (by decide) | exact mulok_l (by decide) (by decide) | (show _ ≠ _; decide) | (show _ ∧ _; decide)))
  | with_reducible refine rd_asg ?_
  | with_reducible refine rd_name ?_
  | with_reducible refine rd_cb ?_
  | with_reducible refine rd_cons ?_
  | with_reducible refine rd_nil ?_
  | with_reducible refine rd_int ?_
  | with_reducible refine rd_eqI ?_
  | with_reducible refine rd_neI ?_
  | with_reducible refine rd_bl ?_
  | with_reducible refine rd_test ?_
  | with_reducible refine rd_tB ?_
  | with_reducible refine rd_ifS ?_
  | with_reducible refine rd_next ?_
  | with_reducible refine rd_T ?_
  | with_reducible refine rd_F ?_
  | with_reducible refine rd_nT ?_
  | with_reducible refine rd_nF ?_
  | with_reducible refine rd_blV ?_
  | with_reducible refine rd_ret ?_
  | with_reducible refine rd_call ?_
  | with_reducible refine rd_drop ?_
  | with_reducible refine rd_not ?_
  | with_reducible refine rd_and ?_
  | with_reducible refine rd_or ?_
  | with_reducible refine rd_un ?_
  | with_reducible refine rd_U ?_
  | with_reducible refine rd_tup ?_
  | with_reducible refine rd_lst ?_
  | with_reducible refine rd_if ?_
  | with_reducible refine rd_andV ?_
  | with_reducible refine rd_orV ?_
  | with_reducible refine rd_notV ?_
  | with_reducible refine rd_sl ?_
  | with_reducible refine rd_nopart ?_
  | with_reducible refine rd_part ?_
  | with_reducible refine rd_iv ?_
  | with_reducible refine rd_bm ?_
  | with_reducible refine rd_abs ?_
  | with_reducible refine rd_intb ?_
  | with_reducible refine rd_mx2 ?_
  | with_reducible refine rd_mn2 ?_
  | with_reducible refine rd_sub ?_
  | with_reducible refine rd_lc ?_
  | with_reducible refine rd_for ?_
  | with_reducible refine rd_iL ?_
  | with_reducible refine rd_iT ?_
  | with_reducible refine rd_r1 ?_
  | with_reducible refine rd_r2 ?_
  | with_reducible refine rd_iZ ?_
  | with_reducible refine rd_iZM ?_
  | with_reducible refine rd_while ?_
  | with_reducible refine rd_tru ?_
  | with_reducible refine rd_brk ?_
  | with_reducible refine rd_iA ?_
  | with_reducible refine rd_iZA ?_
  | with_reducible refine rd_par ?_
  | with_reducible refine rd_par2 ?_
  | with_reducible refine rd_bits ?_
  | with_reducible refine rd_callS ?_)
local macro_rules | `(tactic| walk_at "rd") => `(tactic| repeat walk_at "rd1")

section
variable {P : Program} {w : World} {K : PySem.W.Frag} {mg : Str → Option Value} {base : Heap}
theorem cl_at {W : Rws} {S : Stt} {l i : Nat} (h : ¬ W.cl S l i < 0) : ∃ c : Nat, W.cl S l i = (c : Int) ∧ c < i := by
  rcases lst_spec (fun i => decide (W.mov S l i)) S.f i with ⟨e, _⟩ | ⟨l, hl, e, _⟩
  · have e : W.cl S _ i = -1 := e
    omega
  · exact ⟨l, e, hl⟩
theorem cl_no {W : Rws} {S : Stt} {l i : Nat} (h : ¬ W.mov S l i) : W.cl S l (i + 1) = W.cl S l i := if_neg fun q => h (by simpa using q.1)
theorem cl_yes {W : Rws} {S : Stt} {l i : Nat} (h : W.mov S l i) (g : W.cl S l i < 0 ∨ S.f i < S.f (W.cl S l i).toNat) : W.cl S l (i + 1) = i := if_pos ⟨by simpa using h, g⟩
theorem cl_old {W : Rws} {S : Stt} {l i : Nat} (g : ¬ (W.cl S l i < 0 ∨ S.f i < S.f (W.cl S l i).toNat)) : W.cl S l (i + 1) = W.cl S l i := if_neg fun q => g q.2
theorem rel_ne {q : Bool} : V.str (rel q) = V.str "atmost" ↔ q = false := by cases q <;> simp [rel] <;> decide
abbrev s__entering : Stmt := topS 12
theorem sc__entering : FnScope ["rows", "many", "numbers", "free", "found", "column", "variable", "number", "movable"] ["rows", "many", "numbers", "free"] (defScope s__entering) := ⟨rfl, rfl, rfl, by decide +kernel, rfl, by decide +kernel, by decide +kernel⟩
def sp__entering : Sp := fun vs H Q _ => ∃ (r nm fr : Addr) (W : Rws) (S : Stt) (l : Nat), vs = [.ref r, .int W.n, .ref nm, .ref fr] ∧ RwAt H r W ∧ H nm = some (.lst (vl (W.n + 1) (S.T l))) ∧ H fr = some (.lst (vl W.n fun i => (S.f i : Int))) ∧ W.n ≤ 1000 ∧ W.m ≤ 1000 ∧ (∀ i, i < W.n → S.f i < W.n + W.m) ∧
  ∀ H', Ex H H' → Q (.int (W.cl S l W.n)) H'
theorem ok__entering {f : Addr} {fd : FuncData} (F : Fun K "_entering" "_entering" s__entering f fd) (B : Bi mg) : FnOk P w K mg base CX0 41 f fd ["rows", "many", "numbers", "free"] sp__entering := by
  refine F.ok sc__entering (fun vs H Q E h => ?_) (fun cdv A outer s0 H vs Q E hr h => ?_)
  · obtain ⟨r, t, b, W, S, l, rfl, _⟩ := h; rfl
  · obtain ⟨r, nm, fr, W, S, l, rfl, hR, hN, hF, hn, hm, hf, k⟩ := h
    have nd := sc__entering.nd
    refine ⟨_, (pss_cons (ps_set (i := 4) nd rfl (.inl rfl) (pe_un un_neg pe_int))
      (pss_cons (ps_for PassesOwn.never rfl (pi_range1 (by rfl) B.range (pa_cons (pv 1) pa_nil)) (pg_name (i := 5) nd rfl (.inl rfl))
        (pss_cons (ps_set (i := 6) nd rfl (.inl rfl) (pe_ix ix_list (pv 3) (pv 5) (fun _ _ => rfl)))
        (pss_cons (ps_set (i := 7) nd rfl (.inl rfl) (pe_ix ix_list (pv 2) (pv 5) (fun _ _ => rfl)))
        (pss_cons (ps_if (pt_cmpR op_lt (pe_ix ix_list (pv 2) (pv 1) (fun _ _ => rfl)) pe_int (nomark _))
          (pss_one (ps_set (i := 7) nd rfl (.inl rfl) (pe_un un_neg (pv 7))))
          pss_nil)
        (pss_cons (ps_set (i := 8) nd rfl (.inl rfl) (pe_cmpR op_ne (pv 7) pe_int (nomark _)))
        (pss_cons (ps_if (pt_cmpR op_ge (pv 6) (pv 1) (nomark _))
          (pss_one (ps_set (i := 8) nd rfl (.inl rfl) (pe_and (pe_cmpR op_gt (pv 7) pe_int (nomark _)) (pe_one (pe_cmpR op_eq (pe_ix ix_tup (pe_ix ix_any (pv 0) (pe_op op_sub (pv 6) (pv 1)) (fun _ _ => rfl)) pe_int (fun _ _ => rfl)) pe_str (nomark _))))))
          pss_nil)
        (pss_one (ps_if (PW.pt (pw_and (pt_val (pv 8)) (pw_and1 (PW.pt (pw_or (pt_cmpR op_lt (pv 4) pe_int (nomark _)) (pw_or1 (pt_cmpR op_lt (pv 6) (pe_ix ix_list (pv 3) (pv 4) (fun _ _ => rfl)) (nomark _))))))))
          (pss_one (ps_set (i := 4) nd rfl (.inl rfl) (pv 5)))
          pss_nil))))))))
      (pss_one (ps_ret (pv 4))))), ?_⟩
    obtain ⟨rp, np, e1, e2, e3⟩ := hR
    walk_at "rd"
    refine rd_rg1 W.n rfl (by omega) (for_w wkR (fun i σ H2 => Ex H H2 ∧ ∃ o1 o2 o3 o4, σ = [some (.ref r), some (.int W.n), some (.ref nm), some (.ref fr), some (.int (W.cl S l i)), o1, o2, o3, o4]) ⟨Ex.rfl', _, _, _, _, rfl⟩ (fun i σ H2 _ hP => trivial) (fun i x σ H2 H3 hi hP y => ?_) fun σ H2 hP => ?_)
    · obtain ⟨ex, o1, o2, o3, o4, rfl⟩ := hP
      obtain ⟨rfl, exx⟩ := y
      obtain rfl : x = .int (i : Int) := by rw [exx]; exact congrArg V.int (by omega)
      walk_at "rd"
      refine rd_ixLt i (ex.at hF) rfl hi ?_
      walk_at "rd"
      refine rd_ixLt i (ex.at hN) rfl (by omega) ?_
      walk_at "rd"
      refine rd_ixLt W.n (ex.at hN) rfl (by omega) ?_
      walk_at "rd"
      have hfi := hf i hi
      refine rd_ifG (fun σ' => ∃ o, σ' = [some (.ref r), some (.int W.n), some (.ref nm), some (.ref fr), some (.int (W.cl S l i)), some (.int i), some (.int (S.f i)), some (.int (sgn (S.T l W.n) * S.T l i)), o]) (fun h1 tz hz => ?_) (fun h1 => ?_) fun σ' hz => ?_
      · walk_at "rd"
        refine hz _ ?_
        have e : sgn (S.T l W.n) * S.T l i = -S.T l i := by unfold sgn; rw [if_pos h1]; omega
        rw [e]
        exact ⟨_, rfl⟩
      · have e : sgn (S.T l W.n) * S.T l i = S.T l i := by unfold sgn; rw [if_neg h1]; omega
        rw [e]
        exact ⟨_, rfl⟩
      · obtain ⟨o, rfl⟩ := hz
        walk_at "rd"
        refine rd_ifG (fun σ' => σ' = [some (.ref r), some (.int W.n), some (.ref nm), some (.ref fr), some (.int (W.cl S l i)), some (.int i), some (.int (S.f i)), some (.int (sgn (S.T l W.n) * S.T l i)), some (.bl (decide (W.mov S l i)))]) (fun h1 tz hz => ?_) (fun h1 => ?_) fun σ' hz => ?_
        · walk_at "rd"
          have h1 : (W.n : Int) ≤ S.f i := h1
          refine rd_dec (fun h2 => ?_) fun h2 => ?_
          · walk_at "rd"
            refine rd_ixAt (S.f i - W.n) (SqE.ex e1 ex) (show ((S.f i : Int) - W.n) = _ by omega) (by omega) ?_
            walk_at "rd"
            refine rd_ixTn 1 (ex.at (e2 _ (by omega))) rfl rfl ?_
            walk_at "rd"
            refine rd_eq rfl ?_
            refine hz _ ?_
            have e : decide (V.str (rel (W.q (S.f i - W.n))) = V.str "atmost") = decide (W.mov S l i) := by
              refine decide_eq_decide.mpr ?_
              unfold Rws.mov
              rw [if_neg (by omega), rel_ne]
              exact ⟨fun z => ⟨h2, z⟩, fun z => z.2⟩
            rw [e]; rfl
          · walk_at "rd"
            refine hz _ ?_
            have nv : ¬ W.mov S l i := by
              unfold Rws.mov
              rw [if_neg (by omega)]
              exact fun z => h2 z.1
            rw [decide_eq_false nv]; rfl
        · have h1 : ¬ (W.n : Int) ≤ S.f i := h1
          have e : (!decide (sgn (S.T l W.n) * S.T l i = 0)) = decide (W.mov S l i) := by
            rw [← decide_not]
            refine decide_eq_decide.mpr ?_
            unfold Rws.mov
            rw [if_pos (by omega)]
            rcases sgn_cases (S.T l W.n) with g | g <;> rw [g] <;> omega
          rw [← e]; rfl
        · obtain rfl := hz
          walk_at "rd"
          refine rd_dec (fun hv => ?_) fun nv => ?_
          · walk_at "rd"
            refine rd_dec (fun g1 => ?_) fun g1 => ?_
            · walk_at "rd"
              refine ⟨ex, ?_⟩
              rw [cl_yes hv (.inl g1)]
              exact ⟨_, _, _, _, rfl⟩
            · walk_at "rd"
              obtain ⟨c, el, hl⟩ := cl_at g1
              refine rd_ixLt c (ex.at hF) el (by omega) ?_
              walk_at "rd"
              have tl : (W.cl S l i).toNat = c := by rw [el]; rfl
              refine rd_dec (fun g2 => ?_) fun g2 => ?_
              · have g2 : (S.f i : Int) < S.f c := g2
                walk_at "rd"
                refine ⟨ex, ?_⟩
                rw [cl_yes hv (.inr (by rw [tl]; omega))]
                exact ⟨_, _, _, _, rfl⟩
              · have g2 : ¬ (S.f i : Int) < S.f c := g2
                walk_at "rd"
                refine ⟨ex, ?_⟩
                rw [cl_old (by rw [tl]; omega)]
                exact ⟨_, _, _, _, rfl⟩
          · walk_at "rd"
            refine ⟨ex, ?_⟩
            rw [cl_no nv]
            exact ⟨_, _, _, _, rfl⟩
    · obtain ⟨ex, o1, o2, o3, o4, rfl⟩ := hP
      walk_at "rd"
      exact k H2 ex
end
end Sx
/-! the walk of _exchanged -/
namespace Sx
open PySem PySem.Spec PyProof.Rows L2 Y
local macro_rules | `(tactic| walk_at "rd1") => `(tactic| first
  | with_reducible refine rd_var rfl ?_
  | with_reducible refine rd_op ?_
  | with_reducible refine rd_c ?_
  | with_reducible refine rd_I0 ?_
  | with_reducible refine rd_seq ?_
  | ((with_reducible refine rd_I ?_ ?_); focus (first | exact mulok_r (by decide) (by decide) | exact mulok_l (by decide) (by decide) | (show _ ≠ _; decide) | (show _ ∧ _; decide)))
  | with_reducible refine rd_asg ?_
  | with_reducible refine rd_name ?_
  | with_reducible refine rd_cb ?_
  | with_reducible refine rd_cons ?_
  | with_reducible refine rd_nil ?_
  | with_reducible refine rd_int ?_
  | with_reducible refine rd_eqI ?_
  | with_reducible refine rd_neI ?_
  | with_reducible refine rd_bl ?_
  | with_reducible refine rd_test ?_
  | with_reducible refine rd_tB ?_
  | with_reducible refine rd_ifS ?_
  | with_reducible refine rd_next ?_
  | with_reducible refine rd_T ?_
  | with_reducible refine rd_F ?_
  | with_reducible refine rd_nT ?_
  | with_reducible refine rd_nF ?_
  | with_reducible refine rd_blV ?_
  | with_reducible refine rd_ret ?_
  | with_reducible refine rd_call ?_
  | with_reducible refine rd_drop ?_
  | with_reducible refine rd_not ?_
  | with_reducible refine rd_and ?_
  | with_reducible refine rd_or ?_
  | with_reducible refine rd_un ?_
  | with_reducible refine rd_U ?_
  | with_reducible refine rd_tup ?_
  | with_reducible refine rd_lst ?_
  | with_reducible refine rd_if ?_
  | with_reducible refine rd_andV ?_
  | with_reducible refine rd_orV ?_
  | with_reducible refine rd_notV ?_
  | with_reducible refine rd_sl ?_
  | with_reducible refine rd_nopart ?_
  | with_reducible refine rd_part ?_
  | with_reducible refine rd_iv ?_
  | with_reducible refine rd_bm ?_
  | with_reducible refine rd_abs ?_
  | with_reducible refine rd_intb ?_
  | with_reducible refine rd_mx2 ?_
  | with_reducible refine rd_mn2 ?_
  | with_reducible refine rd_sub ?_
  | with_reducible refine rd_lc ?_
  | with_reducible refine rd_for ?_
  | with_reducible refine rd_iL ?_
  | with_reducible refine rd_iT ?_
  | with_reducible refine rd_r1 ?_
  | with_reducible refine rd_r2 ?_
  | with_reducible refine rd_iZ ?_
  | with_reducible refine rd_iZM ?_
  | with_reducible refine rd_while ?_
  | with_reducible refine rd_tru ?_
  | with_reducible refine rd_brk ?_
  | with_reducible refine rd_iA ?_
  | with_reducible refine rd_iZA ?_
  | with_reducible refine rd_par ?_
  | with_reducible refine rd_par2 ?_
  | with_reducible refine rd_bits ?_
  | with_reducible refine rd_callS ?_)
local macro_rules | `(tactic| walk_at "rd") => `(tactic| repeat walk_at "rd1")

section
variable {P : Program} {w : World} {K : PySem.W.Frag} {mg : Str → Option Value} {base : Heap}
theorem bits_lt {a : Int} {k : Nat} (h : a.natAbs < 2 ^ k) : Builtin.Int.intBits a ≤ k := by
  have q : Builtin.Int.intBits a ≤ a.natAbs.log2 + 1 ∧ (a.natAbs = 0 → Builtin.Int.intBits a = 0) := by
    unfold Builtin.Int.intBits
    constructor
    · split <;> omega
    · intro z
      have : a = 0 := by omega
      subst this; rfl
  by_cases z : a.natAbs = 0
  · rw [q.2 z]; exact Nat.zero_le _
  · have := (Nat.log2_lt z).mpr h
    omega
theorem mulok_big {a b : Int} (ha : a.natAbs < 2 ^ 4000) (hb : b.natAbs < 2 ^ 4000) : IntMulOk a b := .of_le (bits_lt ha) (bits_lt hb) (by decide)
theorem log_lt {a : Int} (h : a.natAbs < 2 ^ 4000) : a.natAbs.log2 < 9000 := by
  by_cases z : a.natAbs = 0
  · rw [z]; decide
  · have := (Nat.log2_lt z).mpr h
    omega
theorem msg {p : Int} (x : Int) : IntMulOk (sgn p) x := by
  rcases sgn_cases p with e | e <;> rw [e] <;> exact mulok_l (by decide) (by decide)
theorem msgN {p : Int} (x : Int) : IntMulOk (-sgn p) x := by
  rcases sgn_cases p with e | e <;> rw [e] <;> exact mulok_l (by decide) (by decide)
abbrev s__exchanged : Stmt := topS 13
theorem sc__exchanged : FnScope ["table", "scale", "line", "column", "numbers", "pivot", "sign", "made", "place", "fresh", "older", "part", "number", "one"] ["table", "scale", "line", "column"] (defScope s__exchanged) := ⟨rfl, rfl, rfl, by decide +kernel, rfl, by decide +kernel, by decide +kernel⟩
/-- all numbers of a state have at most e bits -/
def Sm (W : Rws) (S : Stt) (e : Nat) : Prop := S.d.natAbs < 2 ^ e ∧ ∀ i, i < W.m → ∀ j, j < W.n + 1 → (S.T i j).natAbs < 2 ^ e
def sp__exchanged : Sp := fun vs H Q _ => ∃ (t : Addr) (W : Rws) (S : Stt) (l c : Nat), vs = [.ref t, .int S.d, .int l, .int c] ∧ TbAt H t W S ∧ l < W.m ∧ c < W.n ∧ 0 < S.d ∧ Sm W S 4000 ∧ W.n ≤ 1000 ∧ W.m ≤ 1000 ∧
  ∀ (t' : Addr) (tq : Nat → Addr) (H' : Hp), H t' = none → Ex H H' → H' t' = some (.lst (tab W.m fun i => .ref (tq i))) → (∀ i, i < W.m → H (tq i) = none ∧ H' (tq i) = some (.lst (vl (W.n + 1) ((S.ex l c).T i)))) → Q (.ref t') H'
theorem ok__exchanged {f : Addr} {fd : FuncData} (F : Fun K "_exchanged" "_exchanged" s__exchanged f fd) (B : Bi mg) : FnOk P w K mg base CX0 41 f fd ["table", "scale", "line", "column"] sp__exchanged := by
  refine F.ok sc__exchanged (fun vs H Q E h => ?_) (fun cdv A outer s0 H vs Q E hr h => ?_)
  · obtain ⟨t, W, S, l, c, rfl, _⟩ := h; rfl
  · obtain ⟨t, W, S, l, c, rfl, hT, hl, hc, hd, hS, hn, hm, k⟩ := h
    have nd := sc__exchanged.nd
    refine ⟨_, (pss_cons (ps_set (i := 4) nd rfl (.inl rfl) (pe_ix ix_list (pv 0) (pv 2) (fun _ _ => rfl)))
      (pss_cons (ps_set (i := 5) nd rfl (.inr rfl) (pe_ix ix_list (pv 4) (pv 3) (fun _ _ => rfl)))
      (pss_cons (ps_set (i := 6) nd rfl (.inr rfl) pe_int)
      (pss_cons (ps_if (pt_cmpR op_lt (pv 5) pe_int (nomark _))
        (pss_one (ps_set (i := 6) nd rfl (.inr rfl) (pe_un un_neg pe_int)))
        pss_nil)
      (pss_cons (ps_set (i := 7) nd rfl (.inl rfl) (pe_lst pa_nil))
      (pss_cons (ps_for PassesOwn.never rfl (pi_range1 (by rfl) B.range (pa_cons (pe_callB cr_len (by rfl) B.len b_len (pa_cons (pv 0) pa_nil)) pa_nil)) (pg_name (i := 8) nd rfl (.inl rfl))
        (pss_cons (ps_if (pt_cmpR op_eq (pv 8) (pv 2) (nomark _))
          (pss_cons (ps_setLc (i := 9) (own := [("number", 12)]) rfl nd rfl rfl (sw_true rfl rfl rfl (by decide +kernel)) (pi_list (pv 4)) (blkOk_by (by rfl)) (fun _ _ _ _ _ => (pg_name (i := 12) nd rfl (by first | exact .inl rfl | exact .inr rfl))) (fun _ _ _ _ _ => pts_nil) (fun _ _ _ _ _ => (pe_op op_mulB (pe_un un_neg (pv 6)) (pv 12))))
          (pss_one (ps_asg (pe_op op_mulB (pv 6) (pv 1)) (pg_sub (pv 9) (pv 3) set_list))))
          (pss_cons (ps_set (i := 10) nd rfl (.inl rfl) (pe_ix ix_list (pv 0) (pv 8) (fun _ _ => rfl)))
          (pss_cons (ps_set (i := 11) nd rfl (.inr rfl) (pe_ix ix_list (pv 10) (pv 3) (fun _ _ => rfl)))
          (pss_cons (ps_setLc (i := 9) (g := gTup K 2 (gCons (gName 13) (gCons (gName 12) gNil))) (own := [("one", 13), ("number", 12)]) rfl nd rfl rfl (sw_true rfl rfl rfl (by decide +kernel)) (pi_zip (by rfl) B.zip (pa_cons (pv 10) (pa_cons (pv 4) pa_nil))) (blkOk_by (by rfl)) (fun _ _ _ _ _ => (pg_tup (n := 2) (by rfl) (pgs_cons (pg_name (i := 13) nd rfl (by first | exact .inl rfl | exact .inr rfl)) (pgs_cons (pg_name (i := 12) nd rfl (by first | exact .inl rfl | exact .inr rfl)) pgs_nil)))) (fun _ _ _ _ _ => pts_nil) (fun _ _ _ _ _ => (pe_op op_fdivS (pe_op op_mulB (pv 6) (pe_op op_sub (pe_op op_mulB (pv 13) (pv 5)) (pe_op op_mulB (pv 11) (pv 12)))) (pv 1))))
          (pss_one (ps_asg (pe_op op_mulB (pv 6) (pv 11)) (pg_sub (pv 9) (pv 3) set_list)))))))
        (pss_one (ps_expr (pe_bm PySem.F.plainAttrs_list PySem.F.slot_list_append PySem.F.type_list_append mt_append (pv 7) (pa_cons (pv 9) pa_nil))))))
      (pss_one (ps_ret (pv 7))))))))), ?_⟩
    obtain ⟨tp, t1, t2⟩ := hT
    walk_at "rd"
    refine rd_ixLt l t1 rfl hl ?_
    walk_at "rd"
    refine rd_ixLt c (t2 l hl) rfl (by omega) ?_
    walk_at "rd"
    refine rd_ifG (fun σ' => ∃ o1 o2 o3 o4 o5 o6 o7, σ' = [some (.ref t), some (.int S.d), some (.int l), some (.int c), some (.ref (tp l)), some (.int (S.T l c)), some (.int (sgn (S.T l c))), o1, o2, o3, o4, o5, o6, o7]) (fun h1 tz hz => ?_) (fun h1 => ?_) fun σ' hz => ?_
    · walk_at "rd"
      refine hz _ ?_
      have e : sgn (S.T l c) = -1 := by unfold sgn; rw [if_pos h1]
      rw [e]
      exact ⟨_, _, _, _, _, _, _, rfl⟩
    · have e : sgn (S.T l c) = 1 := by unfold sgn; rw [if_neg h1]
      rw [e]
      exact ⟨_, _, _, _, _, _, _, rfl⟩
    · obtain ⟨o1, o2, o3, o4, o5, o6, o7, rfl⟩ := hz
      walk_at "rd"
      refine ⟨sz (show 0 ≤ 100000 by decide), fun p np => ?_⟩
      have exp : Ex H (upd H p (.lst [])) := ex_new np
      have hp : upd H p (.lst []) p = some (.lst []) := upd_same
      generalize upd H p (HO.lst []) = H1 at exp hp ⊢
      walk_at "rd"
      refine rd_lenLt (exp.at t1) ?_
      walk_at "rd"
      refine rd_rg1 W.m rfl (by omega) (for_w wkR (fun i σ H2 => (Ex H H2 ∧ ∃ ps : Nat → Addr, H2 p = some (.lst (tab i fun k => .ref (ps k))) ∧ ∀ k, k < i → (H (ps k) = none ∧ ps k ≠ p) ∧ H2 (ps k) = some (.lst (vl (W.n + 1) ((S.ex l c).T k)))) ∧
        ∃ o1 o2 o3 o4 o5 o6, σ = [some (.ref t), some (.int S.d), some (.int l), some (.int c), some (.ref (tp l)), some (.int (S.T l c)), some (.int (sgn (S.T l c))), some (.ref p), o1, o2, o3, o4, o5, o6]) ⟨⟨exp, fun _ => 0, hp, fun k hk => absurd hk (by omega)⟩, _, _, _, _, _, _, rfl⟩ (fun i σ H2 _ hP => trivial) (fun i x σ H2 H3 hi hP y => ?_) fun σ H2 hP => ?_)
      · obtain ⟨⟨ex, ps, hps, hrow⟩, o1, o2, o3, o4, o5, o6, rfl⟩ := hP
        obtain ⟨rfl, exx⟩ := y
        obtain rfl : x = .int (i : Int) := by rw [exx]; exact congrArg V.int (by omega)
        walk_at "rd"
        refine rd_dec (fun h1 => ?_) fun h1 => ?_
        · have il : i = l := by omega
          walk_at "rd"
          refine rd_itL (ex.at (t2 l hl)) (lc_pure (wkLt (n := W.n + 1) (f := fun j => .int (S.T l j))) (fun j => .int (-sgn (S.T l c) * S.T l j)) (by omega) (fun H' e => e.at (ex.at (t2 l hl))) (fun j x H4 H5 hj e4 y Pp hP => ?_) fun D H4 nD e4 eD => ?_)
          · obtain ⟨rfl, rfl⟩ := y
            walk_at "rd"
            refine ⟨rfl, ?_⟩
            walk_at "rd"
            refine rd_I (msgN _) ?_
            exact hP _ Ex.rfl'
          · have Dp : D ≠ p := fun z => by rw [z, hps] at nD; exact absurd nD (by simp)
            have nDH : H D = none := ex.back nD
            have PN : p ∉ [D] := by simpa using Ne.symm Dp
            walk_at "rd"
            refine rd_I (msg _) ?_
            walk_at "rd"
            refine rd_setLt c eD rfl (by omega) fun H5 x5 e5 => ?_
            walk_at "rd"
            refine ⟨tyL (x5.at (e4.at hps) PN), ?_⟩
            walk_at "rd"
            refine rd_append (x5.at (e4.at hps) PN) (szl (by rw [tab_len]; omega)) fun H6 x6 e6 => ?_
            walk_at "rd"
            refine ⟨⟨Xt.fresh (Xt.fresh (Xt.trans ex e4) x5 fun z hz => ?_) x6 fun z hz => ?_, fun q => if q = i then D else ps q, ?_, fun q hq => ?_⟩, _, _, _, _, _, _, rfl⟩
            · obtain rfl : z = D := by simpa using hz
              exact nDH
            · obtain rfl : z = p := by simpa using hz
              exact np
            · rw [e6]
              refine congrArg (fun z => some (HO.lst z)) ?_
              rw [← tab_snoc]
              refine congr (congrArg _ (tab_ext fun q hq => by show _ = V.ref (if q = i then D else ps q); rw [if_neg (by omega)])) (by show _ = [V.ref (if i = i then D else ps i)]; rw [if_pos rfl])
            · show (H (if q = i then D else ps q) = none ∧ (if q = i then D else ps q) ≠ p) ∧ H6 (if q = i then D else ps q) = _
              by_cases hqi : q = i
              · subst hqi
                rw [if_pos rfl]
                refine ⟨⟨nDH, Dp⟩, (x6.at e5 (by simpa using Dp)).trans ?_⟩
                refine congrArg (fun z => some (HO.lst z)) (tab_ext fun j hj => ?_)
                show (if j = c then _ else _) = V.int (if q = l then (if j = c then _ else _) else _)
                rw [if_pos il]
                by_cases jc : j = c
                · rw [if_pos jc, if_pos jc]
                · rw [if_neg jc, if_neg jc]
              · rw [if_neg hqi]
                have hr := hrow q (by omega)
                have qD : ps q ≠ D := fun z => by have := hr.2; rw [z, nD] at this; exact absurd this (by simp)
                exact ⟨hr.1, x6.at (x5.at (e4.at hr.2) (by simpa using qD)) (by simpa using hr.1.2)⟩
        · have il : i ≠ l := by omega
          walk_at "rd"
          refine rd_ixLt i (ex.at t1) rfl hi ?_
          walk_at "rd"
          refine rd_ixLt c (ex.at (t2 i hi)) rfl (by omega) ?_
          walk_at "rd"
          refine rd_zp (ex.at (t2 i hi)) (ex.at (t2 l hl)) (lc_pure wkZt (fun j => .int ((sgn (S.T l c) * (S.T i j * S.T l c - S.T i c * S.T l j)).fdiv S.d)) (by omega) (fun H' e => ⟨e.at (ex.at (t2 i hi)), e.at (ex.at (t2 l hl))⟩) (fun j x H4 H5 hj e4 y Pp hP => ?_) fun D H4 nD e4 eD => ?_)
          · obtain ⟨T, x1, x2, rfl, nT, rfl, f1, f2⟩ := y
            cases f1; cases f2
            refine rd_gpair upd_same ?_
            walk_at "rd"
            refine ⟨rfl, ?_⟩
            walk_at "rd"
            refine rd_I (mulok_big (hS.2 i hi j hj) (hS.2 l hl c (by omega))) ?_
            walk_at "rd"
            refine rd_I (mulok_big (hS.2 i hi c (by omega)) (hS.2 l hl j hj)) ?_
            walk_at "rd"
            refine rd_I (msg _) ?_
            walk_at "rd"
            refine rd_I ⟨by omega, log_lt hS.1⟩ ?_
            exact hP _ (ex_new nT)
          · have Dp : D ≠ p := fun z => by rw [z, hps] at nD; exact absurd nD (by simp)
            have nDH : H D = none := ex.back nD
            have PN : p ∉ [D] := by simpa using Ne.symm Dp
            walk_at "rd"
            refine rd_I (msg _) ?_
            walk_at "rd"
            refine rd_setLt c eD rfl (by omega) fun H5 x5 e5 => ?_
            walk_at "rd"
            refine ⟨tyL (x5.at (e4.at hps) PN), ?_⟩
            walk_at "rd"
            refine rd_append (x5.at (e4.at hps) PN) (szl (by rw [tab_len]; omega)) fun H6 x6 e6 => ?_
            walk_at "rd"
            refine ⟨⟨Xt.fresh (Xt.fresh (Xt.trans ex e4) x5 fun z hz => ?_) x6 fun z hz => ?_, fun q => if q = i then D else ps q, ?_, fun q hq => ?_⟩, _, _, _, _, _, _, rfl⟩
            · obtain rfl : z = D := by simpa using hz
              exact nDH
            · obtain rfl : z = p := by simpa using hz
              exact np
            · rw [e6]
              refine congrArg (fun z => some (HO.lst z)) ?_
              rw [← tab_snoc]
              refine congr (congrArg _ (tab_ext fun q hq => by show _ = V.ref (if q = i then D else ps q); rw [if_neg (by omega)])) (by show _ = [V.ref (if i = i then D else ps i)]; rw [if_pos rfl])
            · show (H (if q = i then D else ps q) = none ∧ (if q = i then D else ps q) ≠ p) ∧ H6 (if q = i then D else ps q) = _
              by_cases hqi : q = i
              · subst hqi
                rw [if_pos rfl]
                refine ⟨⟨nDH, Dp⟩, (x6.at e5 (by simpa using Dp)).trans ?_⟩
                refine congrArg (fun z => some (HO.lst z)) (tab_ext fun j hj => ?_)
                show (if j = c then _ else _) = V.int (if q = l then _ else if j = c then _ else _)
                rw [if_neg il]
                by_cases jc : j = c
                · rw [if_pos jc, if_pos jc]
                · rw [if_neg jc, if_neg jc]; exact congrArg V.int (Int.fdiv_eq_ediv_of_nonneg _ (by omega))
              · rw [if_neg hqi]
                have hr := hrow q (by omega)
                have qD : ps q ≠ D := fun z => by have := hr.2; rw [z, nD] at this; exact absurd this (by simp)
                exact ⟨hr.1, x6.at (x5.at (e4.at hr.2) (by simpa using qD)) (by simpa using hr.1.2)⟩
      · obtain ⟨⟨ex, ps, hps, hrow⟩, o1, o2, o3, o4, o5, o6, rfl⟩ := hP
        walk_at "rd"
        exact k p ps H2 np ex hps fun k hk => ⟨(hrow k hk).1.1, (hrow k hk).2⟩
end
end Sx
/-! the walk of _point -/
namespace Sx
open PySem PySem.Spec PyProof.Rows L2 Y
local macro_rules | `(tactic| walk_at "rd1") => `(tactic| first
  | with_reducible refine rd_var rfl ?_
  | with_reducible refine rd_op ?_
  | with_reducible refine rd_c ?_
  | with_reducible refine rd_I0 ?_
  | with_reducible refine rd_seq ?_
  | ((with_reducible refine rd_I ?_ ?_); focus (first | exact mulok_r (by decide) (by decide) | exact mulok_l (by decide) (by decide) | (show _ ≠ _; decide) | (show _ ∧ _; decide)))
  | with_reducible refine rd_asg ?_
  | with_reducible refine rd_name ?_
  | with_reducible refine rd_cb ?_
  | with_reducible refine rd_cons ?_
  | with_reducible refine rd_nil ?_
  | with_reducible refine rd_int ?_
  | with_reducible refine rd_eqI ?_
  | with_reducible refine rd_neI ?_
  | with_reducible refine rd_bl ?_
  | with_reducible refine rd_test ?_
  | with_reducible refine rd_tB ?_
  | with_reducible refine rd_ifS ?_
  | with_reducible refine rd_next ?_
  | with_reducible refine rd_T ?_
  | with_reducible refine rd_F ?_
  | with_reducible refine rd_nT ?_
  | with_reducible refine rd_nF ?_
  | with_reducible refine rd_blV ?_
  | with_reducible refine rd_ret ?_
  | with_reducible refine rd_call ?_
  | with_reducible refine rd_drop ?_
  | with_reducible refine rd_not ?_
  | with_reducible refine rd_and ?_
  | with_reducible refine rd_or ?_
  | with_reducible refine rd_un ?_
  | with_reducible refine rd_U ?_
  | with_reducible refine rd_tup ?_
  | with_reducible refine rd_lst ?_
  | with_reducible refine rd_if ?_
  | with_reducible refine rd_andV ?_
  | with_reducible refine rd_orV ?_
  | with_reducible refine rd_notV ?_
  | with_reducible refine rd_sl ?_
  | with_reducible refine rd_nopart ?_
  | with_reducible refine rd_part ?_
  | with_reducible refine rd_iv ?_
  | with_reducible refine rd_bm ?_
  | with_reducible refine rd_abs ?_
  | with_reducible refine rd_intb ?_
  | with_reducible refine rd_mx2 ?_
  | with_reducible refine rd_mn2 ?_
  | with_reducible refine rd_sub ?_
  | with_reducible refine rd_lc ?_
  | with_reducible refine rd_for ?_
  | with_reducible refine rd_iL ?_
  | with_reducible refine rd_iT ?_
  | with_reducible refine rd_r1 ?_
  | with_reducible refine rd_r2 ?_
  | with_reducible refine rd_iZ ?_
  | with_reducible refine rd_iZM ?_
  | with_reducible refine rd_while ?_
  | with_reducible refine rd_tru ?_
  | with_reducible refine rd_brk ?_
  | with_reducible refine rd_iA ?_
  | with_reducible refine rd_iZA ?_
  | with_reducible refine rd_par ?_
  | with_reducible refine rd_par2 ?_
  | with_reducible refine rd_bits ?_
  | with_reducible refine rd_callS ?_)
local macro_rules | `(tactic| walk_at "rd") => `(tactic| repeat walk_at "rd1")

section
variable {P : Program} {w : World} {K : PySem.W.Frag} {mg : Str → Option Value} {base : Heap}
/-- the pair of a numerator and d in lowest terms -/
def lowN (x d : Int) : Int := x.fdiv ((Nat.gcd x.natAbs d.natAbs : Nat) : Int)
def lowD (x d : Int) : Int := d.fdiv ((Nat.gcd x.natAbs d.natAbs : Nat) : Int)
def pr (x d : Int) : HO := .tup [.int (lowN x d), .int (lowD x d)]
theorem pr_zero {d : Int} (h : 0 < d) : pr 0 d = .tup [.int 0, .int 1] := by
  have e : ((Nat.gcd (0 : Int).natAbs d.natAbs : Nat) : Int) = d := by
    rw [show (0 : Int).natAbs = 0 from rfl, Nat.gcd_zero_left]; omega
  unfold pr lowN lowD
  rw [e, Int.zero_fdiv, Int.fdiv_eq_ediv_of_nonneg _ (by omega), Int.ediv_self (by omega)]
abbrev s__point : Stmt := topS 14
theorem sc__point : FnScope ["many", "table", "basic", "scale", "found", "line", "constant", "share", "_"] ["many", "table", "basic", "scale"] (defScope s__point) := ⟨rfl, rfl, rfl, by decide +kernel, rfl, by decide +kernel, by decide +kernel⟩
def sp__point : Sp := fun vs H Q _ => ∃ (t b : Addr) (W : Rws) (S : Stt), vs = [.int W.n, .ref t, .ref b, .int S.d] ∧ TbAt H t W S ∧ H b = some (.lst (vl W.m fun i => (S.b i : Int))) ∧ Ok W S ∧ Sm W S 4000 ∧ W.n ≤ 1000 ∧ W.m ≤ 1000 ∧
  ∀ q H' (pp : Nat → Addr), Ex H H' → H' q = some (.tup (tab W.n fun k => .ref (pp k))) → (∀ k, k < W.n → H' (pp k) = some (pr (W.X S k) S.d)) → Q (.ref q) H'
theorem ok__point {f : Addr} {fd : FuncData} (F : Fun K "_point" "_point" s__point f fd) (B : Bi mg) : FnOk P w K mg base CX0 41 f fd ["many", "table", "basic", "scale"] sp__point := by
  refine F.ok sc__point (fun vs H Q E h => ?_) (fun cdv A outer s0 H vs Q E hr h => ?_)
  · obtain ⟨t, b, W, S, rfl, _⟩ := h; rfl
  · obtain ⟨t, b, W, S, rfl, hT, hB, hO, hS, hn, hm, k⟩ := h
    have nd := sc__point.nd
    refine ⟨_, (pss_cons (ps_setLc (i := 4) (own := [("_", 8)]) rfl nd rfl rfl (sw_true rfl rfl rfl (by decide +kernel)) (pi_range1 (by rfl) B.range (pa_cons (pv 0) pa_nil)) (blkOk_by (by rfl)) (fun _ _ _ _ _ => (pg_name (i := 8) nd rfl (by first | exact .inl rfl | exact .inr rfl))) (fun _ _ _ _ _ => pts_nil) (fun _ _ _ _ _ => (pe_tup (pa_cons pe_int (pa_cons pe_int pa_nil)))))
      (pss_cons (ps_for PassesOwn.never rfl (pi_range1 (by rfl) B.range (pa_cons (pe_callB cr_len (by rfl) B.len b_len (pa_cons (pv 1) pa_nil)) pa_nil)) (pg_name (i := 5) nd rfl (.inl rfl))
        (pss_one (ps_if (pt_cmpR op_lt (pe_ix ix_list (pv 2) (pv 5) (fun _ _ => rfl)) (pv 0) (nomark _))
          (pss_cons (ps_set (i := 6) nd rfl (.inl rfl) (pe_ix ix_list (pe_ix ix_list (pv 1) (pv 5) (fun _ _ => rfl)) (pv 0) (fun _ _ => rfl)))
          (pss_cons (ps_set (i := 7) nd rfl (.inl rfl) (pe_callBfun cr_gcd (by rfl) B.gcd (pa_cons (pv 6) (pa_cons (pv 3) pa_nil))))
          (pss_one (ps_asg (pe_tup (pa_cons (pe_op op_fdivS (pv 6) (pv 7)) (pa_cons (pe_op op_fdivS (pv 3) (pv 7)) pa_nil))) (pg_sub (pv 4) (pe_ix ix_list (pv 2) (pv 5) (fun _ _ => rfl)) set_list)))))
          pss_nil)))
      (pss_one (ps_ret (pe_callTy cr_tupOf (by rfl) B.tuple b_tuple (pa_cons (pv 4) pa_nil)))))), ?_⟩
    obtain ⟨tp, t1, t2⟩ := hT
    walk_at "rd"
    refine rd_rg1 W.n rfl (by omega) (lc_refs wkR (fun k => .tup [.int 0, .int 1]) (by omega) (fun _ _ => trivial) (fun i x H1 H2 hi e1 y Pp hP => ?_) fun D ps H1 nD e1 eD hD => ?_)
    · obtain ⟨rfl, ex⟩ := y
      walk_at "rd"
      refine ⟨rfl, ?_⟩
      walk_at "rd"
      refine ⟨sz (show 2 ≤ 100000 by decide), fun p np => ?_⟩
      exact hP p _ (ex_new np) upd_same (.inl np)
    · walk_at "rd"
      refine rd_lenLt (e1.at t1) ?_
      walk_at "rd"
      refine rd_rg1 W.m rfl (by omega) (for_w wkR (fun i σ H2 => (Ex H H2 ∧ ∃ pp : Nat → Addr, H2 D = some (.lst (tab W.n fun k => .ref (pp k))) ∧ ∀ k, k < W.n → pp k ≠ D ∧ (H2 (pp k) = some (pr (W.X S k) S.d) ∨ (H2 (pp k) = some (.tup [.int 0, .int 1]) ∧ ∀ j, j < i → S.b j ≠ k))) ∧
        ∃ o1 o2 o3 o4, σ = [some (.int W.n), some (.ref t), some (.ref b), some (.int S.d), some (.ref D), o1, o2, o3, o4]) ⟨⟨e1, ps, eD, fun k hk => ⟨(hD k hk).2, .inr ⟨(hD k hk).1, fun j hj => by omega⟩⟩⟩, _, _, _, _, rfl⟩ (fun i σ H2 _ hP => trivial) (fun i x σ H2 H3 hi hP y => ?_) fun σ H2 hP => ?_)
      · obtain ⟨⟨ex, pp, hpp, hit⟩, o1, o2, o3, o4, rfl⟩ := hP
        obtain ⟨rfl, exx⟩ := y
        obtain rfl : x = .int (i : Int) := by rw [exx]; exact congrArg V.int (by omega)
        walk_at "rd"
        refine rd_ixLt i (ex.at hB) rfl hi ?_
        walk_at "rd"
        refine rd_dec (fun h1 => ?_) fun h1 => ?_
        · have h1 : (S.b i : Int) < W.n := h1
          walk_at "rd"
          refine rd_ixLt i (ex.at t1) rfl hi ?_
          walk_at "rd"
          refine rd_ixLt W.n (ex.at (t2 i hi)) rfl (by omega) ?_
          walk_at "rd"
          refine rd_gcd ?_
          walk_at "rd"
          have hd := hO.pos
          have g0 : 0 < Nat.gcd (S.T i W.n).natAbs S.d.natAbs := Nat.gcd_pos_of_pos_right _ (by omega)
          have gl : (((Nat.gcd (S.T i W.n).natAbs S.d.natAbs : Nat) : Int)).natAbs < 2 ^ 4000 := by
            have := Nat.gcd_le_right (S.T i W.n).natAbs (n := S.d.natAbs) (by omega)
            have := hS.1
            omega
          refine rd_I ⟨by omega, log_lt gl⟩ ?_
          walk_at "rd"
          refine rd_I ⟨by omega, log_lt gl⟩ ?_
          walk_at "rd"
          refine ⟨sz (show 2 ≤ 100000 by decide), fun p np => ?_⟩
          have e4 : Ex H3 (upd H3 p (pr (S.T i W.n) S.d)) := ex_new np
          have ep : upd H3 p (pr (S.T i W.n) S.d) p = some (pr (S.T i W.n) S.d) := upd_same
          show gSub _ _ _ _ _ (upd H3 p (pr (S.T i W.n) S.d)) _
          generalize upd H3 p (pr (S.T i W.n) S.d) = H4 at e4 ep ⊢
          walk_at "rd"
          refine rd_ixLt i (e4.at (ex.at hB)) rfl hi ?_
          have pD : p ≠ D := fun z => by rw [z, hpp] at np; exact absurd np (by simp)
          refine rd_setLt (S.b i) (e4.at hpp) rfl (by omega) fun H5 x5 e5 => ?_
          walk_at "rd"
          refine ⟨⟨Xt.fresh (Xt.trans ex e4) x5 fun z hz => ?_, fun q => if q = S.b i then p else pp q, ?_, fun q hq => ?_⟩, _, _, _, _, rfl⟩
          · obtain rfl : z = D := by simpa using hz
            exact nD
          · rw [e5]
            exact congrArg (fun z => some (HO.lst z)) (tab_ext fun j hj => by
              show (if j = S.b i then _ else _) = V.ref (if j = S.b i then _ else _)
              by_cases z : j = S.b i
              · rw [if_pos z, if_pos z]
              · rw [if_neg z, if_neg z])
          · show (if q = S.b i then p else pp q) ≠ D ∧ (H5 (if q = S.b i then p else pp q) = _ ∨ H5 (if q = S.b i then p else pp q) = _ ∧ _)
            by_cases z : q = S.b i
            · rw [if_pos z]
              refine ⟨pD, .inl ?_⟩
              rw [z, hO.X_b hi]
              exact x5.at ep (by simpa using pD)
            · rw [if_neg z]
              have hr := hit q hq
              refine ⟨hr.1, hr.2.imp (fun y => x5.at (e4.at y) (by simpa using hr.1)) fun y => ⟨x5.at (e4.at y.1) (by simpa using hr.1), fun j hj => ?_⟩⟩
              by_cases ji : j = i
              · rw [ji]; exact Ne.symm z
              · exact y.2 j (by omega)
        · have h1 : ¬ (S.b i : Int) < W.n := h1
          walk_at "rd"
          exact ⟨⟨ex, pp, hpp, fun k hk => ⟨(hit k hk).1, (hit k hk).2.imp id fun z => ⟨z.1, fun j hj => by
            by_cases ji : j = i
            · rw [ji]; omega
            · exact z.2 j (by omega)⟩⟩⟩, _, _, _, _, rfl⟩
      · obtain ⟨⟨ex, pp, hpp, hit⟩, o1, o2, o3, o4, rfl⟩ := hP
        walk_at "rd"
        refine rd_tupL hpp fun l H4 nl e4 el => ?_
        refine k l H4 pp (Xt.trans ex e4) el fun k hk => e4.at ?_
        rcases (hit k hk).2 with z | z
        · exact z
        · rw [z.1]
          have : W.X S k = 0 := by
            rcases hO.cov k (by omega) with ⟨i, hi, a⟩ | ⟨j, hj, a⟩
            · exact absurd a (z.2 i hi)
            · rw [← a]; exact X_f hj
          rw [this, pr_zero hO.pos]
end
end Sx
/-! the walk of _multipliers -/
namespace Sx
open PySem PySem.Spec PyProof.Rows L2 Y
local macro_rules | `(tactic| walk_at "rd1") => `(tactic| first
  | with_reducible refine rd_var rfl ?_
  | with_reducible refine rd_op ?_
  | with_reducible refine rd_c ?_
  | with_reducible refine rd_I0 ?_
  | with_reducible refine rd_seq ?_
  | ((with_reducible refine rd_I ?_ ?_); focus (first | exact mulok_r (by decide) (by decide) | exact mulok_l (by decide) (by decide) | (show _ ≠ _; decide) | (show _ ∧ _; decide)))
  | with_reducible refine rd_asg ?_
  | with_reducible refine rd_name ?_
  | with_reducible refine rd_cb ?_
  | with_reducible refine rd_cons ?_
  | with_reducible refine rd_nil ?_
  | with_reducible refine rd_int ?_
  | with_reducible refine rd_eqI ?_
  | with_reducible refine rd_neI ?_
  | with_reducible refine rd_bl ?_
  | with_reducible refine rd_test ?_
  | with_reducible refine rd_tB ?_
  | with_reducible refine rd_ifS ?_
  | with_reducible refine rd_next ?_
  | with_reducible refine rd_T ?_
  | with_reducible refine rd_F ?_
  | with_reducible refine rd_nT ?_
  | with_reducible refine rd_nF ?_
  | with_reducible refine rd_blV ?_
  | with_reducible refine rd_ret ?_
  | with_reducible refine rd_call ?_
  | with_reducible refine rd_drop ?_
  | with_reducible refine rd_not ?_
  | with_reducible refine rd_and ?_
  | with_reducible refine rd_or ?_
  | with_reducible refine rd_un ?_
  | with_reducible refine rd_U ?_
  | with_reducible refine rd_tup ?_
  | with_reducible refine rd_lst ?_
  | with_reducible refine rd_if ?_
  | with_reducible refine rd_andV ?_
  | with_reducible refine rd_orV ?_
  | with_reducible refine rd_notV ?_
  | with_reducible refine rd_sl ?_
  | with_reducible refine rd_nopart ?_
  | with_reducible refine rd_part ?_
  | with_reducible refine rd_iv ?_
  | with_reducible refine rd_bm ?_
  | with_reducible refine rd_abs ?_
  | with_reducible refine rd_intb ?_
  | with_reducible refine rd_mx2 ?_
  | with_reducible refine rd_mn2 ?_
  | with_reducible refine rd_sub ?_
  | with_reducible refine rd_lc ?_
  | with_reducible refine rd_for ?_
  | with_reducible refine rd_iL ?_
  | with_reducible refine rd_iT ?_
  | with_reducible refine rd_r1 ?_
  | with_reducible refine rd_r2 ?_
  | with_reducible refine rd_iZ ?_
  | with_reducible refine rd_iZM ?_
  | with_reducible refine rd_while ?_
  | with_reducible refine rd_tru ?_
  | with_reducible refine rd_brk ?_
  | with_reducible refine rd_iA ?_
  | with_reducible refine rd_iZA ?_
  | with_reducible refine rd_par ?_
  | with_reducible refine rd_par2 ?_
  | with_reducible refine rd_bits ?_
  | with_reducible refine rd_callS ?_)
local macro_rules | `(tactic| walk_at "rd") => `(tactic| repeat walk_at "rd1")

def gdf (f : Nat → Int) : Nat → Nat
  | 0 => 0
  | k + 1 => Nat.gcd (gdf f k) (f k).natAbs
theorem gdf_dvd (f : Nat → Int) : ∀ {n i : Nat}, i < n → gdf f n ∣ (f i).natAbs
  | 0, _, h => by omega
  | n + 1, i, h => by
    by_cases e : i = n
    · rw [e]; exact Nat.gcd_dvd_right _ _
    · exact Nat.dvd_trans (Nat.gcd_dvd_left _ _) (gdf_dvd f (by omega))
section
variable {P : Program} {w : World} {K : PySem.W.Frag} {mg : Str → Option Value} {base : Heap}
theorem fnd_bl {W : Rws} {S : Stt} (h : Ok W S) {l : Nat} (hl : l < W.m) (hb : W.n ≤ S.b l) : ∀ k, k ≤ W.n → W.fnd S l k (S.b l - W.n) = sgn (S.T l W.n) * S.d
  | 0, _ => if_pos (by omega)
  | k + 1, hk => by
    show (if S.f k = W.n + (S.b l - W.n) then _ else _) = _
    have := h.nbf hl (j := k) (by omega)
    rw [if_neg (by omega)]
    exact fnd_bl h hl hb k (by omega)
abbrev s__multipliers : Stmt := topS 15
theorem sc__multipliers : FnScope ["rows", "many", "numbers", "scale", "variable", "free", "sign", "found", "column", "share", "one", "_"] ["rows", "many", "numbers", "scale", "variable", "free"] (defScope s__multipliers) := ⟨rfl, rfl, rfl, by decide +kernel, rfl, by decide +kernel, by decide +kernel⟩
def sp__multipliers : Sp := fun vs H Q _ => ∃ (r nm fr : Addr) (W : Rws) (S : Stt) (l : Nat), vs = [.ref r, .int W.n, .ref nm, .int S.d, .int (S.b l), .ref fr] ∧ RwAt H r W ∧ H nm = some (.lst (vl (W.n + 1) (S.T l))) ∧ H fr = some (.lst (vl W.n fun i => (S.f i : Int))) ∧ l < W.m ∧ W.n ≤ S.b l ∧ Ok W S ∧ Sm W S 4000 ∧ W.n ≤ 1000 ∧ W.m ≤ 1000 ∧
  ∀ q H', Ex H H' → H' q = some (.tup (vl W.m fun i => (W.fnd S l W.n i).fdiv (gdf (W.fnd S l W.n) W.m))) → Q (.ref q) H'
theorem ok__multipliers {f : Addr} {fd : FuncData} (F : Fun K "_multipliers" "_multipliers" s__multipliers f fd) (B : Bi mg) : FnOk P w K mg base CX0 41 f fd ["rows", "many", "numbers", "scale", "variable", "free"] sp__multipliers := by
  refine F.ok sc__multipliers (fun vs H Q E h => ?_) (fun cdv A outer s0 H vs Q E hr h => ?_)
  · obtain ⟨r, nm, fr, W, S, l, rfl, _⟩ := h; rfl
  · obtain ⟨r, nm, fr, W, S, l, rfl, hR, hN, hF, hl, hbl, hO, hS, hn, hm, k⟩ := h
    have nd := sc__multipliers.nd
    refine ⟨_, (pss_cons (ps_set (i := 6) nd rfl (.inl rfl) pe_int)
      (pss_cons (ps_if (pt_cmpR op_lt (pe_ix ix_list (pv 2) (pv 1) (fun _ _ => rfl)) pe_int (nomark _))
        (pss_one (ps_set (i := 6) nd rfl (.inl rfl) (pe_un un_neg pe_int)))
        pss_nil)
      (pss_cons (ps_setLc (i := 7) (own := [("_", 11)]) rfl nd rfl rfl (sw_true rfl rfl rfl (by decide +kernel)) (pi_any (pv 0)) (blkOk_by (by rfl)) (fun _ _ _ _ _ => (pg_name (i := 11) nd rfl (by first | exact .inl rfl | exact .inr rfl))) (fun _ _ _ _ _ => pts_nil) (fun _ _ _ _ _ => pe_int))
      (pss_cons (ps_asg (pe_op op_mulB (pv 6) (pv 3)) (pg_sub (pv 7) (pe_op op_sub (pv 4) (pv 1)) set_list))
      (pss_cons (ps_for PassesOwn.never rfl (pi_range1 (by rfl) B.range (pa_cons (pv 1) pa_nil)) (pg_name (i := 8) nd rfl (.inl rfl))
        (pss_one (ps_if (pt_cmpR op_ge (pe_ix ix_list (pv 5) (pv 8) (fun _ _ => rfl)) (pv 1) (nomark _))
          (pss_one (ps_asg (pe_op op_mulB (pe_un un_neg (pv 6)) (pe_ix ix_list (pv 2) (pv 8) (fun _ _ => rfl))) (pg_sub (pv 7) (pe_op op_sub (pe_ix ix_list (pv 5) (pv 8) (fun _ _ => rfl)) (pv 1)) set_list)))
          pss_nil)))
      (pss_cons (ps_set (i := 9) nd rfl (.inr rfl) pe_int)
      (pss_cons (ps_for PassesOwn.never rfl (pi_list (pv 7)) (pg_name (i := 10) nd rfl (.inl rfl))
        (pss_one (ps_set (i := 9) nd rfl (.inr rfl) (pe_callBfun cr_gcd (by rfl) B.gcd (pa_cons (pv 9) (pa_cons (pv 10) pa_nil))))))
      (pss_one (ps_ret (pe_callTy cr_tupOf (by rfl) B.tuple b_tuple (pa_cons (pe_lc (own := [("one", 10)]) rfl nd (pi_list (pv 7)) (blkOk_by (by rfl)) (fun _ _ _ _ _ => (pg_name (i := 10) nd rfl (by first | exact .inl rfl | exact .inr rfl))) (fun _ _ _ _ _ => pts_nil) (fun _ _ _ _ _ => (pe_op op_fdivS (pv 10) (pv 9)))) pa_nil))))))))))), ?_⟩
    obtain ⟨rp, np, e1, e2, e3⟩ := hR
    have hb2 := hO.bl l hl
    walk_at "rd"
    refine rd_ixLt W.n hN rfl (by omega) ?_
    walk_at "rd"
    refine rd_ifG (fun σ' => ∃ o1 o2 o3 o4 o5, σ' = [some (.ref r), some (.int W.n), some (.ref nm), some (.int S.d), some (.int (S.b l)), some (.ref fr), some (.int (sgn (S.T l W.n))), o1, o2, o3, o4, o5]) (fun h1 tz hz => ?_) (fun h1 => ?_) fun σ' hz => ?_
    · walk_at "rd"
      refine hz _ ?_
      have e : sgn (S.T l W.n) = -1 := by unfold sgn; rw [if_pos h1]
      rw [e]
      exact ⟨_, _, _, _, _, rfl⟩
    · have e : sgn (S.T l W.n) = 1 := by unfold sgn; rw [if_neg h1]
      rw [e]
      exact ⟨_, _, _, _, _, rfl⟩
    · obtain ⟨o1, o2, o3, o4, o5, rfl⟩ := hz
      walk_at "rd"
      refine rd_itA e1 fun J Gd wJ hG => (lc_pure wJ (fun _ => .int 0) (by omega) hG (fun i x H1 H2 hi e4 y Pp hP => ?_) fun D H1 nD ex eD => ?_)
      · obtain ⟨rfl, rfl⟩ := y
        walk_at "rd"
        refine ⟨rfl, ?_⟩
        walk_at "rd"
        exact hP _ Ex.rfl'
      · walk_at "rd"
        refine rd_I (msg _) ?_
        walk_at "rd"
        refine rd_setLt (S.b l - W.n) eD (show ((S.b l : Int) - W.n) = _ by omega) (by omega) fun H2 x2 f2 => ?_
        have ex2 : Ex H H2 := Xt.fresh ex x2 fun z hz => by obtain rfl : z = D := by simpa using hz
                                                            exact nD
        walk_at "rd"
        refine rd_rg1 W.n rfl (by omega) (for_w wkR (fun i σ H3 => (Ex H H3 ∧ H3 D = some (.lst (vl W.m (W.fnd S l i)))) ∧ ∃ o1 o2 o3 o4, σ = [some (.ref r), some (.int W.n), some (.ref nm), some (.int S.d), some (.int (S.b l)), some (.ref fr), some (.int (sgn (S.T l W.n))), some (.ref D), o1, o2, o3, o4]) ⟨⟨ex2, ?_⟩, _, _, _, _, rfl⟩ (fun i σ H2 _ hP => trivial) (fun i x σ H3 H4 hi hP y => ?_) fun σ H3 hP => ?_)
        · rw [f2]
          refine congrArg (fun z => some (HO.lst z)) (tab_ext fun j hj => ?_)
          show (if j = S.b l - W.n then _ else _) = V.int (if W.n + j = S.b l then _ else _)
          by_cases z : j = S.b l - W.n
          · rw [if_pos z, if_pos (by omega)]
          · rw [if_neg z, if_neg (by omega)]
        · obtain ⟨⟨ex3, hD⟩, o1, o2, o3, o4, rfl⟩ := hP
          obtain ⟨rfl, exx⟩ := y
          obtain rfl : x = .int (i : Int) := by rw [exx]; exact congrArg V.int (by omega)
          have hfi := hO.fl i hi
          walk_at "rd"
          refine rd_ixLt i (ex3.at hF) rfl hi ?_
          walk_at "rd"
          refine rd_dec (fun h1 => ?_) fun h1 => ?_
          · have h1 : (W.n : Int) ≤ S.f i := h1
            walk_at "rd"
            refine rd_ixLt i (ex3.at hN) rfl (by omega) ?_
            walk_at "rd"
            refine rd_I (msgN _) ?_
            walk_at "rd"
            refine rd_ixLt i (ex3.at hF) rfl hi ?_
            walk_at "rd"
            refine rd_setLt (S.f i - W.n) hD (show ((S.f i : Int) - W.n) = _ by omega) (by omega) fun H5 x5 f5 => ?_
            walk_at "rd"
            refine ⟨⟨Xt.fresh ex3 x5 fun z hz => ?_, ?_⟩, _, _, _, _, rfl⟩
            · obtain rfl : z = D := by simpa using hz
              exact nD
            · rw [f5]
              refine congrArg (fun z => some (HO.lst z)) (tab_ext fun j hj => ?_)
              show (if j = S.f i - W.n then _ else _) = V.int (if S.f i = W.n + j then _ else _)
              by_cases z : j = S.f i - W.n
              · rw [if_pos z, if_pos (by omega)]
              · rw [if_neg z, if_neg (by omega)]
          · have h1 : ¬ (W.n : Int) ≤ S.f i := h1
            walk_at "rd"
            refine ⟨⟨ex3, ?_⟩, _, _, _, _, rfl⟩
            rw [hD]
            refine congrArg (fun z => some (HO.lst z)) (tab_ext fun j hj => ?_)
            show _ = V.int (if S.f i = W.n + j then _ else _)
            rw [if_neg (by omega)]
        · obtain ⟨⟨ex3, hD⟩, o1, o2, o3, o4, rfl⟩ := hP
          have hd := hO.pos
          have gd : gdf (W.fnd S l W.n) W.m ∣ S.d.natAbs := by
            have q := gdf_dvd (W.fnd S l W.n) (n := W.m) (i := S.b l - W.n) (by omega)
            rw [fnd_bl hO hl hbl W.n (Nat.le_refl _), Int.natAbs_mul] at q
            rcases sgn_cases (S.T l W.n) with e | e <;> rw [e] at q <;> simpa using q
          have gp : 0 < gdf (W.fnd S l W.n) W.m := Nat.pos_of_dvd_of_pos gd (by omega)
          have gle : gdf (W.fnd S l W.n) W.m ≤ S.d.natAbs := Nat.le_of_dvd (by omega) gd
          have gl : (((gdf (W.fnd S l W.n) W.m : Nat) : Int)).natAbs < 2 ^ 4000 := by
            have := hS.1
            omega
          walk_at "rd"
          refine rd_itL hD (for_w (wkLt (n := W.m) (f := fun i => .int (W.fnd S l W.n i))) (fun i σ H4 => Ex H3 H4 ∧ ∃ o1 o2 o4, σ = [some (.ref r), some (.int W.n), some (.ref nm), some (.int S.d), some (.int (S.b l)), some (.ref fr), some (.int (sgn (S.T l W.n))), some (.ref D), o1, some (.int (gdf (W.fnd S l W.n) i)), o2, o4]) ⟨Ex.rfl', _, _, _, rfl⟩ (fun i σ H4 _ hP => hP.1.at hD) (fun i x σ H4 H5 hi hP y => ?_) fun σ H4 hP => ?_)
          · obtain ⟨ex4, o1, o2, o4, rfl⟩ := hP
            obtain ⟨rfl, rfl⟩ := y
            walk_at "rd"
            refine rd_gcd ?_
            walk_at "rd"
            exact ⟨ex4, _, _, _, rfl⟩
          · obtain ⟨ex4, o1, o2, o4, rfl⟩ := hP
            walk_at "rd"
            refine rd_itL (ex4.at hD) (lc_pure (wkLt (n := W.m) (f := fun i => .int (W.fnd S l W.n i))) (fun i => .int ((W.fnd S l W.n i).fdiv (gdf (W.fnd S l W.n) W.m))) (by omega) (fun H' e => e.at (ex4.at hD)) (fun i x H5 H6 hi e5 y Pp hP => ?_) fun D2 H5 nD2 e5 eD2 => ?_)
            · obtain ⟨rfl, rfl⟩ := y
              walk_at "rd"
              refine ⟨rfl, ?_⟩
              walk_at "rd"
              refine rd_I ⟨by omega, log_lt gl⟩ ?_
              exact hP _ Ex.rfl'
            · walk_at "rd"
              refine rd_tupL eD2 fun q H6 nq e6 eq => ?_
              exact k q H6 (Xt.trans (Xt.trans (Xt.trans ex3 ex4) e5) e6) eq
end
end Sx
/-! the walk of solved -/
namespace Sx
open PySem PySem.Spec PyProof.Rows L2 Y
local macro_rules | `(tactic| walk_at "rd1") => `(tactic| first
  | with_reducible refine rd_var rfl ?_
  | with_reducible refine rd_op ?_
  | with_reducible refine rd_c ?_
  | with_reducible refine rd_I0 ?_
  | with_reducible refine rd_seq ?_
  | ((with_reducible refine rd_I ?_ ?_); focus (first | exact mulok_r (by decide) (by decide) | exact mulok_l (by decide) (by decide) | (show _ ≠ _; decide) | (show _ ∧ _; decide)))
  | with_reducible refine rd_asg ?_
  | with_reducible refine rd_name ?_
  | with_reducible refine rd_cb ?_
  | with_reducible refine rd_cons ?_
  | with_reducible refine rd_nil ?_
  | with_reducible refine rd_int ?_
  | with_reducible refine rd_eqI ?_
  | with_reducible refine rd_neI ?_
  | with_reducible refine rd_bl ?_
  | with_reducible refine rd_test ?_
  | with_reducible refine rd_tB ?_
  | with_reducible refine rd_ifS ?_
  | with_reducible refine rd_next ?_
  | with_reducible refine rd_T ?_
  | with_reducible refine rd_F ?_
  | with_reducible refine rd_nT ?_
  | with_reducible refine rd_nF ?_
  | with_reducible refine rd_blV ?_
  | with_reducible refine rd_ret ?_
  | with_reducible refine rd_call ?_
  | with_reducible refine rd_drop ?_
  | with_reducible refine rd_not ?_
  | with_reducible refine rd_and ?_
  | with_reducible refine rd_or ?_
  | with_reducible refine rd_un ?_
  | with_reducible refine rd_U ?_
  | with_reducible refine rd_tup ?_
  | with_reducible refine rd_lst ?_
  | with_reducible refine rd_if ?_
  | with_reducible refine rd_andV ?_
  | with_reducible refine rd_orV ?_
  | with_reducible refine rd_notV ?_
  | with_reducible refine rd_sl ?_
  | with_reducible refine rd_nopart ?_
  | with_reducible refine rd_part ?_
  | with_reducible refine rd_iv ?_
  | with_reducible refine rd_bm ?_
  | with_reducible refine rd_abs ?_
  | with_reducible refine rd_intb ?_
  | with_reducible refine rd_mx2 ?_
  | with_reducible refine rd_mn2 ?_
  | with_reducible refine rd_sub ?_
  | with_reducible refine rd_lc ?_
  | with_reducible refine rd_for ?_
  | with_reducible refine rd_iL ?_
  | with_reducible refine rd_iT ?_
  | with_reducible refine rd_r1 ?_
  | with_reducible refine rd_r2 ?_
  | with_reducible refine rd_iZ ?_
  | with_reducible refine rd_iZM ?_
  | with_reducible refine rd_while ?_
  | with_reducible refine rd_tru ?_
  | with_reducible refine rd_brk ?_
  | with_reducible refine rd_iA ?_
  | with_reducible refine rd_iZA ?_
  | with_reducible refine rd_par ?_
  | with_reducible refine rd_par2 ?_
  | with_reducible refine rd_bits ?_
  | with_reducible refine rd_callS ?_)
local macro_rules | `(tactic| walk_at "rd") => `(tactic| repeat walk_at "rd1")

theorem gdf_dvdI (f : Nat → Int) {n i : Nat} (h : i < n) : ((gdf f n : Nat) : Int) ∣ f i := Int.ofNat_dvd_left.mpr (gdf_dvd f h)
theorem cla_div {W : Rws} {f : Nat → Int} (h1 : ∀ i, i < W.m → W.q i = false → 0 ≤ f i) (h2 : ∀ k, k < W.n → (sm W.m fun i => f i * W.R i k) = 0) (h3 : (sm W.m fun i => f i * W.C i) < 0) (gp : 0 < gdf f W.m) : Cla W (fun i => (f i).fdiv (gdf f W.m)) := by
  have e : ∀ i, i < W.m → f i = (gdf f W.m : Int) * (f i).fdiv (gdf f W.m) := fun i hi => by
    rw [Int.fdiv_eq_ediv_of_nonneg _ (by omega)]
    exact (Int.mul_ediv_cancel' (gdf_dvdI f hi)).symm
  have s : ∀ g : Nat → Int, (sm W.m fun i => f i * g i) = (gdf f W.m : Int) * sm W.m fun i => (f i).fdiv (gdf f W.m) * g i := fun g => by
    rw [← sm_mul]
    refine sm_congr fun i hi => ?_
    rw [← Int.mul_assoc, ← e i hi]
  refine ⟨fun i hi hq => ?_, fun k hk => ?_, ?_⟩
  · show 0 ≤ (f i).fdiv (gdf f W.m : Int)
    rw [Int.fdiv_eq_ediv_of_nonneg _ (by omega)]
    exact Int.ediv_nonneg (h1 i hi hq) (by omega)
  · have q := h2 k hk
    rw [s] at q
    rcases Int.mul_eq_zero.mp q with z | z
    · omega
    · exact z
  · rw [s] at h3
    have : ¬ 0 ≤ sm W.m fun i => (f i).fdiv (gdf f W.m) * W.C i := fun z => by
      have := Int.mul_nonneg (show (0 : Int) ≤ (gdf f W.m : Int) by omega) z
      omega
    show (sm W.m fun i => (f i).fdiv (gdf f W.m) * W.C i) ≤ -1
    omega
theorem fdiv_le {a : Int} {g : Nat} (h : 0 < g) : (a.fdiv g).natAbs ≤ a.natAbs := by
  have q := fd_quo (a := a) (b := (g : Int)) (by omega)
  rw [Int.natAbs_natCast] at q
  have p := fd_pos (a := a) (b := (g : Int)) (by omega)
  by_cases h0 : 0 ≤ a
  · rw [Int.fdiv_eq_ediv_of_nonneg _ (by omega)]
    rw [Int.natAbs_ediv_of_nonneg h0]
    exact Nat.div_le_self _ _
  · have hl : a.fdiv g < 0 := by
      rw [Int.fdiv_eq_ediv_of_nonneg _ (by omega)]
      exact Int.ediv_neg_of_neg_of_pos (by omega) (by omega)
    have h2 : (a.fdiv g + 1) * g ≤ (a.fdiv g + 1) * 1 := Int.mul_le_mul_of_nonpos_left (by omega) (by omega)
    rw [Int.add_mul] at h2
    omega
theorem gdf_pos {W : Rws} {S : Stt} {l : Nat} (hO : Ok W S) (hl : l < W.m) (hbl : W.n ≤ S.b l) : 0 < gdf (W.fnd S l W.n) W.m := by
  have hd := hO.pos
  have hb2 := hO.bl l hl
  have gd : gdf (W.fnd S l W.n) W.m ∣ S.d.natAbs := by
    have q := gdf_dvd (W.fnd S l W.n) (n := W.m) (i := S.b l - W.n) (by omega)
    rw [fnd_bl hO hl hbl W.n (Nat.le_refl _), Int.natAbs_mul] at q
    rcases sgn_cases (S.T l W.n) with e | e <;> rw [e] at q <;> simpa using q
  exact Nat.pos_of_dvd_of_pos gd (by omega)
theorem fnd_le {W : Rws} {S : Stt} {l M : Nat} (h : S.d.natAbs ≤ M) (hT : ∀ j, j < W.n → (S.T l j).natAbs ≤ M) (i : Nat) : ∀ k, k ≤ W.n → (W.fnd S l k i).natAbs ≤ M
  | 0, _ => by
    show (if W.n + i = S.b l then sgn (S.T l W.n) * S.d else 0).natAbs ≤ M
    split
    · rw [Int.natAbs_mul]; rcases sgn_cases (S.T l W.n) with e | e <;> rw [e] <;> simpa using h
    · exact Nat.zero_le _
  | k + 1, hk => by
    show (if S.f k = W.n + i then -sgn (S.T l W.n) * S.T l k else W.fnd S l k i).natAbs ≤ M
    split
    · rw [Int.natAbs_mul]; have := hT k (by omega); rcases sgn_cases (S.T l W.n) with e | e <;> rw [e] <;> simpa using this
    · exact fnd_le h hT i k (by omega)
theorem X_le {W : Rws} {S : Stt} {M : Nat} (h : Ok W S) (hT : ∀ i, i < W.m → (S.T i W.n).natAbs ≤ M) {k : Nat} (hk : k < W.n) : (W.X S k).natAbs ≤ M := by
  rcases h.cov k (by omega) with ⟨i, hi, a⟩ | ⟨j, hj, a⟩
  · rw [← a, h.X_b hi]; exact hT i hi
  · rw [← a, X_f hj]; exact Nat.zero_le _
section
variable {P : Program} {w : World} {K : PySem.W.Frag} {mg : Str → Option Value} {base : Heap}
abbrev s_solved : Stmt := topS 16
theorem sc_solved : FnScope ["rows", "many", "table", "basic", "free", "scale", "line", "numbers", "column", "row"] ["rows", "many"] (defScope s_solved) := ⟨rfl, rfl, rfl, by decide +kernel, rfl, by decide +kernel, by decide +kernel⟩
/-- an answer for the rows, at q -/
def Ans (H : Hp) (q : Addr) (W : Rws) : Prop :=
  (∃ (x : Addr) (pp : Nat → Addr) (xx : Nat → Int) (d : Int), H q = some (.tup [.str "point", .ref x]) ∧ H x = some (.tup (tab W.n fun k => .ref (pp k))) ∧ (∀ k, k < W.n → H (pp k) = some (pr (xx k) d)) ∧ 0 < d ∧ d.natAbs < 2 ^ 400 ∧ (∀ k, k < W.n → (xx k).natAbs < 2 ^ 400) ∧
    ∀ i, i < W.m → (sm W.n fun k => W.R i k * xx k) ≤ W.C i * d ∧ (W.q i = true → (sm W.n fun k => W.R i k * xx k) = W.C i * d)) ∨
  ∃ (x : Addr) (y : Nat → Int), H q = some (.tup [.str "clash", .ref x]) ∧ H x = some (.tup (vl W.m y)) ∧ Cla W y ∧ ∀ i, i < W.m → (y i).natAbs < 2 ^ 400
theorem rd_listRg {σ : L2.St} {H : Hp} {Q : VK} {te : L2.St → Hp → (Int → Int → Hp → Prop) → Prop} (h : te σ H fun a b H1 => RgOk a b ∧ ∀ q, H1 q = none → Q (.ref q) (upd H1 q (.lst (rgV a b)))) : tLstRg te σ H Q := h
theorem rd_prg1 {σ : L2.St} {H : Hp} {ta : TE} {R : Int → Int → Hp → Prop} (h : ta σ H fun x H1 => ∃ n, x = .int n ∧ R 0 n H1) : tRg1 ta σ H R := h
/-- what the loop keeps: a table apart from two lists -/
def TbF (H : Hp) (t b f : Addr) (W : Rws) (S : Stt) : Prop := ∃ tp : Nat → Addr, (t ≠ b ∧ t ≠ f) ∧ H t = some (.lst (tab W.m fun i => .ref (tp i))) ∧ ∀ i, i < W.m → (tp i ≠ b ∧ tp i ≠ f) ∧ H (tp i) = some (.lst (vl (W.n + 1) (S.T i)))
theorem TbF.at {H : Hp} {t b f : Addr} {W : Rws} {S : Stt} (h : TbF H t b f W S) : TbAt H t W S := by
  obtain ⟨tp, h1, h2, h3⟩ := h
  exact ⟨tp, h2, fun i hi => (h3 i hi).2⟩
def sp_solved : Sp := fun vs H Q _ => ∃ (r : Addr) (W : Rws) (B : Nat), vs = [.ref r, .int W.n] ∧ RwAt H r W ∧ W.le B ∧ bdd (W.n + 1) B < 2 ^ 400 ∧ W.n ≤ 1000 ∧ W.m ≤ 1000 ∧ ∀ q H', Ex H H' → Ans H' q W → Q (.ref q) H'
theorem ok_solved {f : Addr} {fd : FuncData} (F : Fun K "solved" "solved" s_solved f fd) (B : Bi mg) (C__violated : Cl P w K mg base CX0 41 "_violated" ["rows", "many", "table", "basic"] sp__violated) (C__entering : Cl P w K mg base CX0 41 "_entering" ["rows", "many", "numbers", "free"] sp__entering)
    (C__exchanged : Cl P w K mg base CX0 41 "_exchanged" ["table", "scale", "line", "column"] sp__exchanged) (C__point : Cl P w K mg base CX0 41 "_point" ["many", "table", "basic", "scale"] sp__point) (C__multipliers : Cl P w K mg base CX0 41 "_multipliers" ["rows", "many", "numbers", "scale", "variable", "free"] sp__multipliers) :
    FnOk P w K mg base CX0 43 f fd ["rows", "many"] sp_solved := by
  refine F.ok sc_solved (fun vs H Q E h => ?_) (fun cdv A outer s0 H vs Q E hr h => ?_)
  · obtain ⟨r, W, Bd, rfl, _⟩ := h; rfl
  · obtain ⟨r, W, Bd, rfl, hR, hle, hbd, hn, hm, k⟩ := h
    have nd := sc_solved.nd
    refine ⟨_, (pss_cons (ps_setLc (i := 2) (own := [("row", 9)]) rfl nd rfl rfl (sw_true rfl rfl rfl (by decide +kernel)) (pi_any (pv 0)) (blkOk_by (by rfl)) (fun _ _ _ _ _ => (pg_name (i := 9) nd rfl (by first | exact .inl rfl | exact .inr rfl))) (fun _ _ _ _ _ => pts_nil) (fun _ _ _ _ _ => (pe_op op_cat (pe_callTy (cr_lstOfK (K := K) rfl) (by rfl) B.list b_list (pa_cons (pe_ix (ix_tupK (K := K) rfl) (pv 9) pe_int (fun _ _ => rfl)) pa_nil)) (pe_lst (pa_cons (pe_un un_neg (pe_ix (ix_tupK (K := K) rfl) (pv 9) pe_int (fun _ _ => rfl))) pa_nil)))))
      (pss_cons (ps_setLc (i := 3) (own := [("line", 6)]) rfl nd rfl rfl (sw_true rfl rfl rfl (by decide +kernel)) (pi_range1 (by rfl) B.range (pa_cons (pe_callB cr_len (by rfl) B.len b_len (pa_cons (pv 0) pa_nil)) pa_nil)) (blkOk_by (by rfl)) (fun _ _ _ _ _ => (pg_name (i := 6) nd rfl (by first | exact .inl rfl | exact .inr rfl))) (fun _ _ _ _ _ => pts_nil) (fun _ _ _ _ _ => (pe_op op_add (pv 1) (pv 6))))
      (pss_cons (ps_set (i := 4) nd rfl (.inl rfl) (pe_listRg rfl (by rfl) B.list (prg_1 (by rfl) B.range (pv 1))))
      (pss_cons (ps_set (i := 5) nd rfl (.inl rfl) pe_int)
      (pss_one (ps_while PassesOwn.never (pt_val pe_bl)
        (pss_cons (ps_set (i := 6) nd rfl (.inl rfl) (pe_y C__violated hr (by decide) pass0 (by rfl) (pa_cons (pv 0) (pa_cons (pv 1) (pa_cons (pv 2) (pa_cons (pv 3) pa_nil))))))
        (pss_cons (ps_if (pt_cmpR op_lt (pv 6) pe_int (nomark _))
          (pss_one (ps_ret (pe_tup (pa_cons pe_str (pa_cons (pe_y C__point hr (by decide) pass0 (by rfl) (pa_cons (pv 1) (pa_cons (pv 2) (pa_cons (pv 3) (pa_cons (pv 5) pa_nil))))) pa_nil)))))
          pss_nil)
        (pss_cons (ps_set (i := 7) nd rfl (.inl rfl) (pe_ix ix_list (pv 2) (pv 6) (fun _ _ => rfl)))
        (pss_cons (ps_set (i := 8) nd rfl (.inl rfl) (pe_y C__entering hr (by decide) pass0 (by rfl) (pa_cons (pv 0) (pa_cons (pv 1) (pa_cons (pv 7) (pa_cons (pv 4) pa_nil))))))
        (pss_cons (ps_if (pt_cmpR op_lt (pv 8) pe_int (nomark _))
          (pss_one (ps_ret (pe_tup (pa_cons pe_str (pa_cons (pe_y C__multipliers hr (by decide) pass0 (by rfl) (pa_cons (pv 0) (pa_cons (pv 1) (pa_cons (pv 7) (pa_cons (pv 5) (pa_cons (pe_ix ix_list (pv 3) (pv 6) (fun _ _ => rfl)) (pa_cons (pv 4) pa_nil))))))) pa_nil)))))
          pss_nil)
        (pss_cons (ps_set (i := 2) nd rfl (.inl rfl) (pe_y C__exchanged hr (by decide) pass0 (by rfl) (pa_cons (pv 2) (pa_cons (pv 5) (pa_cons (pv 6) (pa_cons (pv 8) pa_nil))))))
        (pss_cons (ps_set (i := 5) nd rfl (.inl rfl) (pe_callB cr_abs (by rfl) B.abs b_abs (pa_cons (pe_ix ix_list (pv 7) (pv 8) (fun _ _ => rfl)) pa_nil)))
        (pss_one (ps_asg (pe_tup (pa_cons (pe_ix ix_list (pv 4) (pv 8) (fun _ _ => rfl)) (pa_cons (pe_ix ix_list (pv 3) (pv 6) (fun _ _ => rfl)) pa_nil))) (pg_tup (n := 2) (by rfl) (pgs_cons (pg_sub (pv 3) (pv 6) set_list) (pgs_cons (pg_sub (pv 4) (pv 8) set_list) pgs_nil)))))))))))))))))), ?_⟩
    obtain ⟨rp, np, e1, e2, e3⟩ := id hR
    walk_at "rd"
    refine rd_itA e1 fun J Gd wJ hG => (lc_refs wJ (fun i => .lst (vl (W.n + 1) (W.s0.T i))) (by omega) hG (fun i x H1 H2 hi ex1 y Pp hP => ?_) fun t tp H1 nt ex1 et htp => ?_)
    · obtain ⟨rfl, rfl⟩ := y
      walk_at "rd"
      refine ⟨rfl, ?_⟩
      walk_at "rd"
      refine rd_ixTn 0 (ex1.at (e2 i hi)) rfl rfl ?_
      walk_at "rd"
      refine rd_lstT (ex1.at (e3 i hi)) fun l1 H3 nl1 ex3 el1 => ?_
      walk_at "rd"
      refine rd_ixTn 2 (ex3.at (ex1.at (e2 i hi))) rfl rfl ?_
      walk_at "rd"
      refine ⟨sz (show 1 ≤ 100000 by decide), fun l2 nl2 => ?_⟩
      have ex4 : Ex H3 (upd H3 l2 (.lst [.int (-W.C i)])) := ex_new nl2
      refine rd_cat (ex4.at el1) upd_same (sz (by rw [tab_len]; show W.n + 1 ≤ 100000; omega)) fun l3 H5 nl3 ex5 el3 => ?_
      refine hP l3 H5 (Xt.trans ex3 (Xt.trans ex4 ex5)) (el3.trans ?_) (.inl (Ex.back (Xt.trans ex3 ex4) nl3))
      refine congrArg (fun z => some (HO.lst z)) ?_
      show _ = tab (W.n + 1) _
      rw [← tab_snoc]
      refine congr (congrArg _ (tab_ext fun j hj => ?_)) ?_
      · show _ = V.int (if j < W.n then _ else _)
        rw [if_pos hj]
      · show _ = [V.int (if W.n < W.n then _ else _)]
        rw [if_neg (by omega)]
    · walk_at "rd"
      refine rd_lenAt (SqE.ex e1 ex1) ?_
      walk_at "rd"
      refine rd_rg1 W.m rfl (by omega) (lc_pure wkR (fun i => .int ((W.s0.b i : Nat) : Int)) (by omega) (fun _ _ => trivial) (fun i x H2 H3 hi ex2 y Pp hP => ?_) fun b H2 nb ex2 eb => ?_)
      · obtain ⟨rfl, exx⟩ := y
        obtain rfl : x = .int (i : Int) := by rw [exx]; exact congrArg V.int (by omega)
        walk_at "rd"
        refine ⟨rfl, ?_⟩
        walk_at "rd"
        have e : V.int ((W.n : Int) + i) = V.int ((W.s0.b i : Nat) : Int) := rfl
        rw [e]
        exact hP _ Ex.rfl'
      · walk_at "rd"
        refine rd_listRg (rd_prg1 (rd_var rfl ⟨_, rfl, .of_le (by omega) (by omega) (by omega) (by omega), fun f nf => ?_⟩))
        have erg : rgV 0 (W.n : Int) = vl W.n fun i => ((W.s0.f i : Nat) : Int) := by
          unfold rgV
          show _ = tab W.n _
          rw [show ((W.n : Int) - 0).toNat = W.n by omega]
          exact tab_ext fun i hi => congrArg V.int (show 0 + (i : Int) = ((i : Nat) : Int) by omega)
        rw [erg]
        have ex3 : Ex H2 (upd H2 f (.lst (vl W.n fun i => ((W.s0.f i : Nat) : Int)))) := ex_new nf
        have ef : upd H2 f (.lst (vl W.n fun i => ((W.s0.f i : Nat) : Int))) f = some (.lst (vl W.n fun i => ((W.s0.f i : Nat) : Int))) := upd_same
        generalize upd H2 f (HO.lst (vl W.n fun i => ((W.s0.f i : Nat) : Int))) = H3 at ex3 ef ⊢
        walk_at "rd"
        have nbH : H b = none := Ex.back ex1 nb
        have nfH : H f = none := Ex.back (Xt.trans ex1 ex2) nf
        have bf : b ≠ f := fun z => by rw [z] at eb; rw [eb] at nf; cases nf
        have tb : ∀ {a : Addr} {o : HO}, H1 a = some o → a ≠ b ∧ a ≠ f := fun {a o} z => ⟨fun y => (by rw [y, nb] at z; cases z), fun y => (by have := ex2.at z; rw [y, nf] at this; cases this)⟩
        have T0 : TbF H3 t b f W W.s0 := ⟨tp, tb et, ex3.at (ex2.at et), fun i hi => ⟨tb (htp i hi).1, ex3.at (ex2.at (htp i hi).1)⟩⟩
        obtain ⟨kk, _, hend, hgo⟩ := W.ends
        refine while_w (fun m σ H4 => ∃ i, m + i = kk ∧ i ≤ kk ∧ Ex H H4 ∧ H4 b = some (.lst (vl W.m fun j => (((W.at i).b j : Nat) : Int))) ∧ H4 f = some (.lst (vl W.n fun j => (((W.at i).f j : Nat) : Int))) ∧
          ∃ (t : Addr), TbF H4 t b f W (W.at i) ∧ ∃ (o6 o7 o8 o9 : Option V), σ = [some (.ref r), some (.int W.n), some (.ref t), some (.ref b), some (.ref f), some (.int (W.at i).d), o6, o7, o8, o9]) kk ⟨0, by omega, by omega, Xt.trans ex1 (Xt.trans ex2 ex3), ex3.at eb, ef, t, T0, _, _, _, _, rfl⟩ fun m σ H4 hW => ?_
        obtain ⟨i, hmi, hik, ex4, eb4, ef4, t4, T4, o6, o7, o8, o9, rfl⟩ := hW
        have hO : Ok W (W.at i) := W.okAt i fun j hj => hgo j (by omega)
        have tle : ∀ a, a < W.m → ∀ j, j < W.n + 1 → ((W.at i).T a j).natAbs ≤ bdd (W.n + 1) Bd := fun a ha j hj => hO.Tle hle ha hj
        have dle := hO.dle hle
        have p4 : (2 : Nat) ^ 400 ≤ 2 ^ 4000 := Nat.pow_le_pow_right (by decide) (by decide)
        have hSm : Sm W (W.at i) 4000 := ⟨by omega, fun a ha j hj => by have := tle a ha j hj; omega⟩
        walk_at "rd"
        refine while_in ?_
        walk_at "rd"
        refine ⟨r, t4, b, W, W.at i, rfl, hR.ex ex4, T4.at, eb4, hm, hO.bl, fun H5 ex5 => ?_⟩
        walk_at "rd"
        rcases ln_spec (W := W) (S := W.at i) with ⟨eln, hnv⟩ | ⟨l, hl, eln, hv, hml⟩
        · rw [eln]
          refine rd_dec (fun _ => ?_) fun z => absurd (by decide) z
          walk_at "rd"
          obtain ⟨tp4, _, et4, etp4⟩ := id T4
          refine ⟨t4, b, W, W.at i, rfl, ⟨tp4, ex5.at et4, fun a ha => ex5.at (etp4 a ha).2⟩, ex5.at eb4, hO, hSm, hn, hm, fun q H6 pp ex6 eq epp => ?_⟩
          walk_at "rd"
          refine new_tup (sz (show 2 ≤ 100000 by decide)) fun z H7 nz ex7 ez => ?_
          refine k z H7 (Xt.trans ex4 (Xt.trans ex5 (Xt.trans ex6 ex7))) (.inl ⟨q, pp, W.X (W.at i), (W.at i).d, ez, ex7.at eq, fun a ha => ex7.at (epp a ha), hO.pos, by omega, fun a ha => ?_, fun a ha => hO.point hnv ha⟩)
          have := X_le hO (fun j hj => tle j hj W.n (by omega)) ha
          omega
        · rw [eln]
          refine rd_dec (fun z => absurd z (by omega)) fun _ => ?_
          walk_at "rd"
          obtain ⟨tp4, tn4, et4, etp4⟩ := id T4
          refine rd_ixLt l (ex5.at et4) rfl hl ?_
          walk_at "rd"
          refine ⟨r, tp4 l, f, W, W.at i, l, rfl, (hR.ex ex4).ex ex5, ex5.at (etp4 l hl).2, ex5.at ef4, hn, hm, hO.fl, fun H6 ex6 => ?_⟩
          walk_at "rd"
          rcases cl_spec (W := W) (S := W.at i) (l := l) with ⟨ecl, hnm⟩ | ⟨c, hc, ecl, hmv, hmc⟩
          · rw [ecl]
            refine rd_dec (fun _ => ?_) fun z => absurd (by decide) z
            walk_at "rd"
            refine rd_ixLt l (ex6.at (ex5.at eb4)) rfl hl ?_
            walk_at "rd"
            have hbl : W.n ≤ (W.at i).b l := hv.1
            refine ⟨r, tp4 l, f, W, W.at i, l, rfl, ((hR.ex ex4).ex ex5).ex ex6, ex6.at (ex5.at (etp4 l hl).2), ex6.at (ex5.at ef4), hl, hbl, hO, hSm, hn, hm, fun q H7 ex7 eq => ?_⟩
            walk_at "rd"
            refine new_tup (sz (show 2 ≤ 100000 by decide)) fun z H8 nz ex8 ez => ?_
            have gp := gdf_pos hO hl hbl
            have hc := hO.clash hl hv hnm
            refine k z H8 (Xt.trans ex4 (Xt.trans ex5 (Xt.trans ex6 (Xt.trans ex7 ex8)))) (.inr ⟨q, _, ez, ex8.at eq, cla_div (fun a ha => hc.1 a) hc.2.1 hc.2.2 gp, fun a ha => ?_⟩)
            have h1 := fdiv_le (a := W.fnd (W.at i) l W.n a) gp
            have h2 := fnd_le dle (fun j hj => tle l hl j (by omega)) a W.n (Nat.le_refl _)
            omega
          · rw [ecl]
            refine rd_dec (fun z => absurd z (by omega)) fun _ => ?_
            walk_at "rd"
            have hlt : i < kk := by
              by_cases z : i = kk
              · exfalso
                rw [← z] at hend
                exact hend ⟨by omega, by rw [eln]; show 0 ≤ W.cl _ l _; omega⟩
              · omega
            have enx : W.at (i + 1) = (W.at i).ex l c := by
              show (W.at i).ex (W.ln (W.at i) W.m).toNat (W.cl (W.at i) (W.ln (W.at i) W.m).toNat W.n).toNat = _
              rw [eln, show ((l : Int)).toNat = l from rfl, ecl]
              rfl
            refine ⟨t4, W, W.at i, l, c, rfl, ⟨tp4, ex6.at (ex5.at et4), fun a ha => ex6.at (ex5.at (etp4 a ha).2)⟩, hl, hc, hO.pos, hSm, hn, hm, fun t' tq H7 nt' ex7 et' etq => ?_⟩
            walk_at "rd"
            refine rd_ixLt c (ex7.at (ex6.at (ex5.at (etp4 l hl).2))) rfl (by omega) ?_
            walk_at "rd"
            have ed : V.int (if (W.at i).T l c < 0 then -(W.at i).T l c else (W.at i).T l c) = V.int ((W.at i).ex l c).d := congrArg V.int (by
              show _ = (((W.at i).T l c).natAbs : Int)
              split <;> omega)
            rw [ed]
            have eb7 := ex7.at (ex6.at (ex5.at eb4))
            have ef7 := ex7.at (ex6.at (ex5.at ef4))
            refine rd_ixLt c ef7 rfl hc ?_
            walk_at "rd"
            refine rd_ixLt l eb7 rfl hl ?_
            walk_at "rd"
            refine ⟨sz (show 2 ≤ 100000 by decide), fun T nT => ?_⟩
            have ex8 : Ex H7 (upd H7 T (.tup [.int (((W.at i).f c : Nat) : Int), .int (((W.at i).b l : Nat) : Int)])) := ex_new nT
            have eT : upd H7 T (.tup [.int (((W.at i).f c : Nat) : Int), .int (((W.at i).b l : Nat) : Int)]) T = some (.tup [.int (((W.at i).f c : Nat) : Int), .int (((W.at i).b l : Nat) : Int)]) := upd_same
            show gTup _ _ _ _ _ (upd H7 T (.tup [.int (((W.at i).f c : Nat) : Int), .int (((W.at i).b l : Nat) : Int)])) _
            generalize upd H7 T (HO.tup [.int (((W.at i).f c : Nat) : Int), .int (((W.at i).b l : Nat) : Int)]) = H8 at ex8 eT ⊢
            refine rd_gpair eT ?_
            walk_at "rd"
            refine rd_setLt l (ex8.at eb7) rfl hl fun H9 X9 e9 => ?_
            walk_at "rd"
            refine rd_setLt c (X9.at (ex8.at ef7) (by simpa using Ne.symm bf)) rfl hc fun H10 X10 e10 => ?_
            walk_at "rd"
            have live : ∀ {a : Addr} {o : HO}, H6 a = none → (a ≠ b ∧ a ≠ f) := fun {a o} z => ⟨fun y => (by rw [y, ex6.at (ex5.at eb4)] at z; cases z), fun y => (by rw [y, ex6.at (ex5.at ef4)] at z; cases z)⟩
            have up10 : ∀ {a : Addr} {o : HO}, a ≠ b ∧ a ≠ f → H7 a = some o → H10 a = some o := fun {a o} na z => X10.at (X9.at (ex8.at z) (by simpa using na.1)) (by simpa using na.2)
            refine ⟨m - 1, by omega, i + 1, by omega, by omega, ?_, ?_, ?_, t', ?_, ?_⟩
            · refine Xt.fresh (Xt.fresh (Xt.trans ex4 (Xt.trans ex5 (Xt.trans ex6 (Xt.trans ex7 ex8)))) X9 fun z hz => ?_) X10 fun z hz => ?_
              · rw [List.mem_singleton.mp hz]; exact nbH
              · rw [List.mem_singleton.mp hz]; exact nfH
            · rw [X10.at e9 (by simpa using bf), enx]
              refine congrArg (fun z => some (HO.lst z)) (tab_ext fun j hj => ?_)
              show (if j = l then _ else _) = V.int (((if j = l then (W.at i).f c else (W.at i).b j : Nat)) : Int)
              split <;> rfl
            · rw [e10, enx]
              refine congrArg (fun z => some (HO.lst z)) (tab_ext fun j hj => ?_)
              show (if j = c then _ else _) = V.int (((if j = c then (W.at i).b l else (W.at i).f j : Nat)) : Int)
              split <;> rfl
            · rw [enx]
              have l1 := live (o := .lst []) nt'
              exact ⟨tq, l1, up10 l1 et', fun a ha => ⟨live (o := .lst []) (etq a ha).1, up10 (live (o := .lst []) (etq a ha).1) (etq a ha).2⟩⟩
            · rw [enx]; exact ⟨_, _, _, _, rfl⟩
end
end Sx
/-! what is asked of rows -/
namespace Sx
open PySem PySem.Spec PyProof.Rows L2 Y NdefX
local macro_rules | `(tactic| walk_at "rd1") => `(tactic| first
  | with_reducible refine rd_var rfl ?_
  | with_reducible refine rd_op ?_
  | with_reducible refine rd_c ?_
  | with_reducible refine rd_I0 ?_
  | with_reducible refine rd_seq ?_
  | ((with_reducible refine rd_I ?_ ?_); focus (first | exact mulok_r (by decide) (by decide) | exact mulok_l (by decide) (by decide) | (show _ ≠ _; decide) | (show _ ∧ _; decide)))
  | with_reducible refine rd_asg ?_
  | with_reducible refine rd_name ?_
  | with_reducible refine rd_cb ?_
  | with_reducible refine rd_cons ?_
  | with_reducible refine rd_nil ?_
  | with_reducible refine rd_int ?_
  | with_reducible refine rd_eqI ?_
  | with_reducible refine rd_neI ?_
  | with_reducible refine rd_bl ?_
  | with_reducible refine rd_test ?_
  | with_reducible refine rd_tB ?_
  | with_reducible refine rd_ifS ?_
  | with_reducible refine rd_next ?_
  | with_reducible refine rd_T ?_
  | with_reducible refine rd_F ?_
  | with_reducible refine rd_nT ?_
  | with_reducible refine rd_nF ?_
  | with_reducible refine rd_blV ?_
  | with_reducible refine rd_ret ?_
  | with_reducible refine rd_call ?_
  | with_reducible refine rd_drop ?_
  | with_reducible refine rd_not ?_
  | with_reducible refine rd_and ?_
  | with_reducible refine rd_or ?_
  | with_reducible refine rd_un ?_
  | with_reducible refine rd_U ?_
  | with_reducible refine rd_tup ?_
  | with_reducible refine rd_lst ?_
  | with_reducible refine rd_if ?_
  | with_reducible refine rd_andV ?_
  | with_reducible refine rd_orV ?_
  | with_reducible refine rd_notV ?_
  | with_reducible refine rd_sl ?_
  | with_reducible refine rd_nopart ?_
  | with_reducible refine rd_part ?_
  | with_reducible refine rd_iv ?_
  | with_reducible refine rd_bm ?_
  | with_reducible refine rd_abs ?_
  | with_reducible refine rd_intb ?_
  | with_reducible refine rd_mx2 ?_
  | with_reducible refine rd_mn2 ?_
  | with_reducible refine rd_sub ?_
  | with_reducible refine rd_lc ?_
  | with_reducible refine rd_for ?_
  | with_reducible refine rd_iL ?_
  | with_reducible refine rd_iT ?_
  | with_reducible refine rd_r1 ?_
  | with_reducible refine rd_r2 ?_
  | with_reducible refine rd_iZ ?_
  | with_reducible refine rd_iZM ?_
  | with_reducible refine rd_while ?_
  | with_reducible refine rd_tru ?_
  | with_reducible refine rd_brk ?_
  | with_reducible refine rd_iA ?_
  | with_reducible refine rd_iZA ?_
  | with_reducible refine rd_par ?_
  | with_reducible refine rd_par2 ?_
  | with_reducible refine rd_bits ?_
  | with_reducible refine rd_callS ?_)
local macro_rules | `(tactic| walk_at "rd") => `(tactic| repeat walk_at "rd1")

/-! ### kinds -/
/-- what the law hands about: an int, a bool, a text, a tuple -/
def Kd (H : Hp) (x : V) : Prop := (∃ i, x = .int i) ∨ (∃ b, x = .bl b) ∨ (∃ z, x = .str z) ∨ ∃ a xs, x = .ref a ∧ H a = some (.tup xs)
def isI : V → Bool
  | .int _ => true
  | _ => false
def isIB : V → Bool
  | .int _ => true
  | .bl _ => true
  | _ => false
def isBl : V → Bool
  | .bl _ => true
  | _ => false
def isRf : V → Bool
  | .ref _ => true
  | _ => false
theorem Kd.ex {H H' : Hp} {x : V} (k : Kd H x) (e : Ex H H') : Kd H' x := by
  rcases k with h | h | h | ⟨a, xs, h1, h2⟩
  · exact .inl h
  · exact .inr (.inl h)
  · exact .inr (.inr (.inl h))
  · exact .inr (.inr (.inr ⟨a, xs, h1, e.at h2⟩))
section
variable {K : PySem.W.Frag} {H : Hp} {Q : VK} {x : V}
theorem rd_isi {T S : String} {b : Bool} (t : TyX K H x (.type S)) (k : kitB S T = some b) (h : Q (.bl b) H) : rIsi K [x, .ty T] H Q := ⟨x, .ty T, .type S, .type T, b, rfl, .ty T, t, kit_ty k, h⟩
theorem rd_isInt (k : Kd H x) (h : Q (.bl (isIB x)) H) : rIsi K [x, .ty "int"] H Q := by
  rcases k with ⟨i, rfl⟩ | ⟨b, rfl⟩ | ⟨z, rfl⟩ | ⟨a, xs, rfl, e⟩
  · exact rd_isi (.base (.int i)) (show kitB "int" "int" = some true by decide +kernel) h
  · exact rd_isi (.base (.bl b)) (show kitB "bool" "int" = some true by decide +kernel) h
  · exact rd_isi (.base (.str z)) (show kitB "str" "int" = some false by decide +kernel) h
  · exact rd_isi (.base (.tup e)) (show kitB "tuple" "int" = some false by decide +kernel) h
theorem rd_isBool (k : Kd H x) (h : Q (.bl (isBl x)) H) : rIsi K [x, .ty "bool"] H Q := by
  rcases k with ⟨i, rfl⟩ | ⟨b, rfl⟩ | ⟨z, rfl⟩ | ⟨a, xs, rfl, e⟩
  · exact rd_isi (.base (.int i)) (show kitB "int" "bool" = some false by decide +kernel) h
  · exact rd_isi (.base (.bl b)) (show kitB "bool" "bool" = some true by decide +kernel) h
  · exact rd_isi (.base (.str z)) (show kitB "str" "bool" = some false by decide +kernel) h
  · exact rd_isi (.base (.tup e)) (show kitB "tuple" "bool" = some false by decide +kernel) h
theorem rd_isTup (k : Kd H x) (h : Q (.bl (isRf x)) H) : rIsi K [x, .ty "tuple"] H Q := by
  rcases k with ⟨i, rfl⟩ | ⟨b, rfl⟩ | ⟨z, rfl⟩ | ⟨a, xs, rfl, e⟩
  · exact rd_isi (.base (.int i)) (show kitB "int" "tuple" = some false by decide +kernel) h
  · exact rd_isi (.base (.bl b)) (show kitB "bool" "tuple" = some false by decide +kernel) h
  · exact rd_isi (.base (.str z)) (show kitB "str" "tuple" = some false by decide +kernel) h
  · exact rd_isi (.base (.tup e)) (show kitB "tuple" "tuple" = some true by decide +kernel) h
theorem isI_eq : isI x = (isIB x && !isBl x) := by cases x <;> rfl
end
theorem map_getD {α β : Type} (d : α) (f : α → β) (xs : List α) : (List.range xs.length).map (fun i => f (xs.getD i d)) = xs.map f := by
  refine List.ext_getElem? fun i => ?_
  rw [List.getElem?_map, List.getElem?_map]
  by_cases hi : i < xs.length
  · rw [List.getElem?_range hi, List.getElem?_eq_getElem hi]
    show some (f (xs.getD i d)) = some (f xs[i])
    rw [List.getD_eq_getElem?_getD, List.getElem?_eq_getElem hi]; rfl
  · rw [List.getElem?_eq_none (by rw [List.length_range]; omega), List.getElem?_eq_none (by omega)]; rfl
/-- x is a vector of n numbers: g -/
def VecV (H : Hp) (n : Nat) (x : V) (g : Bool) : Prop := (((∃ i, x = .int i) ∨ ∃ z, x = .str z) ∧ g = false) ∨ ∃ a xs, x = .ref a ∧ H a = some (.tup xs) ∧ xs.length ≤ 1000 ∧ (∀ y ∈ xs, Kd H y) ∧ g = (decide (xs.length = n) && xs.all isI)
theorem VecV.ex {H H' : Hp} {n : Nat} {x : V} {g : Bool} (v : VecV H n x g) (e : Ex H H') : VecV H' n x g := by
  rcases v with h | ⟨a, xs, h1, h2, h3, h4, h5⟩
  · exact .inl h
  · exact .inr ⟨a, xs, h1, e.at h2, h3, fun y hy => (h4 y hy).ex e, h5⟩
/-- y is one of the two words: g -/
def RlV (H : Hp) (y : V) (g : Bool) : Prop := (∃ q, y = .str (rel q) ∧ g = true) ∨ (y = .str "less" ∧ g = false) ∨ ∃ a q, y = .ref a ∧ H a = some (.tup [.str (rel q)]) ∧ g = false
/-- x is a row of n numbers: g -/
def RowV (H : Hp) (n : Nat) (x : V) (g : Bool) : Prop := (((∃ i, x = .int i) ∨ ∃ z, x = .str z) ∧ g = false) ∨ (∃ a xs, x = .ref a ∧ H a = some (.tup xs) ∧ xs.length ≠ 3 ∧ xs.length ≤ 1000 ∧ g = false) ∨
  ∃ a y0 y1 y2, x = .ref a ∧ H a = some (.tup [y0, y1, y2]) ∧ ((VecV H n y0 false ∧ g = false) ∨ ∃ g1, VecV H n y0 true ∧ RlV H y1 g1 ∧ Kd H y2 ∧ g = (g1 && isI y2))
theorem RowV.ex {H H' : Hp} {n : Nat} {x : V} {g : Bool} (v : RowV H n x g) (e : Ex H H') : RowV H' n x g := by
  rcases v with h | ⟨a, xs, h1, h2, h3⟩ | ⟨a, y0, y1, y2, h1, h2, h3⟩
  · exact .inl h
  · exact .inr (.inl ⟨a, xs, h1, e.at h2, h3⟩)
  · refine .inr (.inr ⟨a, y0, y1, y2, h1, e.at h2, ?_⟩)
    rcases h3 with ⟨q1, q2⟩ | ⟨g1, q1, q2, q3, q4⟩
    · exact .inl ⟨q1.ex e, q2⟩
    · refine .inr ⟨g1, q1.ex e, ?_, q3.ex e, q4⟩
      rcases q2 with q | q | ⟨a, q, z1, z2, z3⟩
      · exact .inl q
      · exact .inr (.inl q)
      · exact .inr (.inr ⟨a, q, z1, e.at z2, z3⟩)
theorem vec_good {H : Hp} {a : Addr} {n : Nat} {u : Nat → Int} (e : H a = some (.tup (vl n u))) (hn : n ≤ 1000) : VecV H n (.ref a) true := by
  refine .inr ⟨a, _, rfl, e, by rw [tab_len]; exact hn, fun y hy => ?_, ?_⟩
  · obtain ⟨i, _, rfl⟩ := List.mem_map.mp hy
    exact .inl ⟨_, rfl⟩
  · rw [tab_len, decide_eq_true rfl, Bool.true_and]
    refine (List.all_eq_true.mpr ?_).symm
    intro y hy
    obtain ⟨i, _, rfl⟩ := List.mem_map.mp hy
    rfl
section
variable {P : Program} {w : World} {K : PySem.W.Frag} {mg : Str → Option Value} {base : Heap}
/-! ### is_whole -/
abbrev s_is_whole : Stmt := topS 5
theorem sc_is_whole : FnScope ["worth"] ["worth"] (defScope s_is_whole) := ⟨rfl, rfl, rfl, by decide +kernel, rfl, by decide +kernel, by decide +kernel⟩
def sp_is_whole : Sp := fun vs H Q _ => ∃ x, vs = [x] ∧ Kd H x ∧ Q (.bl (isI x)) H
theorem ok_is_whole {f : Addr} {fd : FuncData} (F : Fun K "is_whole" "is_whole" s_is_whole f fd) (B : Bi mg) : FnOk P w K mg base CX0 41 f fd ["worth"] sp_is_whole := by
  refine F.ok sc_is_whole (fun vs H Q E h => ?_) (fun cdv A outer s H vs Q E hr h => ?_)
  · obtain ⟨x, rfl, _⟩ := h; rfl
  · obtain ⟨x, rfl, kd, k⟩ := h
    have nd := sc_is_whole.nd
    refine ⟨_, (pss_one (ps_ret (pe_and (pe_callB call_isi (by rfl) B.isinstance b_isinstance (pa_cons (pv 0) (pa_cons (pe_bltn (v := .ty "int") (by rfl) B.int b_int rfl) pa_nil))) (pe_one (pe_not (pe_callB call_isi (by rfl) B.isinstance b_isinstance (pa_cons (pv 0) (pa_cons (pe_bltn (v := .ty "bool") (by rfl) B.bool b_bool rfl) pa_nil)))))))), ?_⟩
    walk_at "rd"
    refine rd_isInt kd (rd_blV ?_)
    rw [isI_eq] at k
    cases hx : isIB x with
    | false => rw [hx] at k; exact iteF k
    | true =>
      rw [hx] at k
      refine iteT ?_
      walk_at "rd"
      exact rd_isBool kd (rd_blV k)
/-! ### is_vector -/
abbrev s_is_vector : Stmt := topS 6
theorem sc_is_vector : FnScope ["worth", "many", "one"] ["worth", "many"] (defScope s_is_vector) := ⟨rfl, rfl, rfl, by decide +kernel, rfl, by decide +kernel, by decide +kernel⟩
def sp_is_vector : Sp := fun vs H Q _ => ∃ (x : V) (n : Nat) (g : Bool), vs = [x, .int n] ∧ VecV H n x g ∧ ∀ H', Ex H H' → Q (.bl g) H'
theorem ok_is_vector {f : Addr} {fd : FuncData} (F : Fun K "is_vector" "is_vector" s_is_vector f fd) (B : Bi mg) (C_is_whole : Cl P w K mg base CX0 41 "is_whole" ["worth"] sp_is_whole) : FnOk P w K mg base CX0 42 f fd ["worth", "many"] sp_is_vector := by
  refine F.ok sc_is_vector (fun vs H Q E h => ?_) (fun cdv A outer s H vs Q E hr h => ?_)
  · obtain ⟨x, n, g, rfl, _⟩ := h; rfl
  · obtain ⟨x, n, g, rfl, h, k⟩ := h
    have nd := sc_is_vector.nd
    refine ⟨_, (pss_cons (ps_if (PW.pt (pw_or (pt_not (pt_val (pe_callB call_isi (by rfl) B.isinstance b_isinstance (pa_cons (pv 0) (pa_cons (pe_bltn (v := .ty "tuple") (by rfl) B.tuple b_tuple rfl) pa_nil))))) (pw_or1 (pt_cmpR op_ne (pe_callB cr_len (by rfl) B.len b_len (pa_cons (pv 0) pa_nil)) (pv 1) (nomark _)))))
        (pss_one (ps_ret pe_bl))
        pss_nil)
      (pss_one (ps_ret (pe_callB (cr_all (by rfl)) (by rfl) B.all b_all (pa_cons (pe_lc (own := [("one", 2)]) rfl nd (pi_tup (pv 0)) (blkOk_by (by rfl)) (fun _ _ _ _ _ => (pg_name (i := 2) nd rfl (by first | exact .inl rfl | exact .inr rfl))) (fun _ _ _ _ _ => pts_nil) (fun _ _ _ _ _ => (pe_y C_is_whole hr (by decide) pass0 (by rfl) (pa_cons (pv 2) pa_nil)))) pa_nil))))), ?_⟩
    walk_at "rd"
    rcases h with ⟨kx, rfl⟩ | ⟨a, xs, rfl, ex, hl, hk, rfl⟩
    · have kd : Kd H x := kx.elim .inl fun z => .inr (.inr (.inl z))
      have nr : isRf x = false := by rcases kx with ⟨i, rfl⟩ | ⟨z, rfl⟩ <;> rfl
      refine rd_isTup kd ?_
      rw [nr]
      walk_at "rd"
      exact k H Ex.rfl'
    · refine rd_isTup (.inr (.inr (.inr ⟨a, xs, rfl, ex⟩))) ?_
      walk_at "rd"
      refine iteF ?_
      walk_at "rd"
      refine rd_lenT ex ?_
      walk_at "rd"
      refine if_ndec (fun hn => ?_) (fun hn => ?_)
      · walk_at "rd"
        have e : decide (xs.length = n) = false := decide_eq_false (by omega)
        rw [e] at k
        exact k H (Xt.refl H)
      · walk_at "rd"
        have e : decide (xs.length = n) = true := decide_eq_true (by omega)
        rw [e, Bool.true_and] at k
        refine rd_itT ex (lc_pure wkT (fun i => .bl (isI (xs.getD i .non))) (by omega) (fun H' e' => e'.at ex) (fun i x H1 H2 hi e1 y Pp hP => ?_) fun D H' nD e1 eD => ?_)
        · obtain ⟨rfl, ey⟩ := y
          walk_at "rd"
          refine ⟨rfl, ?_⟩
          walk_at "rd"
          have ed : xs.getD i .non = x := by rw [List.getD_eq_getElem?_getD, ey]; rfl
          refine ⟨x, rfl, (hk x (List.mem_of_getElem? ey)).ex e1, ?_⟩
          have hP' := hP H2 (Xt.refl H2)
          rw [ed] at hP'
          exact hP'
        · walk_at "rd"
          have e2 : (List.range xs.length).map (fun i => V.bl (isI (xs.getD i .non))) = (xs.map isI).map V.bl := by rw [map_getD .non (fun x => V.bl (isI x)), List.map_map]; rfl
          rw [e2] at eD
          refine rd_all eD ?_
          have e3 : (xs.map isI).all id = xs.all isI := by rw [List.all_map]; rfl
          rw [e3]
          exact k H' e1
/-! ### _is_row -/
abbrev s__is_row : Stmt := topS 7
theorem sc__is_row : FnScope ["worth", "many"] ["worth", "many"] (defScope s__is_row) := ⟨rfl, rfl, rfl, by decide +kernel, rfl, by decide +kernel, by decide +kernel⟩
def sp__is_row : Sp := fun vs H Q _ => ∃ (x : V) (n : Nat) (g : Bool), vs = [x, .int n] ∧ RowV H n x g ∧ ∀ H', Ex H H' → Q (.bl g) H'
theorem ok__is_row {f : Addr} {fd : FuncData} (F : Fun K "_is_row" "_is_row" s__is_row f fd) (B : Bi mg) (C_is_whole : Cl P w K mg base CX0 41 "is_whole" ["worth"] sp_is_whole) (C_is_vector : Cl P w K mg base CX0 42 "is_vector" ["worth", "many"] sp_is_vector) : FnOk P w K mg base CX0 43 f fd ["worth", "many"] sp__is_row := by
  refine F.ok sc__is_row (fun vs H Q E h => ?_) (fun cdv A outer s H vs Q E hr h => ?_)
  · obtain ⟨x, n, g, rfl, _⟩ := h; rfl
  · obtain ⟨x, n, g, rfl, h, k⟩ := h
    have nd := sc__is_row.nd
    refine ⟨_, (pss_cons (ps_if (PW.pt (pw_or (pt_not (pt_val (pe_callB call_isi (by rfl) B.isinstance b_isinstance (pa_cons (pv 0) (pa_cons (pe_bltn (v := .ty "tuple") (by rfl) B.tuple b_tuple rfl) pa_nil))))) (pw_or1 (pt_cmpR op_ne (pe_callB cr_len (by rfl) B.len b_len (pa_cons (pv 0) pa_nil)) pe_int (nomark _)))))
        (pss_one (ps_ret pe_bl))
        pss_nil)
      (pss_one (ps_ret (pe_and (pe_y C_is_vector hr (by decide) pass0 (by rfl) (pa_cons (pe_ix ix_tup (pv 0) pe_int (fun _ _ => rfl)) (pa_cons (pv 1) pa_nil))) (pe_and (pe_cmpR (op_inT (r65 hr)) (pe_ix ix_tup (pv 0) pe_int (fun _ _ => rfl)) (pe_tup (pa_cons pe_str (pa_cons pe_str pa_nil))) (by with_unfolding_all rfl)) (pe_one (pe_y C_is_whole hr (by decide) pass0 (by rfl) (pa_cons (pe_ix ix_tup (pv 0) pe_int (fun _ _ => rfl)) pa_nil)))))))), ?_⟩
    walk_at "rd"
    rcases h with ⟨kx, rfl⟩ | ⟨a, xs, rfl, ex, hl, hl2, rfl⟩ | ⟨a, y0, y1, y2, rfl, ex, h3⟩
    · have kd : Kd H x := kx.elim .inl fun z => .inr (.inr (.inl z))
      have nr : isRf x = false := by rcases kx with ⟨i, rfl⟩ | ⟨z, rfl⟩ <;> rfl
      refine rd_isTup kd ?_
      rw [nr]
      walk_at "rd"
      exact k H Ex.rfl'
    · refine rd_isTup (.inr (.inr (.inr ⟨a, xs, rfl, ex⟩))) ?_
      walk_at "rd"
      refine iteF ?_
      walk_at "rd"
      refine rd_lenT ex ?_
      walk_at "rd"
      refine if_ndec (fun hn => ?_) (fun hn => absurd hn (by omega))
      walk_at "rd"
      exact k H (Xt.refl H)
    · refine rd_isTup (.inr (.inr (.inr ⟨a, _, rfl, ex⟩))) ?_
      walk_at "rd"
      refine iteF ?_
      walk_at "rd"
      refine rd_lenT ex ?_
      walk_at "rd"
      refine if_ndec (fun hn => absurd rfl hn) (fun _ => ?_)
      walk_at "rd"
      refine rd_ixTn 0 ex rfl rfl ?_
      walk_at "rd"
      rcases h3 with ⟨v0, rfl⟩ | ⟨g1, v0, v1, v2, rfl⟩
      · refine ⟨y0, n, false, rfl, v0, fun H1 e1 => rd_blV ?_⟩
        refine iteF ?_
        exact k H1 e1
      · refine ⟨y0, n, true, rfl, v0, fun H1 e1 => rd_blV ?_⟩
        refine iteT ?_
        walk_at "rd"
        refine rd_ixTn 1 (e1.at ex) rfl rfl ?_
        walk_at "rd"
        refine ⟨sz (show 2 ≤ 100000 by decide), fun p np => ?_⟩
        have e2 : Ex H1 (upd H1 p (.tup [.str "atmost", .str "equal"])) := ex_new np
        have ep : upd H1 p (.tup [.str "atmost", .str "equal"]) p = some (.tup [.str "atmost", .str "equal"]) := upd_same
        generalize upd H1 p (HO.tup [.str "atmost", .str "equal"]) = H2 at e2 ep ⊢
        have dp : Dp K H2 (.ref p) (.tuple [.str "atmost", .str "equal"]) := .tup (SqT.of ep) (.cons (.str _) (.cons (.str _) .nil))
        have sh : SeqAt.shaped (.tuple [.str "atmost", .str "equal"]) = true := by decide +kernel
        rcases v1 with ⟨q, rfl, rfl⟩ | ⟨rfl, rfl⟩ | ⟨b, q, rfl, eb, rfl⟩
        · refine rd_inT true (.str _) dp (by cases q <;> decide +kernel) sh (by cases q <;> decide +kernel) (rd_blV ?_)
          refine iteT ?_
          walk_at "rd"
          refine rd_ixTn 2 (e2.at (e1.at ex)) rfl rfl ?_
          walk_at "rd"
          refine ⟨y2, rfl, v2.ex (Xt.trans e1 e2), ?_⟩
          exact k H2 (Xt.trans e1 e2)
        · refine rd_inT false (.str _) dp (by decide +kernel) sh (by decide +kernel) (rd_blV ?_)
          refine iteF ?_
          exact k H2 (Xt.trans e1 e2)
        · refine rd_inT false (.tup (SqT.of (e2.at (e1.at eb))) (.cons (.str _) .nil)) dp (by cases q <;> decide +kernel) sh (by cases q <;> decide +kernel) (rd_blV ?_)
          refine iteF ?_
          exact k H2 (Xt.trans e1 e2)
/-! ### the error of rows -/
abbrev s_init : Stmt := inClass (topS 3) 0
theorem nsc_init : NScope ["self", "row", "__class__"] ["self", "row"] ["__class__"] (defScope s_init) := ⟨rfl, rfl, rfl, by decide +kernel, rfl, by decide +kernel, by decide +kernel, by decide +kernel, by decide +kernel⟩
def sp_init (C : Addr) : Sp := fun vs H Q _ => ∃ (a : Addr) (i : Nat), vs = [.ref a, .int i] ∧ i ≤ 1000 ∧ H a = some (exo a C none) ∧ ∀ dx, H dx = none → dx ≠ a → Q .non (upd (upd H dx (exd dx [("row", .int i)])) a (exo a C (some dx)))
theorem small_log {i : Nat} (h : i ≤ 1000) : (i : Int).natAbs.log2 < 1920 := by
  rw [Int.natAbs_natCast]
  by_cases z : i = 0
  · subst z; decide
  · exact Nat.lt_of_lt_of_le ((Nat.log2_lt z).mpr (show i < 2 ^ 10 by omega)) (by decide)
theorem ok_init {C f cc cda : Addr} {fd : FuncData} (S : SupK P K mg C f cc cda "self" (cellF "__init__" "BadRows.__init__" (defArgs s_init) (defBody s_init) (defScope s_init) cc cda) fd) (noN : PySem.W.findIn K (.ref C) "row" = some none) : FnOk P w K mg base CX0 41 f fd ["self", "row"] (sp_init C) := by
  refine sup_ok (N := ["self", "row", "__class__"]) S rfl rfl nsc_init rfl (fun vs H Q E h => ?_) rfl (fun L => ⟨_, rfl⟩) (fun L => rfl) (fun L => rfl) (fun L => rfl) fun A outer s H vs Q E hr h => ?_
  · obtain ⟨a, i, rfl, _⟩ := h; rfl
  · obtain ⟨a, i, rfl, hi, ha, k⟩ := h
    refine ⟨_, _, a, pa_cons (pe_joined (.cons pe_str (.cons (pe_fmt (pv 1)) .nil))) pa_nil, pss_one (ps_ost (pv 0) (pv 1)), rfl, ha, ?_⟩
    walk_at "rd"
    have l2 := int_text_len_1921 (small_log hi)
    refine ⟨_, rfl, Nat.le_trans (show (Str.empty ++ ("row: " : Str)).length ≤ 5 by decide +kernel) (by rw [sizeLine_eq]; omega), V.int i, rfl, .inr ⟨(i : Int), rfl, small_log hi, _, rfl, ?_, ?_⟩⟩
    · rw [PySem.Str.length_append, sizeLine_eq]
      have : (Str.empty ++ ("row: " : Str)).length ≤ 5 := by decide +kernel
      have l3 : (toString (i : Int) : Str).length ≤ 1921 := l2
      omega
    · show [V.str _].length ≤ 1000 ∧ _
      refine ⟨(show 1 ≤ 1000 by decide), ha, ?_⟩
      refine ⟨V.int i, rfl, .ref a, rfl, a, C, rfl, S.exc, noN, .inl ⟨ha, fun dx h1 h2 => k dx h1 h2⟩⟩
/-- the error of rows: its class, its maker -/
structure BR (P : Program) (w : World) (K : PySem.W.Frag) (mg : Str → Option Value) (base : Heap) (C : Addr) : Prop where
  ex : ∃ (fI : Addr) (fd : FuncData), OexC K C ∧ PySem.W.findIn K (.ref C) "__init__" = some (some (.ref fI)) ∧ PySem.W.typeIn K (.ref fI) = some (.type "function") ∧ FnOk P w K mg base CX0 41 fI fd ["self", "row"] (sp_init C) ∧ Binds K fd ["self", "row"] [] ∧ mg "BadRows" = some (.ref C)
theorem pmk_bad {X : Cx} {C : Addr} {k : Nat} {p pos : Pos} {e : Expr} {es : List Expr} {ta : TA} (b : BR X.prog X.w X.K X.mg X.base C) (hr : Room k X.A) (hk : 42 ≤ k) (hg : Gl X "BadRows") (ha : PA X (e :: es) ta)
    (he : starEach (e :: es) X.env = (false, eval e X.env) :: starEach es X.env := by rfl) (hpl : (backTo pos (starEach es X.env)).any (·.1) = false := by rfl) : PMk X (.Call (.Name "BadRows" p) (e :: es) [] pos) (tMkO C (sp_init C) [] ta) := by
  obtain ⟨fI, fd, h1, h2, h3, h4, h5, h6⟩ := b.ex
  exact pmk_oex h1 h2 h3 h4 (hr.mono hk) h5 .nil pass0 hg h6 ha (by decide) he hpl
def BadMk (C : Addr) (R : XK) (vs : List V) (H1 : Hp) : Prop := vs.length ≤ 1000 ∧ ∀ a, H1 a = none → sp_init C (.ref a :: (vs ++ [])) (upd H1 a (exo a C none)) (fun v H2 => v = .non ∧ ∃ (d : Addr) (fs : List (Str × V)), H2 a = some (exo a C (some d)) ∧ H2 d = some (exd d fs) ∧ H1 d = none ∧ R (.ref C) (some d) (upd (del H2 a) d (.xd fs))) (fun _ _ _ => False)
theorem rd_mkO {C : Addr} {σ : L2.St} {H : Hp} {R : XK} {ta : TA} (h : ta σ H fun vs H1 => BadMk C R vs H1) : tMkO C (sp_init C) [] ta σ H R := h
/-- what the making of the error leaves -/
theorem rd_bad {C : Addr} {H : Hp} {R : XK} {i : Nat} (hi : i ≤ 1000) (h : ∀ d H', Ex H H' → H d = none → H' d = some (.xd [("row", .int i)]) → R (.ref C) (some d) H') :
    BadMk C R [.int i] H := by
  show (fun vs H1 => vs.length ≤ 1000 ∧ ∀ a, H1 a = none → sp_init C (.ref a :: (vs ++ [])) (upd H1 a (exo a C none)) (fun v H2 => v = .non ∧ ∃ (d : Addr) (fs : List (Str × V)), H2 a = some (exo a C (some d)) ∧ H2 d = some (exd d fs) ∧ H1 d = none ∧ R (.ref C) (some d) (upd (del H2 a) d (.xd fs))) (fun _ _ _ => False)) [.int i] H
  refine ⟨(by decide : 1 ≤ 1000), fun a na => ⟨a, i, rfl, hi, upd_same, fun dx nd da => ⟨rfl, dx, [("row", .int i)], upd_same, ?_, ?_, ?_⟩⟩⟩
  · rw [upd_ne da, upd_same]
  · rw [upd_ne da] at nd; exact nd
  · rw [upd_ne da] at nd
    refine h dx _ (fun b o _ hb => ?_) nd upd_same
    have b1 : b ≠ dx := fun z => by rw [z, nd] at hb; cases hb
    have b2 : b ≠ a := fun z => by rw [z, na] at hb; cases hb
    rw [upd_ne b1, del_ne b2, upd_ne b2, upd_ne b1, upd_ne b2]
    exact hb
/-! ### ask_rows -/
abbrev s_ask_rows : Stmt := topS 8
theorem sc_ask_rows : FnScope ["rows", "many", "place"] ["rows", "many"] (defScope s_ask_rows) := ⟨rfl, rfl, rfl, by decide +kernel, rfl, by decide +kernel, by decide +kernel⟩
/-- the first bad row of xs -/
def BadAt (H : Hp) (n : Nat) (xs : List V) (at_ : Nat) : Prop := (∃ x, xs[at_]? = some x ∧ RowV H n x false) ∧ ∀ k, k < at_ → ∃ y, xs[k]? = some y ∧ RowV H n y true
theorem BadAt.ex {H H' : Hp} {n : Nat} {xs : List V} {at_ : Nat} (b : BadAt H n xs at_) (e : Ex H H') : BadAt H' n xs at_ :=
  ⟨let ⟨x, h1, h2⟩ := b.1; ⟨x, h1, h2.ex e⟩, fun k hk => let ⟨y, h1, h2⟩ := b.2 k hk; ⟨y, h1, h2.ex e⟩⟩
def AskO (C : Addr) (H : Hp) (n : Nat) (xs : List V) (ok : Hp → Prop) (E : XK) : Prop := ((∀ (k : Nat) (x : V), xs[k]? = some x → RowV H n x true) ∧ ∀ H', Ex H H' → ok H') ∨
  ∃ at_, BadAt H n xs at_ ∧ ∀ d H', Ex H H' → H' d = some (.xd [("row", .int at_)]) → E (.ref C) (some d) H'
def sp_ask_rows (C : Addr) : Sp := fun vs H Q E => ∃ (a : Addr) (n : Nat) (xs : List V), vs = [.ref a, .int n] ∧ H a = some (.tup xs) ∧ xs.length ≤ 1000 ∧ AskO C H n xs (Q .non) E
theorem ok_ask_rows {f C0 : Addr} {fd : FuncData} (F : Fun K "ask_rows" "ask_rows" s_ask_rows f fd) (B : Bi mg) (bR : BR P w K mg base C0) (C__is_row : Cl P w K mg base CX0 43 "_is_row" ["worth", "many"] sp__is_row) :
    FnOk P w K mg base (L2.CX P w) 45 f fd ["rows", "many"] (sp_ask_rows C0) := by
  refine F.okX sc_ask_rows (fun vs H Q E h => ?_) (fun cdv A outer s0 H vs Q E hr h => ?_)
  · obtain ⟨a, n, xs, rfl, _⟩ := h; rfl
  · obtain ⟨a, n, xs, rfl, ha, hx, h⟩ := h
    have nd := sc_ask_rows.nd
    refine ⟨_, (pss_one (ps_for (passes_of rfl) rfl (pi_range1 (by rfl) B.range (pa_cons (pe_callB cr_len (by rfl) B.len b_len (pa_cons (pv 0) pa_nil)) pa_nil)) (pg_name (i := 2) nd rfl (.inl rfl))
        (pss_one (ps_if (pt_not (pt_val (pe_y C__is_row hr (by decide) pass0 (by rfl) (pa_cons (pe_ix ix_tup (pv 0) (pv 2) (fun _ _ => rfl)) (pa_cons (pv 1) pa_nil)))))
          (pss_one (ps_raise rfl (takes_of rfl rfl rfl rfl) (pmk_bad bR hr (by decide) (by rfl) (pa_cons (pv 2) pa_nil))))
          pss_nil)))), ?_⟩
    walk_at "rd"
    refine rd_lenT ha ?_
    walk_at "rd"
    rcases h with ⟨hgood, k⟩ | ⟨at_, ⟨⟨x, hat, hbad⟩, hgood⟩, k⟩
    · refine rd_rg1 xs.length rfl (by omega) (for_w wkR (fun i σ H1 => Ex H H1 ∧ ∃ o2, σ = [some (.ref a), some (.int n), o2]) ⟨Ex.rfl', _, rfl⟩ (fun _ _ _ _ _ => trivial) (fun i x1 σ H1 H2 hi hP yy => ?_) fun σ H1 hP => ?_)
      · obtain ⟨e1, o2, rfl⟩ := hP
        obtain ⟨rfl, ex⟩ := yy
        obtain rfl : x1 = .int (i : Int) := by rw [ex]; exact congrArg V.int (by omega)
        walk_at "rd"
        refine rd_ixTn i (e1.at ha) rfl (List.getElem?_eq_getElem hi) ?_
        walk_at "rd"
        refine ⟨xs[i], n, true, rfl, (hgood i _ (List.getElem?_eq_getElem hi)).ex e1, fun H3 e3 => ?_⟩
        walk_at "rd"
        exact ⟨Xt.trans e1 e3, _, rfl⟩
      · obtain ⟨e1, o2, rfl⟩ := hP
        walk_at "rd"
        exact k H1 e1
    · have hlt : at_ < xs.length := (List.getElem?_eq_some_iff.mp hat).1
      refine rd_rg1 xs.length rfl (by omega) (for_w wkR (fun i σ H1 => i ≤ at_ ∧ Ex H H1 ∧ ∃ o2, σ = [some (.ref a), some (.int n), o2]) ⟨Nat.zero_le _, Ex.rfl', _, rfl⟩ (fun _ _ _ _ _ => trivial) (fun i x1 σ H1 H2 hi hP yy => ?_) fun σ H1 hP => ?_)
      · obtain ⟨hia, e1, o2, rfl⟩ := hP
        obtain ⟨rfl, ex⟩ := yy
        obtain rfl : x1 = .int (i : Int) := by rw [ex]; exact congrArg V.int (by omega)
        walk_at "rd"
        by_cases z : i = at_
        · subst z
          refine rd_ixTn i (e1.at ha) rfl hat ?_
          walk_at "rd"
          refine ⟨x, n, false, rfl, hbad.ex e1, fun H3 e3 => ?_⟩
          walk_at "rd"
          refine rd_mkO ?_
          walk_at "rd"
          exact rd_bad (by omega) fun d H4 e4 nd4 ed => k d H4 (Xt.trans e1 (Xt.trans e3 e4)) ed
        · obtain ⟨y, hy, gy⟩ := hgood i (by omega)
          refine rd_ixTn i (e1.at ha) rfl hy ?_
          walk_at "rd"
          refine ⟨y, n, true, rfl, gy.ex e1, fun H3 e3 => ?_⟩
          walk_at "rd"
          exact ⟨by omega, Xt.trans e1 e3, _, rfl⟩
      · omega
end
end Sx
/-! the walks of dot, common, _direction, falling -/
namespace Sx
open PySem PySem.Spec PyProof.Rows L2 Y NdefX
local macro_rules | `(tactic| walk_at "rd1") => `(tactic| first
  | with_reducible refine rd_var rfl ?_
  | with_reducible refine rd_op ?_
  | with_reducible refine rd_c ?_
  | with_reducible refine rd_I0 ?_
  | with_reducible refine rd_seq ?_
  | ((with_reducible refine rd_I ?_ ?_); focus (first | exact mulok_r (by decide) (by decide) | exact mulok_l (by decide) (by decide) | (show _ ≠ _; decide) | (show _ ∧ _; decide)))
  | with_reducible refine rd_asg ?_
  | with_reducible refine rd_name ?_
  | with_reducible refine rd_cb ?_
  | with_reducible refine rd_cons ?_
  | with_reducible refine rd_nil ?_
  | with_reducible refine rd_int ?_
  | with_reducible refine rd_eqI ?_
  | with_reducible refine rd_neI ?_
  | with_reducible refine rd_bl ?_
  | with_reducible refine rd_test ?_
  | with_reducible refine rd_tB ?_
  | with_reducible refine rd_ifS ?_
  | with_reducible refine rd_next ?_
  | with_reducible refine rd_T ?_
  | with_reducible refine rd_F ?_
  | with_reducible refine rd_nT ?_
  | with_reducible refine rd_nF ?_
  | with_reducible refine rd_blV ?_
  | with_reducible refine rd_ret ?_
  | with_reducible refine rd_call ?_
  | with_reducible refine rd_drop ?_
  | with_reducible refine rd_not ?_
  | with_reducible refine rd_and ?_
  | with_reducible refine rd_or ?_
  | with_reducible refine rd_un ?_
  | with_reducible refine rd_U ?_
  | with_reducible refine rd_tup ?_
  | with_reducible refine rd_lst ?_
  | with_reducible refine rd_if ?_
  | with_reducible refine rd_andV ?_
  | with_reducible refine rd_orV ?_
  | with_reducible refine rd_notV ?_
  | with_reducible refine rd_sl ?_
  | with_reducible refine rd_nopart ?_
  | with_reducible refine rd_part ?_
  | with_reducible refine rd_iv ?_
  | with_reducible refine rd_bm ?_
  | with_reducible refine rd_abs ?_
  | with_reducible refine rd_intb ?_
  | with_reducible refine rd_mx2 ?_
  | with_reducible refine rd_mn2 ?_
  | with_reducible refine rd_sub ?_
  | with_reducible refine rd_lc ?_
  | with_reducible refine rd_for ?_
  | with_reducible refine rd_iL ?_
  | with_reducible refine rd_iT ?_
  | with_reducible refine rd_r1 ?_
  | with_reducible refine rd_r2 ?_
  | with_reducible refine rd_iZ ?_
  | with_reducible refine rd_iZM ?_
  | with_reducible refine rd_while ?_
  | with_reducible refine rd_tru ?_
  | with_reducible refine rd_brk ?_
  | with_reducible refine rd_iA ?_
  | with_reducible refine rd_iZA ?_
  | with_reducible refine rd_par ?_
  | with_reducible refine rd_par2 ?_
  | with_reducible refine rd_bits ?_
  | with_reducible refine rd_callS ?_)
local macro_rules | `(tactic| walk_at "rd") => `(tactic| repeat walk_at "rd1")

theorem Xt.fr {S : List Addr} {H H1 H2 : Hp} {p : Addr} (a : Xt S H H1) (b : Xt [p] H1 H2) (h : H p = none) : Xt S H H2 := fun x o n q =>
  b x o (fun z => by rw [List.mem_singleton.mp z, h] at q; cases q) (a x o n q)
theorem gcd_pos' {x d : Int} (h : 0 < d) : 0 < Nat.gcd x.natAbs d.natAbs := Nat.gcd_pos_of_pos_right _ (by omega)
theorem low_mul {x d : Int} (h : 0 < d) : lowN x d * (Nat.gcd x.natAbs d.natAbs : Nat) = x ∧ lowD x d * (Nat.gcd x.natAbs d.natAbs : Nat) = d := by
  have g := gcd_pos' (x := x) h
  unfold lowN lowD
  rw [Int.fdiv_eq_ediv_of_nonneg _ (by omega), Int.fdiv_eq_ediv_of_nonneg _ (by omega)]
  exact ⟨Int.ediv_mul_cancel (Int.ofNat_dvd_left.mpr (Nat.gcd_dvd_left _ _)), Int.ediv_mul_cancel (Int.ofNat_dvd_left.mpr (Nat.gcd_dvd_right _ _))⟩
theorem lowD_pos {x d : Int} (h : 0 < d) : 0 < lowD x d := by
  have g := gcd_pos' (x := x) h
  have e := (low_mul (x := x) h).2
  by_cases z : 0 < lowD x d
  · exact z
  · have := Int.mul_nonpos_of_nonpos_of_nonneg (show lowD x d ≤ 0 by omega) (show (0 : Int) ≤ (Nat.gcd x.natAbs d.natAbs : Nat) by omega)
    omega
theorem low_eq {x d : Int} (h : 0 < d) : lowN x d * d = x * lowD x d := by
  have e := low_mul (x := x) h
  generalize ((Nat.gcd x.natAbs d.natAbs : Nat) : Int) = g at e
  have e1 := e.1
  have e2 := e.2
  generalize lowN x d = a at *
  generalize lowD x d = b at *
  rw [← e1, ← e2]
  grind
theorem lowN_le {x d : Int} (h : 0 < d) : (lowN x d).natAbs ≤ x.natAbs := fdiv_le (gcd_pos' h)
theorem lowD_le {x d : Int} (h : 0 < d) : (lowD x d).natAbs ≤ d.natAbs := fdiv_le (gcd_pos' h)
theorem lowD_dvd {x d : Int} (h : 0 < d) : (lowD x d).natAbs ∣ d.natAbs := by
  have e := congrArg Int.natAbs (low_mul (x := x) h).2
  rw [Int.natAbs_mul] at e
  exact ⟨_, e.symm⟩
/-- the numbers over the common denominator -/
def cnum (xx : Nat → Int) (d : Int) (n k : Nat) : Int := lowN (xx k) d * (((lcf (fun j => lowD (xx j) d) n : Nat) : Int)).fdiv (lowD (xx k) d)
theorem lcf_pos {xx : Nat → Int} {d : Int} (hd : 0 < d) {n : Nat} : 0 < lcf (fun j => lowD (xx j) d) n ∧ lcf (fun j => lowD (xx j) d) n ≤ d.natAbs := by
  have dv : lcf (fun j => lowD (xx j) d) n ∣ d.natAbs := lcf_of fun i _ => lowD_dvd hd
  exact ⟨Nat.pos_of_dvd_of_pos dv (by omega), Nat.le_of_dvd (by omega) dv⟩
theorem cnum_eq {xx : Nat → Int} {d : Int} (hd : 0 < d) {n k : Nat} (hk : k < n) : cnum xx d n k * d = xx k * ((lcf (fun j => lowD (xx j) d) n : Nat) : Int) := by
  have e := low_eq (x := xx k) hd
  have p := lowD_pos (x := xx k) hd
  have dv : lowD (xx k) d ∣ ((lcf (fun j => lowD (xx j) d) n : Nat) : Int) := Int.natAbs_dvd_natAbs.mp (by rw [Int.natAbs_natCast]; exact lcf_dvd (D := fun j => lowD (xx j) d) hk)
  have m := Int.mul_ediv_cancel' dv
  unfold cnum
  rw [Int.fdiv_eq_ediv_of_nonneg _ (by omega)]
  generalize ((lcf (fun j => lowD (xx j) d) n : Nat) : Int) = s at *
  generalize lowD (xx k) d = D at *
  generalize lowN (xx k) d = N at *
  have : N * (s / D) * d = N * d * (s / D) := by grind
  rw [this, e]
  have : xx k * D * (s / D) = xx k * (D * (s / D)) := by grind
  rw [this, m]
theorem cnum_le {xx : Nat → Int} {d : Int} (hd : 0 < d) {n k : Nat} (hk : k < n) : (cnum xx d n k).natAbs ≤ (xx k).natAbs := by
  have e := congrArg Int.natAbs (cnum_eq (xx := xx) hd hk)
  have l := (lcf_pos (xx := xx) hd (n := n)).2
  rw [Int.natAbs_mul, Int.natAbs_mul, Int.natAbs_natCast] at e
  have h : (cnum xx d n k).natAbs * d.natAbs ≤ (xx k).natAbs * d.natAbs := by rw [e]; exact Nat.mul_le_mul_left _ l
  exact Nat.le_of_mul_le_mul_right h (by omega)
theorem cnum_ray {xx : Nat → Int} {d : Int} (hd : 0 < d) {n : Nat} : Ray n (cnum xx d n) xx := ⟨d, _, hd, by have := (lcf_pos (xx := xx) hd (n := n)).1; omega, fun k hk => cnum_eq hd hk⟩
theorem div_ray {n : Nat} {f xx : Nat → Int} (h : Ray n f xx) {g : Nat} (hg : 0 < g) (hd : ∀ k, k < n → (g : Int) ∣ f k) : Ray n (fun k => (f k).fdiv g) xx := by
  obtain ⟨p, q, hp, hq, e⟩ := h
  refine ⟨g * p, q, Int.mul_pos (by omega) hp, hq, fun k hk => ?_⟩
  rw [← e k hk]
  show (f k).fdiv g * (g * p) = f k * p
  rw [Int.fdiv_eq_ediv_of_nonneg _ (by omega)]
  have := Int.ediv_mul_cancel (hd k hk)
  have a : f k / g * (g * p) = f k / g * g * p := by grind
  rw [a, this]
section
variable {P : Program} {w : World} {K : PySem.W.Frag} {mg : Str → Option Value} {base : Heap}
/-! ### dot -/
abbrev s_dot : Stmt := topS 9
theorem sc_dot : FnScope ["left", "right", "one", "other"] ["left", "right"] (defScope s_dot) := ⟨rfl, rfl, rfl, by decide +kernel, rfl, by decide +kernel, by decide +kernel⟩
def sp_dot : Sp := fun vs H Q _ => ∃ (a b : Addr) (n : Nat) (u v : Nat → Int), vs = [.ref a, .ref b] ∧ H a = some (.tup (vl n u)) ∧ H b = some (.tup (vl n v)) ∧ n ≤ 1000 ∧ (∀ j, j < n → IntMulOk (u j) (v j)) ∧ ∀ H', Ex H H' → Q (.int (dt n u v)) H'
theorem ok_dot {f : Addr} {fd : FuncData} (F : Fun K "dot" "dot" s_dot f fd) (B : Bi mg) : FnOk P w K mg base CX0 41 f fd ["left", "right"] sp_dot := by
  refine F.ok sc_dot (fun vs H Q E h => ?_) (fun cdv A outer s H vs Q E hr h => ?_)
  · obtain ⟨a, b, n, u, v, rfl, _⟩ := h; rfl
  · obtain ⟨a, b, n, u, v, rfl, ea, eb, hn, hm, k⟩ := h
    have nd := sc_dot.nd
    refine ⟨_, (pss_one (ps_ret (pe_callB (cr_sum (by rfl)) (by rfl) B.sum b_sum (pa_cons (pe_lc (g := gTup K 2 (gCons (gName 2) (gCons (gName 3) gNil))) (own := [("one", 2), ("other", 3)]) rfl nd (RZ.pi_zipA (by rfl) B.zip (pa_cons (pv 0) (pa_cons (pv 1) pa_nil))) (blkOk_by (by rfl)) (fun _ _ _ _ _ => (pg_tup (n := 2) (by rfl) (pgs_cons (pg_name (i := 2) nd rfl (by first | exact .inl rfl | exact .inr rfl)) (pgs_cons (pg_name (i := 3) nd rfl (by first | exact .inl rfl | exact .inr rfl)) pgs_nil)))) (fun _ _ _ _ _ => pts_nil) (fun _ _ _ _ _ => (pe_op op_mulB (pv 2) (pv 3)))) pa_nil)))), ?_⟩
    walk_at "rd"
    refine rd_zpA ea eb (lc_pure wkZT (fun j => .int (u j * v j)) (by omega) (fun H' e => ⟨e.at ea, e.at eb⟩) (fun i x H1 H2 hi e1 y Pp hP => ?_) fun D H' nD e1 eD => ?_)
    · obtain ⟨T, x1, x2, rfl, nT, rfl, f1, f2⟩ := y
      cases f1; cases f2
      refine rd_gpair upd_same ?_
      walk_at "rd"
      refine ⟨rfl, ?_⟩
      walk_at "rd"
      refine rd_I (hm i hi) ?_
      exact hP _ (ex_new nT)
    · walk_at "rd"
      refine rd_sum (eD.trans (congrArg (fun z => some (HO.lst z)) (vl_ints (u := fun j => u j * v j)))) ?_
      rw [sm_list]
      exact k H' e1
/-! ### common -/
abbrev s_common : Stmt := topS 10
theorem sc_common : FnScope ["fractions", "scale", "fraction", "top", "bottom"] ["fractions"] (defScope s_common) := ⟨rfl, rfl, rfl, by decide +kernel, rfl, by decide +kernel, by decide +kernel⟩
/-- fractions, at x -/
def FrAt (H : Hp) (x : Addr) (n : Nat) (xx : Nat → Int) (d : Int) : Prop := ∃ pp : Nat → Addr, H x = some (.tup (tab n fun k => .ref (pp k))) ∧ (∀ k, k < n → H (pp k) = some (pr (xx k) d)) ∧ 0 < d ∧ d.natAbs < 2 ^ 400 ∧ ∀ k, k < n → (xx k).natAbs < 2 ^ 400
def sp_common : Sp := fun vs H Q _ => ∃ (x : Addr) (n : Nat) (xx : Nat → Int) (d : Int), vs = [.ref x] ∧ FrAt H x n xx d ∧ n ≤ 1000 ∧ ∀ t a s H', Ex H H' → H' t = some (.tup [.int s, .ref a]) → H' a = some (.tup (vl n (cnum xx d n))) → Q (.ref t) H'
theorem lt4 {a : Int} (h : a.natAbs < 2 ^ 400) : a.natAbs < 2 ^ 4000 := Nat.lt_of_lt_of_le h (Nat.pow_le_pow_right (by decide) (by decide))
theorem ok_common {f : Addr} {fd : FuncData} (F : Fun K "common" "common" s_common f fd) (B : Bi mg) : FnOk P w K mg base CX0 41 f fd ["fractions"] sp_common := by
  refine F.ok sc_common (fun vs H Q E h => ?_) (fun cdv A outer s0 H vs Q E hr h => ?_)
  · obtain ⟨x, n, xx, d, rfl, _⟩ := h; rfl
  · obtain ⟨x, n, xx, d, rfl, ⟨pp, ex, epp, hd, hdb, hxb⟩, hn, k⟩ := h
    have nd := sc_common.nd
    refine ⟨_, (pss_cons (ps_set (i := 1) nd rfl (.inr rfl) pe_int)
      (pss_cons (ps_for PassesOwn.never rfl (pi_tup (pv 0)) (pg_name (i := 2) nd rfl (.inl rfl))
        (pss_one (ps_set (i := 1) nd rfl (.inr rfl) (pe_callBfun cr_lcm (by rfl) B.lcm (pa_cons (pv 1) (pa_cons (pe_ix ix_tup (pv 2) pe_int (fun _ _ => rfl)) pa_nil))))))
      (pss_one (ps_ret (pe_tup (pa_cons (pv 1) (pa_cons (pe_callTy cr_tupOf (by rfl) B.tuple b_tuple (pa_cons (pe_lc (g := gTup K 2 (gCons (gName 3) (gCons (gName 4) gNil))) (own := [("top", 3), ("bottom", 4)]) rfl nd (pi_tup (pv 0)) (blkOk_by (by rfl)) (fun _ _ _ _ _ => (pg_tup (n := 2) (by rfl) (pgs_cons (pg_name (i := 3) nd rfl (by first | exact .inl rfl | exact .inr rfl)) (pgs_cons (pg_name (i := 4) nd rfl (by first | exact .inl rfl | exact .inr rfl)) pgs_nil)))) (fun _ _ _ _ _ => pts_nil) (fun _ _ _ _ _ => (pe_op op_mulB (pv 3) (pe_op op_fdivS (pv 1) (pv 4))))) pa_nil)) pa_nil))))))), ?_⟩
    have lb : ∀ i, (((lcf (fun j => lowD (xx j) d) i : Nat) : Int)).natAbs < 2 ^ 400 := fun i => by
      have := (lcf_pos (xx := xx) hd (n := i)).2
      rw [Int.natAbs_natCast]; omega
    have Db : ∀ i, (lowD (xx i) d).natAbs < 2 ^ 400 := fun i => by have := lowD_le (x := xx i) hd; omega
    walk_at "rd"
    refine rd_itT ex (for_w (wkTt (n := n) (f := fun k => .ref (pp k))) (fun i σ H2 => Ex H H2 ∧ ∃ o2 o3 o4, σ = [some (.ref x), some (.int (lcf (fun j => lowD (xx j) d) i : Nat)), o2, o3, o4]) ⟨Ex.rfl', _, _, _, rfl⟩ (fun i σ H2 _ hP => hP.1.at ex) (fun i x1 σ H2 H3 hi hP y => ?_) fun σ H2 hP => ?_)
    · obtain ⟨e2, o2, o3, o4, rfl⟩ := hP
      obtain ⟨rfl, rfl⟩ := y
      walk_at "rd"
      refine rd_ixTn 1 (e2.at (epp i hi)) rfl rfl ?_
      walk_at "rd"
      refine rd_lcm (lt4 (lb i)) (lt4 (Db i)) ?_
      walk_at "rd"
      refine ⟨e2, ?_⟩
      rw [Int.natAbs_natCast]
      exact ⟨_, _, _, rfl⟩
    · obtain ⟨e2, o2, o3, o4, rfl⟩ := hP
      walk_at "rd"
      refine rd_itT (e2.at ex) (lc_pure (wkTt (n := n) (f := fun k => .ref (pp k))) (fun k => .int (cnum xx d n k)) (by omega) (fun H' e => e.at (e2.at ex)) (fun i x1 H3 H4 hi e3 y Pp hP => ?_) fun D H3 nD e3 eD => ?_)
      · obtain ⟨rfl, rfl⟩ := y
        refine rd_gpair (e3.at (e2.at (epp i hi))) ?_
        walk_at "rd"
        refine ⟨rfl, ?_⟩
        walk_at "rd"
        refine rd_I ⟨by have := lowD_pos (x := xx i) hd; omega, log_lt (lt4 (Db i))⟩ ?_
        refine rd_I (mulok_big (lt4 (by have := lowN_le (x := xx i) hd; have := hxb i hi; omega)) (lt4 ?_)) ?_
        · have p := lowD_pos (x := xx i) hd
          have q := fdiv_le (a := ((lcf (fun j => lowD (xx j) d) n : Nat) : Int)) (g := (lowD (xx i) d).toNat) (by omega)
          rw [show (((lowD (xx i) d).toNat : Nat) : Int) = lowD (xx i) d by omega] at q
          have := lb n
          omega
        · exact hP _ Ex.rfl'
      · walk_at "rd"
        refine rd_tupL eD fun a H4 na e4 ea => ?_
        walk_at "rd"
        refine new_tup (sz (show 2 ≤ 100000 by decide)) fun t H5 nt e5 et => ?_
        exact k t a _ H5 (Xt.trans e2 (Xt.trans e3 (Xt.trans e4 e5))) et (e5.at ea)
/-! ### _direction -/
abbrev s__direction : Stmt := topS 19
theorem sc__direction : FnScope ["fractions", "numbers", "share", "number"] ["fractions"] (defScope s__direction) := ⟨rfl, rfl, rfl, by decide +kernel, rfl, by decide +kernel, by decide +kernel⟩
def sp__direction : Sp := fun vs H Q _ => ∃ (x : Addr) (n : Nat) (xx : Nat → Int) (d : Int), vs = [.ref x] ∧ FrAt H x n xx d ∧ n ≤ 1000 ∧ ∀ a (z : Nat → Int) H', Ex H H' → H' a = some (.tup (vl n z)) → Ray n z xx → (∀ k, k < n → (z k).natAbs < 2 ^ 400) → Q (.ref a) H'
theorem ok__direction {f : Addr} {fd : FuncData} (F : Fun K "_direction" "_direction" s__direction f fd) (B : Bi mg) (C_common : Cl P w K mg base CX0 41 "common" ["fractions"] sp_common) : FnOk P w K mg base CX0 43 f fd ["fractions"] sp__direction := by
  refine F.ok sc__direction (fun vs H Q E h => ?_) (fun cdv A outer s0 H vs Q E hr h => ?_)
  · obtain ⟨x, n, xx, d, rfl, _⟩ := h; rfl
  · obtain ⟨x, n, xx, d, rfl, hF, hn, k⟩ := h
    have nd := sc__direction.nd
    refine ⟨_, (pss_cons (ps_set (i := 1) nd rfl (.inl rfl) (pe_ix ix_tup (pe_y C_common hr (by decide) pass0 (by rfl) (pa_cons (pv 0) pa_nil)) pe_int (fun _ _ => rfl)))
      (pss_cons (ps_set (i := 2) nd rfl (.inr rfl) pe_int)
      (pss_cons (ps_for PassesOwn.never rfl (pi_tup (pv 1)) (pg_name (i := 3) nd rfl (.inl rfl))
        (pss_one (ps_set (i := 2) nd rfl (.inr rfl) (pe_callBfun cr_gcd (by rfl) B.gcd (pa_cons (pv 2) (pa_cons (pv 3) pa_nil))))))
      (pss_cons (ps_if (pt_cmpR op_gt (pv 2) pe_int (nomark _))
        (pss_one (ps_ret (pe_callTy cr_tupOf (by rfl) B.tuple b_tuple (pa_cons (pe_lc (own := [("number", 3)]) rfl nd (pi_tup (pv 1)) (blkOk_by (by rfl)) (fun _ _ _ _ _ => (pg_name (i := 3) nd rfl (by first | exact .inl rfl | exact .inr rfl))) (fun _ _ _ _ _ => pts_nil) (fun _ _ _ _ _ => (pe_op op_fdivS (pv 3) (pv 2)))) pa_nil))))
        pss_nil)
      (pss_one (ps_ret (pv 1))))))), ?_⟩
    walk_at "rd"
    refine ⟨x, n, xx, d, rfl, hF, hn, fun t a sc H1 e1 et ea => ?_⟩
    obtain ⟨pp, ex, epp, hd, hdb, hxb⟩ := hF
    have cb : ∀ k, k < n → (cnum xx d n k).natAbs < 2 ^ 400 := fun k hk => Nat.lt_of_le_of_lt (cnum_le hd hk) (hxb k hk)
    walk_at "rd"
    refine rd_ixTn 1 et rfl rfl ?_
    walk_at "rd"
    refine rd_itT ea (for_w (wkTt (n := n) (f := fun k => .int (cnum xx d n k))) (fun i σ H2 => Ex H1 H2 ∧ ∃ o3, σ = [some (.ref x), some (.ref a), some (.int (gdf (cnum xx d n) i)), o3]) ⟨Ex.rfl', _, rfl⟩ (fun i σ H2 _ hP => hP.1.at ea) (fun i x1 σ H2 H3 hi hP y => ?_) fun σ H2 hP => ?_)
    · obtain ⟨e2, o3, rfl⟩ := hP
      obtain ⟨rfl, rfl⟩ := y
      walk_at "rd"
      refine rd_gcd ?_
      walk_at "rd"
      refine ⟨e2, ?_⟩
      rw [Int.natAbs_natCast]
      exact ⟨_, rfl⟩
    · obtain ⟨e2, o3, rfl⟩ := hP
      walk_at "rd"
      refine rd_dec (fun h1 => ?_) fun _ => ?_
      · walk_at "rd"
        have gl : ∃ i, i < n ∧ cnum xx d n i ≠ 0 := by
          refine Classical.byContradiction fun hz => ?_
          have all : ∀ i, i < n → cnum xx d n i = 0 := fun i hi => Classical.byContradiction fun e => hz ⟨i, hi, e⟩
          have : ∀ k, k ≤ n → gdf (cnum xx d n) k = 0 := fun k => by
            induction k with
            | zero => intro _; rfl
            | succ k ih =>
              intro hk
              show Nat.gcd (gdf (cnum xx d n) k) (cnum xx d n k).natAbs = 0
              rw [ih (by omega), all k (by omega)]; rfl
          have := this n (Nat.le_refl _)
          omega
        obtain ⟨i0, hi0, hne⟩ := gl
        have gle : gdf (cnum xx d n) n ≤ (cnum xx d n i0).natAbs := Nat.le_of_dvd (by omega) (gdf_dvd _ hi0)
        have gb : (((gdf (cnum xx d n) n : Nat) : Int)).natAbs < 2 ^ 400 := by
          have := cb i0 hi0
          rw [Int.natAbs_natCast]; omega
        have gp : 0 < gdf (cnum xx d n) n := by omega
        refine rd_itT (e2.at ea) (lc_pure (wkTt (n := n) (f := fun k => .int (cnum xx d n k))) (fun k => .int ((cnum xx d n k).fdiv (gdf (cnum xx d n) n))) (by omega) (fun H' e => e.at (e2.at ea)) (fun i x1 H3 H4 hi e3 y Pp hP => ?_) fun D H3 nD e3 eD => ?_)
        · obtain ⟨rfl, rfl⟩ := y
          walk_at "rd"
          refine ⟨rfl, ?_⟩
          walk_at "rd"
          refine rd_I ⟨by omega, log_lt (lt4 gb)⟩ ?_
          exact hP _ Ex.rfl'
        · walk_at "rd"
          refine rd_tupL eD fun a2 H4 na e4 ea2 => ?_
          exact k a2 _ H4 (Xt.trans e1 (Xt.trans e2 (Xt.trans e3 e4))) ea2 (div_ray (cnum_ray hd) gp fun k hk => gdf_dvdI _ hk) fun k hk => Nat.lt_of_le_of_lt (fdiv_le gp) (cb k hk)
      · walk_at "rd"
        exact k a _ H2 (Xt.trans e1 e2) (e2.at ea) (cnum_ray hd) cb
/-! ### falling -/
/-- given rows in a tuple -/
def RwT (H : Hp) (a : Addr) (W : Rws) : Prop := ∃ rp np : Nat → Addr, H a = some (.tup (tab W.m fun i => .ref (rp i))) ∧
  (∀ i, i < W.m → H (rp i) = some (.tup [.ref (np i), .str (rel (W.q i)), .int (W.C i)])) ∧ ∀ i, i < W.m → H (np i) = some (.tup (vl W.n (W.R i)))
theorem RwT.ex {H H' : Hp} {a : Addr} {W : Rws} (h : RwT H a W) (e : Ex H H') : RwT H' a W := by
  obtain ⟨rp, np, h1, h2, h3⟩ := h
  exact ⟨rp, np, e.at h1, fun i hi => e.at (h2 i hi), fun i hi => e.at (h3 i hi)⟩
theorem RwT.any {H : Hp} {a : Addr} {W : Rws} (h : RwT H a W) : RwAt H a W := by
  obtain ⟨rp, np, h1, h2, h3⟩ := h
  exact ⟨rp, np, .inl h1, h2, h3⟩
def FAns (H : Hp) (t : Addr) (W : Rws) (aim : Nat → Int) : Prop := (∃ (a : Addr) (z : Nat → Int), H t = some (.tup [.str "point", .ref a]) ∧ H a = some (.tup (vl W.n z)) ∧ Cone W z ∧ dt W.n aim z < 0 ∧ ∀ k, k < W.n → (z k).natAbs < 2 ^ 400) ∨
  ∃ a : Addr, H t = some (.tup [.str "clash", .ref a]) ∧ ∀ v, Cone W v → 0 ≤ dt W.n aim v
abbrev s_falling : Stmt := topS 20
theorem sc_falling : FnScope ["rows", "many", "aim", "cone", "outcome", "found", "row"] ["rows", "many", "aim"] (defScope s_falling) := ⟨rfl, rfl, rfl, by decide +kernel, rfl, by decide +kernel, by decide +kernel⟩
def sp_falling : Sp := fun vs H Q _ => ∃ (r am : Addr) (W : Rws) (aim : Nat → Int) (Bd : Nat), vs = [.ref r, .int W.n, .ref am] ∧ RwT H r W ∧ H am = some (.tup (vl W.n aim)) ∧ (fallW W aim).le Bd ∧ bdd (W.n + 1) Bd < 2 ^ 400 ∧ W.n ≤ 1000 ∧ W.m ≤ 900 ∧ ∀ t H', Ex H H' → FAns H' t W aim → Q (.ref t) H'
theorem ok_falling {f : Addr} {fd : FuncData} (F : Fun K "falling" "falling" s_falling f fd) (B : Bi mg) (C_solved : Cl P w K mg base CX0 43 "solved" ["rows", "many"] sp_solved) (C__direction : Cl P w K mg base CX0 43 "_direction" ["fractions"] sp__direction) : FnOk P w K mg base CX0 45 f fd ["rows", "many", "aim"] sp_falling := by
  refine F.ok sc_falling (fun vs H Q E h => ?_) (fun cdv A outer s0 H vs Q E hr h => ?_)
  · obtain ⟨r, am, W, aim, Bd, rfl, _⟩ := h; rfl
  · obtain ⟨r, am, W, aim, Bd, rfl, hR, eam, hle, hbd, hn, hm, k⟩ := h
    have nd := sc_falling.nd
    refine ⟨_, (pss_cons (ps_setLc (i := 3) (own := [("row", 6)]) rfl nd rfl rfl (sw_true rfl rfl rfl (by decide +kernel)) (pi_tup (pv 0)) (blkOk_by (by rfl)) (fun _ _ _ _ _ => (pg_name (i := 6) nd rfl (by first | exact .inl rfl | exact .inr rfl))) (fun _ _ _ _ _ => pts_nil) (fun _ _ _ _ _ => (pe_tup (pa_cons (pe_ix (ix_tupK (K := K) rfl) (pv 6) pe_int (fun _ _ => rfl)) (pa_cons (pe_ix (ix_tupK (K := K) rfl) (pv 6) pe_int (fun _ _ => rfl)) (pa_cons pe_int pa_nil))))))
      (pss_cons (ps_expr (pe_bm PySem.F.plainAttrs_list PySem.F.slot_list_append PySem.F.type_list_append mt_append (pv 3) (pa_cons (pe_tup (pa_cons (pv 2) (pa_cons pe_str (pa_cons (pe_un un_neg pe_int) pa_nil)))) pa_nil)))
      (pss_cons (ps_asg (pe_y C_solved hr (by decide) pass0 (by rfl) (pa_cons (pv 3) (pa_cons (pv 1) pa_nil))) (pg_tup (n := 2) (by rfl) (pgs_cons (pg_name (i := 4) nd rfl (.inl rfl)) (pgs_cons (pg_name (i := 5) nd rfl (.inl rfl)) pgs_nil))))
      (pss_cons (ps_if (pt_cmpR op_eq (pv 4) pe_str (nomark _))
        (pss_one (ps_ret (pe_tup (pa_cons pe_str (pa_cons (pe_y C__direction hr (by decide) pass0 (by rfl) (pa_cons (pv 5) pa_nil)) pa_nil)))))
        pss_nil)
      (pss_one (ps_ret (pe_tup (pa_cons (pv 4) (pa_cons (pv 5) pa_nil))))))))), ?_⟩
    obtain ⟨rp, np, e1, e2, e3⟩ := id hR
    walk_at "rd"
    refine rd_itT e1 (lc_refs (wkTt (n := W.m) (f := fun i => .ref (rp i))) (fun i => .tup [.ref (np i), .str (rel (W.q i)), .int 0]) (by omega) (fun H' e => e.at e1) (fun i x H1 H2 hi ex1 y Pp hP => ?_) fun D cp H1 nD ex1 eD hcp => ?_)
    · obtain ⟨rfl, rfl⟩ := y
      walk_at "rd"
      refine ⟨rfl, ?_⟩
      walk_at "rd"
      refine rd_ixTn 0 (ex1.at (e2 i hi)) rfl rfl ?_
      walk_at "rd"
      refine rd_ixTn 1 (ex1.at (e2 i hi)) rfl rfl ?_
      walk_at "rd"
      refine ⟨sz (show 3 ≤ 100000 by decide), fun p np => ?_⟩
      exact hP p _ (ex_new np) upd_same (.inl np)
    · walk_at "rd"
      refine ⟨tyL eD, ?_⟩
      walk_at "rd"
      refine ⟨sz (show 3 ≤ 100000 by decide), fun T nT => ?_⟩
      have ex2 : Ex H1 (upd H1 T (.tup [.ref am, .str "atmost", .int (-1)])) := ex_new nT
      have eT : upd H1 T (.tup [.ref am, .str "atmost", .int (-1)]) T = some (.tup [.ref am, .str "atmost", .int (-1)]) := upd_same
      generalize upd H1 T (HO.tup [.ref am, .str "atmost", .int (-1)]) = H2 at ex2 eT ⊢
      walk_at "rd"
      refine rd_append (ex2.at eD) (szl (by rw [tab_len]; omega)) fun H3 X3 eD3 => ?_
      walk_at "rd"
      have ex03 : Ex H H3 := Xt.fr (Xt.trans ex1 ex2) X3 nD
      have up : ∀ {a : Addr} {xs : List V}, H2 a = some (.tup xs) → H3 a = some (.tup xs) := fun h => X3.at h fun z => by
        rw [List.mem_singleton.mp z, ex2.at eD] at h; cases h
      have hC : RwAt H3 D (fallW W aim) := by
        refine ⟨fun i => if i < W.m then cp i else T, fun i => if i < W.m then np i else am, .inr ?_, fun i hi => ?_, fun i hi => ?_⟩
        · rw [eD3]
          show _ = some (HO.lst (tab (W.m + 1) _))
          rw [← tab_snoc]
          refine congrArg (fun z => some (HO.lst z)) (congr (congrArg _ (tab_ext fun i hi => ?_)) ?_)
          · show _ = V.ref (if i < W.m then cp i else T); rw [if_pos hi]
          · show _ = [V.ref (if W.m < W.m then cp W.m else T)]; rw [if_neg (by omega)]
        · show H3 (if i < W.m then cp i else T) = some (.tup [.ref (if i < W.m then np i else am), .str (rel (if i < W.m then W.q i else false)), .int (if i < W.m then 0 else -1)])
          by_cases h : i < W.m
          · rw [if_pos h, if_pos h, if_pos h, if_pos h]; exact up (ex2.at (hcp i h).1)
          · rw [if_neg h, if_neg h, if_neg h, if_neg h]; exact up eT
        · show H3 (if i < W.m then np i else am) = some (.tup (vl W.n (if i < W.m then W.R i else aim)))
          by_cases h : i < W.m
          · rw [if_pos h, if_pos h]; exact ex03.at (e3 i h)
          · rw [if_neg h, if_neg h]; exact ex03.at eam
      refine ⟨D, fallW W aim, Bd, rfl, hC, hle, hbd, hn, (show W.m + 1 ≤ 1000 by omega), fun q H4 ex4 hA => ?_⟩
      rcases hA with ⟨x, pp, xx, d, eq, ex, epp, hd, hdb, hxb, hpt⟩ | ⟨x, y, eq, ex, hy, hyb⟩
      · refine rd_gpair eq ?_
        walk_at "rd"
        refine rd_eq rfl ?_
        walk_at "rd"
        refine rd_dec (fun _ => ?_) fun z => absurd rfl z
        walk_at "rd"
        refine ⟨x, W.n, xx, d, rfl, ⟨pp, ex, epp, hd, hdb, hxb⟩, hn, fun a z H5 ex5 ea hray hzb => ?_⟩
        walk_at "rd"
        refine new_tup (sz (show 2 ≤ 100000 by decide)) fun t H6 nt ex6 et => ?_
        have fc := fall_cone (W := W) (aim := aim) hd hpt
        exact k t H6 (Xt.trans ex03 (Xt.trans ex4 (Xt.trans ex5 ex6))) (.inl ⟨a, z, et, ex6.at ea, hray.cone fc.1, (hray.dt aim).1.mpr fc.2, hzb⟩)
      · refine rd_gpair eq ?_
        walk_at "rd"
        refine rd_eq rfl ?_
        walk_at "rd"
        refine rd_dec (fun z => absurd z (by decide)) fun _ => ?_
        walk_at "rd"
        refine new_tup (sz (show 2 ≤ 100000 by decide)) fun t H6 nt ex6 et => ?_
        exact k t H6 (Xt.trans ex03 (Xt.trans ex4 ex6)) (.inr ⟨x, et, fun v hv => clash_aim hy hv⟩)
end
end Sx
/-! the walks of widest, widest_direction, meet -/
namespace Sx
open PySem PySem.Spec PyProof.Rows L2 Y NdefX
local macro_rules | `(tactic| walk_at "rd1") => `(tactic| first
  | with_reducible refine rd_var rfl ?_
  | with_reducible refine rd_op ?_
  | with_reducible refine rd_c ?_
  | with_reducible refine rd_I0 ?_
  | with_reducible refine rd_seq ?_
  | ((with_reducible refine rd_I ?_ ?_); focus (first | exact mulok_r (by decide) (by decide) | exact mulok_l (by decide) (by decide) | (show _ ≠ _; decide) | (show _ ∧ _; decide)))
  | with_reducible refine rd_asg ?_
  | with_reducible refine rd_name ?_
  | with_reducible refine rd_cb ?_
  | with_reducible refine rd_cons ?_
  | with_reducible refine rd_nil ?_
  | with_reducible refine rd_int ?_
  | with_reducible refine rd_eqI ?_
  | with_reducible refine rd_neI ?_
  | with_reducible refine rd_bl ?_
  | with_reducible refine rd_test ?_
  | with_reducible refine rd_tB ?_
  | with_reducible refine rd_ifS ?_
  | with_reducible refine rd_next ?_
  | with_reducible refine rd_T ?_
  | with_reducible refine rd_F ?_
  | with_reducible refine rd_nT ?_
  | with_reducible refine rd_nF ?_
  | with_reducible refine rd_blV ?_
  | with_reducible refine rd_ret ?_
  | with_reducible refine rd_call ?_
  | with_reducible refine rd_drop ?_
  | with_reducible refine rd_not ?_
  | with_reducible refine rd_and ?_
  | with_reducible refine rd_or ?_
  | with_reducible refine rd_un ?_
  | with_reducible refine rd_U ?_
  | with_reducible refine rd_tup ?_
  | with_reducible refine rd_lst ?_
  | with_reducible refine rd_if ?_
  | with_reducible refine rd_andV ?_
  | with_reducible refine rd_orV ?_
  | with_reducible refine rd_notV ?_
  | with_reducible refine rd_sl ?_
  | with_reducible refine rd_nopart ?_
  | with_reducible refine rd_part ?_
  | with_reducible refine rd_iv ?_
  | with_reducible refine rd_bm ?_
  | with_reducible refine rd_abs ?_
  | with_reducible refine rd_intb ?_
  | with_reducible refine rd_mx2 ?_
  | with_reducible refine rd_mn2 ?_
  | with_reducible refine rd_sub ?_
  | with_reducible refine rd_lc ?_
  | with_reducible refine rd_for ?_
  | with_reducible refine rd_iL ?_
  | with_reducible refine rd_iT ?_
  | with_reducible refine rd_r1 ?_
  | with_reducible refine rd_r2 ?_
  | with_reducible refine rd_iZ ?_
  | with_reducible refine rd_iZM ?_
  | with_reducible refine rd_while ?_
  | with_reducible refine rd_tru ?_
  | with_reducible refine rd_brk ?_
  | with_reducible refine rd_iA ?_
  | with_reducible refine rd_iZA ?_
  | with_reducible refine rd_par ?_
  | with_reducible refine rd_par2 ?_
  | with_reducible refine rd_bits ?_
  | with_reducible refine rd_callS ?_)
local macro_rules | `(tactic| walk_at "rd") => `(tactic| repeat walk_at "rd1")

theorem filt_getD {β : Type} (p : Nat → Bool) (f : Nat → β) (l : List Nat) : (List.range l.length).filterMap (fun j => if p (l.getD j 0) = true then some (f (l.getD j 0)) else none) = (l.filter p).map f := by
  rw [← filterMap_if p f l]
  have e := map_getD 0 id l
  rw [List.map_id] at e
  have q := congrArg (fun z => z.filterMap (fun a => if p a = true then some (f a) else none)) e
  rw [List.filterMap_map] at q
  exact q
section
variable {P : Program} {w : World} {K : PySem.W.Frag} {mg : Str → Option Value} {base : Heap}
/-- an answer of widest, at t -/
def WAns (H : Hp) (t : Addr) (W : Rws) (tot : Nat → Int) : Prop := ∃ T Tt : Addr, H t = some (.tup [.ref T, .ref Tt]) ∧ H T = some (.tup (vl W.n tot)) ∧ H Tt = some (.tup ((tls W tot).map fun i => .int (i : Nat))) ∧ Wid W tot ∧ ∀ k, k < W.n → (tot k).natAbs < 2 ^ 500
/-- bounds of rows -/
def Rb (W : Rws) (B : Nat) : Prop := W.le B ∧ bdd (W.n + 1) (20 * B) < 2 ^ 400 ∧ B < 2 ^ 400 ∧ W.n ≤ 1000 ∧ W.m ≤ 20
abbrev s_widest : Stmt := topS 21
theorem sc_widest : FnScope ["rows", "many", "total", "left", "aim", "outcome", "found", "tight", "_", "row", "column", "vector", "one", "other", "place"] ["rows", "many"] (defScope s_widest) := ⟨rfl, rfl, rfl, by decide +kernel, rfl, by decide +kernel, by decide +kernel⟩
def sp_widest : Sp := fun vs H Q _ => ∃ (r : Addr) (W : Rws) (B : Nat), vs = [.ref r, .int W.n] ∧ RwT H r W ∧ Rb W B ∧ ∀ t tot H', Ex H H' → WAns H' t W tot → Q (.ref t) H'
theorem p4000 {a : Int} (h : a.natAbs < 2 ^ 500) : a.natAbs < 2 ^ 4000 := Nat.lt_of_lt_of_le h (Nat.pow_le_pow_right (by decide) (by decide))
theorem wl0 {W : Rws} : WLoop W (fun _ => 0) ((List.range W.m).filter fun i => !W.q i) where
  mem i hi := by
    obtain ⟨h1, h2⟩ := List.mem_filter.mp hi
    exact ⟨List.mem_range.mp h1, by simpa using h2, sm_zero fun j _ => Int.mul_zero _⟩
  neg i hi hq hn := absurd (List.mem_filter.mpr ⟨List.mem_range.mpr hi, by rw [hq]; rfl⟩) hn
  eq i hi hq := sm_zero fun j _ => Int.mul_zero _
theorem ok_widest {f : Addr} {fd : FuncData} (F : Fun K "widest" "widest" s_widest f fd) (B : Bi mg) (C_falling : Cl P w K mg base CX0 45 "falling" ["rows", "many", "aim"] sp_falling) (C_dot : Cl P w K mg base CX0 41 "dot" ["left", "right"] sp_dot) : FnOk P w K mg base CX0 47 f fd ["rows", "many"] sp_widest := by
  refine F.ok sc_widest (fun vs H Q E h => ?_) (fun cdv A outer s0 H vs Q E hr h => ?_)
  · obtain ⟨r, W, Bd, rfl, _⟩ := h; rfl
  · obtain ⟨r, W, B0, rfl, hR, ⟨hle, hbd, hB0, hn, hm⟩, k⟩ := h
    have nd := sc_widest.nd
    refine ⟨_, (pss_cons (ps_set (i := 2) nd rfl (.inr rfl) (pe_callTy cr_tupOf (by rfl) B.tuple b_tuple (pa_cons (pe_lc (own := [("_", 8)]) rfl nd (pi_range1 (by rfl) B.range (pa_cons (pv 1) pa_nil)) (blkOk_by (by rfl)) (fun _ _ _ _ _ => (pg_name (i := 8) nd rfl (by first | exact .inl rfl | exact .inr rfl))) (fun _ _ _ _ _ => pts_nil) (fun _ _ _ _ _ => pe_int)) pa_nil)))
      (pss_cons (ps_set (i := 3) nd rfl (.inr rfl) (pe_lc (own := [("row", 9)]) rfl nd (pi_tup (pv 0)) (blkOk_by (by rfl)) (fun _ _ _ _ _ => (pg_name (i := 9) nd rfl (by first | exact .inl rfl | exact .inr rfl))) (fun _ _ _ _ _ => (pts_one (pt_cmpR op_eq (pe_ix (ix_tupK (K := K) rfl) (pv 9) pe_int (fun _ _ => rfl)) pe_str (nomark _)))) (fun _ _ _ _ _ => (pe_ix (ix_tupK (K := K) rfl) (pv 9) pe_int (fun _ _ => rfl)))))
      (pss_cons (ps_while PassesOwn.never (pt_cmpR op_gt (pe_callB cr_len (by rfl) B.len b_len (pa_cons (pv 3) pa_nil)) pe_int (nomark _))
        (pss_cons (ps_set (i := 4) nd rfl (.inl rfl) (pe_callTy cr_tupOf (by rfl) B.tuple b_tuple (pa_cons (pe_lc (own := [("column", 10)]) rfl nd (pi_range1 (by rfl) B.range (pa_cons (pv 1) pa_nil)) (blkOk_by (by rfl)) (fun _ _ _ _ _ => (pg_name (i := 10) nd rfl (by first | exact .inl rfl | exact .inr rfl))) (fun _ _ _ _ _ => pts_nil) (fun _ _ _ _ _ => (pe_callB (cr_sumK (K := K) rfl (by rfl)) (by rfl) B.sum b_sum (pa_cons (pe_lc (own := [("vector", 11)]) rfl nd (pi_listK (K := K) rfl (pv 3)) (blkOk_by (by rfl)) (fun _ _ _ _ _ => (pg_name (i := 11) nd rfl (by first | exact .inl rfl | exact .inr rfl))) (fun _ _ _ _ _ => pts_nil) (fun _ _ _ _ _ => (pe_ix (ix_tupK (K := K) rfl) (pv 11) (pv 10) (fun _ _ => rfl)))) pa_nil)))) pa_nil)))
        (pss_cons (ps_asg (pe_y C_falling hr (by decide) pass0 (by rfl) (pa_cons (pv 0) (pa_cons (pv 1) (pa_cons (pv 4) pa_nil)))) (pg_tup (n := 2) (by rfl) (pgs_cons (pg_name (i := 5) nd rfl (.inl rfl)) (pgs_cons (pg_name (i := 6) nd rfl (.inr rfl)) pgs_nil))))
        (pss_cons (ps_if (pt_cmpR op_eq (pv 5) pe_str (nomark _))
          (pss_one ps_break)
          pss_nil)
        (pss_cons (ps_set (i := 2) nd rfl (.inr rfl) (pe_callTy cr_tupOf (by rfl) B.tuple b_tuple (pa_cons (pe_lc (g := gTup K 2 (gCons (gName 12) (gCons (gName 13) gNil))) (own := [("one", 12), ("other", 13)]) rfl nd (RZ.pi_zipA (by rfl) B.zip (pa_cons (pv 2) (pa_cons (pv 6) pa_nil))) (blkOk_by (by rfl)) (fun _ _ _ _ _ => (pg_tup (n := 2) (by rfl) (pgs_cons (pg_name (i := 12) nd rfl (by first | exact .inl rfl | exact .inr rfl)) (pgs_cons (pg_name (i := 13) nd rfl (by first | exact .inl rfl | exact .inr rfl)) pgs_nil)))) (fun _ _ _ _ _ => pts_nil) (fun _ _ _ _ _ => (pe_op op_add (pv 12) (pv 13)))) pa_nil)))
        (pss_one (ps_set (i := 3) nd rfl (.inr rfl) (pe_lc (own := [("vector", 11)]) rfl nd (pi_list (pv 3)) (blkOk_by (by rfl)) (fun _ _ _ _ _ => (pg_name (i := 11) nd rfl (by first | exact .inl rfl | exact .inr rfl))) (fun _ _ _ _ _ => (pts_one (pt_cmpR op_eq (pe_y C_dot hr (by decide) pass0 (by rfl) (pa_cons (pv 11) (pa_cons (pv 6) pa_nil))) pe_int (nomark _)))) (fun _ _ _ _ _ => (pv 11))))))))))
      (pss_cons (ps_setLc (i := 7) (own := [("place", 14)]) rfl nd rfl rfl (sw_true rfl rfl rfl (by decide +kernel)) (pi_range1 (by rfl) B.range (pa_cons (pe_callB cr_len (by rfl) B.len b_len (pa_cons (pv 0) pa_nil)) pa_nil)) (blkOk_by (by rfl)) (fun _ _ _ _ _ => (pg_name (i := 14) nd rfl (by first | exact .inl rfl | exact .inr rfl))) (fun _ _ _ _ _ => (pts_one (pt_cmpR op_eq (pe_y C_dot hr (by decide) pass0 (by rfl) (pa_cons (pe_ix (ix_tupK (K := K) rfl) (pe_ix (ix_tupK (K := K) rfl) (pv 0) (pv 14) (fun _ _ => rfl)) pe_int (fun _ _ => rfl)) (pa_cons (pv 2) pa_nil))) pe_int (nomark _)))) (fun _ _ _ _ _ => (pv 14)))
      (pss_one (ps_ret (pe_tup (pa_cons (pv 2) (pa_cons (pe_callTy cr_tupOf (by rfl) B.tuple b_tuple (pa_cons (pv 7) pa_nil)) pa_nil))))))))), ?_⟩
    obtain ⟨rp, np, e1, e2, e3⟩ := id hR
    have hRb : ∀ i, i < W.m → ∀ j, j < W.n → (W.R i j).natAbs < 2 ^ 4000 := fun i hi j hj => p4000 (Nat.lt_of_le_of_lt (hle.2.2 i hi j hj) (Nat.lt_of_lt_of_le hB0 (Nat.pow_le_pow_right (by decide) (by decide))))
    walk_at "rd"
    refine rd_rg1 W.n rfl (by omega) (lc_pure wkR (fun _ => .int 0) (by omega) (fun _ _ => trivial) (fun i x H2 H3 hi ex2 y Pp hP => ?_) fun D0 H1 nD0 ex1 eD0 => ?_)
    · obtain ⟨rfl, _⟩ := y
      walk_at "rd"
      refine ⟨rfl, ?_⟩
      walk_at "rd"
      exact hP _ Ex.rfl'
    · walk_at "rd"
      refine rd_tupL eD0 fun T0 H2 nT0 ex2 eT0 => ?_
      walk_at "rd"
      have ex02 : Ex H H2 := Xt.trans ex1 ex2
      refine rd_itT (ex02.at e1) (lc_some (wkTt (n := W.m) (f := fun i => .ref (rp i))) (fun i => if (!W.q i) = true then some (.ref (np i)) else none) (by omega) (fun H' e => e.at (ex02.at e1)) (fun i x H3 H4 hi ex3 y Pp N hP hN => ?_) fun L0 H3 nL0 ex3 eL0 => ?_)
      · obtain ⟨rfl, rfl⟩ := y
        walk_at "rd"
        refine ⟨rfl, ?_⟩
        walk_at "rd"
        refine rd_ixTn 1 (ex3.at (ex02.at (e2 i hi))) rfl rfl ?_
        walk_at "rd"
        refine rd_eq rfl ?_
        walk_at "rd"
        refine rd_dec (fun h1 => ?_) fun h1 => ?_
        · walk_at "rd"
          refine rd_ixTn 0 (ex3.at (ex02.at (e2 i hi))) rfl rfl ?_
          exact hP _ _ (if_pos (by rw [rel_ne.mp h1]; rfl)) Ex.rfl'
        · exact hN (if_neg fun z => h1 (rel_ne.mpr (by simpa using z))) _ Ex.rfl'
      · rw [filterMap_if (fun i => !W.q i) (fun i => V.ref (np i))] at eL0
        walk_at "rd"
        have len0 : ((List.range W.m).filter fun i => !W.q i).length ≤ W.m := Nat.le_trans (List.length_filter_le _ _) (by rw [List.length_range]; exact Nat.le_refl _)
        refine while_g (fun σ H5 => ∃ (tot : Nat → Int) (T : Addr), (Wid W tot ∧ (∀ k, k < W.n → (tot k).natAbs < 2 ^ 500) ∧ Ex H H5 ∧ H5 T = some (.tup (vl W.n tot))) ∧ ∃ o3 o4 o5 o6 o7 o8 o9 o10 o11 o12 o13 o14, σ = [some (.ref r), some (.int W.n), some (.ref T), o3, o4, o5, o6, o7, o8, o9, o10, o11, o12, o13, o14]) (fun σ H5 hG => ?_)
          (fun mm σ H5 => ∃ (tot : Nat → Int) (idx : List Nat) (T L : Addr), (mm = idx.length ∧ WLoop W tot idx ∧ idx.length ≤ W.m ∧ (∀ k, k < W.n → (tot k).natAbs ≤ (W.m - idx.length) * 2 ^ 400) ∧ Ex H H5 ∧ H5 T = some (.tup (vl W.n tot)) ∧ H5 L = some (.lst (idx.map fun i => .ref (np i)))) ∧ ∃ o4 o5 o6 o7 o8 o9 o10 o11 o12 o13 o14, σ = [some (.ref r), some (.int W.n), some (.ref T), some (.ref L), o4, o5, o6, o7, o8, o9, o10, o11, o12, o13, o14])
          _ ⟨_, _, T0, L0, ⟨rfl, wl0, len0, fun k hk => Nat.zero_le _, Xt.trans ex02 ex3, ex3.at eT0, eL0⟩, _, _, _, _, _, _, _, _, _, _, _, rfl⟩ fun mm σ H5 hW tz hk => ?_
        · obtain ⟨tot, T, ⟨hw, hb, ex5, eT⟩, o3, o4, o5, o6, o7, o8, o9, o10, o11, o12, o13, o14, rfl⟩ := hG
          walk_at "rd"
          refine rd_lenTt (ex5.at e1) ?_
          walk_at "rd"
          refine rd_rg1 W.m rfl (by omega) (lc_some wkR (fun i => if decide (dt W.n (W.R i) tot = 0) = true then some (.int (i : Nat)) else none) (by omega) (fun _ _ => trivial) (fun i x H6 H7 hi ex6 y Pp N hP hN => ?_) fun D H6 nD ex6 eD => ?_)
          · obtain ⟨rfl, exx⟩ := y
            obtain rfl : x = .int (i : Int) := by rw [exx]; exact congrArg V.int (by omega)
            walk_at "rd"
            refine ⟨rfl, ?_⟩
            walk_at "rd"
            have ex06 := Xt.trans ex5 ex6
            refine rd_ixTt i (Ex.at ex06 e1) rfl hi ?_
            walk_at "rd"
            refine rd_ixTn 0 (Ex.at ex06 (e2 i hi)) rfl rfl ?_
            walk_at "rd"
            refine ⟨np i, T, W.n, W.R i, tot, rfl, Ex.at ex06 (e3 i hi), ex6.at eT, by omega, fun j hj => mulok_big (hRb i hi j hj) (p4000 (hb j hj)), fun H8 ex8 => ?_⟩
            walk_at "rd"
            refine rd_dec (fun h1 => ?_) fun h1 => ?_
            · walk_at "rd"
              exact hP _ _ (if_pos (decide_eq_true h1)) ex8
            · exact hN (if_neg (by rw [decide_eq_false h1]; decide)) _ ex8
          · rw [filterMap_if (fun i => decide (dt W.n (W.R i) tot = 0)) (fun i => V.int (i : Nat))] at eD
            walk_at "rd"
            refine rd_tupL eD fun Tt H7 nTt ex7 eTt => ?_
            walk_at "rd"
            refine new_tup (sz (show 2 ≤ 100000 by decide)) fun t H8 nt ex8 et => ?_
            exact k t tot H8 (Xt.trans ex5 (Xt.trans ex6 (Xt.trans ex7 ex8))) ⟨T, Tt, et, ex8.at (ex7.at (ex6.at eT)), ex8.at eTt, hw, hb⟩
        · obtain ⟨tot, idx, T, L, ⟨rfl, hw, hlen, hb, ex5, eT, eL⟩, o4, o5, o6, o7, o8, o9, o10, o11, o12, o13, o14, rfl⟩ := hW
          have hb5 : ∀ k, k < W.n → (tot k).natAbs < 2 ^ 500 := fun k hk => Nat.lt_of_le_of_lt (hb k hk) (Nat.lt_of_le_of_lt (Nat.mul_le_mul_right _ (show W.m - idx.length ≤ 20 by omega)) (by decide +kernel))
          walk_at "rd"
          refine rd_lenL eL ?_
          walk_at "rd"
          rw [List.length_map]
          refine rd_dec (fun hlt => ?_) fun hge => ?_
          · refine while_in2 ?_
            walk_at "rd"
            refine rd_rg1 W.n rfl (by omega) (lc_pure wkR (fun c => .int (sI idx fun i => W.R i c)) (by omega) (fun _ _ => trivial) (fun c x H6 H7 hc ex6 y Pp hP => ?_) fun D H6 nD ex6 eD => ?_)
            · obtain ⟨rfl, exx⟩ := y
              obtain rfl : x = .int (c : Int) := by rw [exx]; exact congrArg V.int (by omega)
              walk_at "rd"
              refine ⟨rfl, ?_⟩
              walk_at "rd"
              refine rd_itL (ex6.at eL) (lc_pure wkL (fun j => .int (W.R (idx.getD j 0) c)) (by rw [List.length_map]; omega) (fun H' e => e.at (ex6.at eL)) (fun j x H8 H9 hj ex8 y Pp2 hP2 => ?_) fun D2 H8 nD2 ex8 eD2 => ?_)
              · obtain ⟨rfl, hx⟩ := y
                rw [List.length_map] at hj
                rw [List.getElem?_map, List.getElem?_eq_getElem hj] at hx
                have eg : idx.getD j 0 = idx[j] := by rw [List.getD_eq_getElem?_getD, List.getElem?_eq_getElem hj]; rfl
                obtain rfl : V.ref (np idx[j]) = x := by cases hx; rfl
                have hij := (hw.mem idx[j] (List.getElem_mem hj)).1
                walk_at "rd"
                refine ⟨rfl, ?_⟩
                walk_at "rd"
                refine rd_ixTt c (ex8.at (ex6.at (ex5.at (e3 _ hij)))) rfl hc ?_
                rw [← eg]
                exact hP2 _ Ex.rfl'
              · walk_at "rd"
                rw [List.length_map] at eD2
                have e9 : (List.range idx.length).map (fun j => V.int (W.R (idx.getD j 0) c)) = (idx.map fun i => W.R i c).map V.int := by rw [map_getD 0 (fun i => V.int (W.R i c)), List.map_map]; rfl
                rw [e9] at eD2
                refine rd_sum eD2 ?_
                exact hP H8 ex8
            · walk_at "rd"
              refine rd_tupL eD fun am H7 nam ex7 eam => ?_
              walk_at "rd"
              have ex07 : Ex H H7 := Xt.trans ex5 (Xt.trans ex6 ex7)
              have fle : (fallW W fun c => sI idx fun i => W.R i c).le (20 * B0) := by
                refine ⟨by have := hle.1; omega, fun i hi => ?_, fun i hi j hj => ?_⟩
                · show (if i < W.m then (0 : Int) else -1).natAbs ≤ _
                  have := hle.1
                  split <;> omega
                · show ((if i < W.m then W.R i else fun c => sI idx fun i => W.R i c) j).natAbs ≤ _
                  by_cases h : i < W.m
                  · rw [if_pos h]; have := hle.2.2 i h j hj; omega
                  · rw [if_neg h]
                    exact Nat.le_trans (sI_abs fun a ha => hle.2.2 a (hw.mem a ha).1 j hj) (Nat.mul_le_mul_right _ (by omega))
              refine ⟨r, am, W, _, 20 * B0, rfl, hR.ex ex07, eam, fle, hbd, hn, by omega, fun t H8 ex8 hF => ?_⟩
              have ex58 := Xt.trans ex6 (Xt.trans ex7 ex8)
              have ex08 : Ex H H8 := Xt.trans ex07 ex8
              rcases hF with ⟨za, z, et, ez, hcz, hneg, hzb⟩ | ⟨ca, et, hcl⟩
              · refine rd_gpair et ?_
                walk_at "rd"
                refine rd_eq rfl ?_
                walk_at "rd"
                refine rd_dec (fun y => absurd y (by decide)) fun _ => ?_
                walk_at "rd"
                refine rd_zpA (Ex.at ex58 eT) ez (lc_pure wkZT (fun j => .int (tot j + z j)) (by omega) (fun H' e => ⟨e.at (Ex.at ex58 eT), e.at ez⟩) (fun j x H9 H10 hj ex9 y Pp hP => ?_) fun D3 H9 nD3 ex9 eD3 => ?_)
                · obtain ⟨T4, x1, x2, rfl, nT4, rfl, f1, f2⟩ := y
                  cases f1; cases f2
                  refine rd_gpair upd_same ?_
                  walk_at "rd"
                  refine ⟨rfl, ?_⟩
                  walk_at "rd"
                  exact hP _ (ex_new nT4)
                · walk_at "rd"
                  refine rd_tupL eD3 fun T2 H10 nT2 ex10 eT2 => ?_
                  walk_at "rd"
                  have ex810 : Ex H8 H10 := Xt.trans ex9 ex10
                  have ex510 := Xt.trans ex58 ex810
                  have eL10 := Ex.at ex510 eL
                  refine rd_itL eL10 (lc_some wkL (fun j => if decide (dt W.n (W.R (idx.getD j 0)) z = 0) = true then some (.ref (np (idx.getD j 0))) else none) (by rw [List.length_map]; omega) (fun H' e => e.at eL10) (fun j x H11 H12 hj ex11 y Pp N hP hN => ?_) fun L2 H11 nL2 ex11 eL2 => ?_)
                  · obtain ⟨rfl, hx⟩ := y
                    rw [List.length_map] at hj
                    rw [List.getElem?_map, List.getElem?_eq_getElem hj] at hx
                    have eg : idx.getD j 0 = idx[j] := by rw [List.getD_eq_getElem?_getD, List.getElem?_eq_getElem hj]; rfl
                    obtain rfl : V.ref (np idx[j]) = x := by cases hx; rfl
                    have hij := (hw.mem idx[j] (List.getElem_mem hj)).1
                    rw [eg] at hP hN
                    walk_at "rd"
                    refine ⟨rfl, ?_⟩
                    walk_at "rd"
                    refine ⟨np idx[j], za, W.n, W.R idx[j], z, rfl, ex11.at (Ex.at ex810 (Ex.at ex08 (e3 _ hij))), ex11.at (Ex.at ex810 ez), by omega, fun q hq => mulok_big (hRb _ hij q hq) (lt4 (hzb q hq)), fun H13 ex13 => ?_⟩
                    walk_at "rd"
                    refine rd_dec (fun h1 => ?_) fun h1 => ?_
                    · walk_at "rd"
                      exact hP _ _ (if_pos (decide_eq_true h1)) ex13
                    · exact hN (if_neg (by rw [decide_eq_false h1]; decide)) _ ex13
                  · rw [List.length_map, filt_getD (fun i => decide (dt W.n (W.R i) z = 0)) (fun i => V.ref (np i))] at eL2
                    walk_at "rd"
                    have less := idx_less hcz (fun i hi => (hw.mem i hi).1) hneg
                    refine ⟨_, less, _, _, T2, L2, ⟨rfl, hw.next hcz, by omega, fun q hq => ?_, Xt.trans ex5 (Xt.trans ex510 ex11), ex11.at eT2, eL2⟩, _, _, _, _, _, _, _, _, _, _, _, rfl⟩
                    have h1 := hb q hq
                    have h2 := hzb q hq
                    have h3 : (W.m - idx.length + 1) * 2 ^ 400 ≤ (W.m - (idx.filter fun i => decide (dt W.n (W.R i) z = 0)).length) * 2 ^ 400 := Nat.mul_le_mul_right _ (by omega)
                    rw [Nat.add_mul, Nat.one_mul] at h3
                    show (tot q + z q).natAbs ≤ _
                    generalize (2 : Nat) ^ 400 = M at *
                    omega
              · refine rd_gpair et ?_
                walk_at "rd"
                refine rd_eq rfl ?_
                walk_at "rd"
                refine rd_dec (fun _ => ?_) fun y => absurd rfl y
                walk_at "rd"
                exact hk _ _ ⟨tot, T, ⟨hw.clash hcl, hb5, ex08, Ex.at ex58 eT⟩, _, _, _, _, _, _, _, _, _, _, _, _, rfl⟩
          · have hz : idx = [] := List.length_eq_zero_iff.mp (by omega)
            subst hz
            exact hk _ _ ⟨tot, T, ⟨hw.done (fun i hi => by cases hi), hb5, ex5, eT⟩, _, _, _, _, _, _, _, _, _, _, _, _, rfl⟩
/-! ### widest_direction, meet -/
theorem rw_good {H : Hp} {r : Addr} {W : Rws} (h : RwT H r W) (hn : W.n ≤ 1000) : ∃ xs, H r = some (.tup xs) ∧ xs.length = W.m ∧ ∀ (k : Nat) (x : V), xs[k]? = some x → RowV H W.n x true := by
  obtain ⟨rp, np, e1, e2, e3⟩ := h
  refine ⟨_, e1, tab_len, fun k x hk => ?_⟩
  obtain ⟨hk', rfl⟩ := tab_at hk
  exact .inr (.inr ⟨rp k, _, _, _, rfl, e2 k hk', .inr ⟨true, vec_good (e3 k hk') hn, .inl ⟨_, rfl, rfl⟩, .inl ⟨_, rfl⟩, rfl⟩⟩)
abbrev s_widest_direction : Stmt := topS 22
theorem sc_widest_direction : FnScope ["rows", "many"] ["rows", "many"] (defScope s_widest_direction) := ⟨rfl, rfl, rfl, by decide +kernel, rfl, by decide +kernel, by decide +kernel⟩
def sp_widest_direction (C : Addr) : Sp := fun vs H Q E => (∃ (r : Addr) (W : Rws) (B : Nat), vs = [.ref r, .int W.n] ∧ RwT H r W ∧ Rb W B ∧ ∀ t tot H', Ex H H' → WAns H' t W tot → Q (.ref t) H') ∨
  ∃ (a : Addr) (n at_ : Nat) (xs : List V), vs = [.ref a, .int n] ∧ H a = some (.tup xs) ∧ xs.length ≤ 1000 ∧ BadAt H n xs at_ ∧ ∀ d H', Ex H H' → H' d = some (.xd [("row", .int at_)]) → E (.ref C) (some d) H'
theorem ok_widest_direction {f C0 : Addr} {fd : FuncData} (F : Fun K "widest_direction" "widest_direction" s_widest_direction f fd) (B : Bi mg) (C_ask_rows : Cl P w K mg base (L2.CX P w) 45 "ask_rows" ["rows", "many"] (sp_ask_rows C0)) (C_widest : Cl P w K mg base CX0 47 "widest" ["rows", "many"] sp_widest) :
    FnOk P w K mg base (L2.CX P w) 49 f fd ["rows", "many"] (sp_widest_direction C0) := by
  refine F.okX sc_widest_direction (fun vs H Q E h => ?_) (fun cdv A outer s0 H vs Q E hr h => ?_)
  · rcases h with ⟨r, W, B, rfl, _⟩ | ⟨a, n, t, xs, rfl, _⟩ <;> rfl
  · have nd := sc_widest_direction.nd
    refine ⟨_, (pss_cons (ps_expr (pe_y C_ask_rows hr (by decide) (passes_call (takes_of rfl rfl rfl rfl) (fun _ _ _ _ h => h)) (by rfl) (pa_cons (pv 0) (pa_cons (pv 1) pa_nil))))
      (pss_one (ps_ret (pe_y C_widest hr (by decide) pass0 (by rfl) (pa_cons (pv 0) (pa_cons (pv 1) pa_nil)))))), ?_⟩
    rcases h with ⟨r, W, Bd, rfl, hR, hB, k⟩ | ⟨a, n, at_, xs, rfl, ha, hx, hb, k⟩
    · obtain ⟨xs, ea, el, hg⟩ := rw_good hR hB.2.2.2.1
      have hm := hB.2.2.2.2
      walk_at "rd"
      refine ⟨r, W.n, xs, rfl, ea, by omega, .inl ⟨hg, fun H1 e1 => ?_⟩⟩
      walk_at "rd"
      exact ⟨r, W, Bd, rfl, hR.ex e1, hB, fun t tot H2 e2 ha => k t tot H2 (Xt.trans e1 e2) ha⟩
    · walk_at "rd"
      refine ⟨a, n, xs, rfl, ha, hx, .inr ⟨at_, hb, k⟩⟩
abbrev s_meet : Stmt := topS 17
theorem sc_meet : FnScope ["rows", "many"] ["rows", "many"] (defScope s_meet) := ⟨rfl, rfl, rfl, by decide +kernel, rfl, by decide +kernel, by decide +kernel⟩
def sp_meet (C : Addr) : Sp := fun vs H Q E => ∃ (r : Addr) (W : Rws) (B : Nat), vs = [.ref r, .int W.n] ∧ RwT H r W ∧ W.le B ∧ bdd (W.n + 1) B < 2 ^ 400 ∧ W.n ≤ 1000 ∧ W.m ≤ 1000 ∧ ∀ q H', Ex H H' → Ans H' q W → Q (.ref q) H'
theorem ok_meet {f C0 : Addr} {fd : FuncData} (F : Fun K "meet" "meet" s_meet f fd) (B : Bi mg) (C_ask_rows : Cl P w K mg base (L2.CX P w) 45 "ask_rows" ["rows", "many"] (sp_ask_rows C0)) (C_solved : Cl P w K mg base CX0 43 "solved" ["rows", "many"] sp_solved) :
    FnOk P w K mg base (L2.CX P w) 47 f fd ["rows", "many"] (sp_meet C0) := by
  refine F.okX sc_meet (fun vs H Q E h => ?_) (fun cdv A outer s0 H vs Q E hr h => ?_)
  · obtain ⟨r, W, B, rfl, _⟩ := h; rfl
  · have nd := sc_meet.nd
    refine ⟨_, (pss_cons (ps_expr (pe_y C_ask_rows hr (by decide) (passes_call (takes_of rfl rfl rfl rfl) (fun _ _ _ _ h => h)) (by rfl) (pa_cons (pv 0) (pa_cons (pv 1) pa_nil))))
      (pss_one (ps_ret (pe_y C_solved hr (by decide) pass0 (by rfl) (pa_cons (pv 0) (pa_cons (pv 1) pa_nil)))))), ?_⟩
    obtain ⟨r, W, Bd, rfl, hR, hle, hbd, hn, hm, k⟩ := h
    obtain ⟨xs, ea, el, hg⟩ := rw_good hR hn
    walk_at "rd"
    refine ⟨r, W.n, xs, rfl, ea, by omega, .inl ⟨hg, fun H1 e1 => ?_⟩⟩
    walk_at "rd"
    exact ⟨r, W, Bd, rfl, (hR.ex e1).any, hle, hbd, hn, hm, fun q H2 e2 ha => k q H2 (Xt.trans e1 e2) ha⟩
end
end Sx
/-! the law's own small functions -/
namespace Sx
open PySem PySem.Spec PyProof.Rows L2 Y
local macro_rules | `(tactic| walk_at "rd1") => `(tactic| first
  | with_reducible refine rd_var rfl ?_
  | with_reducible refine rd_op ?_
  | with_reducible refine rd_c ?_
  | with_reducible refine rd_I0 ?_
  | with_reducible refine rd_seq ?_
  | ((with_reducible refine rd_I ?_ ?_); focus (first | exact mulok_r (by decide) (by decide) | exact mulok_l (by decide) (by decide) | (show _ ≠ _; decide) | (show _ ∧ _; decide)))
  | with_reducible refine rd_asg ?_
  | with_reducible refine rd_name ?_
  | with_reducible refine rd_cb ?_
  | with_reducible refine rd_cons ?_
  | with_reducible refine rd_nil ?_
  | with_reducible refine rd_int ?_
  | with_reducible refine rd_eqI ?_
  | with_reducible refine rd_neI ?_
  | with_reducible refine rd_bl ?_
  | with_reducible refine rd_test ?_
  | with_reducible refine rd_tB ?_
  | with_reducible refine rd_ifS ?_
  | with_reducible refine rd_next ?_
  | with_reducible refine rd_T ?_
  | with_reducible refine rd_F ?_
  | with_reducible refine rd_nT ?_
  | with_reducible refine rd_nF ?_
  | with_reducible refine rd_blV ?_
  | with_reducible refine rd_ret ?_
  | with_reducible refine rd_call ?_
  | with_reducible refine rd_drop ?_
  | with_reducible refine rd_not ?_
  | with_reducible refine rd_and ?_
  | with_reducible refine rd_or ?_
  | with_reducible refine rd_un ?_
  | with_reducible refine rd_U ?_
  | with_reducible refine rd_tup ?_
  | with_reducible refine rd_lst ?_
  | with_reducible refine rd_if ?_
  | with_reducible refine rd_andV ?_
  | with_reducible refine rd_orV ?_
  | with_reducible refine rd_notV ?_
  | with_reducible refine rd_sl ?_
  | with_reducible refine rd_nopart ?_
  | with_reducible refine rd_part ?_
  | with_reducible refine rd_iv ?_
  | with_reducible refine rd_bm ?_
  | with_reducible refine rd_abs ?_
  | with_reducible refine rd_intb ?_
  | with_reducible refine rd_mx2 ?_
  | with_reducible refine rd_mn2 ?_
  | with_reducible refine rd_sub ?_
  | with_reducible refine rd_lc ?_
  | with_reducible refine rd_for ?_
  | with_reducible refine rd_iL ?_
  | with_reducible refine rd_iT ?_
  | with_reducible refine rd_r1 ?_
  | with_reducible refine rd_r2 ?_
  | with_reducible refine rd_iZ ?_
  | with_reducible refine rd_iZM ?_
  | with_reducible refine rd_while ?_
  | with_reducible refine rd_tru ?_
  | with_reducible refine rd_brk ?_
  | with_reducible refine rd_iA ?_
  | with_reducible refine rd_iZA ?_
  | with_reducible refine rd_par ?_
  | with_reducible refine rd_par2 ?_
  | with_reducible refine rd_bits ?_
  | with_reducible refine rd_callS ?_)
local macro_rules | `(tactic| walk_at "rd") => `(tactic| repeat walk_at "rd1")

theorem fm_lo {i j : Int} (h : 0 < j) : 0 ≤ i.fmod j := Int.fmod_nonneg_of_pos i h
theorem fm_hi {i j : Int} (h : 0 < j) : i.fmod j < j := Int.fmod_lt_of_pos i h
section
variable {P : Program} {w : World} {K : PySem.W.Frag} {mg : Str → Option Value} {base : Heap}
/-! ### _law_mixed -/
abbrev s__law_mixed : Stmt := topS 24
theorem sc__law_mixed : FnScope ["seed", "turn", "first", "second"] ["seed", "turn"] (defScope s__law_mixed) := ⟨rfl, rfl, rfl, by decide +kernel, rfl, by decide +kernel, by decide +kernel⟩
def sp__law_mixed : Sp := fun vs H Q _ => ∃ i j : Int, vs = [.int i, .int j] ∧ ∀ r, Q (.int r) H
theorem ok__law_mixed {f : Addr} {fd : FuncData} (F : Fun K "_law_mixed" "_law_mixed" s__law_mixed f fd) (B : Bi mg) : FnOk P w K mg base CX0 41 f fd ["seed", "turn"] sp__law_mixed := by
  refine F.ok sc__law_mixed (fun vs H Q E h => ?_) (fun cdv A outer s H vs Q E hr h => ?_)
  · obtain ⟨i, j, rfl, _⟩ := h; rfl
  · obtain ⟨i, j, rfl, k⟩ := h
    have nd := sc__law_mixed.nd
    refine ⟨_, (pss_cons (ps_set (i := 2) nd rfl (.inl rfl) (pe_op op_modN (pe_callTy cr_int (by rfl) B.int b_int (pa_cons (pe_op op_add (pe_op op_add (pe_op op_mulB (pv 0) pe_int) (pe_op op_mulB (pv 1) pe_int)) pe_int) pa_nil)) pe_int))
      (pss_cons (ps_set (i := 3) nd rfl (.inl rfl) (pe_op op_modN (pe_callTy cr_int (by rfl) B.int b_int (pa_cons (pe_op op_add (pe_op op_add (pe_op op_mulB (pv 2) (pv 2)) (pe_op op_mulB (pv 1) pe_int)) (pe_op op_mulB (pv 0) pe_int)) pa_nil)) pe_int))
      (pss_one (ps_ret (pe_op op_modN (pe_callTy cr_int (by rfl) B.int b_int (pa_cons (pe_op op_add (pe_op op_mulB (pe_op op_fdivN (pv 3) pe_int) pe_int) (pe_op op_fdivN (pv 2) pe_int)) pa_nil)) pe_int))))), ?_⟩
    walk_at "rd"
    have h1 := fm_lo (i := i * 48271 + j * 69621 + 7919) (j := 2147483647) (by decide)
    have h2 := fm_hi (i := i * 48271 + j * 69621 + 7919) (j := 2147483647) (by decide)
    refine rd_I (mulok_r (by omega) (by omega)) ?_
    walk_at "rd"
    exact k _
/-! ### _law_box -/
/-- the box at b: two lists of numbers, two counts -/
def Bx (H : Hp) (b s g : Addr) : Prop := b ≠ g ∧ s ≠ b ∧ s ≠ g ∧ ∃ (ss gs : List Int) (i j : Int), H b = some (.lst [.ref s, .ref g, .int i, .int j]) ∧ H s = some (.lst (ss.map V.int)) ∧ ss ≠ [] ∧ ss.length ≤ 1000 ∧ H g = some (.lst (gs.map V.int))
theorem Bx.ex {H H' : Hp} {b s g : Addr} (x : Bx H b s g) (e : Ex H H') : Bx H' b s g := by
  obtain ⟨h1, h2, h3, ss, gs, i, j, e1, e2, e3, e4, e5⟩ := x
  exact ⟨h1, h2, h3, ss, gs, i, j, e.at e1, e.at e2, e3, e4, e.at e5⟩
abbrev s__law_box : Stmt := topS 25
theorem sc__law_box : FnScope ["script", "cells", "great", "small", "cell"] ["script"] (defScope s__law_box) := ⟨rfl, rfl, rfl, by decide +kernel, rfl, by decide +kernel, by decide +kernel⟩
def sp__law_box : Sp := fun vs H Q _ => ∃ (a : Addr) (ns : List Int), vs = [.ref a] ∧ SqL K H a (ns.map V.int) ∧ ∀ b s g H', H b = none → H g = none → Ex H H' → Bx H' b s g → Q (.ref b) H'
theorem ok__law_box {f : Addr} {fd : FuncData} (F : Fun K "_law_box" "_law_box" s__law_box f fd) (B : Bi mg) : FnOk P w K mg base CX0 41 f fd ["script"] (sp__law_box (K := K)) := by
  refine F.ok sc__law_box (fun vs H Q E h => ?_) (fun cdv A outer s0 H vs Q E hr h => ?_)
  · obtain ⟨a, ns, rfl, _⟩ := h; rfl
  · obtain ⟨a, ns, rfl, ha, k⟩ := h
    have nd := sc__law_box.nd
    refine ⟨_, (pss_cons (ps_setLc (i := 1) (own := [("cell", 4)]) rfl nd rfl rfl (sw_true rfl rfl rfl (by decide +kernel)) (pi_list (pe_slice sl_list (pv 0) po_none (po_some pe_int))) (blkOk_by (by rfl)) (fun _ _ _ _ _ => (pg_name (i := 4) nd rfl (by first | exact .inl rfl | exact .inr rfl))) (fun _ _ _ _ _ => pts_nil) (fun _ _ _ _ _ => (pe_callB cr_abs (by rfl) B.abs b_abs (pa_cons (pe_callTy cr_int (by rfl) B.int b_int (pa_cons (pv 4) pa_nil)) pa_nil))))
      (pss_cons (ps_setLc (i := 2) (own := [("cell", 4)]) rfl nd rfl rfl (sw_true rfl rfl rfl (by decide +kernel)) (pi_list (pv 1)) (blkOk_by (by rfl)) (fun _ _ _ _ _ => (pg_name (i := 4) nd rfl (by first | exact .inl rfl | exact .inr rfl))) (fun _ _ _ _ _ => (pts_one (pt_cmpR op_ge (pv 4) (pe_op op_pow pe_int pe_int) (nomark _)))) (fun _ _ _ _ _ => (pv 4)))
      (pss_cons (ps_setLc (i := 3) (own := [("cell", 4)]) rfl nd rfl rfl (sw_true rfl rfl rfl (by decide +kernel)) (pi_list (pv 1)) (blkOk_by (by rfl)) (fun _ _ _ _ _ => (pg_name (i := 4) nd rfl (by first | exact .inl rfl | exact .inr rfl))) (fun _ _ _ _ _ => pts_nil) (fun _ _ _ _ _ => (pe_op op_modN (pe_callTy cr_int (by rfl) B.int b_int (pa_cons (pv 4) pa_nil)) pe_int)))
      (pss_cons (ps_if (pt_not (pt_tru (pv 3) (by intro _; rfl)))
        (pss_one (ps_set (i := 3) nd rfl (.inl rfl) (pe_lst (pa_cons pe_int pa_nil))))
        pss_nil)
      (pss_one (ps_ret (pe_lst (pa_cons (pv 3) (pa_cons (pv 2) (pa_cons pe_int (pa_cons pe_int pa_nil))))))))))), ?_⟩
    walk_at "rd"
    refine ⟨a, _, rfl, ha, fun l0 nl0 => ?_⟩
    have el0 : upd H l0 (.lst (cutV (ns.map V.int) none (some 63))) l0 = some (.lst (cutV (ns.map V.int) none (some 63))) := upd_same
    have x0 : Ex H (upd H l0 (.lst (cutV (ns.map V.int) none (some 63)))) := ex_new nl0
    have hcut : ∃ ms : List Int, cutV (ns.map V.int) none (some 63) = ms.map V.int ∧ ms.length ≤ 63 := by
      refine ⟨ns.take 63, ?_, by rw [List.length_take]; omega⟩
      unfold cutV
      have e0 : HT.sIx (ns.map V.int).length 0 none = 0 := rfl
      rw [e0, List.drop_zero, List.map_take]
      have e1 : HT.sIx (ns.map V.int).length (ns.map V.int).length (some 63) = min 63 (ns.map V.int).length := by
        unfold HT.sIx
        dsimp only
        first | omega | (split <;> omega) | trace_state
      rw [e1, Nat.sub_zero]
      by_cases h : 63 ≤ (ns.map V.int).length
      · rw [Nat.min_eq_left h]
      · rw [Nat.min_eq_right (by omega), List.take_of_length_le (Nat.le_refl _), List.take_of_length_le (by omega)]
    obtain ⟨ms, hms, hml⟩ := hcut
    rw [hms] at el0 x0 ⊢
    generalize upd H l0 (HO.lst (ms.map V.int)) = H1 at el0 x0 ⊢
    refine rd_itL el0 (lc_pure wkL (fun i => .int ((ms.getD i 0).natAbs : Int)) (by rw [List.length_map]; omega) (fun H' e => e.at el0) (fun i x H2 H3 hi e2 yy Pp hP => ?_) fun D H2 nD e2 eD => ?_)
    · obtain ⟨rfl, hx⟩ := yy
      rw [List.getElem?_map] at hx
      have hi' : i < ms.length := by rw [List.length_map] at hi; exact hi
      rw [List.getElem?_eq_getElem hi'] at hx
      obtain rfl : V.int ms[i] = x := by cases hx; rfl
      walk_at "rd"
      refine ⟨rfl, ?_⟩
      walk_at "rd"
      have q := hP H3 Ex.rfl'
      rw [List.getD_eq_getElem?_getD, List.getElem?_eq_getElem hi'] at q
      have e3 : (if ms[i] < 0 then -ms[i] else ms[i]) = ((ms[i]).natAbs : Int) := by split <;> omega
      rw [e3]
      exact q
    · rw [List.length_map] at eD
      walk_at "rd"
      refine rd_itL eD (lc_some wkLt (fun i => if decide ((10 : Int) ^ (18 : Int).toNat ≤ ((ms.getD i 0).natAbs : Int)) = true then some (.int ((ms.getD i 0).natAbs : Int)) else none) (by omega) (fun H' e => e.at eD) (fun i x H3 H4 hi e3 yy Pp Np hP hN => ?_) fun G H3 nG e3 eG => ?_)
      · obtain ⟨rfl, rfl⟩ := yy
        walk_at "rd"
        refine ⟨rfl, ?_⟩
        walk_at "rd"
        refine rd_dec (fun hc => ?_) fun hc => ?_
        · walk_at "rd"
          exact hP _ _ (if_pos (decide_eq_true hc)) Ex.rfl'
        · exact hN (if_neg (by rw [decide_eq_false hc]; decide)) _ Ex.rfl'
      · walk_at "rd"
        have hgs : ∃ gs : List Int, (List.range ms.length).filterMap (fun i => if decide ((10 : Int) ^ (18 : Int).toNat ≤ ((ms.getD i 0).natAbs : Int)) = true then some (V.int ((ms.getD i 0).natAbs : Int)) else none) = gs.map V.int := by
          refine ⟨(List.range ms.length).filterMap (fun i => if decide ((10 : Int) ^ (18 : Int).toNat ≤ ((ms.getD i 0).natAbs : Int)) = true then some ((ms.getD i 0).natAbs : Int) else none), ?_⟩
          rw [List.map_filterMap]
          refine congrArg (fun f => List.filterMap f _) (funext fun i => ?_)
          split <;> rfl
        obtain ⟨gs, hgs⟩ := hgs
        rw [hgs] at eG
        refine rd_itL (e3.at eD) (lc_pure wkLt (fun i => .int (((ms.getD i 0).natAbs : Int).fmod 2147483629)) (by omega) (fun H' e => e.at (e3.at eD)) (fun i x H4 H5 hi e4 yy Pp hP => ?_) fun S H4 nS e4 eS => ?_)
        · obtain ⟨rfl, rfl⟩ := yy
          walk_at "rd"
          refine ⟨rfl, ?_⟩
          walk_at "rd"
          exact hP _ Ex.rfl'
        · walk_at "rd"
          have SG : S ≠ G := fun z => (by rw [z, eG] at nS; cases nS)
          have e04 : Ex H H4 := Xt.trans x0 (Xt.trans e2 (Xt.trans e3 e4))
          have nGH : H G = none := Ex.back (Xt.trans x0 e2) nG
          cases hm : ms with
          | nil =>
            rw [hm] at eS
            refine rd_tru0 eS ?_
            walk_at "rd"
            refine ⟨sz (show 1 ≤ 100000 by decide), fun S2 nS2 => ?_⟩
            have e5 : Ex H4 (upd H4 S2 (.lst [V.int 0])) := ex_new nS2
            have eS2 : upd H4 S2 (.lst [V.int 0]) S2 = some (.lst [V.int 0]) := upd_same
            generalize upd H4 S2 (HO.lst [V.int 0]) = H5 at e5 eS2 ⊢
            walk_at "rd"
            refine ⟨sz (show 4 ≤ 100000 by decide), fun b nb => ?_⟩
            have e6 : Ex H5 (upd H5 b (.lst [V.ref S2, V.ref G, V.int 0, V.int 0])) := ex_new nb
            have eG5 := e5.at (e4.at eG)
            refine k b S2 G _ (Ex.back (Xt.trans e04 e5) nb) nGH (Xt.trans e04 (Xt.trans e5 e6)) ⟨fun z => (by rw [z, eG5] at nb; cases nb), fun z => (by rw [z] at eS2; rw [eS2] at nb; cases nb), fun z => (by rw [z, e4.at eG] at nS2; cases nS2), [0], gs, 0, 0, upd_same, e6.at eS2, by simp, by simp, e6.at eG5⟩
          | cons m0 mr =>
            rw [hm] at eS
            refine rd_truT eS (by simp) ?_
            walk_at "rd"
            refine ⟨sz (show 4 ≤ 100000 by decide), fun b nb => ?_⟩
            have e6 : Ex H4 (upd H4 b (.lst [V.ref S, V.ref G, V.int 0, V.int 0])) := ex_new nb
            have eG5 := e4.at eG
            have hS : (tab (m0 :: mr).length fun i => V.int ((((m0 :: mr).getD i 0).natAbs : Int).fmod 2147483629)) = ((List.range (m0 :: mr).length).map fun i => ((((m0 :: mr).getD i 0).natAbs : Int).fmod 2147483629)).map V.int := by rw [List.map_map]; rfl
            refine k b S G _ (Ex.back e04 nb) nGH (Xt.trans e04 e6) ⟨fun z => (by rw [z, eG5] at nb; cases nb), fun z => (by rw [z] at eS; rw [eS] at nb; cases nb), SG, _, gs, 0, 0, upd_same, e6.at (eS.trans (congrArg (fun z => some (HO.lst z)) hS)), by simp, by rw [List.length_map, List.length_range, ← hm]; omega, e6.at eG5⟩
/-! ### _law_take -/
abbrev s__law_take : Stmt := topS 26
theorem sc__law_take : FnScope ["box", "size", "small", "great", "digit"] ["box", "size"] (defScope s__law_take) := ⟨rfl, rfl, rfl, by decide +kernel, rfl, by decide +kernel, by decide +kernel⟩
def sp__law_take : Sp := fun vs H Q _ => ∃ (b s g : Addr) (n : Int), vs = [.ref b, .int n] ∧ Bx H b s g ∧ 0 < n ∧ n < 2 ^ 62 ∧ ∀ d H', 0 ≤ d → d < n → Xt [b, g] H H' → Bx H' b s g → Q (.int d) H'
theorem ok__law_take {f : Addr} {fd : FuncData} (F : Fun K "_law_take" "_law_take" s__law_take f fd) (B : Bi mg) (C__law_mixed : Cl P w K mg base CX0 41 "_law_mixed" ["seed", "turn"] sp__law_mixed) : FnOk P w K mg base CX0 43 f fd ["box", "size"] sp__law_take := by
  refine F.ok sc__law_take (fun vs H Q E h => ?_) (fun cdv A outer s0 H vs Q E hr h => ?_)
  · obtain ⟨b, s, g, n, rfl, _⟩ := h; rfl
  · obtain ⟨b, s, g, n, rfl, ⟨bg, sb, sg, ss, gs, c2, c3, eb, es, hs, hsl, eg⟩, n0, n1, k⟩ := h
    have nd := sc__law_take.nd
    refine ⟨_, (pss_cons (ps_set (i := 2) nd rfl (.inl rfl) (pe_ix ix_list (pv 0) pe_int (fun _ _ => rfl)))
      (pss_cons (ps_set (i := 3) nd rfl (.inl rfl) (pe_ix ix_list (pv 0) pe_int (fun _ _ => rfl)))
      (pss_cons (ps_asg (pe_op op_add (pe_ix ix_list (pv 0) pe_int (fun _ _ => rfl)) pe_int) (pg_sub (pv 0) pe_int set_list))
      (pss_cons (ps_if (pt_tru (pv 3) (by intro _; rfl))
        (pss_cons (ps_set (i := 4) nd rfl (.inl rfl) (pe_op op_modN (pe_callTy cr_int (by rfl) B.int b_int (pa_cons (pe_ix ix_list (pv 3) pe_int (fun _ _ => rfl)) pa_nil)) (pv 1)))
        (pss_cons (ps_asg (pe_op op_fdivS (pe_ix ix_list (pv 3) pe_int (fun _ _ => rfl)) (pv 1)) (pg_sub (pv 3) pe_int set_list))
        (pss_cons (ps_asg (pe_op op_add (pe_ix ix_list (pv 0) pe_int (fun _ _ => rfl)) pe_int) (pg_sub (pv 0) pe_int set_list))
        (pss_cons (ps_if (PW.pt (pw_or (pt_cmpR op_eq (pe_ix ix_list (pv 3) pe_int (fun _ _ => rfl)) pe_int (nomark _)) (pw_or1 (pt_cmpR op_eq (pe_ix ix_list (pv 0) pe_int (fun _ _ => rfl)) pe_int (nomark _)))))
          (pss_cons (ps_expr (pe_bm PySem.F.plainAttrs_list PySem.F.slot_list_pop PySem.F.type_list_pop mt_popAt (pv 3) (pa_cons pe_int pa_nil)))
          (pss_one (ps_asg pe_int (pg_sub (pv 0) pe_int set_list))))
          pss_nil)
        (pss_one (ps_ret (pv 4)))))))
        pss_nil)
      (pss_one (ps_ret (pe_op op_modN (pe_callTy cr_int (by rfl) B.int b_int (pa_cons (pe_y C__law_mixed hr (by decide) pass0 (by rfl) (pa_cons (pe_ix ix_list (pv 2) (pe_op op_modN (pe_callTy cr_int (by rfl) B.int b_int (pa_cons (pe_ix ix_list (pv 0) pe_int (fun _ _ => rfl)) pa_nil)) (pe_callB cr_len (by rfl) B.len b_len (pa_cons (pv 2) pa_nil))) (fun _ _ => rfl)) (pa_cons (pe_ix ix_list (pv 0) pe_int (fun _ _ => rfl)) pa_nil))) pa_nil)) (pv 1)))))))), ?_⟩
    walk_at "rd"
    refine rd_ixLn 0 eb rfl rfl ?_
    walk_at "rd"
    refine rd_ixLn 1 eb rfl rfl ?_
    walk_at "rd"
    refine rd_ixLn 2 eb rfl rfl ?_
    walk_at "rd"
    refine rd_setL 2 eb rfl (show 2 < 4 by decide) fun H1 X1 E1 => ?_
    walk_at "rd"
    have eg1 := X1.at eg (by simpa using Ne.symm bg)
    have es1 := X1.at es (by simpa using sb)
    have n9 : n.natAbs.log2 < 9000 := Nat.lt_of_lt_of_le ((Nat.log2_lt (by omega)).mpr (show n.natAbs < 2 ^ 62 by omega)) (by decide)
    cases gs with
    | nil =>
      refine rd_tru0 eg1 ?_
      walk_at "rd"
      refine rd_ixLn 2 E1 rfl rfl ?_
      walk_at "rd"
      refine rd_lenL es1 ?_
      walk_at "rd"
      have sl : 0 < ss.length := List.length_pos_iff.mpr hs
      rw [List.length_map]
      refine rd_I (show (ss.length : Int) ≠ 0 by omega) ?_
      have f1 := fm_lo (i := c2 + 1) (j := ss.length) (by omega)
      have f2 := fm_hi (i := c2 + 1) (j := ss.length) (by omega)
      refine rd_ixLn ((c2 + 1).fmod ss.length).toNat es1 (by omega) (by rw [List.getElem?_map, List.getElem?_eq_getElem (by omega)]; rfl) ?_
      walk_at "rd"
      refine rd_ixLn 2 E1 rfl rfl ?_
      walk_at "rd"
      refine ⟨_, _, rfl, fun r => ?_⟩
      walk_at "rd"
      refine rd_I (show n ≠ 0 by omega) ?_
      exact k _ H1 (fm_lo n0) (fm_hi n0) (X1.sub (by simp)) ⟨bg, sb, sg, ss, [], _, _, E1, es1, hs, hsl, eg1⟩
    | cons x gr =>
      refine rd_tru1 eg1 ?_
      walk_at "rd"
      refine rd_ixLn 0 eg1 rfl rfl ?_
      walk_at "rd"
      refine rd_I (show n ≠ 0 by omega) ?_
      walk_at "rd"
      refine rd_ixLn 0 eg1 rfl rfl ?_
      walk_at "rd"
      refine rd_I (show n ≠ 0 ∧ n.natAbs.log2 < 9000 from ⟨by omega, n9⟩) ?_
      walk_at "rd"
      refine rd_setL 0 eg1 rfl (Nat.succ_pos _) fun H2 X2 E2 => ?_
      walk_at "rd"
      have eb2 := X2.at E1 (by simpa using bg)
      refine rd_ixLn 3 eb2 rfl rfl ?_
      walk_at "rd"
      refine rd_setL 3 eb2 rfl (show 3 < 4 by decide) fun H3 X3 E3 => ?_
      walk_at "rd"
      have eg3 := X3.at E2 (by simpa using Ne.symm bg)
      have es3 := X3.at (X2.at es1 (by simpa using sg)) (by simpa using sb)
      have X03 : Xt [b, g] H H3 := (X1.sub (by simp)).trans ((X2.sub (by simp)).trans (X3.sub (by simp)))
      have done : ∀ H', Xt [b, g] H3 H' → (∃ gs' : List Int, H' g = some (.lst (gs'.map V.int))) → (∃ i j : Int, H' b = some (.lst [.ref s, .ref g, .int i, .int j])) → Q (.int (x.fmod n)) H' := fun H' X' ⟨gs', e1⟩ ⟨i, j, e2⟩ =>
        k _ H' (fm_lo n0) (fm_hi n0) (X03.trans X') ⟨bg, sb, sg, ss, gs', i, j, e2, X'.at es3 (by simp; exact ⟨sb, sg⟩), hs, hsl, e1⟩
      have pop : ∀ H4, H4 = H3 → True := fun _ _ => trivial
      refine rd_ixLn 0 eg3 rfl rfl ?_
      walk_at "rd"
      refine rd_dec (fun h0 => ?_) fun h0 => ?_
      · walk_at "rd"
        refine ⟨tyL eg3, ?_⟩
        walk_at "rd"
        refine rd_popAt eg3 fun H4 X4 E4 => ?_
        walk_at "rd"
        have eb4 := X4.at E3 (by simpa using bg)
        refine rd_setL 3 eb4 rfl (show 3 < 4 by decide) fun H5 X5 E5 => ?_
        walk_at "rd"
        exact done H5 ((X4.sub (by simp)).trans (X5.sub (by simp))) ⟨gr, X5.at E4 (by simpa using Ne.symm bg)⟩ ⟨_, _, E5⟩
      · walk_at "rd"
        refine rd_ixLn 3 E3 rfl rfl ?_
        walk_at "rd"
        refine rd_dec (fun h1 => ?_) fun h1 => ?_
        · walk_at "rd"
          refine ⟨tyL eg3, ?_⟩
          walk_at "rd"
          refine rd_popAt eg3 fun H4 X4 E4 => ?_
          walk_at "rd"
          have eb4 := X4.at E3 (by simpa using bg)
          refine rd_setL 3 eb4 rfl (show 3 < 4 by decide) fun H5 X5 E5 => ?_
          walk_at "rd"
          exact done H5 ((X4.sub (by simp)).trans (X5.sub (by simp))) ⟨gr, X5.at E4 (by simpa using Ne.symm bg)⟩ ⟨_, _, E5⟩
        · walk_at "rd"
          exact done H3 (Xt.refl _) ⟨x.fdiv n :: gr, eg3⟩ ⟨_, _, E3⟩
/-! ### _law_is_integer -/
abbrev s__law_is_integer : Stmt := topS 27
theorem sc__law_is_integer : FnScope ["thing"] ["thing"] (defScope s__law_is_integer) := ⟨rfl, rfl, rfl, by decide +kernel, rfl, by decide +kernel, by decide +kernel⟩
def sp__law_is_integer : Sp := fun vs H Q _ => ∃ x, vs = [x] ∧ Kd H x ∧ Q (.bl (isI x)) H
theorem ok__law_is_integer {f : Addr} {fd : FuncData} (F : Fun K "_law_is_integer" "_law_is_integer" s__law_is_integer f fd) (B : Bi mg) : FnOk P w K mg base CX0 41 f fd ["thing"] sp__law_is_integer := by
  refine F.ok sc__law_is_integer (fun vs H Q E h => ?_) (fun cdv A outer s H vs Q E hr h => ?_)
  · obtain ⟨x, rfl, _⟩ := h; rfl
  · obtain ⟨x, rfl, kd, k⟩ := h
    have nd := sc__law_is_integer.nd
    refine ⟨_, (pss_one (ps_ret (pe_and (pe_callB call_isi (by rfl) B.isinstance b_isinstance (pa_cons (pv 0) (pa_cons (pe_bltn (v := .ty "int") (by rfl) B.int b_int rfl) pa_nil))) (pe_one (pe_not (pe_callB call_isi (by rfl) B.isinstance b_isinstance (pa_cons (pv 0) (pa_cons (pe_bltn (v := .ty "bool") (by rfl) B.bool b_bool rfl) pa_nil)))))))), ?_⟩
    walk_at "rd"
    refine rd_isInt kd (rd_blV ?_)
    rw [isI_eq] at k
    cases hx : isIB x with
    | false => rw [hx] at k; exact iteF k
    | true =>
      rw [hx] at k
      refine iteT ?_
      walk_at "rd"
      exact rd_isBool kd (rd_blV k)
/-! ### _law_integers -/
abbrev s__law_integers : Stmt := topS 28
theorem sc__law_integers : FnScope ["thing", "size", "one"] ["thing", "size"] (defScope s__law_integers) := ⟨rfl, rfl, rfl, by decide +kernel, rfl, by decide +kernel, by decide +kernel⟩
def sp__law_integers : Sp := fun vs H Q _ => ∃ (x : V) (n : Nat) (g : Bool), vs = [x, .int n] ∧ VecV H n x g ∧ ∀ H', Ex H H' → Q (.bl g) H'
theorem ok__law_integers {f : Addr} {fd : FuncData} (F : Fun K "_law_integers" "_law_integers" s__law_integers f fd) (B : Bi mg) (C__law_is_integer : Cl P w K mg base CX0 41 "_law_is_integer" ["thing"] sp__law_is_integer) : FnOk P w K mg base CX0 43 f fd ["thing", "size"] sp__law_integers := by
  refine F.ok sc__law_integers (fun vs H Q E h => ?_) (fun cdv A outer s H vs Q E hr h => ?_)
  · obtain ⟨x, n, g, rfl, _⟩ := h; rfl
  · obtain ⟨x, n, g, rfl, h, k⟩ := h
    have nd := sc__law_integers.nd
    refine ⟨_, (pss_cons (ps_if (PW.pt (pw_or (pt_not (pt_val (pe_callB call_isi (by rfl) B.isinstance b_isinstance (pa_cons (pv 0) (pa_cons (pe_bltn (v := .ty "tuple") (by rfl) B.tuple b_tuple rfl) pa_nil))))) (pw_or1 (pt_cmpR op_ne (pe_callB cr_len (by rfl) B.len b_len (pa_cons (pv 0) pa_nil)) (pv 1) (nomark _)))))
        (pss_one (ps_ret pe_bl))
        pss_nil)
      (pss_cons (ps_for PassesOwn.never rfl (pi_tup (pv 0)) (pg_name (i := 2) nd rfl (.inl rfl))
        (pss_one (ps_if (pt_not (pt_val (pe_y C__law_is_integer hr (by decide) pass0 (by rfl) (pa_cons (pv 2) pa_nil))))
          (pss_one (ps_ret pe_bl))
          pss_nil)))
      (pss_one (ps_ret pe_bl)))), ?_⟩
    walk_at "rd"
    rcases h with ⟨kx, rfl⟩ | ⟨a, xs, rfl, ea, hl, hk, rfl⟩
    · have kd : Kd H x := kx.elim .inl fun z => .inr (.inr (.inl z))
      have nr : isRf x = false := by rcases kx with ⟨i, rfl⟩ | ⟨z, rfl⟩ <;> rfl
      refine rd_isTup kd ?_
      rw [nr]
      walk_at "rd"
      exact k H Ex.rfl'
    · refine rd_isTup (.inr (.inr (.inr ⟨a, _, rfl, ea⟩))) ?_
      show ∃ k, V.bl true = .bl k ∧ _
      walk_at "rd"
      refine rd_lenT ea ?_
      walk_at "rd"
      refine rd_ndec (fun hn => ?_) fun hn => ?_
      · walk_at "rd"
        have e : decide (xs.length = n) = false := decide_eq_false (by omega)
        rw [e] at k
        exact k H Ex.rfl'
      · walk_at "rd"
        have e : decide (xs.length = n) = true := decide_eq_true (by omega)
        rw [e, Bool.true_and] at k
        refine rd_itT ea (for_w wkT (fun i σ H1 => (H1 = H ∧ ∀ (j : Nat) (y : V), j < i → xs[j]? = some y → isI y = true) ∧ ∃ o, σ = [some (.ref a), some (.int n), o]) ⟨⟨rfl, fun j y hj => by omega⟩, _, rfl⟩ (fun i σ H1 _ hP => by rw [hP.1.1]; exact ea) (fun i x σ H1 H2 hi hP y => ?_) fun σ H1 hP => ?_)
        · obtain ⟨⟨rfl, hg⟩, o, rfl⟩ := hP
          obtain ⟨rfl, hy⟩ := y
          walk_at "rd"
          refine ⟨x, rfl, hk x (List.mem_of_getElem? hy), ?_⟩
          cases hx : isI x with
          | false =>
            walk_at "rd"
            have e2 : xs.all isI = false := by
              rw [List.all_eq_false]
              exact ⟨x, List.mem_of_getElem? hy, by rw [hx]; decide⟩
            rw [e2] at k
            exact k _ Ex.rfl'
          | true =>
            walk_at "rd"
            refine ⟨⟨rfl, fun j z hj hz => ?_⟩, _, rfl⟩
            by_cases ji : j = i
            · rw [ji, hy] at hz; cases hz; exact hx
            · exact hg j z (by omega) hz
        · obtain ⟨⟨rfl, hg⟩, o, rfl⟩ := hP
          walk_at "rd"
          have e2 : xs.all isI = true := by
            rw [List.all_eq_true]
            intro y hy
            obtain ⟨j, hj⟩ := List.mem_iff_getElem?.mp hy
            exact hg j y (List.getElem?_eq_some_iff.mp hj).1 hj
          rw [e2] at k
          exact k _ Ex.rfl'
/-! ### _law_product -/
abbrev s__law_product : Stmt := topS 29
theorem sc__law_product : FnScope ["left", "right", "total", "k"] ["left", "right"] (defScope s__law_product) := ⟨rfl, rfl, rfl, by decide +kernel, rfl, by decide +kernel, by decide +kernel⟩
def sp__law_product : Sp := fun vs H Q _ => ∃ (a b : Addr) (n : Nat) (u v : Nat → Int), vs = [.ref a, .ref b] ∧ H a = some (.tup (vl n u)) ∧ SqE H b (vl n v) ∧ n ≤ 1000 ∧ (∀ j, j < n → IntMulOk (u j) (v j)) ∧ Q (.int (dt n u v)) H
theorem ok__law_product {f : Addr} {fd : FuncData} (F : Fun K "_law_product" "_law_product" s__law_product f fd) (B : Bi mg) : FnOk P w K mg base CX0 41 f fd ["left", "right"] sp__law_product := by
  refine F.ok sc__law_product (fun vs H Q E h => ?_) (fun cdv A outer s H vs Q E hr h => ?_)
  · obtain ⟨a, b, n, u, v, rfl, _⟩ := h; rfl
  · obtain ⟨a, b, n, u, v, rfl, ea, eb, hn, hm, k⟩ := h
    have nd := sc__law_product.nd
    refine ⟨_, (pss_cons (ps_set (i := 2) nd rfl (.inl rfl) pe_int)
      (pss_cons (ps_for PassesOwn.never rfl (pi_range1 (by rfl) B.range (pa_cons (pe_callB cr_len (by rfl) B.len b_len (pa_cons (pv 0) pa_nil)) pa_nil)) (pg_name (i := 3) nd rfl (.inl rfl))
        (pss_one (ps_set (i := 2) nd rfl (.inl rfl) (pe_op op_add (pv 2) (pe_op op_mulB (pe_ix ix_tup (pv 0) (pv 3) (fun _ _ => rfl)) (pe_ix ix_any (pv 1) (pv 3) (fun _ _ => rfl)))))))
      (pss_one (ps_ret (pv 2))))), ?_⟩
    walk_at "rd"
    refine rd_lenTt ea ?_
    walk_at "rd"
    refine rd_rg1 n rfl (by omega) (for_w wkR (fun i σ H1 => H1 = H ∧ ∃ o, σ = [some (.ref a), some (.ref b), some (.int (dt i u v)), o]) ⟨rfl, _, rfl⟩ (fun _ _ _ _ _ => trivial) (fun i x σ H1 H2 hi hP y => ?_) fun σ H1 hP => ?_)
    · obtain ⟨rfl, o, rfl⟩ := hP
      obtain ⟨rfl, ex⟩ := y
      obtain rfl : x = .int (i : Int) := by rw [ex]; exact congrArg V.int (by omega)
      walk_at "rd"
      refine rd_ixTt i ea rfl hi ?_
      walk_at "rd"
      refine rd_ixAt i eb rfl hi ?_
      refine rd_I (hm i hi) ?_
      walk_at "rd"
      exact ⟨rfl, _, rfl⟩
    · obtain ⟨rfl, o, rfl⟩ := hP
      walk_at "rd"
      exact k
theorem Bx.keep {H H' : Hp} {b s g : Addr} {S : List Addr} (x : Bx H b s g) (e : Xt S H H') (h1 : b ∉ S) (h2 : s ∉ S) (h3 : g ∉ S) : Bx H' b s g := by
  obtain ⟨q1, q2, q3, ss, gs, i, j, e1, e2, e3, e4, e5⟩ := x
  exact ⟨q1, q2, q3, ss, gs, i, j, e.at e1 h1, e.at e2 h2, e3, e4, e.at e5 h3⟩
theorem Bx.live {H : Hp} {b s g : Addr} (x : Bx H b s g) : H b ≠ none ∧ H s ≠ none ∧ H g ≠ none := by
  obtain ⟨q1, q2, q3, ss, gs, i, j, e1, e2, e3, e4, e5⟩ := x
  rw [e1, e2, e5]; exact ⟨by simp, by simp, by simp⟩
theorem Bx.new {H H1 H2 : Hp} {b s g D : Addr} (x0 : Bx H b s g) (x : Bx H1 b s g) (hD : H D = none) (e : Xt [D] H1 H2) : Bx H2 b s g := by
  obtain ⟨l1, l2, l3⟩ := x0.live
  refine x.keep e ?_ ?_ ?_ <;> · simp; rintro rfl; contradiction
theorem Bx.noT {b s g : Addr} : ∀ H1, Bx H1 b s g → ∀ a ∈ [b, g], ∀ xs, H1 a ≠ some (.tup xs) := fun H1 x a ha xs z => by
  obtain ⟨q1, q2, q3, ss, gs, i, j, e1, e2, e3, e4, e5⟩ := x
  rcases List.mem_cons.mp ha with rfl | ha
  · rw [e1] at z; cases z
  · rw [List.mem_singleton.mp ha, e5] at z; cases z
theorem Bx.bg {H : Hp} {b s g : Addr} (x : Bx H b s g) : ∀ a ∈ [b, g], H a ≠ none := fun a ha => by
  rcases List.mem_cons.mp ha with rfl | ha
  · exact x.live.1
  · rw [List.mem_singleton.mp ha]; exact x.live.2.2
theorem Bx.nin {H : Hp} {b s g D : Addr} (x : Bx H b s g) (h : H D = none) : D ∉ [b, g] := fun z => x.bg D z h
theorem Bx.tin {H : Hp} {b s g D : Addr} {xs : List V} (x : Bx H b s g) (h : H D = some (.tup xs)) : D ∉ [b, g] := fun z => x.noT H D z xs h
/-! ### _law_triple -/
abbrev s__law_triple : Stmt := topS 30
theorem sc__law_triple : FnScope ["box", "many", "wide", "numbers", "relation", "k"] ["box", "many", "wide"] (defScope s__law_triple) := ⟨rfl, rfl, rfl, by decide +kernel, rfl, by decide +kernel, by decide +kernel⟩
/-- what a drawn row is -/
def Trip (H : Hp) (T : Addr) (n wd : Nat) (u : Nat → Int) (q : Bool) (c : Int) : Prop := ∃ a, H T = some (.tup [.ref a, .str (rel q), .int c]) ∧ H a = some (.tup (vl n u)) ∧ (∀ j, j < n → (u j).natAbs ≤ wd) ∧ c.natAbs ≤ 9
def sp__law_triple : Sp := fun vs H Q _ => ∃ (b s g : Addr) (n : Nat) (wd : Nat), vs = [.ref b, .int n, .int wd] ∧ Bx H b s g ∧ n ≤ 1000 ∧ wd ≤ 10 ^ 9 ∧ ∀ (T : Addr) (u : Nat → Int) (q : Bool) (c : Int) (H' : Hp), Xt [b, g] H H' → Bx H' b s g → Trip H' T n wd u q c → Q (.ref T) H'
theorem ok__law_triple {f : Addr} {fd : FuncData} (F : Fun K "_law_triple" "_law_triple" s__law_triple f fd) (B : Bi mg) (C__law_take : Cl P w K mg base CX0 43 "_law_take" ["box", "size"] sp__law_take) : FnOk P w K mg base CX0 45 f fd ["box", "many", "wide"] sp__law_triple := by
  refine F.ok sc__law_triple (fun vs H Q E h => ?_) (fun cdv A outer s0 H vs Q E hr h => ?_)
  · obtain ⟨b, s, g, n, wd, rfl, _⟩ := h; rfl
  · obtain ⟨b, s, g, n, wd, rfl, hx, hn, hw, k⟩ := h
    have nd := sc__law_triple.nd
    refine ⟨_, (pss_cons (ps_set (i := 3) nd rfl (.inl rfl) (pe_callTy cr_tupOf (by rfl) B.tuple b_tuple (pa_cons (pe_lc (own := [("k", 5)]) rfl nd (pi_range1 (by rfl) B.range (pa_cons (pv 1) pa_nil)) (blkOk_by (by rfl)) (fun _ _ _ _ _ => (pg_name (i := 5) nd rfl (by first | exact .inl rfl | exact .inr rfl))) (fun _ _ _ _ _ => pts_nil) (fun _ _ _ _ _ => (pe_op op_sub (pe_y C__law_take hr (by decide) pass0 (by rfl) (pa_cons (pv 0) (pa_cons (pe_op op_add (pe_op op_mulB pe_int (pv 2)) pe_int) pa_nil))) (pv 2)))) pa_nil)))
      (pss_cons (ps_set (i := 4) nd rfl (.inl rfl) pe_str)
      (pss_cons (ps_if (pt_cmpR op_eq (pe_y C__law_take hr (by decide) pass0 (by rfl) (pa_cons (pv 0) (pa_cons pe_int pa_nil))) pe_int (nomark _))
        (pss_one (ps_set (i := 4) nd rfl (.inl rfl) pe_str))
        pss_nil)
      (pss_one (ps_ret (pe_tup (pa_cons (pv 3) (pa_cons (pv 4) (pa_cons (pe_op op_sub (pe_y C__law_take hr (by decide) pass0 (by rfl) (pa_cons (pv 0) (pa_cons pe_int pa_nil))) pe_int) pa_nil))))))))), ?_⟩
    walk_at "rd"
    refine rd_rg1 n rfl (by omega) (lc_eff wkR [b, g] (fun i acc H1 => Bx H1 b s g ∧ ∃ u : Nat → Int, acc = vl i u ∧ ∀ j, j < i → (u j).natAbs ≤ wd) hx.bg (by omega) (fun _ _ _ _ _ _ => trivial) (fun i acc H1 H2 D hD hR e => ⟨hx.new hR.1 hD e, hR.2⟩) ⟨hx, fun _ => 0, rfl, fun j hj => by omega⟩ (fun i x acc H1 H2 hi hl e hR y Pp hP => ?_) fun D acc H1 nD hl e hR eD => ?_)
    · obtain ⟨rfl, ex⟩ := y
      obtain ⟨hx2, u, rfl, hu⟩ := hR
      walk_at "rd"
      refine ⟨rfl, ?_⟩
      walk_at "rd"
      refine ⟨b, s, g, _, rfl, hx2, by omega, by omega, fun d H3 d0 d1 X3 hx3 => ?_⟩
      walk_at "rd"
      refine hP _ H3 X3 ⟨hx3, fun j => if j = i then d - wd else u j, ?_, fun j hj => ?_⟩
      · show _ = tab (i + 1) _
        rw [← tab_snoc]
        dsimp only
        rw [if_pos rfl]
        exact congrArg (· ++ _) (tab_ext fun j hj => by rw [if_neg (by omega)])
      · dsimp only
        by_cases h : j = i
        · rw [if_pos h]; omega
        · rw [if_neg h]; exact hu j (by omega)
    · obtain ⟨hx2, u, rfl, hu⟩ := hR
      walk_at "rd"
      refine rd_tupL eD fun a H3 na e3 ea => ?_
      walk_at "rd"
      have hx3 := hx2.ex e3
      refine ⟨b, s, g, 4, rfl, hx3, by decide, by decide, fun d H4 d0 d1 X4 hx4 => ?_⟩
      walk_at "rd"
      have ea4 := X4.at ea (hx3.tin ea)
      refine rd_ifG (fun σ' => ∃ (q : Bool) (o5 : Option V), σ' = [some (.ref b), some (.int n), some (.int wd), some (.ref a), some (.str (rel q)), o5]) (fun h1 tz hz => ?_) (fun h1 => ⟨false, _, rfl⟩) fun σ' hz => ?_
      · walk_at "rd"
        exact hz _ ⟨true, _, rfl⟩
      · obtain ⟨q, o5, rfl⟩ := hz
        walk_at "rd"
        refine ⟨b, s, g, 19, rfl, hx4, by decide, by decide, fun c H5 c0 c1 X5 hx5 => ?_⟩
        walk_at "rd"
        refine new_tup (sz (show 3 ≤ 100000 by decide)) fun T H6 nT e6 eT => ?_
        exact k T u q (c - 9) H6 (e.trans ((Ex.xt e3).trans (X4.trans (X5.trans (Ex.xt e6))))) (hx5.ex e6) ⟨a, eT, e6.at (X5.at ea4 (hx4.tin ea4)), hu, by omega⟩
end
end Sx
/-! drawn rows with an answer that is known -/
namespace Sx
open PySem PySem.Spec PyProof.Rows L2 Y
local macro_rules | `(tactic| walk_at "rd1") => `(tactic| first
  | with_reducible refine rd_var rfl ?_
  | with_reducible refine rd_op ?_
  | with_reducible refine rd_c ?_
  | with_reducible refine rd_I0 ?_
  | with_reducible refine rd_seq ?_
  | ((with_reducible refine rd_I ?_ ?_); focus (first | exact mulok_r (by decide) (by decide) | exact mulok_l (by decide) (by decide) | (show _ ≠ _; decide) | (show _ ∧ _; decide)))
  | with_reducible refine rd_asg ?_
  | with_reducible refine rd_name ?_
  | with_reducible refine rd_cb ?_
  | with_reducible refine rd_cons ?_
  | with_reducible refine rd_nil ?_
  | with_reducible refine rd_int ?_
  | with_reducible refine rd_eqI ?_
  | with_reducible refine rd_neI ?_
  | with_reducible refine rd_bl ?_
  | with_reducible refine rd_test ?_
  | with_reducible refine rd_tB ?_
  | with_reducible refine rd_ifS ?_
  | with_reducible refine rd_next ?_
  | with_reducible refine rd_T ?_
  | with_reducible refine rd_F ?_
  | with_reducible refine rd_nT ?_
  | with_reducible refine rd_nF ?_
  | with_reducible refine rd_blV ?_
  | with_reducible refine rd_ret ?_
  | with_reducible refine rd_call ?_
  | with_reducible refine rd_drop ?_
  | with_reducible refine rd_not ?_
  | with_reducible refine rd_and ?_
  | with_reducible refine rd_or ?_
  | with_reducible refine rd_un ?_
  | with_reducible refine rd_U ?_
  | with_reducible refine rd_tup ?_
  | with_reducible refine rd_lst ?_
  | with_reducible refine rd_if ?_
  | with_reducible refine rd_andV ?_
  | with_reducible refine rd_orV ?_
  | with_reducible refine rd_notV ?_
  | with_reducible refine rd_sl ?_
  | with_reducible refine rd_nopart ?_
  | with_reducible refine rd_part ?_
  | with_reducible refine rd_iv ?_
  | with_reducible refine rd_bm ?_
  | with_reducible refine rd_abs ?_
  | with_reducible refine rd_intb ?_
  | with_reducible refine rd_mx2 ?_
  | with_reducible refine rd_mn2 ?_
  | with_reducible refine rd_sub ?_
  | with_reducible refine rd_lc ?_
  | with_reducible refine rd_for ?_
  | with_reducible refine rd_iL ?_
  | with_reducible refine rd_iT ?_
  | with_reducible refine rd_r1 ?_
  | with_reducible refine rd_r2 ?_
  | with_reducible refine rd_iZ ?_
  | with_reducible refine rd_iZM ?_
  | with_reducible refine rd_while ?_
  | with_reducible refine rd_tru ?_
  | with_reducible refine rd_brk ?_
  | with_reducible refine rd_iA ?_
  | with_reducible refine rd_iZA ?_
  | with_reducible refine rd_par ?_
  | with_reducible refine rd_par2 ?_
  | with_reducible refine rd_bits ?_
  | with_reducible refine rd_callS ?_)
local macro_rules | `(tactic| walk_at "rd") => `(tactic| repeat walk_at "rd1")

/-! ### cutting lists -/
theorem cut_lo {xs : List V} {d : Nat} (h : d ≤ xs.length) : cutV xs none (some (d : Int)) = xs.take d := by
  unfold cutV
  have e1 : HT.sIx xs.length 0 none = 0 := rfl
  have e2 : HT.sIx xs.length xs.length (some (d : Int)) = d := by
    rw [HT.sIx_nat xs.length xs.length d]; omega
  rw [e1, e2, List.drop_zero, Nat.sub_zero]
theorem cut_hi {xs : List V} {d : Nat} (h : d ≤ xs.length) : cutV xs (some (d : Int)) none = xs.drop d := by
  unfold cutV
  have e1 : HT.sIx xs.length xs.length none = xs.length := rfl
  have e2 : HT.sIx xs.length 0 (some (d : Int)) = d := by
    rw [HT.sIx_nat xs.length 0 d]; omega
  rw [e1, e2, List.take_of_length_le (by rw [List.length_drop]; exact Nat.le_refl _)]
theorem tab_none {n i : Nat} {f : Nat → V} (h : n ≤ i) : (tab n f)[i]? = none := List.getElem?_eq_none (by rw [tab_len]; exact h)
theorem ins_tab {m d : Nat} {f : Nat → V} {x : V} (h : d ≤ m) : (tab m f).take d ++ [x] ++ (tab m f).drop d = tab (m + 1) fun i => if i < d then f i else if i = d then x else f (i - 1) := by
  have tl : ((tab m f).take d).length = d := by rw [List.length_take, tab_len]; omega
  refine List.ext_getElem? fun i => ?_
  rw [List.append_assoc]
  by_cases h1 : i < d
  · rw [List.getElem?_append_left (by omega), List.getElem?_take_of_lt h1, tab_get (by omega), tab_get (by omega), if_pos h1]
  · rw [List.getElem?_append_right (by omega), tl]
    by_cases h2 : i = d
    · subst h2
      rw [Nat.sub_self, tab_get (by omega), if_neg h1, if_pos rfl]; rfl
    · obtain ⟨j, rfl⟩ : ∃ j, i = d + 1 + j := ⟨i - d - 1, by omega⟩
      rw [show d + 1 + j - d = j + 1 by omega]
      show ((tab m f).drop d)[j]? = _
      rw [List.getElem?_drop]
      by_cases h3 : d + j < m
      · rw [tab_get h3, tab_get (by omega), if_neg h1, if_neg h2]
        rw [show d + 1 + j - 1 = d + j by omega]
      · rw [tab_none (by omega), tab_none (by omega)]
theorem rep_tab {m d : Nat} {f : Nat → V} {x : V} (h : d < m) : (tab m f).take d ++ [x] ++ (tab m f).drop (d + 1) = tab m fun i => if i = d then x else f i := by
  have tl : ((tab m f).take d).length = d := by rw [List.length_take, tab_len]; omega
  refine List.ext_getElem? fun i => ?_
  rw [List.append_assoc]
  by_cases h1 : i < d
  · rw [List.getElem?_append_left (by omega), List.getElem?_take_of_lt h1, tab_get (by omega), tab_get (by omega), if_neg (by omega)]
  · rw [List.getElem?_append_right (by omega), tl]
    by_cases h2 : i = d
    · subst h2
      rw [Nat.sub_self, tab_get (by omega), if_pos rfl]; rfl
    · obtain ⟨j, rfl⟩ : ∃ j, i = d + 1 + j := ⟨i - d - 1, by omega⟩
      rw [show d + 1 + j - d = j + 1 by omega]
      show ((tab m f).drop (d + 1))[j]? = _
      rw [List.getElem?_drop]
      by_cases h3 : d + 1 + j < m
      · rw [tab_get h3, tab_get (by omega), if_neg h2]
      · rw [tab_none (by omega), tab_none (by omega)]
theorem del_tab {m d : Nat} {f : Nat → V} (h : d < m) : (tab m f).take d ++ (tab m f).drop (d + 1) = tab (m - 1) fun i => if i < d then f i else f (i + 1) := by
  have tl : ((tab m f).take d).length = d := by rw [List.length_take, tab_len]; omega
  refine List.ext_getElem? fun i => ?_
  by_cases h1 : i < d
  · rw [List.getElem?_append_left (by omega), List.getElem?_take_of_lt h1, tab_get (by omega), tab_get (by omega), if_pos h1]
  · rw [List.getElem?_append_right (by omega), tl, List.getElem?_drop]
    rw [show d + 1 + (i - d) = i + 1 by omega]
    by_cases h3 : i + 1 < m
    · rw [tab_get h3, tab_get (by omega), if_neg h1]
    · rw [tab_none (by omega), tab_none (by omega)]
/-! ### drawn rows -/
def NoT (S : List Addr) (H : Hp) : Prop := ∀ a ∈ S, ∀ xs, H a ≠ some (.tup xs)
theorem Bx.nt {H : Hp} {b s g : Addr} (x : Bx H b s g) : NoT [b, g] H := x.noT H
theorem nt_lst {H : Hp} {p : Addr} {xs : List V} (h : H p = some (.lst xs)) : NoT [p] H := fun a ha ys z => by rw [List.mem_singleton.mp ha, h] at z; cases z
theorem tup_to {S : List Addr} {H H' : Hp} {a : Addr} {xs : List V} (e : Xt S H H') (nt : NoT S H) (h : H a = some (.tup xs)) : H' a = some (.tup xs) := e.at h fun z => nt a z xs h
/-- a row of n numbers, none above B -/
def Rw1 (H : Hp) (x : V) (n B : Nat) : Prop := ∃ T a u q c, x = .ref T ∧ H T = some (.tup [.ref a, .str (rel q), .int c]) ∧ H a = some (.tup (vl n u)) ∧ c.natAbs ≤ B ∧ ∀ j, j < n → (u j).natAbs ≤ B
theorem Rw1.to {S : List Addr} {H H' : Hp} {x : V} {n B : Nat} (h : Rw1 H x n B) (e : Xt S H H') (nt : NoT S H) : Rw1 H' x n B := by
  obtain ⟨T, a, u, q, c, h1, h2, h3, h4, h5⟩ := h
  exact ⟨T, a, u, q, c, h1, tup_to e nt h2, tup_to e nt h3, h4, h5⟩
theorem Rw1.up {H : Hp} {x : V} {n B B' : Nat} (h : Rw1 H x n B) (hb : B ≤ B') : Rw1 H x n B' := by
  obtain ⟨T, a, u, q, c, h1, h2, h3, h4, h5⟩ := h
  exact ⟨T, a, u, q, c, h1, h2, h3, by omega, fun j hj => Nat.le_trans (h5 j hj) hb⟩
theorem Trip.rw {H : Hp} {T : Addr} {n wd B : Nat} {u : Nat → Int} {q : Bool} {c : Int} (h : Trip H T n wd u q c) (h1 : wd ≤ B) (h2 : 9 ≤ B) : Rw1 H (.ref T) n B := by
  obtain ⟨a, h3, h4, h5, h6⟩ := h
  exact ⟨T, a, u, q, c, rfl, h3, h4, by omega, fun j hj => Nat.le_trans (h5 j hj) h1⟩
theorem nt_ex {H : Hp} : NoT [] H := fun a ha => by cases ha
/-- a list of m rows -/
def LR (H : Hp) (p : Addr) (n m B : Nat) : Prop := ∃ f : Nat → V, H p = some (.lst (tab m f)) ∧ ∀ k, k < m → Rw1 H (f k) n B
theorem LR.to {S : List Addr} {H H' : Hp} {p : Addr} {n m B : Nat} (h : LR H p n m B) (e : Xt S H H') (nt : NoT S H) (np : p ∉ S) : LR H' p n m B := by
  obtain ⟨f, h1, h2⟩ := h
  exact ⟨f, e.at h1 np, fun k hk => (h2 k hk).to e nt⟩
theorem LR.ex {H H' : Hp} {p : Addr} {n m B : Nat} (h : LR H p n m B) (e : Ex H H') : LR H' p n m B := h.to e nt_ex (by simp)
theorem LR.up {H : Hp} {p : Addr} {n m B B' : Nat} (h : LR H p n m B) (hb : B ≤ B') : LR H p n m B' := by
  obtain ⟨f, h1, h2⟩ := h
  exact ⟨f, h1, fun k hk => (h2 k hk).up hb⟩
theorem sm_abs {f : Nat → Int} {B : Nat} : ∀ {n : Nat}, (∀ i, i < n → (f i).natAbs ≤ B) → (sm n f).natAbs ≤ n * B
  | 0, _ => Nat.zero_le _
  | n + 1, h => by
    have h1 := sm_abs (n := n) fun i hi => h i (by omega)
    have h2 := h n (by omega)
    show (sm n f + f n).natAbs ≤ _
    rw [Nat.add_mul]
    omega
/-- rows in a list -/
def LRow (H : Hp) (a : Addr) (W : Rws) : Prop := ∃ rp np : Nat → Addr, H a = some (.lst (tab W.m fun i => .ref (rp i))) ∧
  (∀ i, i < W.m → H (rp i) = some (.tup [.ref (np i), .str (rel (W.q i)), .int (W.C i)])) ∧ ∀ i, i < W.m → H (np i) = some (.tup (vl W.n (W.R i)))
theorem LRow.to {S : List Addr} {H H' : Hp} {p : Addr} {W : Rws} (h : LRow H p W) (e : Xt S H H') (nt : NoT S H) (np : p ∉ S) : LRow H' p W := by
  obtain ⟨f, g, h1, h2, h3⟩ := h
  exact ⟨f, g, e.at h1 np, fun k hk => tup_to e nt (h2 k hk), fun k hk => tup_to e nt (h3 k hk)⟩
theorem LRow.ex {H H' : Hp} {p : Addr} {W : Rws} (h : LRow H p W) (e : Ex H H') : LRow H' p W := h.to e nt_ex (by simp)
theorem LR.rows {H : Hp} {p : Addr} {n m B : Nat} (h : LR H p n m B) (hB : 1 ≤ B) : ∃ (R : Nat → Nat → Int) (C : Nat → Int) (q : Nat → Bool), LRow H p ⟨n, m, R, C, q⟩ ∧ Rws.le ⟨n, m, R, C, q⟩ B := by
  obtain ⟨f, h1, h2⟩ := h
  have h3 : ∀ k : Nat, ∃ (T a : Addr) (u : Nat → Int) (q : Bool) (c : Int), k < m → f k = .ref T ∧ H T = some (.tup [.ref a, .str (rel q), .int c]) ∧ H a = some (.tup (vl n u)) ∧ c.natAbs ≤ B ∧ ∀ j, j < n → (u j).natAbs ≤ B := fun k => by
    by_cases hk : k < m
    · obtain ⟨T, a, u, q, c, z⟩ := h2 k hk
      exact ⟨T, a, u, q, c, fun _ => z⟩
    · exact ⟨0, 0, fun _ => 0, false, 0, fun z => absurd z hk⟩
  have ⟨T, h4⟩ := Classical.axiomOfChoice h3
  have ⟨a, h5⟩ := Classical.axiomOfChoice h4
  have ⟨u, h6⟩ := Classical.axiomOfChoice h5
  have ⟨q, h7⟩ := Classical.axiomOfChoice h6
  have ⟨c, h8⟩ := Classical.axiomOfChoice h7
  refine ⟨u, c, q, ⟨T, a, ?_, fun i hi => (h8 i hi).2.1, fun i hi => (h8 i hi).2.2.1⟩, hB, fun i hi => (h8 i hi).2.2.2.1, fun i hi => (h8 i hi).2.2.2.2⟩
  rw [h1]
  exact congrArg (fun z => some (HO.lst z)) (tab_ext fun i hi => (h8 i hi).1)
section
variable {K : PySem.W.Frag} {σ : L2.St} {H : Hp} {Q : VK} {g : TG} {te : TE} {J : It} {n : Nat} {Gd : Hp → Prop} {Yl : Nat → Hp → V → Hp → Prop} {vs : List Nat}
/-- a comprehension whose elements hold PV and change what S names; R0 keeps the books -/
theorem lc_efv (w : Walk J n Gd Yl) (S : List Addr) (R0 : Hp → Prop) (PV : Hp → V → Prop) (hPV : ∀ S H1 H2 x, PV H1 x → Xt S H1 H2 → NoT S H1 → PV H2 x) (hS : ∀ a ∈ S, H a ≠ none) (hn : n ≤ 100000) (hG : ∀ H', Xt S H H' → R0 H' → Gd H') (hT : ∀ H1, R0 H1 → NoT S H1)
    (hR : ∀ H1 H2 D, H D = none → R0 H1 → Xt [D] H1 H2 → R0 H2) (h0 : R0 H)
    (hs : ∀ i x H1 H2, i < n → Xt S H H1 → R0 H1 → Yl i H1 x H2 → ∀ P : VK, (∀ v H4, Xt S H1 H4 → R0 H4 → PV H4 v → P v H4) → g x (wipe σ vs) H2 fun σ2 H3 => wipe σ2 vs = wipe σ vs ∧ te σ2 H3 P)
    (hd : ∀ (D : Addr) (f : Nat → V) (H' : Hp), H D = none → Xt S H H' → R0 H' → H' D = some (.lst (tab n f)) → (∀ i, i < n → PV H' (f i)) → Q (.ref D) H') : LcB J g tYes te vs σ H Q := fun D hD => by
  have hDS : D ∉ S := fun z => hS D z hD
  refine lc_it w (fun i H' => ∃ f : Nat → V, Xt S H H' ∧ R0 H' ∧ H' D = some (.lst (tab i f)) ∧ ∀ k, k < i → PV H' (f k)) ⟨fun _ => .non, Ex.xt (ex_new hD), hR H _ D hD h0 (Ex.xt (ex_new hD)), upd_same, fun k hk => by omega⟩ (fun i H' hi h => ?_) (fun i x H1 H2 hi h yy => ?_) fun H' h => ?_
  · obtain ⟨_, e, r, _⟩ := h
    exact hG H' e r
  · obtain ⟨f, e, r, eD, hp⟩ := h
    refine hs i x H1 H2 hi e r yy _ fun v H4 e4 r4 pv => ?_
    have eD4 := e4.at eD hDS
    have xd : Xt [D] H4 (upd H4 D (.lst (tab i f ++ [v]))) := xt_upd (by simp)
    refine ⟨_, eD4, szl (by rw [tab_len]; omega), fun k => if k = i then v else f k, ?_, hR _ _ D hD r4 xd, ?_, fun k hk => ?_⟩
    · refine fun a o na ha => ?_
      have nd : a ≠ D := fun z => by rw [z, hD] at ha; cases ha
      rw [upd_ne nd]
      exact e4 a o na (e a o na ha)
    · rw [upd_same]
      refine congrArg (fun z => some (HO.lst z)) ?_
      rw [← tab_snoc]
      refine congr (congrArg _ (tab_ext fun k hk => by rw [if_neg (by omega)])) ?_
      rw [if_pos rfl]
    · show PV _ (if k = i then v else f k)
      by_cases hki : k = i
      · rw [if_pos hki]; exact hPV _ _ _ _ pv xd (nt_lst eD4)
      · rw [if_neg hki]; exact hPV _ _ _ _ (hPV _ _ _ _ (hp k (by omega)) e4 (hT _ r)) xd (nt_lst eD4)
  · obtain ⟨f, e, r, eD, hp⟩ := h
    exact hd D f H' hD e r eD hp
end
section
variable {K : PySem.W.Frag} {H : Hp} {Q : VK} {p q : Addr} {xs ys : List V} {lo hi : Option Int}
theorem rd_slA (e : H p = some (.tup xs)) (h : ∀ l H', Ex H H' → H' l = some (.tup (cutV xs lo hi)) → Q (.ref l) H') : rSlA K (.ref p) lo hi H Q :=
  ⟨p, xs, rfl, SqT.of e, fun z => h p H Ex.rfl' (by
    rw [e]
    unfold cutV
    rw [z.1, z.2, List.drop_zero, Nat.sub_zero, List.take_length]), fun _ l hl => h l _ (ex_new hl) upd_same⟩
theorem rd_catA (e : H p = some (.tup xs)) (f : H q = some (.tup ys)) (hz : xs.length + ys.length ≤ 100000) (h : ∀ l H', Ex H H' → H' l = some (.tup (xs ++ ys)) → Q (.ref l) H') : rCatA K (.ref p) (.ref q) H Q :=
  ⟨p, q, xs, ys, rfl, rfl, SqT.of e, SqT.of f, sz hz, fun z => h q H Ex.rfl' (by rw [f, z]; rfl), fun _ z => h p H Ex.rfl' (by rw [e, z, List.append_nil]), fun _ _ l hl => h l _ (ex_new hl) upd_same⟩
theorem rd_truTp {n : Nat} {f : Nat → V} {R : Bool → Hp → Prop} (e : H p = some (.tup (tab n f))) (h : R (decide (0 < n)) H) : Tr K (.ref p) H R := ⟨_, .inr (.inl ⟨_, SqT.of e, rfl⟩), by
  have z : (!(tab n f).isEmpty) = decide (0 < n) := by
    cases n with
    | zero => rfl
    | succ n => show (!(List.map f (List.range (n + 1))).isEmpty) = _; rw [List.range_succ]; simp
  rw [z]; exact h⟩
end
/-- an if with else whose branches both go on -/
theorem rd_ifB {p : Prop} [Decidable p] {tu tw : TS} {σ : L2.St} {H : Hp} {tz bk ct : L2.St → Hp → Prop} {dr : VK} (G : L2.St → Hp → Prop) (h1 : p → ∀ tz' : L2.St → Hp → Prop, (∀ σ' H', G σ' H' → tz' σ' H') → tu { nx := tz', rt := dr, bk := bk, ct := ct } σ H)
    (h2 : ¬ p → ∀ tz' : L2.St → Hp → Prop, (∀ σ' H', G σ' H' → tz' σ' H') → tw { nx := tz', rt := dr, bk := bk, ct := ct } σ H) (hk : ∀ σ' H', G σ' H' → tz σ' H') : if decide p = true then tu { nx := tz, rt := dr, bk := bk, ct := ct } σ H else tw { nx := tz, rt := dr, bk := bk, ct := ct } σ H := by
  by_cases hp : p
  · rw [decide_eq_true hp]; exact h1 hp tz hk
  · rw [decide_eq_false hp]; exact h2 hp tz hk
def BB : Nat := 10 ^ 11
theorem ins2_tab {m d : Nat} {f : Nat → V} {x y : V} (h : d ≤ m) : (tab m f).take d ++ [x, y] ++ (tab m f).drop d = tab (m + 2) fun i => if i < d then f i else if i = d then x else if i = d + 1 then y else f (i - 2) := by
  have tl : ((tab m f).take d).length = d := by rw [List.length_take, tab_len]; omega
  refine List.ext_getElem? fun i => ?_
  rw [List.append_assoc]
  by_cases h1 : i < d
  · rw [List.getElem?_append_left (by omega), List.getElem?_take_of_lt h1, tab_get (by omega), tab_get (by omega), if_pos h1]
  · rw [List.getElem?_append_right (by omega), tl]
    by_cases h2 : i = d
    · subst h2
      rw [Nat.sub_self, tab_get (by omega), if_neg h1, if_pos rfl]; rfl
    · by_cases h3 : i = d + 1
      · subst h3
        rw [show d + 1 - d = 1 by omega, tab_get (by omega), if_neg h1, if_neg h2, if_pos rfl]; rfl
      · obtain ⟨j, rfl⟩ : ∃ j, i = d + 2 + j := ⟨i - d - 2, by omega⟩
        rw [show d + 2 + j - d = j + 1 + 1 by omega]
        show ((tab m f).drop d)[j]? = _
        rw [List.getElem?_drop]
        by_cases h4 : d + j < m
        · rw [tab_get h4, tab_get (by omega), if_neg h1, if_neg h2, if_neg h3]
          rw [show d + 2 + j - 2 = d + j by omega]
        · rw [tab_none (by omega), tab_none (by omega)]
/-- a list of places -/
def IL (H : Hp) (p : Addr) (ls : List Nat) : Prop := H p = some (.lst (ls.map fun i => V.int (i : Nat)))
theorem filter_snoc {p : Nat → Bool} {i : Nat} : (List.range (i + 1)).filter p = (List.range i).filter p ++ if p i = true then [i] else [] := by
  rw [List.range_succ, List.filter_append]
  congr 1
  cases h : p i with
  | true => rw [List.filter_cons, h]; rfl
  | false => rw [List.filter_cons, h]; rfl
end Sx
/-! rows along a course -/
namespace Sx
open PySem PySem.Spec PyProof.Rows L2 Y
local macro_rules | `(tactic| walk_at "rd1") => `(tactic| first
  | with_reducible refine rd_var rfl ?_
  | with_reducible refine rd_op ?_
  | with_reducible refine rd_c ?_
  | with_reducible refine rd_I0 ?_
  | with_reducible refine rd_seq ?_
  | ((with_reducible refine rd_I ?_ ?_); focus (first | exact mulok_r (by decide) (by decide) | exact mulok_l (by decide) (by decide) | (show _ ≠ _; decide) | (show _ ∧ _; decide)))
  | with_reducible refine rd_asg ?_
  | with_reducible refine rd_name ?_
  | with_reducible refine rd_cb ?_
  | with_reducible refine rd_cons ?_
  | with_reducible refine rd_nil ?_
  | with_reducible refine rd_int ?_
  | with_reducible refine rd_eqI ?_
  | with_reducible refine rd_neI ?_
  | with_reducible refine rd_bl ?_
  | with_reducible refine rd_test ?_
  | with_reducible refine rd_tB ?_
  | with_reducible refine rd_ifS ?_
  | with_reducible refine rd_next ?_
  | with_reducible refine rd_T ?_
  | with_reducible refine rd_F ?_
  | with_reducible refine rd_nT ?_
  | with_reducible refine rd_nF ?_
  | with_reducible refine rd_blV ?_
  | with_reducible refine rd_ret ?_
  | with_reducible refine rd_call ?_
  | with_reducible refine rd_drop ?_
  | with_reducible refine rd_not ?_
  | with_reducible refine rd_and ?_
  | with_reducible refine rd_or ?_
  | with_reducible refine rd_un ?_
  | with_reducible refine rd_U ?_
  | with_reducible refine rd_tup ?_
  | with_reducible refine rd_lst ?_
  | with_reducible refine rd_if ?_
  | with_reducible refine rd_andV ?_
  | with_reducible refine rd_orV ?_
  | with_reducible refine rd_notV ?_
  | with_reducible refine rd_sl ?_
  | with_reducible refine rd_nopart ?_
  | with_reducible refine rd_part ?_
  | with_reducible refine rd_iv ?_
  | with_reducible refine rd_bm ?_
  | with_reducible refine rd_abs ?_
  | with_reducible refine rd_intb ?_
  | with_reducible refine rd_mx2 ?_
  | with_reducible refine rd_mn2 ?_
  | with_reducible refine rd_sub ?_
  | with_reducible refine rd_lc ?_
  | with_reducible refine rd_for ?_
  | with_reducible refine rd_iL ?_
  | with_reducible refine rd_iT ?_
  | with_reducible refine rd_r1 ?_
  | with_reducible refine rd_r2 ?_
  | with_reducible refine rd_iZ ?_
  | with_reducible refine rd_iZM ?_
  | with_reducible refine rd_while ?_
  | with_reducible refine rd_tru ?_
  | with_reducible refine rd_brk ?_
  | with_reducible refine rd_iA ?_
  | with_reducible refine rd_iZA ?_
  | with_reducible refine rd_par ?_
  | with_reducible refine rd_par2 ?_
  | with_reducible refine rd_bits ?_
  | with_reducible refine rd_callS ?_)
local macro_rules | `(tactic| walk_at "rd") => `(tactic| repeat walk_at "rd1")

theorem rd_ifHn {p : Prop} [Decidable p] {tu : TS} {σ : L2.St} {H : Hp} {tz bk ct : L2.St → Hp → Prop} {dr : VK} (G : L2.St → Hp → Prop) (h1 : ¬ p → ∀ tz' : L2.St → Hp → Prop, (∀ σ' H', G σ' H' → tz' σ' H') → tu { nx := tz', rt := dr, bk := bk, ct := ct } σ H) (h2 : p → G σ H)
    (hk : ∀ σ' H', G σ' H' → tz σ' H') : if (!decide p) = true then tu { nx := tz, rt := dr, bk := bk, ct := ct } σ H else tNext { nx := tz, rt := dr, bk := bk, ct := ct } σ H := by
  by_cases hp : p
  · rw [decide_eq_true hp]; exact hk σ H (h2 hp)
  · rw [decide_eq_false hp]; exact h1 hp tz hk
/-- the rows turned along v -/
def turR (n : Nat) (R : Nat → Nat → Int) (v : Nat → Int) (i : Nat) : Nat → Int := if 0 < dt n (R i) v then fun j => 0 - R i j else R i
def turQ (n : Nat) (R : Nat → Nat → Int) (q : Nat → Bool) (v : Nat → Int) (i : Nat) : Bool := if dt n (R i) v = 0 then q i else false
def looF (n : Nat) (R : Nat → Nat → Int) (v : Nat → Int) (i : Nat) : Bool := !decide (dt n (R i) v = 0)
theorem dt_neg' {n : Nat} {u v : Nat → Int} : dt n (fun j => 0 - u j) v = - dt n u v := by
  have e : (sm n fun j => (0 - u j) * v j) = sm n fun j => -1 * (u j * v j) := sm_congr fun j _ => by grind
  show (sm n fun j => (0 - u j) * v j) = - sm n fun j => u j * v j
  rw [e, sm_mul]; omega
theorem turR_le {n : Nat} {R : Nat → Nat → Int} {v : Nat → Int} {i : Nat} : dt n (turR n R v i) v ≤ 0 ∧ (dt n (turR n R v i) v = 0 ↔ dt n (R i) v = 0) := by
  unfold turR
  split
  · rw [dt_neg']; omega
  · omega
/-- across two places of a course -/
def acr (l r : Nat) (v : Nat → Int) (k : Nat) : Int := if k = r then (if r = l then 0 + v r else 0) - v l else if k = l then 0 + v r else 0
theorem acr_dt {n l r : Nat} {v : Nat → Int} (hl : l < n) (hr : r < n) : dt n (acr l r v) v = 0 := by
  by_cases e : r = l
  · subst e
    refine sm_zero fun j _ => ?_
    show acr r r v j * v j = 0
    unfold acr
    by_cases h : j = r
    · rw [if_pos h, if_pos rfl, show (0 + v r) - v r = 0 by omega, Int.zero_mul]
    · rw [if_neg h, if_neg h, Int.zero_mul]
  · show (sm n fun j => acr l r v j * v j) = 0
    rw [sm_twoB (s := l) (t := r) (Ne.symm e) hl hr fun i _ h1 h2 => by unfold acr; rw [if_neg h2, if_neg h1, Int.zero_mul]]
    unfold acr
    rw [if_neg (Ne.symm e), if_pos rfl, if_pos rfl, if_neg e]
    grind
/-- two rows put in -/
def in2 (d : Nat) {α : Type} (f : Nat → α) (x y : α) (i : Nat) : α := if i < d then f i else if i = d then x else if i = d + 1 then y else f (i - 2)
theorem along_cone {n m d l r : Nat} {R : Nat → Nat → Int} {C : Nat → Int} {q : Nat → Bool} {v : Nat → Int} {c1 c2 : Int} (hl : l < n) (hr : r < n) (hd : d ≤ m) :
    Cone ⟨n, m + 2, in2 d (turR n R v) (acr l r v) (fun j => 0 - acr l r v j), in2 d C c1 c2, in2 d (turQ n R q v) false false⟩ v := fun i hi => by
  have a0 := acr_dt (v := v) hl hr
  have tr : ∀ i, dt n (turR n R v i) v ≤ 0 ∧ (turQ n R q v i = true → dt n (turR n R v i) v = 0) := fun i => ⟨turR_le.1, fun h => turR_le.2.mpr (by
    unfold turQ at h
    by_cases z : dt n (R i) v = 0
    · exact z
    · rw [if_neg z] at h; cases h)⟩
  show dt n (in2 d (turR n R v) (acr l r v) (fun j => 0 - acr l r v j) i) v ≤ 0 ∧ (in2 d (turQ n R q v) false false i = true → dt n (in2 d (turR n R v) (acr l r v) (fun j => 0 - acr l r v j) i) v = 0)
  unfold in2
  split
  · exact tr i
  · split
    · rw [a0]; exact ⟨Int.le_refl _, fun _ => rfl⟩
    · split
      · rw [dt_neg', a0]; exact ⟨Int.le_refl _, fun _ => rfl⟩
      · exact tr (i - 2)
theorem tur_cone {n m : Nat} {R : Nat → Nat → Int} {C : Nat → Int} {q : Nat → Bool} {v : Nat → Int} : Cone ⟨n, m, turR n R v, C, turQ n R q v⟩ v := fun i hi => ⟨turR_le.1, fun h => turR_le.2.mpr (by
    have h : turQ n R q v i = true := h
    unfold turQ at h
    by_cases z : dt n (R i) v = 0
    · exact z
    · rw [if_neg z] at h; cases h)⟩
section
variable {P : Program} {w : World} {K : PySem.W.Frag} {mg : Str → Option Value} {base : Heap}
abbrev s__law_along : Stmt := topS 31
theorem sc__law_along : FnScope ["box", "many", "rows", "course", "found", "loose", "numbers", "relation", "most", "total", "left", "right", "across", "at", "pair", "k", "one"] ["box", "many", "rows"] (defScope s__law_along) := ⟨rfl, rfl, rfl, by decide +kernel, rfl, by decide +kernel, by decide +kernel⟩
def sp__law_along : Sp := fun vs H Q _ => ∃ (b s g p : Addr) (n m : Nat), vs = [.ref b, .int n, .ref p] ∧ Bx H b s g ∧ n ≤ 7 ∧ m ≤ 10 ∧ LR H p n m (10 ^ 9) ∧ p ∉ [b, g] ∧
  ∀ (T p' l1 l2 : Addr) (m' : Nat) (R : Nat → Nat → Int) (C : Nat → Int) (q : Nat → Bool) (ls fs : List Nat) (H' : Hp), Xt [b, g] H H' → Bx H' b s g → H' T = some (.tup [.ref p', .ref l1, .ref l2]) → LRow H' p' ⟨n, m', R, C, q⟩ → Rws.le ⟨n, m', R, C, q⟩ (10 ^ 9) → m' ≤ m + 2 → (p' ∉ [b, g] ∧ l1 ∉ [b, g] ∧ l2 ∉ [b, g]) → IL H' l1 ls → IL H' l2 fs →
    (∀ k ∈ ls, k < m' ∧ ¬ TightI ⟨n, m', R, C, q⟩ k) → (∀ k ∈ fs, k < m' ∧ TightI ⟨n, m', R, C, q⟩ k) → Q (.ref T) H'
theorem ok__law_along {f : Addr} {fd : FuncData} (F : Fun K "_law_along" "_law_along" s__law_along f fd) (B : Bi mg) (C__law_take : Cl P w K mg base CX0 43 "_law_take" ["box", "size"] sp__law_take) (C__law_product : Cl P w K mg base CX0 41 "_law_product" ["left", "right"] sp__law_product) : FnOk P w K mg base CX0 45 f fd ["box", "many", "rows"] sp__law_along := by
  refine F.ok sc__law_along (fun vs H Q E h => ?_) (fun cdv A outer s0 H vs Q E hr h => ?_)
  · obtain ⟨b, s, g, p, n, m, rfl, _⟩ := h; rfl
  · obtain ⟨b, s, g, p, n, m, rfl, hx, hn, hm, hL, hp, k⟩ := h
    have nd := sc__law_along.nd
    refine ⟨_, (pss_cons (ps_setLc (i := 3) (own := [("k", 15)]) rfl nd rfl rfl (sw_true rfl rfl rfl (by decide +kernel)) (pi_range1 (by rfl) B.range (pa_cons (pv 1) pa_nil)) (blkOk_by (by rfl)) (fun _ _ _ _ _ => (pg_name (i := 15) nd rfl (by first | exact .inl rfl | exact .inr rfl))) (fun _ _ _ _ _ => pts_nil) (fun _ _ _ _ _ => (pe_op op_sub (pe_y C__law_take hr (by decide) pass0 (by rfl) (pa_cons (pv 0) (pa_cons pe_int pa_nil))) pe_int)))
      (pss_cons (ps_set (i := 4) nd rfl (.inl rfl) (pe_lst pa_nil))
      (pss_cons (ps_set (i := 5) nd rfl (.inl rfl) (pe_lst pa_nil))
      (pss_cons (ps_for PassesOwn.never rfl (pi_list (pv 2)) (pg_tup (n := 3) (by rfl) (pgs_cons (pg_name (i := 6) nd rfl (.inl rfl)) (pgs_cons (pg_name (i := 7) nd rfl (.inl rfl)) (pgs_cons (pg_name (i := 8) nd rfl (.inl rfl)) pgs_nil))))
        (pss_cons (ps_set (i := 9) nd rfl (.inl rfl) (pe_y C__law_product hr (by decide) pass0 (by rfl) (pa_cons (pv 6) (pa_cons (pv 3) pa_nil))))
        (pss_cons (ps_if (pt_cmpR op_gt (pv 9) pe_int (nomark _))
          (pss_one (ps_set (i := 6) nd rfl (.inl rfl) (pe_callTy cr_tupOf (by rfl) B.tuple b_tuple (pa_cons (pe_lc (own := [("one", 16)]) rfl nd (pi_tup (pv 6)) (blkOk_by (by rfl)) (fun _ _ _ _ _ => (pg_name (i := 16) nd rfl (by first | exact .inl rfl | exact .inr rfl))) (fun _ _ _ _ _ => pts_nil) (fun _ _ _ _ _ => (pe_op op_sub pe_int (pv 16)))) pa_nil))))
          pss_nil)
        (pss_cons (ps_if (pt_cmpR op_ne (pv 9) pe_int (nomark _))
          (pss_cons (ps_set (i := 7) nd rfl (.inl rfl) pe_str)
          (pss_one (ps_expr (pe_bm PySem.F.plainAttrs_list PySem.F.slot_list_append PySem.F.type_list_append mt_append (pv 5) (pa_cons (pe_callB cr_len (by rfl) B.len b_len (pa_cons (pv 4) pa_nil)) pa_nil)))))
          pss_nil)
        (pss_one (ps_expr (pe_bm PySem.F.plainAttrs_list PySem.F.slot_list_append PySem.F.type_list_append mt_append (pv 4) (pa_cons (pe_tup (pa_cons (pv 6) (pa_cons (pv 7) (pa_cons (pv 8) pa_nil)))) pa_nil))))))))
      (pss_cons (ps_if (pt_cmpR op_eq (pv 1) pe_int (nomark _))
        (pss_one (ps_ret (pe_tup (pa_cons (pv 4) (pa_cons (pv 5) (pa_cons (pe_lst pa_nil) pa_nil))))))
        pss_nil)
      (pss_cons (ps_set (i := 10) nd rfl (.inl rfl) (pe_y C__law_take hr (by decide) pass0 (by rfl) (pa_cons (pv 0) (pa_cons (pv 1) pa_nil))))
      (pss_cons (ps_set (i := 11) nd rfl (.inl rfl) (pe_y C__law_take hr (by decide) pass0 (by rfl) (pa_cons (pv 0) (pa_cons (pv 1) pa_nil))))
      (pss_cons (ps_setLc (i := 12) (own := [("k", 15)]) rfl nd rfl rfl (sw_true rfl rfl rfl (by decide +kernel)) (pi_range1 (by rfl) B.range (pa_cons (pv 1) pa_nil)) (blkOk_by (by rfl)) (fun _ _ _ _ _ => (pg_name (i := 15) nd rfl (by first | exact .inl rfl | exact .inr rfl))) (fun _ _ _ _ _ => pts_nil) (fun _ _ _ _ _ => pe_int))
      (pss_cons (ps_asg (pe_op op_add (pe_ix ix_list (pv 12) (pv 10) (fun _ _ => rfl)) (pe_ix ix_list (pv 3) (pv 11) (fun _ _ => rfl))) (pg_sub (pv 12) (pv 10) set_list))
      (pss_cons (ps_asg (pe_op op_sub (pe_ix ix_list (pv 12) (pv 11) (fun _ _ => rfl)) (pe_ix ix_list (pv 3) (pv 10) (fun _ _ => rfl))) (pg_sub (pv 12) (pv 11) set_list))
      (pss_cons (ps_set (i := 13) nd rfl (.inr rfl) (pe_y C__law_take hr (by decide) pass0 (by rfl) (pa_cons (pv 0) (pa_cons (pe_op op_add (pe_callB cr_len (by rfl) B.len b_len (pa_cons (pv 4) pa_nil)) pe_int) pa_nil))))
      (pss_cons (ps_set (i := 14) nd rfl (.inl rfl) (pe_lst (pa_cons (pe_tup (pa_cons (pe_callTy cr_tupOf (by rfl) B.tuple b_tuple (pa_cons (pv 12) pa_nil)) (pa_cons pe_str (pa_cons (pe_op op_sub (pe_y C__law_take hr (by decide) pass0 (by rfl) (pa_cons (pv 0) (pa_cons pe_int pa_nil))) pe_int) pa_nil)))) pa_nil)))
      (pss_cons (ps_set (i := 14) nd rfl (.inl rfl) (pe_op op_cat (pv 14) (pe_lst (pa_cons (pe_tup (pa_cons (pe_callTy cr_tupOf (by rfl) B.tuple b_tuple (pa_cons (pe_lc (own := [("one", 16)]) rfl nd (pi_list (pv 12)) (blkOk_by (by rfl)) (fun _ _ _ _ _ => (pg_name (i := 16) nd rfl (by first | exact .inl rfl | exact .inr rfl))) (fun _ _ _ _ _ => pts_nil) (fun _ _ _ _ _ => (pe_op op_sub pe_int (pv 16)))) pa_nil)) (pa_cons pe_str (pa_cons (pe_op op_sub (pe_y C__law_take hr (by decide) pass0 (by rfl) (pa_cons (pv 0) (pa_cons pe_int pa_nil))) pe_int) pa_nil)))) pa_nil))))
      (pss_cons (ps_setLc (i := 5) (own := [("k", 15)]) rfl nd rfl rfl (sw_true rfl rfl rfl (by decide +kernel)) (pi_list (pv 5)) (blkOk_by (by rfl)) (fun _ _ _ _ _ => (pg_name (i := 15) nd rfl (by first | exact .inl rfl | exact .inr rfl))) (fun _ _ _ _ _ => pts_nil) (fun _ _ _ _ _ => (pe_op op_add (pv 15) (pe_op op_mulB pe_int (pe_callTy cr_int (by rfl) B.int b_int (pa_cons (pe_cmpR op_ge (pv 15) (pv 13) (nomark _)) pa_nil))))))
      (pss_one (ps_ret (pe_tup (pa_cons (pe_op op_cat (pe_op op_cat (pe_slice sl_list (pv 4) po_none (po_some (pv 13))) (pv 14)) (pe_slice sl_list (pv 4) (po_some (pv 13)) po_none)) (pa_cons (pv 5) (pa_cons (pe_lst (pa_cons (pv 13) (pa_cons (pe_op op_add (pv 13) pe_int) pa_nil))) pa_nil)))))))))))))))))))), ?_⟩
    obtain ⟨R, C, q, hL, hle⟩ := hL.rows (by decide)
    obtain ⟨rp, np, e1, e2, e3⟩ := id hL
    walk_at "rd"
    refine rd_rg1 n rfl (by omega) (lc_eff wkR [b, g] (fun i acc H1 => Bx H1 b s g ∧ ∃ u : Nat → Int, acc = vl i u ∧ ∀ j, j < i → (u j).natAbs ≤ 3) hx.bg (by omega) (fun _ _ _ _ _ _ => trivial) (fun i acc H1 H2 D hD hR e => ⟨hx.new hR.1 hD e, hR.2⟩) ⟨hx, fun _ => 0, rfl, fun j hj => by omega⟩ (fun i x acc H1 H2 hi hl e hR y Pp hP => ?_) fun D acc H1 nD hl X1 hR eD => ?_)
    · obtain ⟨rfl, ex⟩ := y
      obtain ⟨hx2, u, rfl, hu⟩ := hR
      walk_at "rd"
      refine ⟨rfl, ?_⟩
      walk_at "rd"
      refine ⟨b, s, g, 7, rfl, hx2, by omega, by omega, fun d H3 d0 d1 X3 hx3 => ?_⟩
      walk_at "rd"
      refine hP _ H3 X3 ⟨hx3, fun j => if j = i then d - 3 else u j, ?_, fun j hj => ?_⟩
      · show _ = tab (i + 1) _
        rw [← tab_snoc]
        dsimp only
        rw [if_pos rfl]
        exact congrArg (· ++ _) (tab_ext fun j hj => by rw [if_neg (by omega)])
      · dsimp only
        by_cases h : j = i
        · rw [if_pos h]; omega
        · rw [if_neg h]; exact hu j (by omega)
    · obtain ⟨hx1, v, rfl, hv⟩ := hR
      walk_at "rd"
      refine ⟨sz (show 0 ≤ 100000 by decide), fun F0 nF => ?_⟩
      have ex2 : Ex H1 (upd H1 F0 (.lst [])) := ex_new nF
      have eF : upd H1 F0 (.lst []) F0 = some (.lst []) := upd_same
      generalize upd H1 F0 (HO.lst []) = H2 at ex2 eF ⊢
      walk_at "rd"
      refine ⟨sz (show 0 ≤ 100000 by decide), fun G0 nG => ?_⟩
      have ex3 : Ex H2 (upd H2 G0 (.lst [])) := ex_new nG
      have eG : upd H2 G0 (.lst []) G0 = some (.lst []) := upd_same
      generalize upd H2 G0 (HO.lst []) = H3 at ex3 eG ⊢
      have ex13 : Ex H1 H3 := Xt.trans ex2 ex3
      have X03 : Xt [b, g] H H3 := X1.trans (Ex.xt ex13)
      have hx3 := hx1.ex ex13
      have nFb : F0 ∉ [b, g] := hx1.nin nF
      have nGb : G0 ∉ [b, g] := (hx1.ex ex2).nin nG
      have nFH : H F0 = none := fresh_of X1 nF nFb
      have nGH : H G0 = none := fresh_of (X1.trans (Ex.xt ex2)) nG nGb
      have FG : F0 ≠ G0 := fun z => by rw [z, nG] at eF; cases eF
      have DF : D ≠ F0 := fun z => by rw [z, nF] at eD; cases eD
      have DG : D ≠ G0 := fun z => by have := ex2.at eD; rw [z, nG] at this; cases this
      have nDb : D ∉ [b, g] := hx.nin nD
      have pF : p ≠ F0 := fun z => by rw [z, nFH] at e1; cases e1
      have pG : p ≠ G0 := fun z => by rw [z, nGH] at e1; cases e1
      have nt3 : NoT [F0, G0] H3 := fun a ha xs z => by
        rcases List.mem_cons.mp ha with rfl | ha
        · rw [ex3.at eF] at z; cases z
        · rw [List.mem_singleton.mp ha, eG] at z; cases z
      have e13 := X03.at e1 hp
      have L3 : LRow H3 p ⟨n, m, R, C, q⟩ := hL.to X03 hx.nt hp
      obtain ⟨_, _, _, _, _⟩ := id L3
      have e23 : ∀ i, i < m → H3 (rp i) = some (.tup [.ref (np i), .str (rel (q i)), .int (C i)]) := fun i hi => tup_to X03 hx.nt (e2 i hi)
      have e33 : ∀ i, i < m → H3 (np i) = some (.tup (vl n (R i))) := fun i hi => tup_to X03 hx.nt (e3 i hi)
      walk_at "rd"
      refine rd_itL e13 (for_w (wkLt (n := m) (f := fun i => .ref (rp i))) (fun i σ H4 => ∃ pf nf : Nat → Addr, (Xt [F0, G0] H3 H4 ∧ H4 F0 = some (.lst (tab i fun k => .ref (pf k))) ∧ (∀ k, k < i → H4 (pf k) = some (.tup [.ref (nf k), .str (rel (turQ n R q v k)), .int (C k)]) ∧ H4 (nf k) = some (.tup (vl n (turR n R v k)))) ∧ IL H4 G0 ((List.range i).filter (looF n R v))) ∧
          ∃ o6 o7 o8 o9 o10 o11 o12 o13 o14 o15 o16, σ = [some (.ref b), some (.int n), some (.ref p), some (.ref D), some (.ref F0), some (.ref G0), o6, o7, o8, o9, o10, o11, o12, o13, o14, o15, o16])
        ⟨fun _ => 0, fun _ => 0, ⟨Xt.refl _, ex3.at eF, fun k hk => by omega, eG⟩, _, _, _, _, _, _, _, _, _, _, _, rfl⟩ (fun i σ H4 _ hP => ?_) (fun i x σ H4 H5 hi hP y => ?_) fun σ H4 hP => ?_)
      · obtain ⟨_, _, ⟨X4, _⟩, _⟩ := hP
        exact X4.at e13 (by simp [pF, pG])
      · obtain ⟨pf, nf, ⟨X4, eF4, hrow, hG⟩, o6, o7, o8, o9, o10, o11, o12, o13, o14, o15, o16, rfl⟩ := hP
        obtain ⟨rfl, rfl⟩ := y
        refine rd_gtrip (tup_to X4 nt3 (e23 i hi)) ?_
        walk_at "rd"
        refine ⟨np i, D, n, R i, v, rfl, tup_to X4 nt3 (e33 i hi), .inr (X4.at (ex13.at eD) (by simp [DF, DG])), by omega, fun j hj => mulok_r (by have := hv j hj; omega) (by have := hv j hj; omega), ?_⟩
        walk_at "rd"
        refine rd_ifH (fun σ' H6 => Ex H5 H6 ∧ ∃ na : Addr, H6 na = some (.tup (vl n (turR n R v i))) ∧ ∃ o10 o11 o12 o13 o14 o15 o16, σ' = [some (.ref b), some (.int n), some (.ref p), some (.ref D), some (.ref F0), some (.ref G0), some (.ref na), some (.str (rel (q i))), some (.int (C i)), some (.int (dt n (R i) v)), o10, o11, o12, o13, o14, o15, o16])
          (fun h1 tz hz => ?_) (fun h1 => ⟨Ex.rfl', np i, ?_, _, _, _, _, _, _, _, rfl⟩) fun σ' H6 hz => ?_
        · walk_at "rd"
          refine rd_itT (tup_to X4 nt3 (e33 i hi)) (lc_pure (wkTt (n := n) (f := fun j => .int (R i j))) (fun j => .int (0 - R i j)) (by omega) (fun H' e => e.at (tup_to X4 nt3 (e33 i hi))) (fun j x H6 H7 hj e6 y Pp hP => ?_) fun D1 H6 nD1 e6 eD1 => ?_)
          · obtain ⟨rfl, rfl⟩ := y
            walk_at "rd"
            refine ⟨rfl, ?_⟩
            walk_at "rd"
            exact hP _ Ex.rfl'
          · walk_at "rd"
            refine rd_tupL eD1 fun na H7 nna e7 ena => ?_
            refine hz _ _ ⟨Xt.trans e6 e7, na, ?_, _, _, _, _, _, _, _, rfl⟩
            rw [ena]
            unfold turR
            rw [if_pos h1]
        · rw [tup_to X4 nt3 (e33 i hi)]
          unfold turR
          rw [if_neg h1]
        · obtain ⟨e56, na, ena, o10, o11, o12, o13, o14, o15, o16, rfl⟩ := hz
          have hG6 : IL H6 G0 ((List.range i).filter (looF n R v)) := e56.at hG
          have eF6 := e56.at eF4
          walk_at "rd"
          refine rd_ifHn (fun σ' H7 => Xt [G0] H6 H7 ∧ IL H7 G0 ((List.range (i + 1)).filter (looF n R v)) ∧ ∃ o10 o11 o12 o13 o14 o15 o16, σ' = [some (.ref b), some (.int n), some (.ref p), some (.ref D), some (.ref F0), some (.ref G0), some (.ref na), some (.str (rel (turQ n R q v i))), some (.int (C i)), some (.int (dt n (R i) v)), o10, o11, o12, o13, o14, o15, o16])
            (fun h1 tz hz => ?_) (fun h1 => ⟨Xt.refl _, ?_, ?_⟩) fun σ' H7 hz => ?_
          · walk_at "rd"
            refine ⟨tyL hG6, ?_⟩
            walk_at "rd"
            refine rd_lenLt eF6 ?_
            walk_at "rd"
            have fl := List.length_filter_le (looF n R v) (List.range i)
            rw [List.length_range] at fl
            refine rd_append hG6 (szl (by rw [List.length_map]; omega)) fun H7 X7 e7 => ?_
            refine hz _ _ ⟨X7, ?_, ?_⟩
            · show H7 G0 = _
              rw [e7, filter_snoc, if_pos (by unfold looF; rw [decide_eq_false h1]; rfl), List.map_append]
              rfl
            · have : turQ n R q v i = false := by unfold turQ; rw [if_neg h1]
              rw [this]
              exact ⟨_, _, _, _, _, _, _, rfl⟩
          · rw [filter_snoc, if_neg (by unfold looF; rw [decide_eq_true h1]; decide), List.append_nil]
            exact hG6
          · have : turQ n R q v i = q i := by unfold turQ; rw [if_pos h1]
            rw [this]
            exact ⟨_, _, _, _, _, _, _, rfl⟩
          · obtain ⟨X7, hG7, o10, o11, o12, o13, o14, o15, o16, rfl⟩ := hz
            have ntG6 : NoT [G0] H6 := nt_lst hG6
            have eF7 := X7.at eF6 (by simpa using FG)
            walk_at "rd"
            refine ⟨tyL eF7, ?_⟩
            walk_at "rd"
            refine ⟨sz (show 3 ≤ 100000 by decide), fun T nT => ?_⟩
            have e8 : Ex H7 (upd H7 T (.tup [.ref na, .str (rel (turQ n R q v i)), .int (C i)])) := ex_new nT
            have eT : upd H7 T (.tup [.ref na, .str (rel (turQ n R q v i)), .int (C i)]) T = some (.tup [.ref na, .str (rel (turQ n R q v i)), .int (C i)]) := upd_same
            generalize upd H7 T (HO.tup [.ref na, .str (rel (turQ n R q v i)), .int (C i)]) = H8 at e8 eT ⊢
            walk_at "rd"
            refine rd_append (e8.at eF7) (szl (by rw [tab_len]; omega)) fun H9 X9 e9 => ?_
            have nt8 : NoT [F0] H8 := nt_lst (e8.at eF7)
            have up : ∀ {a : Addr} {xs : List V}, H6 a = some (.tup xs) → H9 a = some (.tup xs) := fun h => tup_to X9 nt8 (e8.at (tup_to X7 ntG6 h))
            refine ⟨fun k => if k = i then T else pf k, fun k => if k = i then na else nf k, ⟨X4.trans ((Ex.xt e56).trans ((X7.sub (by simp)).trans ((Ex.xt e8).trans (X9.sub (by simp))))), ?_, fun k hk => ?_, ?_⟩, _, _, _, _, _, _, _, _, _, _, _, rfl⟩
            · rw [e9, ← tab_snoc]
              refine congrArg (fun z => some (HO.lst z)) (congr (congrArg _ (tab_ext fun j hj => ?_)) ?_)
              · show _ = V.ref (if j = i then T else pf j); rw [if_neg (by omega)]
              · show _ = [V.ref (if i = i then T else pf i)]; rw [if_pos rfl]
            · show H9 (if k = i then T else pf k) = some (.tup [.ref (if k = i then na else nf k), _, _]) ∧ H9 (if k = i then na else nf k) = _
              by_cases h : k = i
              · rw [if_pos h, if_pos h, h]
                exact ⟨tup_to X9 nt8 eT, up ena⟩
              · rw [if_neg h, if_neg h]
                have r := hrow k (by omega)
                exact ⟨up (e56.at r.1), up (e56.at r.2)⟩
            · exact X9.at (e8.at hG7) (by simpa using Ne.symm FG)
      · obtain ⟨pf, nf, ⟨X4, eF4, hrow, hG⟩, o6, o7, o8, o9, o10, o11, o12, o13, o14, o15, o16, rfl⟩ := hP
        have X04 : Xt [b, g] H H4 := fun a o na ha => X4 a o (fun z => by
          rcases List.mem_cons.mp z with z | z
          · rw [z, nFH] at ha; cases ha
          · rw [List.mem_singleton.mp z, nGH] at ha; cases ha) (X03 a o na ha)
        have hx4 : Bx H4 b s g := by
          obtain ⟨l1, l2, l3⟩ := hx.live
          refine hx3.keep X4 ?_ ?_ ?_
          all_goals
            intro z
            rcases List.mem_cons.mp z with z | z
            · simp only [z, nFH] at l1 l2 l3; contradiction
            · simp only [List.mem_singleton.mp z, nGH] at l1 l2 l3; contradiction
        have eD4 : H4 D = some (.lst (vl n v)) := X4.at (ex13.at eD) (by simp [DF, DG])
        have lR : LRow H4 F0 ⟨n, m, turR n R v, C, turQ n R q v⟩ := ⟨pf, nf, eF4, fun k hk => (hrow k hk).1, fun k hk => (hrow k hk).2⟩
        have rb : ∀ i, i < m → ∀ j, j < n → (turR n R v i j).natAbs ≤ 10 ^ 9 := fun i hi j hj => by
          have := hle.2.2 i hi j hj
          unfold turR
          split
          · show (0 - R i j).natAbs ≤ _
            have : (R i j).natAbs ≤ 10 ^ 9 := this
            omega
          · exact this
        have lmem : ∀ k, k ∈ (List.range m).filter (looF n R v) → k < m ∧ dt n (turR n R v k) v ≠ 0 := fun k hk => by
          obtain ⟨h1, h2⟩ := List.mem_filter.mp hk
          refine ⟨List.mem_range.mp h1, fun z => ?_⟩
          unfold looF at h2
          rw [decide_eq_true (turR_le.2.mp z)] at h2
          cases h2
        walk_at "rd"
        refine rd_dec (fun hn0 => ?_) fun hn0 => ?_
        · walk_at "rd"
          refine ⟨sz (show 0 ≤ 100000 by decide), fun E0 nE => ?_⟩
          have e5 : Ex H4 (upd H4 E0 (.lst [])) := ex_new nE
          have eE : upd H4 E0 (.lst []) E0 = some (.lst []) := upd_same
          generalize upd H4 E0 (HO.lst []) = H5 at e5 eE ⊢
          walk_at "rd"
          refine new_tup (sz (show 3 ≤ 100000 by decide)) fun T H6 nT e6 eT => ?_
          have e46 : Ex H4 H6 := Xt.trans e5 e6
          exact k T F0 G0 E0 m _ C _ _ [] H6 (X04.trans (Ex.xt e46)) (hx4.ex e46) eT (lR.ex e46) ⟨by decide, hle.2.1, rb⟩ (by omega) ⟨nFb, nGb, hx4.nin nE⟩ (Ex.at e46 hG) (e6.at eE) (fun k hk => ⟨(lmem k hk).1, fun t => (lmem k hk).2 (t v tur_cone)⟩) fun k hk => by cases hk
        · have hn1 : 0 < n := by omega
          walk_at "rd"
          refine ⟨b, s, g, n, rfl, hx4, by omega, by omega, fun l H5 l0 l1 X5 hx5 => ?_⟩
          obtain ⟨ln, rfl⟩ : ∃ ln : Nat, l = ln := ⟨l.toNat, by omega⟩
          walk_at "rd"
          refine ⟨b, s, g, n, rfl, hx5, by omega, by omega, fun r H6 r0 r1 X6 hx6 => ?_⟩
          obtain ⟨rn, rfl⟩ : ∃ rn : Nat, r = rn := ⟨r.toNat, by omega⟩
          have hln : ln < n := by omega
          have hrn : rn < n := by omega
          have X46 : Xt [b, g] H4 H6 := X5.trans X6
          have eD6 := X46.at eD4 nDb
          have lR6 := lR.to X46 hx4.nt nFb
          have hG6 := X46.at hG nGb
          walk_at "rd"
          refine rd_rg1 n rfl (by omega) (lc_pure wkR (fun _ => .int 0) (by omega) (fun _ _ => trivial) (fun i x H2 H3 hi e2 y Pp hP => ?_) fun Ac H7 nAc e7 eAc => ?_)
          · obtain ⟨rfl, _⟩ := y
            walk_at "rd"
            refine ⟨rfl, ?_⟩
            walk_at "rd"
            exact hP _ Ex.rfl'
          · walk_at "rd"
            refine rd_ixLt ln eAc rfl hln ?_
            walk_at "rd"
            refine rd_ixLt rn (e7.at eD6) rfl hrn ?_
            walk_at "rd"
            refine rd_setLt ln eAc rfl hln fun H8 X8 e8 => ?_
            walk_at "rd"
            have DAc : D ≠ Ac := fun z => by rw [z, nAc] at eD6; cases eD6
            have eD8 := X8.at (e7.at eD6) (by simpa using DAc)
            have e8 : H8 Ac = some (.lst (vl n fun k => if k = ln then 0 + v rn else 0)) := e8.trans (congrArg (fun z => some (HO.lst z)) (tab_ext fun j hj => by
              show (if j = ln then _ else _) = V.int (if j = ln then _ else _)
              split <;> rfl))
            refine rd_ixLt rn e8 rfl hrn ?_
            walk_at "rd"
            refine rd_ixLt ln eD8 rfl hln ?_
            walk_at "rd"
            refine rd_setLt rn e8 rfl hrn fun H9 X9 e9 => ?_
            have e9 : H9 Ac = some (.lst (vl n (acr ln rn v))) := e9.trans (congrArg (fun z => some (HO.lst z)) (tab_ext fun j hj => by
              show (if j = rn then _ else V.int (if j = ln then _ else _)) = V.int (if j = rn then _ else if j = ln then _ else _)
              split <;> rfl))
            walk_at "rd"
            have hx6' := hx6
            have ex69 : Ex H6 H9 := Xt.fr (Xt.fr e7 X8 nAc) X9 nAc
            have hx9 := hx6.ex ex69
            have nAcb : Ac ∉ [b, g] := hx6.nin nAc
            have lR9 := lR6.ex ex69
            obtain ⟨pf9, nf9, eF9, hp9, hn9⟩ := id lR9
            have hG9 : IL H9 G0 _ := Ex.at ex69 hG6
            refine rd_lenLt eF9 ?_
            walk_at "rd"
            refine ⟨b, s, g, _, rfl, hx9, (show (0 : Int) < (m : Int) + 1 by omega), (show (m : Int) + 1 < 2 ^ 62 by omega), fun d H10 d0 d1 X10 hx10 => ?_⟩
            obtain ⟨dn, rfl⟩ : ∃ dn : Nat, d = dn := ⟨d.toNat, by omega⟩
            have hdm : dn ≤ m := by
              have : (dn : Int) < (m : Int) + 1 := d1
              omega
            have lR10 := lR9.to X10 hx9.nt nFb
            have hG10 := X10.at hG9 nGb
            have eA10 := X10.at e9 nAcb
            walk_at "rd"
            refine rd_tupL eA10 fun a1 H11 na1 e11 ea1 => ?_
            walk_at "rd"
            have hx11 := hx10.ex e11
            refine ⟨b, s, g, 19, rfl, hx11, by decide, by decide, fun c1 H12 c10 c11 X12 hx12 => ?_⟩
            walk_at "rd"
            have ea1' := X12.at ea1 (hx11.tin ea1)
            refine ⟨sz (show 3 ≤ 100000 by decide), fun T1 nT1 => ?_⟩
            have e13 : Ex H12 (upd H12 T1 (.tup [.ref a1, .str "atmost", .int (c1 - 9)])) := ex_new nT1
            have eT1 : upd H12 T1 (.tup [.ref a1, .str "atmost", .int (c1 - 9)]) T1 = some (.tup [.ref a1, .str "atmost", .int (c1 - 9)]) := upd_same
            generalize upd H12 T1 (HO.tup [.ref a1, .str "atmost", .int (c1 - 9)]) = H13 at e13 eT1 ⊢
            walk_at "rd"
            refine ⟨sz (show 1 ≤ 100000 by decide), fun P1 nP1 => ?_⟩
            have e14 : Ex H13 (upd H13 P1 (.lst [.ref T1])) := ex_new nP1
            have eP1 : upd H13 P1 (.lst [.ref T1]) P1 = some (.lst [.ref T1]) := upd_same
            generalize upd H13 P1 (HO.lst [.ref T1]) = H14 at e14 eP1 ⊢
            have hx13 := hx12.ex e13
            have hx14 := hx13.ex e14
            have nP1b : P1 ∉ [b, g] := hx13.nin nP1
            walk_at "rd"
            have X1014 : Xt [b, g] H10 H14 := (Ex.xt e11).trans (X12.trans ((Ex.xt e13).trans (Ex.xt e14)))
            have eA14 := X1014.at eA10 nAcb
            refine rd_itL eA14 (lc_pure (wkLt (n := n) (f := fun j => .int (acr ln rn v j))) (fun j => .int (0 - acr ln rn v j)) (by omega) (fun H' e => e.at eA14) (fun j x H15 H16 hj e15 y Pp hP => ?_) fun A2 H15 nA2 e15 eA2 => ?_)
            · obtain ⟨rfl, rfl⟩ := y
              walk_at "rd"
              refine ⟨rfl, ?_⟩
              walk_at "rd"
              exact hP _ Ex.rfl'
            · walk_at "rd"
              refine rd_tupL eA2 fun a2 H16 na2 e16 ea2 => ?_
              walk_at "rd"
              have hx16 := (hx14.ex e15).ex e16
              refine ⟨b, s, g, 19, rfl, hx16, by decide, by decide, fun c2 H17 c20 c21 X17 hx17 => ?_⟩
              walk_at "rd"
              have ea2' := X17.at ea2 (hx16.tin ea2)
              refine ⟨sz (show 3 ≤ 100000 by decide), fun T2 nT2 => ?_⟩
              have e18 : Ex H17 (upd H17 T2 (.tup [.ref a2, .str "atmost", .int (c2 - 9)])) := ex_new nT2
              have eT2 : upd H17 T2 (.tup [.ref a2, .str "atmost", .int (c2 - 9)]) T2 = some (.tup [.ref a2, .str "atmost", .int (c2 - 9)]) := upd_same
              generalize upd H17 T2 (HO.tup [.ref a2, .str "atmost", .int (c2 - 9)]) = H18 at e18 eT2 ⊢
              walk_at "rd"
              refine ⟨sz (show 1 ≤ 100000 by decide), fun P2 nP2 => ?_⟩
              have e19 : Ex H18 (upd H18 P2 (.lst [.ref T2])) := ex_new nP2
              have eP2 : upd H18 P2 (.lst [.ref T2]) P2 = some (.lst [.ref T2]) := upd_same
              generalize upd H18 P2 (HO.lst [.ref T2]) = H19 at e19 eP2 ⊢
              have X1419 : Xt [b, g] H14 H19 := (Ex.xt (Xt.trans e15 e16)).trans (X17.trans (Ex.xt (Xt.trans e18 e19)))
              refine rd_cat (X1419.at eP1 nP1b) eP2 (sz (by show 1 + 1 ≤ 100000; decide)) fun P3 H20 nP3 e20 eP3 => ?_
              have hx20 := ((hx17.ex e18).ex e19).ex e20
              have X1020 : Xt [b, g] H10 H20 := X1014.trans (X1419.trans (Ex.xt e20))
              have hG20 := X1020.at hG10 nGb
              walk_at "rd"
              refine rd_itL hG20 (lc_pure wkL (fun j => .int ((if (((List.range m).filter (looF n R v)).getD j 0) < dn then (((List.range m).filter (looF n R v)).getD j 0) else (((List.range m).filter (looF n R v)).getD j 0) + 2 : Nat) : Int)) (by
                have := List.length_filter_le (looF n R v) (List.range m)
                rw [List.length_range] at this
                rw [List.length_map]; omega) (fun H' e => e.at hG20) (fun j x H21 H22 hj e21 y Pp hP => ?_) fun L2 H21 nL2 e21 eL2 => ?_)
              · obtain ⟨rfl, hx⟩ := y
                rw [List.length_map] at hj
                rw [List.getElem?_map, List.getElem?_eq_getElem hj] at hx
                have eg : ((List.range m).filter (looF n R v)).getD j 0 = ((List.range m).filter (looF n R v))[j] := by rw [List.getD_eq_getElem?_getD, List.getElem?_eq_getElem hj]; rfl
                rw [eg] at hP
                generalize ((List.range m).filter (looF n R v))[j] = z at *
                obtain rfl : V.int (z : Nat) = x := by cases hx; rfl
                walk_at "rd"
                refine ⟨rfl, ?_⟩
                walk_at "rd"
                have ez : V.int ((z : Int) + 2 * (if decide ((z : Int) ≥ (dn : Int)) = true then 1 else 0)) = V.int ((if z < dn then z else z + 2 : Nat) : Int) := congrArg V.int (by
                  by_cases h : z < dn
                  · rw [if_pos h, if_neg (by rw [decide_eq_false (by omega)]; decide)]; omega
                  · rw [if_neg h, if_pos (decide_eq_true (by omega))]; omega)
                have := hP H22 Ex.rfl'
                rw [← ez] at this
                exact this
              · walk_at "rd"
                have hx21 := hx20.ex e21
                have X1021 : Xt [b, g] H10 H21 := X1020.trans (Ex.xt e21)
                have lR21 := lR10.to X1021 hx10.nt nFb
                obtain ⟨pf21, nf21, eF21, hp21, hn21⟩ := id lR21
                have eF21 : H21 F0 = some (.lst (tab m fun i => V.ref (pf21 i))) := eF21
                have e2021 : Ex H19 H21 := Xt.trans e20 e21
                have eT1' : H21 T1 = some (.tup [.ref a1, .str "atmost", .int (c1 - 9)]) := tup_to ((Ex.xt e14).trans (X1419.trans (Ex.xt e2021))) hx13.nt eT1
                have ea1'' : H21 a1 = some (.tup (vl n (acr ln rn v))) := tup_to ((Ex.xt (Xt.trans e13 e14)).trans (X1419.trans (Ex.xt e2021))) hx12.nt ea1'
                have eT2' : H21 T2 = some (.tup [.ref a2, .str "atmost", .int (c2 - 9)]) := Ex.at (Xt.trans e19 e2021) eT2
                have ea2'' : H21 a2 = some (.tup (vl n fun j => 0 - acr ln rn v j)) := Ex.at (Xt.trans e18 (Xt.trans e19 e2021)) ea2'
                have eP3' := Ex.at e21 eP3
                refine rd_slL eF21 fun l1 H22 nl1 e22 el1 => ?_
                rw [cut_lo (by rw [tab_len]; exact hdm)] at el1
                walk_at "rd"
                have lt : ((tab m fun i => V.ref (pf21 i)).take dn).length ≤ 20 := by rw [List.length_take]; omega
                refine rd_cat el1 (e22.at eP3') (sz (by show _ + 2 ≤ 100000; omega)) fun l2 H23 nl2 e23' el2 => ?_
                walk_at "rd"
                refine rd_slL (e23'.at (e22.at eF21)) fun l3 H24 nl3 e24 el3 => ?_
                rw [cut_hi (by rw [tab_len]; exact hdm)] at el3
                have ld : ((tab m fun i => V.ref (pf21 i)).drop dn).length ≤ 20 := by rw [List.length_drop, tab_len]; omega
                refine rd_cat (e24.at el2) el3 (sz (by rw [List.length_append]; show _ + 2 + _ ≤ 100000; omega)) fun Z H25 nZ e25 eZ => ?_
                have eZ : H25 Z = some (.lst (tab (m + 2) fun i => if i < dn then V.ref (pf21 i) else if i = dn then .ref T1 else if i = dn + 1 then .ref T2 else .ref (pf21 (i - 2)))) := by
                  rw [eZ]
                  exact congrArg (fun z => some (HO.lst z)) (ins2_tab hdm)
                walk_at "rd"
                refine ⟨sz (show 2 ≤ 100000 by decide), fun E0 nE => ?_⟩
                have e26 : Ex H25 (upd H25 E0 (.lst [.int dn, .int ((dn : Int) + 1)])) := ex_new nE
                have eE : upd H25 E0 (.lst [.int dn, .int ((dn : Int) + 1)]) E0 = some (.lst [.int dn, .int ((dn : Int) + 1)]) := upd_same
                generalize upd H25 E0 (HO.lst [.int dn, .int ((dn : Int) + 1)]) = H26 at e26 eE ⊢
                walk_at "rd"
                refine new_tup (sz (show 3 ≤ 100000 by decide)) fun T H27 nT e27 eT => ?_
                have e2127 : Ex H21 H27 := Xt.trans e22 (Xt.trans e23' (Xt.trans e24 (Xt.trans e25 (Xt.trans e26 e27))))
                have X027 : Xt [b, g] H H27 := X04.trans (X46.trans ((Ex.xt ex69).trans (X10.trans (X1021.trans (Ex.xt e2127)))))
                have hx27 := hx21.ex e2127
                have ab : ∀ j, j < n → (acr ln rn v j).natAbs ≤ 10 ^ 9 := fun j hj => by
                  have h1 := hv rn hrn
                  have h2 := hv ln hln
                  unfold acr
                  split
                  · split <;> omega
                  · split <;> omega
                have hcone : Cone ⟨n, m + 2, in2 dn (turR n R v) (acr ln rn v) (fun j => 0 - acr ln rn v j), in2 dn C (c1 - 9) (c2 - 9), in2 dn (turQ n R q v) false false⟩ v := along_cone hln hrn hdm
                refine k T Z L2 E0 (m + 2) (in2 dn (turR n R v) (acr ln rn v) (fun j => 0 - acr ln rn v j)) (in2 dn C (c1 - 9) (c2 - 9)) (in2 dn (turQ n R q v) false false) (((List.range m).filter (looF n R v)).map fun k => if k < dn then k else k + 2) [dn, dn + 1] H27 X027 hx27 eT
                  ⟨fun i => if i < dn then pf21 i else if i = dn then T1 else if i = dn + 1 then T2 else pf21 (i - 2), fun i => if i < dn then nf21 i else if i = dn then a1 else if i = dn + 1 then a2 else nf21 (i - 2), ?_, fun i hi => ?_, fun i hi => ?_⟩ ⟨by decide, fun i hi => ?_, fun i hi j hj => ?_⟩ (by omega) ⟨?_, ?_, ?_⟩ ?_ ?_ (fun i hi => ?_) fun i hi => ?_
                · rw [e27.at (e26.at eZ)]
                  refine congrArg (fun z => some (HO.lst z)) (tab_ext fun i hi => ?_)
                  show _ = V.ref (if i < dn then pf21 i else if i = dn then T1 else if i = dn + 1 then T2 else pf21 (i - 2))
                  split
                  · rfl
                  · split
                    · rfl
                    · split <;> rfl
                · show H27 (if i < dn then pf21 i else if i = dn then T1 else if i = dn + 1 then T2 else pf21 (i - 2)) = some (.tup [.ref (if i < dn then nf21 i else if i = dn then a1 else if i = dn + 1 then a2 else nf21 (i - 2)), .str (rel (in2 dn (turQ n R q v) false false i)), .int (in2 dn C (c1 - 9) (c2 - 9) i)])
                  have hi : i < m + 2 := hi
                  unfold in2
                  by_cases h1 : i < dn
                  · simp only [if_pos h1]
                    exact Ex.at e2127 (hp21 i (show i < m by omega))
                  · by_cases h2 : i = dn
                    · simp only [if_neg h1, if_pos h2]
                      exact Ex.at e2127 eT1'
                    · by_cases h3 : i = dn + 1
                      · simp only [if_neg h1, if_neg h2, if_pos h3]
                        exact Ex.at e2127 eT2'
                      · simp only [if_neg h1, if_neg h2, if_neg h3]
                        exact Ex.at e2127 (hp21 (i - 2) (show i - 2 < m by omega))
                · show H27 (if i < dn then nf21 i else if i = dn then a1 else if i = dn + 1 then a2 else nf21 (i - 2)) = some (.tup (vl n (in2 dn (turR n R v) (acr ln rn v) (fun j => 0 - acr ln rn v j) i)))
                  have hi : i < m + 2 := hi
                  unfold in2
                  by_cases h1 : i < dn
                  · simp only [if_pos h1]
                    exact Ex.at e2127 (hn21 i (show i < m by omega))
                  · by_cases h2 : i = dn
                    · simp only [if_neg h1, if_pos h2]
                      exact Ex.at e2127 ea1''
                    · by_cases h3 : i = dn + 1
                      · simp only [if_neg h1, if_neg h2, if_pos h3]
                        exact Ex.at e2127 ea2''
                      · simp only [if_neg h1, if_neg h2, if_neg h3]
                        exact Ex.at e2127 (hn21 (i - 2) (show i - 2 < m by omega))
                · show (in2 dn C (c1 - 9) (c2 - 9) i).natAbs ≤ 10 ^ 9
                  have hi : i < m + 2 := hi
                  unfold in2
                  split
                  · exact hle.2.1 i (show i < m by omega)
                  · split
                    · omega
                    · split
                      · omega
                      · exact hle.2.1 (i - 2) (show i - 2 < m by omega)
                · show (in2 dn (turR n R v) (acr ln rn v) (fun j => 0 - acr ln rn v j) i j).natAbs ≤ 10 ^ 9
                  have hi : i < m + 2 := hi
                  have hj : j < n := hj
                  unfold in2
                  split
                  · exact rb i (by omega) j hj
                  · split
                    · exact ab j hj
                    · split
                      · have := ab j hj
                        show (0 - acr ln rn v j).natAbs ≤ _
                        omega
                      · exact rb (i - 2) (by omega) j hj
                · exact ((hx21.ex (Xt.trans e22 (Xt.trans e23' e24)))).nin nZ
                · exact hx20.nin nL2
                · exact (hx21.ex (Xt.trans e22 (Xt.trans e23' (Xt.trans e24 e25)))).nin nE
                · show H27 L2 = _
                  rw [Ex.at e2127 eL2, List.length_map]
                  refine congrArg (fun z => some (HO.lst z)) ?_
                  rw [map_getD 0 (fun z => V.int ((if z < dn then z else z + 2 : Nat) : Int)), List.map_map]
                  rfl
                · exact Ex.at e27 eE
                · obtain ⟨z, hz, rfl⟩ := List.mem_map.mp hi
                  have lm := lmem z hz
                  refine ⟨by split <;> omega, fun t => lm.2 ?_⟩
                  have q := t v hcone
                  have e : in2 dn (turR n R v) (acr ln rn v) (fun j => 0 - acr ln rn v j) (if z < dn then z else z + 2) = turR n R v z := by
                    unfold in2
                    by_cases h : z < dn
                    · rw [if_pos h, if_pos h]
                    · rw [if_neg h, if_neg (by omega), if_neg (by omega), if_neg (by omega)]; rfl
                  rw [← e]
                  exact q
                · have e1 : in2 dn (turR n R v) (acr ln rn v) (fun j => 0 - acr ln rn v j) dn = acr ln rn v := by unfold in2; rw [if_neg (by omega), if_pos rfl]
                  have e2 : in2 dn (turR n R v) (acr ln rn v) (fun j => 0 - acr ln rn v j) (dn + 1) = fun j => 0 - acr ln rn v j := by unfold in2; rw [if_neg (by omega), if_neg (by omega), if_pos rfl]
                  have both : ∀ u, Cone ⟨n, m + 2, in2 dn (turR n R v) (acr ln rn v) (fun j => 0 - acr ln rn v j), in2 dn C (c1 - 9) (c2 - 9), in2 dn (turQ n R q v) false false⟩ u → dt n (acr ln rn v) u = 0 := fun u hu => by
                    have h1 := (hu dn (show dn < m + 2 by omega)).1
                    have h2 := (hu (dn + 1) (show dn + 1 < m + 2 by omega)).1
                    have h1 : dt n (in2 dn (turR n R v) (acr ln rn v) (fun j => 0 - acr ln rn v j) dn) u ≤ 0 := h1
                    have h2 : dt n (in2 dn (turR n R v) (acr ln rn v) (fun j => 0 - acr ln rn v j) (dn + 1)) u ≤ 0 := h2
                    rw [e1] at h1
                    rw [e2, dt_neg'] at h2
                    omega
                  rcases List.mem_cons.mp hi with rfl | hi
                  · refine ⟨by omega, fun u hu => ?_⟩
                    show dt n (in2 i (turR n R v) (acr ln rn v) (fun j => 0 - acr ln rn v j) i) u = 0
                    rw [e1]; exact both u hu
                  · rw [List.mem_singleton.mp hi]
                    refine ⟨by omega, fun u hu => ?_⟩
                    show dt n (in2 dn (turR n R v) (acr ln rn v) (fun j => 0 - acr ln rn v j) (dn + 1)) u = 0
                    rw [e2, dt_neg', both u hu]; rfl
end
end Sx
/-! rows around -/
namespace Sx
open PySem PySem.Spec PyProof.Rows L2 Y
local macro_rules | `(tactic| walk_at "rd1") => `(tactic| first
  | with_reducible refine rd_var rfl ?_
  | with_reducible refine rd_op ?_
  | with_reducible refine rd_c ?_
  | with_reducible refine rd_I0 ?_
  | with_reducible refine rd_seq ?_
  | ((with_reducible refine rd_I ?_ ?_); focus (first | exact mulok_r (by decide) (by decide) | exact mulok_l (by decide) (by decide) | (show _ ≠ _; decide) | (show _ ∧ _; decide)))
  | with_reducible refine rd_asg ?_
  | with_reducible refine rd_name ?_
  | with_reducible refine rd_cb ?_
  | with_reducible refine rd_cons ?_
  | with_reducible refine rd_nil ?_
  | with_reducible refine rd_int ?_
  | with_reducible refine rd_eqI ?_
  | with_reducible refine rd_neI ?_
  | with_reducible refine rd_bl ?_
  | with_reducible refine rd_test ?_
  | with_reducible refine rd_tB ?_
  | with_reducible refine rd_ifS ?_
  | with_reducible refine rd_next ?_
  | with_reducible refine rd_T ?_
  | with_reducible refine rd_F ?_
  | with_reducible refine rd_nT ?_
  | with_reducible refine rd_nF ?_
  | with_reducible refine rd_blV ?_
  | with_reducible refine rd_ret ?_
  | with_reducible refine rd_call ?_
  | with_reducible refine rd_drop ?_
  | with_reducible refine rd_not ?_
  | with_reducible refine rd_and ?_
  | with_reducible refine rd_or ?_
  | with_reducible refine rd_un ?_
  | with_reducible refine rd_U ?_
  | with_reducible refine rd_tup ?_
  | with_reducible refine rd_lst ?_
  | with_reducible refine rd_if ?_
  | with_reducible refine rd_andV ?_
  | with_reducible refine rd_orV ?_
  | with_reducible refine rd_notV ?_
  | with_reducible refine rd_sl ?_
  | with_reducible refine rd_nopart ?_
  | with_reducible refine rd_part ?_
  | with_reducible refine rd_iv ?_
  | with_reducible refine rd_bm ?_
  | with_reducible refine rd_abs ?_
  | with_reducible refine rd_intb ?_
  | with_reducible refine rd_mx2 ?_
  | with_reducible refine rd_mn2 ?_
  | with_reducible refine rd_sub ?_
  | with_reducible refine rd_lc ?_
  | with_reducible refine rd_for ?_
  | with_reducible refine rd_iL ?_
  | with_reducible refine rd_iT ?_
  | with_reducible refine rd_r1 ?_
  | with_reducible refine rd_r2 ?_
  | with_reducible refine rd_iZ ?_
  | with_reducible refine rd_iZM ?_
  | with_reducible refine rd_while ?_
  | with_reducible refine rd_tru ?_
  | with_reducible refine rd_brk ?_
  | with_reducible refine rd_iA ?_
  | with_reducible refine rd_iZA ?_
  | with_reducible refine rd_par ?_
  | with_reducible refine rd_par2 ?_
  | with_reducible refine rd_bits ?_
  | with_reducible refine rd_callS ?_)
local macro_rules | `(tactic| walk_at "rd") => `(tactic| repeat walk_at "rd1")

theorem dt_comb {n m : Nat} {y : Nat → Int} {R : Nat → Nat → Int} {v u : Nat → Int} (hu : ∀ j, j < n → u j = - sm m fun k => y k * R k j) : dt n u v = - sm m fun k => y k * dt n (R k) v := by
  have e1 : (sm m fun k => y k * dt n (R k) v) = sm m fun k => sm n fun j => y k * (R k j * v j) := sm_congr fun k hk => by rw [sm_mul]
  rw [e1, sm_swap (fun k j => y k * (R k j * v j)) n m]
  have e2 : dt n u v = sm n fun j => -1 * sm m fun k => y k * (R k j * v j) := sm_congr fun j hj => by
    rw [hu j hj]
    have : (sm m fun k => y k * (R k j * v j)) = v j * sm m fun k => y k * R k j := by
      rw [← sm_mul]
      exact sm_congr fun k hk => by grind
    rw [this]
    grind
  rw [e2, sm_mul]
  omega
/-- one row put in -/
def in1 (d : Nat) {α : Type} (f : Nat → α) (x : α) (i : Nat) : α := if i < d then f i else if i = d then x else f (i - 1)
theorem around_tight {n m d : Nat} {R : Nat → Nat → Int} {C : Nat → Int} {q : Nat → Bool} {u sh : Nat → Int} {c : Int} (hd : d ≤ m) (hs : ∀ k, k < m → 0 ≤ sh k) (hu : ∀ j, j < n → u j = - sm m fun k => sh k * R k j) {i : Nat} (hi : i < m + 1)
    (hf : in1 d (fun k => decide (0 < sh k) || q k) true i = true) : TightI ⟨n, m + 1, in1 d R u, in1 d C c, in1 d q false⟩ i := fun v hv => by
  have row : ∀ k, k < m → dt n (R k) v ≤ 0 ∧ (q k = true → dt n (R k) v = 0) := fun k hk => by
    by_cases h : k < d
    · have z := hv k (show k < m + 1 by omega)
      have e1 : in1 d R u k = R k := if_pos h
      have e2 : in1 d q false k = q k := if_pos h
      have z : dt n (in1 d R u k) v ≤ 0 ∧ (in1 d q false k = true → dt n (in1 d R u k) v = 0) := z
      rw [e1, e2] at z
      exact z
    · have z := hv (k + 1) (show k + 1 < m + 1 by omega)
      have e1 : in1 d R u (k + 1) = R k := by unfold in1; rw [if_neg (by omega), if_neg (by omega)]; rfl
      have e2 : in1 d q false (k + 1) = q k := by unfold in1; rw [if_neg (by omega), if_neg (by omega)]; rfl
      have z : dt n (in1 d R u (k + 1)) v ≤ 0 ∧ (in1 d q false (k + 1) = true → dt n (in1 d R u (k + 1)) v = 0) := z
      rw [e1, e2] at z
      exact z
  have last : dt n u v ≤ 0 := by
    have z := (hv d (show d < m + 1 by omega)).1
    have e1 : in1 d R u d = u := by unfold in1; rw [if_neg (by omega), if_pos rfl]
    have z : dt n (in1 d R u d) v ≤ 0 := z
    rw [e1] at z
    exact z
  have e := dt_comb (v := v) hu
  have t : ∀ k, k < m → sh k * dt n (R k) v ≤ 0 := fun k hk => Int.mul_nonpos_of_nonneg_of_nonpos (hs k hk) (row k hk).1
  have s0 := sm_nonpos t
  have sz : (sm m fun k => sh k * dt n (R k) v) = 0 := by omega
  have each := sm_zero_each t sz
  have fl : ∀ k, k < m → (decide (0 < sh k) || q k) = true → dt n (R k) v = 0 := fun k hk h => by
    rcases Bool.or_eq_true_iff.mp h with h | h
    · have h := of_decide_eq_true h
      rcases Int.mul_eq_zero.mp (each k hk) with z | z
      · omega
      · exact z
    · exact (row k hk).2 h
  show dt n (in1 d R u i) v = 0
  unfold in1 at hf ⊢
  by_cases h1 : i < d
  · rw [if_pos h1] at hf ⊢; exact fl i (by omega) hf
  · rw [if_neg h1] at hf ⊢
    by_cases h2 : i = d
    · rw [if_pos h2]; omega
    · rw [if_neg h2] at hf ⊢; exact fl (i - 1) (by omega) hf
theorem share_at {d : Int} (h0 : 0 ≤ d) (h1 : d < 4) : ∃ s : Int, ([.int 0, .int 0, .int 1, .int 2] : List V)[d.toNat]? = some (.int s) ∧ 0 ≤ s ∧ s ≤ 2 := by
  have : d = 0 ∨ d = 1 ∨ d = 2 ∨ d = 3 := by omega
  rcases this with rfl | rfl | rfl | rfl
  · exact ⟨0, rfl, by decide, by decide⟩
  · exact ⟨0, rfl, by decide, by decide⟩
  · exact ⟨1, rfl, by decide, by decide⟩
  · exact ⟨2, rfl, by decide, by decide⟩
section
variable {P : Program} {w : World} {K : PySem.W.Frag} {mg : Str → Option Value} {base : Heap}
abbrev s__law_around : Stmt := topS 32
theorem sc__law_around : FnScope ["box", "many", "rows", "sums", "flags", "numbers", "relation", "most", "share", "at", "last", "firm", "k"] ["box", "many", "rows"] (defScope s__law_around) := ⟨rfl, rfl, rfl, by decide +kernel, rfl, by decide +kernel, by decide +kernel⟩
def sp__law_around : Sp := fun vs H Q _ => ∃ (b s g p : Addr) (n m : Nat), vs = [.ref b, .int n, .ref p] ∧ Bx H b s g ∧ n ≤ 7 ∧ m ≤ 10 ∧ LR H p n m (10 ^ 9) ∧ p ∉ [b, g] ∧
  ∀ (T p' l2 : Addr) (m' : Nat) (R : Nat → Nat → Int) (C : Nat → Int) (q : Nat → Bool) (fs : List Nat) (H' : Hp), Xt [b, g] H H' → Bx H' b s g → H' T = some (.tup [.ref p', .ref l2]) → LRow H' p' ⟨n, m', R, C, q⟩ → Rws.le ⟨n, m', R, C, q⟩ BB → m' ≤ m + 2 → (p' ∉ [b, g] ∧ l2 ∉ [b, g]) → IL H' l2 fs →
    (∀ k ∈ fs, k < m' ∧ TightI ⟨n, m', R, C, q⟩ k) → Q (.ref T) H'
theorem ok__law_around {f : Addr} {fd : FuncData} (F : Fun K "_law_around" "_law_around" s__law_around f fd) (B : Bi mg) (C__law_take : Cl P w K mg base CX0 43 "_law_take" ["box", "size"] sp__law_take) : FnOk P w K mg base CX0 45 f fd ["box", "many", "rows"] sp__law_around := by
  refine F.ok sc__law_around (fun vs H Q E h => ?_) (fun cdv A outer s0 H vs Q E hr h => ?_)
  · obtain ⟨b, s, g, p, n, m, rfl, _⟩ := h; rfl
  · obtain ⟨b, s, g, p, n, m, rfl, hx, hn, hm, hL, hp, k⟩ := h
    have nd := sc__law_around.nd
    refine ⟨_, (pss_cons (ps_set (i := 3) nd rfl (.inr rfl) (pe_lc (own := [("k", 12)]) rfl nd (pi_range1 (by rfl) B.range (pa_cons (pv 1) pa_nil)) (blkOk_by (by rfl)) (fun _ _ _ _ _ => (pg_name (i := 12) nd rfl (by first | exact .inl rfl | exact .inr rfl))) (fun _ _ _ _ _ => pts_nil) (fun _ _ _ _ _ => pe_int)))
      (pss_cons (ps_set (i := 4) nd rfl (.inr rfl) (pe_lst pa_nil))
      (pss_cons (ps_for PassesOwn.never rfl (pi_list (pv 2)) (pg_tup (n := 3) (by rfl) (pgs_cons (pg_name (i := 5) nd rfl (.inr rfl)) (pgs_cons (pg_name (i := 6) nd rfl (.inl rfl)) (pgs_cons (pg_name (i := 7) nd rfl (.inl rfl)) pgs_nil))))
        (pss_cons (ps_set (i := 8) nd rfl (.inr rfl) (pe_ix ix_tup (pe_tup (pa_cons pe_int (pa_cons pe_int (pa_cons pe_int (pa_cons pe_int pa_nil))))) (pe_y C__law_take hr (by decide) pass0 (by rfl) (pa_cons (pv 0) (pa_cons pe_int pa_nil))) (fun _ _ => rfl)))
        (pss_cons (ps_set (i := 3) nd rfl (.inr rfl) (pe_lc (own := [("k", 12)]) rfl nd (pi_range1 (by rfl) B.range (pa_cons (pv 1) pa_nil)) (blkOk_by (by rfl)) (fun _ _ _ _ _ => (pg_name (i := 12) nd rfl (by first | exact .inl rfl | exact .inr rfl))) (fun _ _ _ _ _ => pts_nil) (fun _ _ _ _ _ => (pe_op op_sub (pe_ix (ix_listK (K := K) rfl) (pv 3) (pv 12) (fun _ _ => rfl)) (pe_op op_mulB (pv 8) (pe_ix (ix_tupK (K := K) rfl) (pv 5) (pv 12) (fun _ _ => rfl)))))))
        (pss_one (ps_expr (pe_bm PySem.F.plainAttrs_list PySem.F.slot_list_append PySem.F.type_list_append mt_append (pv 4) (pa_cons (pe_or (pe_cmpR op_gt (pv 8) pe_int (nomark _)) (pe_one (pe_cmpR op_eq (pv 6) pe_str (nomark _)))) pa_nil)))))))
      (pss_cons (ps_set (i := 9) nd rfl (.inl rfl) (pe_y C__law_take hr (by decide) pass0 (by rfl) (pa_cons (pv 0) (pa_cons (pe_op op_add (pe_callB cr_len (by rfl) B.len b_len (pa_cons (pv 2) pa_nil)) pe_int) pa_nil))))
      (pss_cons (ps_set (i := 10) nd rfl (.inl rfl) (pe_tup (pa_cons (pe_callTy cr_tupOf (by rfl) B.tuple b_tuple (pa_cons (pv 3) pa_nil)) (pa_cons pe_str (pa_cons (pe_op op_sub (pe_y C__law_take hr (by decide) pass0 (by rfl) (pa_cons (pv 0) (pa_cons pe_int pa_nil))) pe_int) pa_nil)))))
      (pss_cons (ps_set (i := 4) nd rfl (.inr rfl) (pe_op op_cat (pe_op op_cat (pe_slice sl_list (pv 4) po_none (po_some (pv 9))) (pe_lst (pa_cons pe_bl pa_nil))) (pe_slice sl_list (pv 4) (po_some (pv 9)) po_none)))
      (pss_cons (ps_setLc (i := 11) (own := [("k", 12)]) rfl nd rfl rfl (sw_true rfl rfl rfl (by decide +kernel)) (pi_range1 (by rfl) B.range (pa_cons (pe_callB cr_len (by rfl) B.len b_len (pa_cons (pv 4) pa_nil)) pa_nil)) (blkOk_by (by rfl)) (fun _ _ _ _ _ => (pg_name (i := 12) nd rfl (by first | exact .inl rfl | exact .inr rfl))) (fun _ _ _ _ _ => (pts_one (pt_val (pe_ix (ix_listK (K := K) rfl) (pv 4) (pv 12) (fun _ _ => rfl))))) (fun _ _ _ _ _ => (pv 12)))
      (pss_one (ps_ret (pe_tup (pa_cons (pe_op op_cat (pe_op op_cat (pe_slice sl_list (pv 2) po_none (po_some (pv 9))) (pe_lst (pa_cons (pv 10) pa_nil))) (pe_slice sl_list (pv 2) (po_some (pv 9)) po_none)) (pa_cons (pv 11) pa_nil)))))))))))), ?_⟩
    obtain ⟨R, C, q, hL, hle⟩ := hL.rows (by decide)
    obtain ⟨rp, np, e1, e2, e3⟩ := id hL
    walk_at "rd"
    refine rd_rg1 n rfl (by omega) (lc_pure wkR (fun _ => .int 0) (by omega) (fun _ _ => trivial) (fun i x H2 H3 hi e2 y Pp hP => ?_) fun D0 H1 nD0 ex1 eD0 => ?_)
    · obtain ⟨rfl, _⟩ := y
      walk_at "rd"
      refine ⟨rfl, ?_⟩
      walk_at "rd"
      exact hP _ Ex.rfl'
    · walk_at "rd"
      refine ⟨sz (show 0 ≤ 100000 by decide), fun F0 nF => ?_⟩
      have ex2 : Ex H1 (upd H1 F0 (.lst [])) := ex_new nF
      have eF : upd H1 F0 (.lst []) F0 = some (.lst []) := upd_same
      generalize upd H1 F0 (HO.lst []) = H2 at ex2 eF ⊢
      have ex02 : Ex H H2 := Xt.trans ex1 ex2
      have nFH : H F0 = none := Ex.back ex1 nF
      have nFb : F0 ∉ [b, g] := hx.nin nFH
      have DF : D0 ≠ F0 := fun z => by rw [z, nF] at eD0; cases eD0
      walk_at "rd"
      refine rd_itL (ex02.at e1) (for_w (wkLt (n := m) (f := fun i => .ref (rp i))) (fun i σ H4 => ∃ (D : Addr) (u sh : Nat → Int) (fl : Nat → Bool), (Xt [b, g] H H4 ∧ Bx H4 b s g ∧ H4 F0 = some (.lst (tab i fun k => .bl (fl k))) ∧ H4 D = some (.lst (vl n u)) ∧ D ∉ [b, g] ∧ D ≠ F0 ∧ (∀ k, k < i → fl k = (decide (0 < sh k) || q k)) ∧ (∀ k, k < i → 0 ≤ sh k ∧ sh k ≤ 2) ∧ ∀ j, j < n → u j = - sm i fun k => sh k * R k j) ∧
          ∃ o5 o6 o7 o8 o9 o10 o11 o12, σ = [some (.ref b), some (.int n), some (.ref p), some (.ref D), some (.ref F0), o5, o6, o7, o8, o9, o10, o11, o12])
        ⟨D0, fun _ => 0, fun _ => 0, fun _ => false, ⟨Ex.xt ex02, hx.ex ex02, eF, ex2.at eD0, hx.nin nD0, DF, fun k hk => by omega, fun k hk => by omega, fun j _ => by show (0 : Int) = - 0; rfl⟩, _, _, _, _, _, _, _, _, rfl⟩ (fun i σ H4 _ hP => ?_) (fun i x σ H4 H5 hi hP y => ?_) fun σ H4 hP => ?_)
      · obtain ⟨D, u, sh, fl, ⟨X4, _⟩, _⟩ := hP
        exact X4.at e1 hp
      · obtain ⟨D, u, sh, fl, ⟨X4, hx4, eF4, eD4, nDb, DF, hfl, hsh, hu⟩, o5, o6, o7, o8, o9, o10, o11, o12, rfl⟩ := hP
        obtain ⟨rfl, rfl⟩ := y
        have er := tup_to X4 hx.nt (e2 i hi)
        have en := tup_to X4 hx.nt (e3 i hi)
        have hub : ∀ j, j < n → (R i j).natAbs ≤ 10 ^ 9 := fun j hj => hle.2.2 i hi j hj
        refine rd_gtrip er ?_
        walk_at "rd"
        refine ⟨sz (show 4 ≤ 100000 by decide), fun T nT => ?_⟩
        have e6 : Ex H5 (upd H5 T (.tup [.int 0, .int 0, .int 1, .int 2])) := ex_new nT
        have eT : upd H5 T (.tup [.int 0, .int 0, .int 1, .int 2]) T = some (.tup [.int 0, .int 0, .int 1, .int 2]) := upd_same
        generalize upd H5 T (HO.tup [.int 0, .int 0, .int 1, .int 2]) = H6 at e6 eT ⊢
        have hx6 := hx4.ex e6
        walk_at "rd"
        refine ⟨b, s, g, 4, rfl, hx6, by decide, by decide, fun d H7 d0 d1 X7 hx7 => ?_⟩
        obtain ⟨sv, hsv, sv0, sv2⟩ := share_at d0 d1
        refine rd_ixTn d.toNat (X7.at eT (hx6.tin eT)) (by omega) hsv ?_
        walk_at "rd"
        have X57 : Xt [b, g] H5 H7 := (Ex.xt e6).trans X7
        have eD7 := X57.at eD4 nDb
        have en7 := tup_to X57 hx4.nt en
        have eF7 := X57.at eF4 nFb
        refine rd_rg1 n rfl (by omega) (lc_pure wkR (fun j => .int (u j - sv * R i j)) (by omega) (fun _ _ => trivial) (fun j x H8 H9 hj e8 y Pp hP => ?_) fun D2 H8 nD2 e8 eD2 => ?_)
        · obtain ⟨rfl, ex⟩ := y
          obtain rfl : x = .int (j : Int) := by rw [ex]; exact congrArg V.int (by omega)
          walk_at "rd"
          refine ⟨rfl, ?_⟩
          walk_at "rd"
          refine rd_ixLt j (e8.at eD7) rfl hj ?_
          walk_at "rd"
          refine rd_ixTt j (e8.at en7) rfl hj ?_
          refine rd_I (mulok_l (by omega) (by omega)) ?_
          walk_at "rd"
          exact hP _ Ex.rfl'
        · walk_at "rd"
          have eF8 := e8.at eF7
          refine ⟨tyL eF8, ?_⟩
          walk_at "rd"
          have app : ∀ {cc : Bool} {H9 : Hp}, cc = (decide (0 < sv) || q i) → Xt [F0] H8 H9 → H9 F0 = some (.lst ((tab i fun k => .bl (fl k)) ++ [.bl cc])) → (Xt [b, g] H H9 ∧ Bx H9 b s g ∧ H9 F0 = some (.lst (tab (i + 1) fun k => .bl (if k = i then cc else fl k))) ∧ H9 D2 = some (.lst (vl n fun j => u j - sv * R i j)) ∧ D2 ∉ [b, g] ∧ D2 ≠ F0 ∧ (∀ k, k < i + 1 → (if k = i then cc else fl k) = (decide (0 < (if k = i then sv else sh k)) || q k)) ∧ (∀ k, k < i + 1 → 0 ≤ (if k = i then sv else sh k) ∧ (if k = i then sv else sh k) ≤ 2) ∧ ∀ j, j < n → u j - sv * R i j = - sm (i + 1) fun k => (if k = i then sv else sh k) * R k j) := fun {cc H9} hcc X9 e9 => by
            have D2F : D2 ≠ F0 := fun z => by rw [z, eF7] at nD2; cases nD2
            refine ⟨Xt.fr (X4.trans (X57.trans (Ex.xt e8))) X9 nFH, hx.new (hx7.ex e8) nFH X9, ?_, X9.at eD2 (by simpa using D2F), hx7.nin nD2, D2F, fun k hk => ?_, fun k hk => ?_, fun j hj => ?_⟩
            · rw [e9, ← tab_snoc]
              refine congrArg (fun z => some (HO.lst z)) (congr (congrArg _ (tab_ext fun j hj => by rw [if_neg (by omega)])) ?_)
              rw [if_pos rfl]
            · by_cases h : k = i
              · rw [if_pos h, if_pos h, h]; exact hcc
              · rw [if_neg h, if_neg h]; exact hfl k (by omega)
            · by_cases h : k = i
              · rw [if_pos h]; exact ⟨sv0, sv2⟩
              · rw [if_neg h]; exact hsh k (by omega)
            · show _ = - ((sm i fun k => (if k = i then sv else sh k) * R k j) + (if i = i then sv else sh i) * R i j)
              rw [if_pos rfl, sm_congr (f := fun k => (if k = i then sv else sh k) * R k j) (g := fun k => sh k * R k j) fun k hk => by rw [if_neg (by omega)]]
              have := hu j hj
              omega
          refine rd_dec (fun h1 => ?_) fun h1 => ?_
          · walk_at "rd"
            refine rd_append eF8 (szl (by rw [tab_len]; omega)) fun H9 X9 e9 => ?_
            exact ⟨D2, _, _, _, app (cc := true) (by rw [decide_eq_true h1]; rfl) X9 e9, _, _, _, _, _, _, _, _, rfl⟩
          · walk_at "rd"
            refine rd_eq rfl ?_
            walk_at "rd"
            refine rd_append eF8 (szl (by rw [tab_len]; omega)) fun H9 X9 e9 => ?_
            refine ⟨D2, _, _, _, app (cc := decide (V.str (rel (q i)) = V.str "equal")) ?_ X9 e9, _, _, _, _, _, _, _, _, rfl⟩
            rw [decide_eq_false h1, Bool.false_or]
            cases hq : q i with
            | true => exact decide_eq_true (rel_eq.mpr rfl)
            | false => exact decide_eq_false fun z => by have := rel_eq.mp z; cases this
      · obtain ⟨D, u, sh, fl, ⟨X4, hx4, eF4, eD4, nDb, DF, hfl, hsh, hu⟩, o5, o6, o7, o8, o9, o10, o11, o12, rfl⟩ := hP
        walk_at "rd"
        refine rd_lenLt (X4.at e1 hp) ?_
        walk_at "rd"
        refine ⟨b, s, g, _, rfl, hx4, (show (0 : Int) < (m : Int) + 1 by omega), (show (m : Int) + 1 < 2 ^ 62 by omega), fun d H5 d0 d1 X5 hx5 => ?_⟩
        obtain ⟨dn, rfl⟩ : ∃ dn : Nat, d = dn := ⟨d.toNat, by omega⟩
        have hdm : dn ≤ m := by
          have : (dn : Int) < (m : Int) + 1 := d1
          omega
        have eD5 := X5.at eD4 nDb
        have eF5 := X5.at eF4 nFb
        have X05 := X4.trans X5
        walk_at "rd"
        refine rd_tupL eD5 fun a1 H6 na1 e6 ea1 => ?_
        walk_at "rd"
        have hx6 := hx5.ex e6
        refine ⟨b, s, g, 19, rfl, hx6, by decide, by decide, fun c1 H7 c10 c11 X7 hx7 => ?_⟩
        walk_at "rd"
        have ea7 := X7.at ea1 (hx6.tin ea1)
        refine ⟨sz (show 3 ≤ 100000 by decide), fun T1 nT1 => ?_⟩
        have e8 : Ex H7 (upd H7 T1 (.tup [.ref a1, .str "atmost", .int (c1 - 9)])) := ex_new nT1
        have eT1 : upd H7 T1 (.tup [.ref a1, .str "atmost", .int (c1 - 9)]) T1 = some (.tup [.ref a1, .str "atmost", .int (c1 - 9)]) := upd_same
        show gName _ _ _ (upd H7 T1 (.tup [.ref a1, .str "atmost", .int (c1 - 9)])) _
        generalize upd H7 T1 (HO.tup [.ref a1, .str "atmost", .int (c1 - 9)]) = H8 at e8 eT1 ⊢
        walk_at "rd"
        have X58 : Xt [b, g] H5 H8 := (Ex.xt e6).trans (X7.trans (Ex.xt e8))
        have eF8 := X58.at eF5 nFb
        have ep8 : H8 p = some (.lst (tab m fun i => .ref (rp i))) := (X05.trans X58).at e1 hp
        refine rd_slL eF8 fun f1 H9 nf1 e9 ef1 => ?_
        rw [cut_lo (by rw [tab_len]; exact hdm)] at ef1
        walk_at "rd"
        refine ⟨sz (show 1 ≤ 100000 by decide), fun f2 nf2 => ?_⟩
        have e10 : Ex H9 (upd H9 f2 (.lst [.bl true])) := ex_new nf2
        have ef2 : upd H9 f2 (.lst [.bl true]) f2 = some (.lst [.bl true]) := upd_same
        generalize upd H9 f2 (HO.lst [.bl true]) = H10 at e10 ef2 ⊢
        have lt : ((tab m fun k => V.bl (fl k)).take dn).length ≤ 20 := by rw [List.length_take]; omega
        refine rd_cat (e10.at ef1) ef2 (sz (by show _ + 1 ≤ 100000; omega)) fun f3 H11 nf3 e11 ef3 => ?_
        walk_at "rd"
        refine rd_slL (e11.at (e10.at (e9.at eF8))) fun f4 H12 nf4 e12 ef4 => ?_
        rw [cut_hi (by rw [tab_len]; exact hdm)] at ef4
        have ld : ((tab m fun k => V.bl (fl k)).drop dn).length ≤ 20 := by rw [List.length_drop, tab_len]; omega
        refine rd_cat (e12.at ef3) ef4 (sz (by rw [List.length_append]; show _ + 1 + _ ≤ 100000; omega)) fun F2 H13 nF2 e13 eF2 => ?_
        rw [ins_tab hdm] at eF2
        have eF2 : H13 F2 = some (.lst (tab (m + 1) fun i => .bl (in1 dn fl true i))) := eF2.trans (congrArg (fun z => some (HO.lst z)) (tab_ext fun i hi => by
          show (if i < dn then _ else if i = dn then _ else _) = V.bl (if i < dn then _ else if i = dn then _ else _)
          split
          · rfl
          · split <;> rfl))
        walk_at "rd"
        have e813 : Ex H8 H13 := Xt.trans e9 (Xt.trans e10 (Xt.trans e11 (Xt.trans e12 e13)))
        refine rd_lenLt eF2 ?_
        walk_at "rd"
        refine rd_rg1 (m + 1) rfl (by omega) (lc_some wkR (fun i => if in1 dn fl true i = true then some (.int (i : Nat)) else none) (by omega) (fun _ _ => trivial) (fun i x H14 H15 hi ex14 y Pp N hP hN => ?_) fun Fm H14 nFm e14 eFm => ?_)
        · obtain ⟨rfl, exx⟩ := y
          obtain rfl : x = .int (i : Int) := by rw [exx]; exact congrArg V.int (by omega)
          walk_at "rd"
          refine ⟨rfl, ?_⟩
          walk_at "rd"
          refine rd_ixLt i (ex14.at eF2) rfl hi ?_
          walk_at "rd"
          cases hf : in1 dn fl true i with
          | true =>
            walk_at "rd"
            exact hP _ _ (if_pos hf) Ex.rfl'
          | false => exact hN (if_neg (by rw [hf]; decide)) _ Ex.rfl'
        · rw [filterMap_if (in1 dn fl true) (fun i => V.int (i : Nat))] at eFm
          walk_at "rd"
          have e814 := Xt.trans e813 e14
          have ep14 := Ex.at e814 ep8
          refine rd_slL ep14 fun l1 H16 nl1 e16 el1 => ?_
          rw [cut_lo (by rw [tab_len]; exact hdm)] at el1
          walk_at "rd"
          refine ⟨sz (show 1 ≤ 100000 by decide), fun l2 nl2 => ?_⟩
          have e17 : Ex H16 (upd H16 l2 (.lst [.ref T1])) := ex_new nl2
          have el2 : upd H16 l2 (.lst [.ref T1]) l2 = some (.lst [.ref T1]) := upd_same
          generalize upd H16 l2 (HO.lst [.ref T1]) = H17 at e17 el2 ⊢
          have lt2 : ((tab m fun i => V.ref (rp i)).take dn).length ≤ 20 := by rw [List.length_take]; omega
          refine rd_cat (e17.at el1) el2 (sz (by show _ + 1 ≤ 100000; omega)) fun l3 H18 nl3 e18 el3 => ?_
          walk_at "rd"
          refine rd_slL (e18.at (e17.at (e16.at ep14))) fun l4 H19 nl4 e19 el4 => ?_
          rw [cut_hi (by rw [tab_len]; exact hdm)] at el4
          have ld2 : ((tab m fun i => V.ref (rp i)).drop dn).length ≤ 20 := by rw [List.length_drop, tab_len]; omega
          refine rd_cat (e19.at el3) el4 (sz (by rw [List.length_append]; show _ + 1 + _ ≤ 100000; omega)) fun Z H20 nZ e20 eZ => ?_
          rw [ins_tab hdm] at eZ
          walk_at "rd"
          refine new_tup (sz (show 2 ≤ 100000 by decide)) fun TT H21 nTT e21 eTT => ?_
          have e1421 : Ex H14 H21 := Xt.trans e16 (Xt.trans e17 (Xt.trans e18 (Xt.trans e19 (Xt.trans e20 e21))))
          have e821 : Ex H8 H21 := Xt.trans e814 e1421
          have X021 : Xt [b, g] H H21 := X05.trans (X58.trans (Ex.xt e821))
          have hx8 := hx7.ex e8
          have hx21 := hx8.ex e821
          have ub : ∀ j, j < n → (u j).natAbs ≤ BB := fun j hj => by
            rw [hu j hj, Int.natAbs_neg]
            refine Nat.le_trans (sm_abs (B := 2 * 10 ^ 9) fun k hk => ?_) ?_
            · rw [Int.natAbs_mul]
              exact Nat.mul_le_mul (by have := hsh k hk; omega) (hle.2.2 k hk j hj)
            · exact Nat.le_trans (Nat.mul_le_mul_right _ hm) (by unfold BB; decide)
          have up : (10 : Nat) ^ 9 ≤ BB := by unfold BB; decide
          refine k TT Z Fm (m + 1) (in1 dn R u) (in1 dn C (c1 - 9)) (in1 dn q false) _ H21 X021 hx21 eTT
            ⟨fun i => if i < dn then rp i else if i = dn then T1 else rp (i - 1), fun i => if i < dn then np i else if i = dn then a1 else np (i - 1), ?_, fun i hi => ?_, fun i hi => ?_⟩ ⟨by decide, fun i hi => ?_, fun i hi j hj => ?_⟩ (by omega) ⟨?_, ?_⟩ (Ex.at e1421 eFm) fun i hi => ?_
          · rw [e21.at eZ]
            refine congrArg (fun z => some (HO.lst z)) (tab_ext fun i hi => ?_)
            show _ = V.ref (if i < dn then rp i else if i = dn then T1 else rp (i - 1))
            split
            · rfl
            · split <;> rfl
          · show H21 (if i < dn then rp i else if i = dn then T1 else rp (i - 1)) = some (.tup [.ref (if i < dn then np i else if i = dn then a1 else np (i - 1)), .str (rel (in1 dn q false i)), .int (in1 dn C (c1 - 9) i)])
            have hi : i < m + 1 := hi
            unfold in1
            by_cases h1 : i < dn
            · simp only [if_pos h1]
              exact tup_to X021 hx.nt (e2 i (show i < m by omega))
            · by_cases h2 : i = dn
              · simp only [if_neg h1, if_pos h2]
                exact Ex.at e821 eT1
              · simp only [if_neg h1, if_neg h2]
                exact tup_to X021 hx.nt (e2 (i - 1) (show i - 1 < m by omega))
          · show H21 (if i < dn then np i else if i = dn then a1 else np (i - 1)) = some (.tup (vl n (in1 dn R u i)))
            have hi : i < m + 1 := hi
            unfold in1
            by_cases h1 : i < dn
            · simp only [if_pos h1]
              exact tup_to X021 hx.nt (e3 i (show i < m by omega))
            · by_cases h2 : i = dn
              · simp only [if_neg h1, if_pos h2]
                exact Ex.at e821 (e8.at ea7)
              · simp only [if_neg h1, if_neg h2]
                exact tup_to X021 hx.nt (e3 (i - 1) (show i - 1 < m by omega))
          · show (in1 dn C (c1 - 9) i).natAbs ≤ BB
            have hi : i < m + 1 := hi
            unfold in1
            split
            · exact Nat.le_trans (hle.2.1 i (show i < m by omega)) up
            · split
              · unfold BB; omega
              · exact Nat.le_trans (hle.2.1 (i - 1) (show i - 1 < m by omega)) up
          · show (in1 dn R u i j).natAbs ≤ BB
            have hi : i < m + 1 := hi
            unfold in1
            split
            · exact Nat.le_trans (hle.2.2 i (show i < m by omega) j hj) up
            · split
              · exact ub j hj
              · exact Nat.le_trans (hle.2.2 (i - 1) (show i - 1 < m by omega) j hj) up
          · exact (hx8.ex (Xt.trans e814 (Xt.trans e16 (Xt.trans e17 (Xt.trans e18 e19))))).nin nZ
          · exact (hx8.ex e813).nin nFm
          · obtain ⟨h1, h2⟩ := List.mem_filter.mp hi
            have h1 := List.mem_range.mp h1
            refine ⟨h1, around_tight hdm (fun k hk => (hsh k hk).1) hu h1 ?_⟩
            rw [← h2]
            unfold in1
            split
            · exact (hfl i (by omega)).symm
            · split
              · rfl
              · exact (hfl (i - 1) (by omega)).symm
end
end Sx
/-! the law's own look at clashes, at answers -/
namespace Sx
open PySem PySem.Spec PyProof.Rows L2 Y
local macro_rules | `(tactic| walk_at "rd1") => `(tactic| first
  | with_reducible refine rd_var rfl ?_
  | with_reducible refine rd_op ?_
  | with_reducible refine rd_c ?_
  | with_reducible refine rd_I0 ?_
  | with_reducible refine rd_seq ?_
  | ((with_reducible refine rd_I ?_ ?_); focus (first | exact mulok_r (by decide) (by decide) | exact mulok_l (by decide) (by decide) | (show _ ≠ _; decide) | (show _ ∧ _; decide)))
  | with_reducible refine rd_asg ?_
  | with_reducible refine rd_name ?_
  | with_reducible refine rd_cb ?_
  | with_reducible refine rd_cons ?_
  | with_reducible refine rd_nil ?_
  | with_reducible refine rd_int ?_
  | with_reducible refine rd_eqI ?_
  | with_reducible refine rd_neI ?_
  | with_reducible refine rd_bl ?_
  | with_reducible refine rd_test ?_
  | with_reducible refine rd_tB ?_
  | with_reducible refine rd_ifS ?_
  | with_reducible refine rd_next ?_
  | with_reducible refine rd_T ?_
  | with_reducible refine rd_F ?_
  | with_reducible refine rd_nT ?_
  | with_reducible refine rd_nF ?_
  | with_reducible refine rd_blV ?_
  | with_reducible refine rd_ret ?_
  | with_reducible refine rd_call ?_
  | with_reducible refine rd_drop ?_
  | with_reducible refine rd_not ?_
  | with_reducible refine rd_and ?_
  | with_reducible refine rd_or ?_
  | with_reducible refine rd_un ?_
  | with_reducible refine rd_U ?_
  | with_reducible refine rd_tup ?_
  | with_reducible refine rd_lst ?_
  | with_reducible refine rd_if ?_
  | with_reducible refine rd_andV ?_
  | with_reducible refine rd_orV ?_
  | with_reducible refine rd_notV ?_
  | with_reducible refine rd_sl ?_
  | with_reducible refine rd_nopart ?_
  | with_reducible refine rd_part ?_
  | with_reducible refine rd_iv ?_
  | with_reducible refine rd_bm ?_
  | with_reducible refine rd_abs ?_
  | with_reducible refine rd_intb ?_
  | with_reducible refine rd_mx2 ?_
  | with_reducible refine rd_mn2 ?_
  | with_reducible refine rd_sub ?_
  | with_reducible refine rd_lc ?_
  | with_reducible refine rd_for ?_
  | with_reducible refine rd_iL ?_
  | with_reducible refine rd_iT ?_
  | with_reducible refine rd_r1 ?_
  | with_reducible refine rd_r2 ?_
  | with_reducible refine rd_iZ ?_
  | with_reducible refine rd_iZM ?_
  | with_reducible refine rd_while ?_
  | with_reducible refine rd_tru ?_
  | with_reducible refine rd_brk ?_
  | with_reducible refine rd_iA ?_
  | with_reducible refine rd_iZA ?_
  | with_reducible refine rd_par ?_
  | with_reducible refine rd_par2 ?_
  | with_reducible refine rd_bits ?_
  | with_reducible refine rd_callS ?_)
local macro_rules | `(tactic| walk_at "rd") => `(tactic| repeat walk_at "rd1")

theorem rd_andX {p : Prop} [Decidable p] {A C : Prop} (X : Prop) (h1 : p → (X → C) → A) (h2 : ¬ p → X) (h : X → C) : if decide p = true then A else C := if_dec (fun q => h1 q h) fun q => h (h2 q)
/-- the numbers of the rows are small enough -/
def RSm (W : Rws) : Prop := ∀ i, i < W.m → (W.C i).natAbs < 2 ^ 4000 ∧ ∀ j, j < W.n → (W.R i j).natAbs < 2 ^ 4000
/-- the question whether x is a clash: its answer -/
def AddO (H : Hp) (W : Rws) (x : V) (ok : Bool → Hp → Prop) : Prop := (VecV H W.m x false ∧ ∀ H', Ex H H' → ok false H') ∨
  ∃ a y, x = .ref a ∧ H a = some (.tup (vl W.m y)) ∧ (∀ i, i < W.m → (y i).natAbs < 2 ^ 4000) ∧ ∀ (b : Bool) H', Ex H H' → (b = true ↔ Cla W y) → ok b H'
theorem le_rsm {W : Rws} {B : Nat} (h : W.le B) (hB : B < 2 ^ 4000) : RSm W := fun i hi => ⟨by have := h.2.1 i hi; omega, fun j hj => by have := h.2.2 i hi j hj; omega⟩
section
variable {P : Program} {w : World} {K : PySem.W.Frag} {mg : Str → Option Value} {base : Heap}
/-! ### _law_clashes -/
abbrev s__law_clashes : Stmt := topS 34
theorem sc__law_clashes : FnScope ["rows", "many", "shares", "sums", "bound", "k", "numbers", "relation", "most", "at"] ["rows", "many", "shares"] (defScope s__law_clashes) := ⟨rfl, rfl, rfl, by decide +kernel, rfl, by decide +kernel, by decide +kernel⟩
def sp__law_clashes : Sp := fun vs H Q _ => ∃ (p : Addr) (W : Rws) (x : V), vs = [.ref p, .int W.n, x] ∧ LRow H p W ∧ W.n ≤ 1000 ∧ W.m ≤ 1000 ∧ RSm W ∧ AddO H W x fun b => Q (.bl b)
theorem ok__law_clashes {f : Addr} {fd : FuncData} (F : Fun K "_law_clashes" "_law_clashes" s__law_clashes f fd) (B : Bi mg) (C__law_integers : Cl P w K mg base CX0 43 "_law_integers" ["thing", "size"] sp__law_integers) : FnOk P w K mg base CX0 45 f fd ["rows", "many", "shares"] sp__law_clashes := by
  refine F.ok sc__law_clashes (fun vs H Q E h => ?_) (fun cdv A outer s0 H vs Q E hr h => ?_)
  · obtain ⟨p, W, x, rfl, _⟩ := h; rfl
  · obtain ⟨p, W, x, rfl, hL, hn, hm, hS, h⟩ := h
    have nd := sc__law_clashes.nd
    refine ⟨_, (pss_cons (ps_if (pt_not (pt_val (pe_y C__law_integers hr (by decide) pass0 (by rfl) (pa_cons (pv 2) (pa_cons (pe_callB cr_len (by rfl) B.len b_len (pa_cons (pv 0) pa_nil)) pa_nil)))))
        (pss_one (ps_ret pe_bl))
        pss_nil)
      (pss_cons (ps_set (i := 3) nd rfl (.inr rfl) (pe_lc (own := [("k", 5)]) rfl nd (pi_range1 (by rfl) B.range (pa_cons (pv 1) pa_nil)) (blkOk_by (by rfl)) (fun _ _ _ _ _ => (pg_name (i := 5) nd rfl (by first | exact .inl rfl | exact .inr rfl))) (fun _ _ _ _ _ => pts_nil) (fun _ _ _ _ _ => pe_int)))
      (pss_cons (ps_set (i := 4) nd rfl (.inl rfl) pe_int)
      (pss_cons (ps_for PassesOwn.never rfl (pi_range1 (by rfl) B.range (pa_cons (pe_callB cr_len (by rfl) B.len b_len (pa_cons (pv 0) pa_nil)) pa_nil)) (pg_name (i := 5) nd rfl (.inr rfl))
        (pss_cons (ps_asg (pe_ix ix_list (pv 0) (pv 5) (fun _ _ => rfl)) (pg_tup (n := 3) (by rfl) (pgs_cons (pg_name (i := 6) nd rfl (.inr rfl)) (pgs_cons (pg_name (i := 7) nd rfl (.inl rfl)) (pgs_cons (pg_name (i := 8) nd rfl (.inl rfl)) pgs_nil)))))
        (pss_cons (ps_if (PW.pt (pw_and (pt_cmpR op_eq (pv 7) pe_str (nomark _)) (pw_and1 (pt_cmpR op_lt (pe_ix ix_tup (pv 2) (pv 5) (fun _ _ => rfl)) pe_int (nomark _)))))
          (pss_one (ps_ret pe_bl))
          pss_nil)
        (pss_cons (ps_set (i := 3) nd rfl (.inr rfl) (pe_lc (own := [("at", 9)]) rfl nd (pi_range1 (by rfl) B.range (pa_cons (pv 1) pa_nil)) (blkOk_by (by rfl)) (fun _ _ _ _ _ => (pg_name (i := 9) nd rfl (by first | exact .inl rfl | exact .inr rfl))) (fun _ _ _ _ _ => pts_nil) (fun _ _ _ _ _ => (pe_op op_add (pe_ix (ix_listK (K := K) rfl) (pv 3) (pv 9) (fun _ _ => rfl)) (pe_op op_mulB (pe_ix (ix_tupK (K := K) rfl) (pv 2) (pv 5) (fun _ _ => rfl)) (pe_ix (ix_tupK (K := K) rfl) (pv 6) (pv 9) (fun _ _ => rfl)))))))
        (pss_one (ps_set (i := 4) nd rfl (.inl rfl) (pe_op op_add (pv 4) (pe_op op_mulB (pe_ix ix_tup (pv 2) (pv 5) (fun _ _ => rfl)) (pv 8)))))))))
      (pss_one (ps_ret (pe_and (pe_cmpR (op_eqD hr.units) (pv 3) (pe_lc (own := [("k", 5)]) rfl nd (pi_range1 (by rfl) B.range (pa_cons (pv 1) pa_nil)) (blkOk_by (by rfl)) (fun _ _ _ _ _ => (pg_name (i := 5) nd rfl (by first | exact .inl rfl | exact .inr rfl))) (fun _ _ _ _ _ => pts_nil) (fun _ _ _ _ _ => pe_int)) (nomark _)) (pe_one (pe_cmpR op_le (pv 4) (pe_un un_neg pe_int) (nomark _)))))))))), ?_⟩
    obtain ⟨rp, np, e1, e2, e3⟩ := id hL
    walk_at "rd"
    refine rd_lenLt e1 ?_
    walk_at "rd"
    rcases h with ⟨hv, k⟩ | ⟨a, y, rfl, ea, hy, k⟩
    · refine ⟨x, W.m, false, rfl, hv, fun H1 ex1 => ?_⟩
      walk_at "rd"
      exact k H1 ex1
    · refine ⟨.ref a, W.m, true, rfl, vec_good ea hm, fun H1 ex1 => ?_⟩
      walk_at "rd"
      refine rd_rg1 W.n rfl (by omega) (lc_pure wkR (fun _ => .int 0) (by omega) (fun _ _ => trivial) (fun i x H2 H3 hi e2 y Pp hP => ?_) fun D0 H2 nD0 ex2 eD0 => ?_)
      · obtain ⟨rfl, _⟩ := y
        walk_at "rd"
        refine ⟨rfl, ?_⟩
        walk_at "rd"
        exact hP _ Ex.rfl'
      · walk_at "rd"
        refine rd_lenLt (ex2.at (ex1.at e1)) ?_
        walk_at "rd"
        refine rd_rg1 W.m rfl (by omega) (for_w wkR (fun i σ H3 => ∃ D, (Ex H H3 ∧ H3 D = some (.lst (vl W.n fun j => sm i fun k => y k * W.R k j)) ∧ ∀ j, j < i → W.q j = false → 0 ≤ y j) ∧ ∃ o5 o6 o7 o8 o9, σ = [some (.ref p), some (.int W.n), some (.ref a), some (.ref D), some (.int (sm i fun k => y k * W.C k)), o5, o6, o7, o8, o9]) ⟨D0, ⟨Xt.trans ex1 ex2, eD0, fun j hj => by omega⟩, _, _, _, _, _, rfl⟩ (fun i σ H2 _ hP => trivial) (fun i x σ H3 H4 hi hP yy => ?_) fun σ H3 hP => ?_)
        · obtain ⟨D, ⟨ex, eD, hq⟩, o5, o6, o7, o8, o9, rfl⟩ := hP
          obtain ⟨rfl, exx⟩ := yy
          obtain rfl : x = .int (i : Int) := by rw [exx]; exact congrArg V.int (by omega)
          walk_at "rd"
          refine rd_ixLt i (ex.at e1) rfl hi ?_
          refine rd_gtrip (ex.at (e2 i hi)) ?_
          walk_at "rd"
          refine rd_eq rfl ?_
          walk_at "rd"
          refine rd_andX (W.q i = false → 0 ≤ y i) (fun h1 hC => ?_) (fun h1 z => absurd (rel_ne.mpr z) h1) fun hX => ?_
          · walk_at "rd"
            refine rd_ixTt i (ex.at ea) rfl hi ?_
            walk_at "rd"
            refine rd_dec (fun h2 => ?_) fun h2 => ?_
            · walk_at "rd"
              exact k false _ ex ⟨fun z => (by cases z), fun z => absurd (z.1 i hi (rel_ne.mp h1)) (by omega)⟩
            · exact hC fun _ => by omega
          · walk_at "rd"
            refine rd_rg1 W.n rfl (by omega) (lc_pure wkR (fun j => .int ((sm i fun k => y k * W.R k j) + y i * W.R i j)) (by omega) (fun _ _ => trivial) (fun j x H5 H6 hj e5 yy Pp hP => ?_) fun D2 H5 nD2 e5 eD2 => ?_)
            · obtain ⟨rfl, exx⟩ := yy
              obtain rfl : x = .int (j : Int) := by rw [exx]; exact congrArg V.int (by omega)
              walk_at "rd"
              refine ⟨rfl, ?_⟩
              walk_at "rd"
              refine rd_ixLt j (e5.at eD) rfl hj ?_
              walk_at "rd"
              refine rd_ixTt i (e5.at (ex.at ea)) rfl hi ?_
              walk_at "rd"
              refine rd_ixTt j (e5.at (ex.at (e3 i hi))) rfl hj ?_
              refine rd_I (mulok_big (hy i hi) ((hS i hi).2 j hj)) ?_
              walk_at "rd"
              exact hP _ Ex.rfl'
            · walk_at "rd"
              refine rd_ixTt i (e5.at (ex.at ea)) rfl hi ?_
              walk_at "rd"
              refine rd_I (mulok_big (hy i hi) (hS i hi).1) ?_
              walk_at "rd"
              refine ⟨D2, ⟨Xt.trans ex e5, eD2, fun j hj hqj => ?_⟩, _, _, _, _, _, rfl⟩
              by_cases ji : j = i
              · rw [ji] at hqj ⊢; exact hX hqj
              · exact hq j (by omega) hqj
        · obtain ⟨D, ⟨ex, eD, hq⟩, o5, o6, o7, o8, o9, rfl⟩ := hP
          walk_at "rd"
          refine rd_rg1 W.n rfl (by omega) (lc_pure wkR (fun _ => .int 0) (by omega) (fun _ _ => trivial) (fun i x H4 H5 hi e4 y Pp hP => ?_) fun D2 H4 nD2 e4 eD2 => ?_)
          · obtain ⟨rfl, _⟩ := y
            walk_at "rd"
            refine ⟨rfl, ?_⟩
            walk_at "rd"
            exact hP _ Ex.rfl'
          · refine rd_eqL ((e4.at eD).trans (congrArg (fun z => some (HO.lst z)) vl_ints)) (eD2.trans (congrArg (fun z => some (HO.lst z)) (vl_ints (u := fun _ => 0)))) ?_
            have e04 : Ex H H4 := Xt.trans ex e4
            refine rd_blV ?_
            refine rd_dec (fun hz => ?_) fun hz => ?_
            · walk_at "rd"
              refine k _ H4 e04 ?_
              rw [decide_eq_true_iff]
              exact ⟨fun z => ⟨hq, range_eq.mp hz, z⟩, fun z => z.2.2⟩
            · exact k false H4 e04 ⟨fun z => (by cases z), fun z => absurd (range_eq.mpr z.2.1) hz⟩
/-! ### _law_is_tight -/
abbrev s__law_is_tight : Stmt := topS 35
theorem sc__law_is_tight : FnScope ["rows", "many", "at", "flat", "answer", "numbers", "relation", "most"] ["rows", "many", "at"] (defScope s__law_is_tight) := ⟨rfl, rfl, rfl, by decide +kernel, rfl, by decide +kernel, by decide +kernel⟩
def sp__law_is_tight : Sp := fun vs H Q _ => ∃ (p : Addr) (W : Rws) (at_ : Nat), vs = [.ref p, .int W.n, .int at_] ∧ LRow H p W ∧ W.le BB ∧ bdd (W.n + 1) BB < 2 ^ 400 ∧ W.n ≤ 7 ∧ W.m ≤ 100 ∧ at_ < W.m ∧ TightI W at_ ∧ ∀ H', Ex H H' → Q (.bl true) H'
theorem ok__law_is_tight {f C0 : Addr} {fd : FuncData} (F : Fun K "_law_is_tight" "_law_is_tight" s__law_is_tight f fd) (B : Bi mg) (C_meet : Cl P w K mg base (L2.CX P w) 47 "meet" ["rows", "many"] (sp_meet C0)) (C__law_clashes : Cl P w K mg base CX0 45 "_law_clashes" ["rows", "many", "shares"] sp__law_clashes) :
    FnOk P w K mg base CX0 49 f fd ["rows", "many", "at"] sp__law_is_tight := by
  refine F.ok sc__law_is_tight (fun vs H Q E h => ?_) (fun cdv A outer s0 H vs Q E hr h => ?_)
  · obtain ⟨p, W, at_, rfl, _⟩ := h; rfl
  · obtain ⟨p, W, at_, rfl, hL, hle, hbd, hn, hm, hat, ht, k⟩ := h
    have nd := sc__law_is_tight.nd
    refine ⟨_, (pss_cons (ps_setLc (i := 3) (g := gTup K 3 (gCons (gName 5) (gCons (gName 6) (gCons (gName 7) gNil)))) (own := [("numbers", 5), ("relation", 6), ("most", 7)]) rfl nd rfl rfl (sw_true rfl rfl rfl (by decide +kernel)) (pi_list (pv 0)) (blkOk_by (by rfl)) (fun _ _ _ _ _ => (pg_tup (n := 3) (by rfl) (pgs_cons (pg_name (i := 5) nd rfl (by first | exact .inl rfl | exact .inr rfl)) (pgs_cons (pg_name (i := 6) nd rfl (by first | exact .inl rfl | exact .inr rfl)) (pgs_cons (pg_name (i := 7) nd rfl (by first | exact .inl rfl | exact .inr rfl)) pgs_nil))))) (fun _ _ _ _ _ => pts_nil) (fun _ _ _ _ _ => (pe_tup (pa_cons (pv 5) (pa_cons (pv 6) (pa_cons pe_int pa_nil))))))
      (pss_cons (ps_expr (pe_bm PySem.F.plainAttrs_list PySem.F.slot_list_append PySem.F.type_list_append mt_append (pv 3) (pa_cons (pe_tup (pa_cons (pe_ix ix_tup (pe_ix ix_list (pv 0) (pv 2) (fun _ _ => rfl)) pe_int (fun _ _ => rfl)) (pa_cons pe_str (pa_cons (pe_un un_neg pe_int) pa_nil)))) pa_nil)))
      (pss_cons (ps_set (i := 4) nd rfl (.inl rfl) (pe_y C_meet hr (by decide) passL (by rfl) (pa_cons (pe_callTy cr_tupOf (by rfl) B.tuple b_tuple (pa_cons (pv 3) pa_nil)) (pa_cons (pv 1) pa_nil))))
      (pss_cons (ps_if (PW.pt (pw_or (pt_not (pt_val (pe_callB call_isi (by rfl) B.isinstance b_isinstance (pa_cons (pv 4) (pa_cons (pe_bltn (v := .ty "tuple") (by rfl) B.tuple b_tuple rfl) pa_nil))))) (pw_or (pt_cmpR op_ne (pe_callB cr_len (by rfl) B.len b_len (pa_cons (pv 4) pa_nil)) pe_int (nomark _)) (pw_or1 (pt_cmpR op_ne (pe_ix ix_tup (pv 4) pe_int (fun _ _ => rfl)) pe_str (nomark _))))))
        (pss_one (ps_ret pe_bl))
        pss_nil)
      (pss_one (ps_ret (pe_y C__law_clashes hr (by decide) pass0 (by rfl) (pa_cons (pv 3) (pa_cons (pv 1) (pa_cons (pe_ix ix_tup (pv 4) pe_int (fun _ _ => rfl)) pa_nil)))))))))), ?_⟩
    obtain ⟨rp, np, e1, e2, e3⟩ := id hL
    walk_at "rd"
    refine rd_itL e1 (lc_refs (wkLt (n := W.m) (f := fun i => .ref (rp i))) (fun i => .tup [.ref (np i), .str (rel (W.q i)), .int 0]) (by omega) (fun H' e => e.at e1) (fun i x H1 H2 hi ex1 y Pp hP => ?_) fun D cp H1 nD ex1 eD hcp => ?_)
    · obtain ⟨rfl, rfl⟩ := y
      refine rd_gtrip (ex1.at (e2 i hi)) ?_
      walk_at "rd"
      refine ⟨rfl, ?_⟩
      walk_at "rd"
      refine ⟨sz (show 3 ≤ 100000 by decide), fun p np => ?_⟩
      exact hP p _ (ex_new np) upd_same (.inl np)
    · walk_at "rd"
      refine ⟨tyL eD, ?_⟩
      walk_at "rd"
      refine rd_ixLt at_ (ex1.at e1) rfl hat ?_
      walk_at "rd"
      refine rd_ixTn 0 (ex1.at (e2 at_ hat)) rfl rfl ?_
      walk_at "rd"
      refine ⟨sz (show 3 ≤ 100000 by decide), fun T nT => ?_⟩
      have ex2 : Ex H1 (upd H1 T (.tup [.ref (np at_), .str "atmost", .int (-1)])) := ex_new nT
      have eT : upd H1 T (.tup [.ref (np at_), .str "atmost", .int (-1)]) T = some (.tup [.ref (np at_), .str "atmost", .int (-1)]) := upd_same
      generalize upd H1 T (HO.tup [.ref (np at_), .str "atmost", .int (-1)]) = H2 at ex2 eT ⊢
      walk_at "rd"
      refine rd_append (ex2.at eD) (szl (by rw [tab_len]; omega)) fun H3 X3 eD3 => ?_
      walk_at "rd"
      have ex03 : Ex H H3 := Xt.fr (Xt.trans ex1 ex2) X3 nD
      have up : ∀ {a : Addr} {xs : List V}, H2 a = some (.tup xs) → H3 a = some (.tup xs) := fun h => X3.at h fun z => by
        rw [List.mem_singleton.mp z, ex2.at eD] at h; cases h
      have eD3' : H3 D = some (.lst (tab (W.m + 1) fun i => .ref (if i < W.m then cp i else T))) := by
        rw [eD3, ← tab_snoc]
        refine congrArg (fun z => some (HO.lst z)) (congr (congrArg _ (tab_ext fun i hi => by rw [if_pos hi])) ?_)
        rw [if_neg (by omega)]
      have hrow : ∀ i, i < W.m + 1 → H3 (if i < W.m then cp i else T) = some (.tup [.ref (if i < W.m then np i else np at_), .str (rel (if i < W.m then W.q i else false)), .int (if i < W.m then 0 else -1)]) := fun i hi => by
        by_cases h : i < W.m
        · simp only [if_pos h]; exact up (ex2.at (hcp i h).1)
        · simp only [if_neg h]; exact up eT
      have hnum : ∀ i, i < W.m + 1 → H3 (if i < W.m then np i else np at_) = some (.tup (vl W.n (if i < W.m then W.R i else W.R at_))) := fun i hi => by
        by_cases h : i < W.m
        · simp only [if_pos h]; exact ex03.at (e3 i h)
        · simp only [if_neg h]; exact ex03.at (e3 at_ hat)
      have hLf : LRow H3 D (fallW W (W.R at_)) := ⟨_, _, eD3', hrow, hnum⟩
      have fle : (fallW W (W.R at_)).le BB := by
        refine ⟨hle.1, fun i hi => ?_, fun i hi j hj => ?_⟩
        · show (if i < W.m then (0 : Int) else -1).natAbs ≤ BB
          have : 1 ≤ BB := hle.1
          split
          · exact Nat.zero_le _
          · exact this
        · show ((if i < W.m then W.R i else W.R at_) j).natAbs ≤ BB
          split
          · exact hle.2.2 i (by assumption) j hj
          · exact hle.2.2 at_ hat j hj
      refine rd_tupL eD3' fun tt H4 ntt ex4 ett => ?_
      walk_at "rd"
      refine ⟨tt, fallW W (W.R at_), BB, rfl, ⟨_, _, ett, fun i hi => ex4.at (hrow i hi), fun i hi => ex4.at (hnum i hi)⟩, fle, hbd, (show W.n ≤ 1000 by omega), (show W.m + 1 ≤ 1000 by omega), fun q H5 ex5 hA => ?_⟩
      walk_at "rd"
      rcases hA with ⟨x, pp, xx, d, eq, ex, epp, hd, hdb, hxb, hpt⟩ | ⟨x, y, eq, ex, hy, hyb⟩
      · exfalso
        have fc := fall_cone (W := W) (aim := W.R at_) hd hpt
        have := ht xx fc.1
        omega
      · refine rd_isTup (.inr (.inr (.inr ⟨q, _, rfl, eq⟩))) ?_
        walk_at "rd"
        refine iteF ?_
        walk_at "rd"
        refine rd_lenT eq ?_
        walk_at "rd"
        refine if_ndec (fun hn => absurd rfl hn) (fun _ => ?_)
        walk_at "rd"
        refine rd_ixTn 0 eq rfl rfl ?_
        walk_at "rd"
        refine rd_ne rfl ?_
        walk_at "rd"
        refine rd_ndec (fun z => absurd rfl z) fun _ => ?_
        walk_at "rd"
        refine rd_ixTn 1 eq rfl rfl ?_
        walk_at "rd"
        refine ⟨D, fallW W (W.R at_), .ref x, rfl, (hLf.ex ex4).ex ex5, (show W.n ≤ 1000 by omega), (show W.m + 1 ≤ 1000 by omega), le_rsm fle (by decide +kernel), .inr ⟨x, y, rfl, ex, fun i hi => Nat.lt_of_lt_of_le (hyb i hi) (Nat.pow_le_pow_right (by decide) (by decide)), fun c H6 e6 hc => ?_⟩⟩
        rw [hc.mpr hy]
        exact k H6 (Xt.trans ex03 (Xt.trans ex4 (Xt.trans ex5 e6)))
end
end Sx
/-! the law's own look at a pair -/
namespace Sx
open PySem PySem.Spec PyProof.Rows L2 Y
local macro_rules | `(tactic| walk_at "rd1") => `(tactic| first
  | with_reducible refine rd_var rfl ?_
  | with_reducible refine rd_op ?_
  | with_reducible refine rd_c ?_
  | with_reducible refine rd_I0 ?_
  | with_reducible refine rd_seq ?_
  | ((with_reducible refine rd_I ?_ ?_); focus (first | exact mulok_r (by decide) (by decide) | exact mulok_l (by decide) (by decide) | (show _ ≠ _; decide) | (show _ ∧ _; decide)))
  | with_reducible refine rd_asg ?_
  | with_reducible refine rd_name ?_
  | with_reducible refine rd_cb ?_
  | with_reducible refine rd_cons ?_
  | with_reducible refine rd_nil ?_
  | with_reducible refine rd_int ?_
  | with_reducible refine rd_eqI ?_
  | with_reducible refine rd_neI ?_
  | with_reducible refine rd_bl ?_
  | with_reducible refine rd_test ?_
  | with_reducible refine rd_tB ?_
  | with_reducible refine rd_ifS ?_
  | with_reducible refine rd_next ?_
  | with_reducible refine rd_T ?_
  | with_reducible refine rd_F ?_
  | with_reducible refine rd_nT ?_
  | with_reducible refine rd_nF ?_
  | with_reducible refine rd_blV ?_
  | with_reducible refine rd_ret ?_
  | with_reducible refine rd_call ?_
  | with_reducible refine rd_drop ?_
  | with_reducible refine rd_not ?_
  | with_reducible refine rd_and ?_
  | with_reducible refine rd_or ?_
  | with_reducible refine rd_un ?_
  | with_reducible refine rd_U ?_
  | with_reducible refine rd_tup ?_
  | with_reducible refine rd_lst ?_
  | with_reducible refine rd_if ?_
  | with_reducible refine rd_andV ?_
  | with_reducible refine rd_orV ?_
  | with_reducible refine rd_notV ?_
  | with_reducible refine rd_sl ?_
  | with_reducible refine rd_nopart ?_
  | with_reducible refine rd_part ?_
  | with_reducible refine rd_iv ?_
  | with_reducible refine rd_bm ?_
  | with_reducible refine rd_abs ?_
  | with_reducible refine rd_intb ?_
  | with_reducible refine rd_mx2 ?_
  | with_reducible refine rd_mn2 ?_
  | with_reducible refine rd_sub ?_
  | with_reducible refine rd_lc ?_
  | with_reducible refine rd_for ?_
  | with_reducible refine rd_iL ?_
  | with_reducible refine rd_iT ?_
  | with_reducible refine rd_r1 ?_
  | with_reducible refine rd_r2 ?_
  | with_reducible refine rd_iZ ?_
  | with_reducible refine rd_iZM ?_
  | with_reducible refine rd_while ?_
  | with_reducible refine rd_tru ?_
  | with_reducible refine rd_brk ?_
  | with_reducible refine rd_iA ?_
  | with_reducible refine rd_iZA ?_
  | with_reducible refine rd_par ?_
  | with_reducible refine rd_par2 ?_
  | with_reducible refine rd_bits ?_
  | with_reducible refine rd_callS ?_)
local macro_rules | `(tactic| walk_at "rd") => `(tactic| repeat walk_at "rd1")

theorem ints_vl {ls : List Nat} : (ls.map fun i => V.int (i : Nat)) = vl ls.length fun j => ((ls.getD j 0 : Nat) : Int) := (map_getD 0 (fun i => V.int (i : Nat)) ls).symm
theorem ints_int {ls : List Nat} : (ls.map fun i => V.int (i : Nat)) = (ls.map fun i => ((i : Nat) : Int)).map V.int := by rw [List.map_map]; rfl
theorem tls_self {W : Rws} {v : Nat → Int} : (List.range W.m).filter (fun k => decide (k ∈ tls W v)) = tls W v := by
  conv => rhs; unfold tls
  refine List.filter_congr fun i hi => decide_eq_decide.mpr ?_
  rw [mem_tls]
  exact ⟨fun z => z.2, fun z => ⟨List.mem_range.mp hi, z⟩⟩
section
variable {P : Program} {w : World} {K : PySem.W.Frag} {mg : Str → Option Value} {base : Heap}
abbrev s__law_pair : Stmt := topS 36
theorem sc__law_pair : FnScope ["rows", "many", "answer", "course", "tight", "k", "total"] ["rows", "many", "answer"] (defScope s__law_pair) := ⟨rfl, rfl, rfl, by decide +kernel, rfl, by decide +kernel, by decide +kernel⟩
def sp__law_pair : Sp := fun vs H Q _ => ∃ (p t : Addr) (W : Rws) (tot : Nat → Int), vs = [.ref p, .int W.n, .ref t] ∧ LRow H p W ∧ W.le BB ∧ W.n ≤ 7 ∧ W.m ≤ 20 ∧ WAns H t W tot ∧ ∀ H', Ex H H' → Q (.bl true) H'
theorem ok__law_pair {f : Addr} {fd : FuncData} (F : Fun K "_law_pair" "_law_pair" s__law_pair f fd) (B : Bi mg) (C__law_integers : Cl P w K mg base CX0 43 "_law_integers" ["thing", "size"] sp__law_integers) (C__law_product : Cl P w K mg base CX0 41 "_law_product" ["left", "right"] sp__law_product) : FnOk P w K mg base CX0 45 f fd ["rows", "many", "answer"] sp__law_pair := by
  refine F.ok sc__law_pair (fun vs H Q E h => ?_) (fun cdv A outer s0 H vs Q E hr h => ?_)
  · obtain ⟨p, t, W, tot, rfl, _⟩ := h; rfl
  · obtain ⟨p, t, W, tot, rfl, hL, hle, hn, hm, ⟨T, Tt, et, eT, eTt, hw, hb⟩, k⟩ := h
    have nd := sc__law_pair.nd
    refine ⟨_, (pss_cons (ps_if (PW.pt (pw_or (pt_not (pt_val (pe_callB call_isi (by rfl) B.isinstance b_isinstance (pa_cons (pv 2) (pa_cons (pe_bltn (v := .ty "tuple") (by rfl) B.tuple b_tuple rfl) pa_nil))))) (pw_or1 (pt_cmpR op_ne (pe_callB cr_len (by rfl) B.len b_len (pa_cons (pv 2) pa_nil)) pe_int (nomark _)))))
        (pss_one (ps_ret pe_bl))
        pss_nil)
      (pss_cons (ps_asg (pv 2) (pg_tup (n := 2) (by rfl) (pgs_cons (pg_name (i := 3) nd rfl (.inl rfl)) (pgs_cons (pg_name (i := 4) nd rfl (.inr rfl)) pgs_nil))))
      (pss_cons (ps_if (PW.pt (pw_or (pt_not (pt_val (pe_y C__law_integers hr (by decide) pass0 (by rfl) (pa_cons (pv 3) (pa_cons (pv 1) pa_nil))))) (pw_or1 (pt_not (pt_val (pe_callB call_isi (by rfl) B.isinstance b_isinstance (pa_cons (pv 4) (pa_cons (pe_bltn (v := .ty "tuple") (by rfl) B.tuple b_tuple rfl) pa_nil))))))))
        (pss_one (ps_ret pe_bl))
        pss_nil)
      (pss_cons (ps_if (pt_not (pt_val (pe_y C__law_integers hr (by decide) pass0 (by rfl) (pa_cons (pv 4) (pa_cons (pe_callB cr_len (by rfl) B.len b_len (pa_cons (pv 4) pa_nil)) pa_nil)))))
        (pss_one (ps_ret pe_bl))
        pss_nil)
      (pss_cons (ps_if (pt_cmpR (op_neD hr.units) (pe_callTy cr_lstOf (by rfl) B.list b_list (pa_cons (pv 4) pa_nil)) (pe_lc (own := [("k", 5)]) rfl nd (pi_range1 (by rfl) B.range (pa_cons (pe_callB cr_len (by rfl) B.len b_len (pa_cons (pv 0) pa_nil)) pa_nil)) (blkOk_by (by rfl)) (fun _ _ _ _ _ => (pg_name (i := 5) nd rfl (by first | exact .inl rfl | exact .inr rfl))) (fun _ _ _ _ _ => (pts_one (pt_cmpR (op_in_seqK (K := K) rfl) (pv 5) (pv 4) (by with_unfolding_all rfl)))) (fun _ _ _ _ _ => (pv 5))) (nomark _))
        (pss_one (ps_ret pe_bl))
        pss_nil)
      (pss_cons (ps_for PassesOwn.never rfl (pi_range1 (by rfl) B.range (pa_cons (pe_callB cr_len (by rfl) B.len b_len (pa_cons (pv 0) pa_nil)) pa_nil)) (pg_name (i := 5) nd rfl (.inl rfl))
        (pss_cons (ps_set (i := 6) nd rfl (.inl rfl) (pe_y C__law_product hr (by decide) pass0 (by rfl) (pa_cons (pe_ix ix_tup (pe_ix ix_list (pv 0) (pv 5) (fun _ _ => rfl)) pe_int (fun _ _ => rfl)) (pa_cons (pv 3) pa_nil))))
        (pss_cons (ps_if (PW.pt (pw_and (pt_cmpR op_in_seq (pv 5) (pv 4) (by with_unfolding_all rfl)) (pw_and1 (pt_cmpR op_ne (pv 6) pe_int (nomark _)))))
          (pss_one (ps_ret pe_bl))
          pss_nil)
        (pss_one (ps_if (PW.pt (pw_and (pt_cmpR op_notIn_seq (pv 5) (pv 4) (by with_unfolding_all rfl)) (pw_and1 (PW.pt (pw_or (pt_cmpR op_gt (pv 6) (pe_un un_neg pe_int) (nomark _)) (pw_or1 (pt_cmpR op_eq (pe_ix ix_tup (pe_ix ix_list (pv 0) (pv 5) (fun _ _ => rfl)) pe_int (fun _ _ => rfl)) pe_str (nomark _))))))))
          (pss_one (ps_ret pe_bl))
          pss_nil)))))
      (pss_one (ps_ret pe_bl)))))))), ?_⟩
    obtain ⟨rp, np, e1, e2, e3⟩ := id hL
    have tl : (tls W tot).length ≤ W.m := by
      unfold tls
      exact Nat.le_trans (List.length_filter_le _ _) (by rw [List.length_range]; exact Nat.le_refl _)
    walk_at "rd"
    refine rd_isTup (.inr (.inr (.inr ⟨t, _, rfl, et⟩))) ?_
    walk_at "rd"
    refine iteF ?_
    walk_at "rd"
    refine rd_lenT et ?_
    walk_at "rd"
    refine if_ndec (fun hn => absurd rfl hn) (fun _ => ?_)
    walk_at "rd"
    refine rd_gpair et ?_
    walk_at "rd"
    refine ⟨.ref T, W.n, true, rfl, vec_good eT (by omega), fun H1 x1 => ?_⟩
    walk_at "rd"
    refine rd_isTup (.inr (.inr (.inr ⟨Tt, _, rfl, x1.at eTt⟩))) ?_
    walk_at "rd"
    refine iteF ?_
    walk_at "rd"
    have eTv : H1 Tt = some (.tup (vl (tls W tot).length fun j => (((tls W tot).getD j 0 : Nat) : Int))) := by rw [x1.at eTt, ints_vl]
    refine rd_lenTt eTv ?_
    walk_at "rd"
    refine ⟨.ref Tt, (tls W tot).length, true, rfl, vec_good eTv (by omega), fun H2 x2 => ?_⟩
    walk_at "rd"
    have x02 : Ex H H2 := Xt.trans x1 x2
    refine rd_lstT (x02.at eTt) fun L1 H3 nL1 x3 eL1 => ?_
    walk_at "rd"
    have x03 : Ex H H3 := Xt.trans x02 x3
    refine rd_lenLt (x03.at e1) ?_
    walk_at "rd"
    refine rd_rg1 W.m rfl (by omega) (lc_some wkR (fun i => if decide (i ∈ tls W tot) = true then some (.int (i : Nat)) else none) (by omega) (fun _ _ => trivial) (fun i x H4 H5 hi x4 y Pp N hP hN => ?_) fun L2 H4 nL2 x4 eL2 => ?_)
    · obtain ⟨rfl, exx⟩ := y
      obtain rfl : x = .int (i : Int) := by rw [exx]; exact congrArg V.int (by omega)
      walk_at "rd"
      refine ⟨rfl, ?_⟩
      walk_at "rd"
      refine rd_inI (x4.at (x03.at eTt)) ?_
      walk_at "rd"
      refine rd_dec (fun h1 => ?_) fun h1 => ?_
      · walk_at "rd"
        exact hP _ _ (if_pos (decide_eq_true h1)) Ex.rfl'
      · exact hN (if_neg (by rw [decide_eq_false h1]; decide)) _ Ex.rfl'
    · rw [filterMap_if (fun i => decide (i ∈ tls W tot)) (fun i => V.int (i : Nat)), tls_self] at eL2
      refine rd_neL ((x4.at eL1).trans (congrArg (fun z => some (HO.lst z)) ints_int)) (eL2.trans (congrArg (fun z => some (HO.lst z)) ints_int)) ?_
      walk_at "rd"
      refine rd_ndec (fun z => absurd rfl z) fun _ => ?_
      walk_at "rd"
      have x04 : Ex H H4 := Xt.trans x03 x4
      refine rd_lenLt (x04.at e1) ?_
      walk_at "rd"
      refine rd_rg1 W.m rfl (by omega) (for_w wkR (fun i σ H5 => Ex H H5 ∧ ∃ o5 o6, σ = [some (.ref p), some (.int W.n), some (.ref t), some (.ref T), some (.ref Tt), o5, o6]) ⟨x04, _, _, rfl⟩ (fun _ _ _ _ _ => trivial) (fun i x σ H5 H6 hi hP y => ?_) fun σ H5 hP => ?_)
      · obtain ⟨x5, o5, o6, rfl⟩ := hP
        obtain ⟨rfl, exx⟩ := y
        obtain rfl : x = .int (i : Int) := by rw [exx]; exact congrArg V.int (by omega)
        have hub : ∀ j, j < W.n → (W.R i j).natAbs ≤ BB := fun j hj => hle.2.2 i hi j hj
        walk_at "rd"
        refine rd_ixLt i (x5.at e1) rfl hi ?_
        walk_at "rd"
        refine rd_ixTn 0 (x5.at (e2 i hi)) rfl rfl ?_
        walk_at "rd"
        refine ⟨np i, T, W.n, W.R i, tot, rfl, x5.at (e3 i hi), .inl (x5.at eT), by omega, fun j hj => mulok_big (Nat.lt_of_le_of_lt (hub j hj) (by decide +kernel)) (p4000 (hb j hj)), ?_⟩
        walk_at "rd"
        refine rd_inI (x5.at eTt) ?_
        walk_at "rd"
        by_cases hin : i ∈ tls W tot
        · have hz := (mem_tls.mp hin).2
          rw [decide_eq_true hin]
          walk_at "rd"
          refine rd_ndec (fun z => absurd hz z) fun _ => ?_
          walk_at "rd"
          refine rd_ninI (x5.at eTt) ?_
          rw [decide_eq_true hin]
          walk_at "rd"
          exact ⟨x5, _, _, rfl⟩
        · have hz : dt W.n (W.R i) tot ≠ 0 := fun z => hin (mem_tls.mpr ⟨hi, z⟩)
          have hc := hw.1 i hi
          rw [decide_eq_false hin]
          walk_at "rd"
          refine rd_ninI (x5.at eTt) ?_
          rw [decide_eq_false hin]
          walk_at "rd"
          refine rd_dec (fun z => absurd z (by omega)) fun _ => ?_
          walk_at "rd"
          refine rd_ixLt i (x5.at e1) rfl hi ?_
          walk_at "rd"
          refine rd_ixTn 1 (x5.at (e2 i hi)) rfl rfl ?_
          walk_at "rd"
          refine rd_eq rfl ?_
          walk_at "rd"
          refine rd_dec (fun z => absurd (hc.2 (rel_eq.mp z)) hz) fun _ => ?_
          walk_at "rd"
          exact ⟨x5, _, _, rfl⟩
      · obtain ⟨x5, o5, o6, rfl⟩ := hP
        walk_at "rd"
        exact k H5 x5
end
end Sx
/-! what is no row -/
namespace Sx
open PySem PySem.Spec PyProof.Rows L2 Y
local macro_rules | `(tactic| walk_at "rd1") => `(tactic| first
  | with_reducible refine rd_var rfl ?_
  | with_reducible refine rd_op ?_
  | with_reducible refine rd_c ?_
  | with_reducible refine rd_I0 ?_
  | with_reducible refine rd_seq ?_
  | ((with_reducible refine rd_I ?_ ?_); focus (first | exact mulok_r (by decide) (by decide) | exact mulok_l (by decide) (by decide) | (show _ ≠ _; decide) | (show _ ∧ _; decide)))
  | with_reducible refine rd_asg ?_
  | with_reducible refine rd_name ?_
  | with_reducible refine rd_cb ?_
  | with_reducible refine rd_cons ?_
  | with_reducible refine rd_nil ?_
  | with_reducible refine rd_int ?_
  | with_reducible refine rd_eqI ?_
  | with_reducible refine rd_neI ?_
  | with_reducible refine rd_bl ?_
  | with_reducible refine rd_test ?_
  | with_reducible refine rd_tB ?_
  | with_reducible refine rd_ifS ?_
  | with_reducible refine rd_next ?_
  | with_reducible refine rd_T ?_
  | with_reducible refine rd_F ?_
  | with_reducible refine rd_nT ?_
  | with_reducible refine rd_nF ?_
  | with_reducible refine rd_blV ?_
  | with_reducible refine rd_ret ?_
  | with_reducible refine rd_call ?_
  | with_reducible refine rd_drop ?_
  | with_reducible refine rd_not ?_
  | with_reducible refine rd_and ?_
  | with_reducible refine rd_or ?_
  | with_reducible refine rd_un ?_
  | with_reducible refine rd_U ?_
  | with_reducible refine rd_tup ?_
  | with_reducible refine rd_lst ?_
  | with_reducible refine rd_if ?_
  | with_reducible refine rd_andV ?_
  | with_reducible refine rd_orV ?_
  | with_reducible refine rd_notV ?_
  | with_reducible refine rd_sl ?_
  | with_reducible refine rd_nopart ?_
  | with_reducible refine rd_part ?_
  | with_reducible refine rd_iv ?_
  | with_reducible refine rd_bm ?_
  | with_reducible refine rd_abs ?_
  | with_reducible refine rd_intb ?_
  | with_reducible refine rd_mx2 ?_
  | with_reducible refine rd_mn2 ?_
  | with_reducible refine rd_sub ?_
  | with_reducible refine rd_lc ?_
  | with_reducible refine rd_for ?_
  | with_reducible refine rd_iL ?_
  | with_reducible refine rd_iT ?_
  | with_reducible refine rd_r1 ?_
  | with_reducible refine rd_r2 ?_
  | with_reducible refine rd_iZ ?_
  | with_reducible refine rd_iZM ?_
  | with_reducible refine rd_while ?_
  | with_reducible refine rd_tru ?_
  | with_reducible refine rd_brk ?_
  | with_reducible refine rd_iA ?_
  | with_reducible refine rd_iZA ?_
  | with_reducible refine rd_par ?_
  | with_reducible refine rd_par2 ?_
  | with_reducible refine rd_bits ?_
  | with_reducible refine rd_callS ?_)
local macro_rules | `(tactic| walk_at "rd") => `(tactic| repeat walk_at "rd1")

theorem Kd.to {S : List Addr} {H H' : Hp} {x : V} (k : Kd H x) (e : Xt S H H') (nt : NoT S H) : Kd H' x := by
  rcases k with h | h | h | ⟨a, xs, h1, h2⟩
  · exact .inl h
  · exact .inr (.inl h)
  · exact .inr (.inr (.inl h))
  · exact .inr (.inr (.inr ⟨a, xs, h1, tup_to e nt h2⟩))
theorem VecV.to {S : List Addr} {H H' : Hp} {n : Nat} {x : V} {g : Bool} (v : VecV H n x g) (e : Xt S H H') (nt : NoT S H) : VecV H' n x g := by
  rcases v with h | ⟨a, xs, h1, h2, h3, h4, h5⟩
  · exact .inl h
  · exact .inr ⟨a, xs, h1, tup_to e nt h2, h3, fun y hy => (h4 y hy).to e nt, h5⟩
theorem kd_vl {H : Hp} {m : Nat} {y : Nat → Int} : ∀ x ∈ vl m y, Kd H x := fun x hx => by
  obtain ⟨j, _, rfl⟩ := List.mem_map.mp hx
  exact .inl ⟨_, rfl⟩
theorem cut_kd {H : Hp} {n : Nat} {u : Nat → Int} {lo hi : Option Int} : ∀ y ∈ cutV (vl n u) lo hi, Kd H y := fun y hy => by
  unfold cutV at hy
  exact kd_vl y (List.mem_of_mem_drop (List.mem_of_mem_take hy))
theorem cut_len {n : Nat} {u : Nat → Int} {lo hi : Option Int} : (cutV (vl n u) lo hi).length ≤ n := by
  have := cutV_length (vl n u) lo hi
  rw [tab_len] at this
  exact this
theorem vec_bad {H : Hp} {n : Nat} {a : Addr} {xs : List V} (e : H a = some (.tup xs)) (hl : xs.length ≤ 1000) (hk : ∀ y ∈ xs, Kd H y) (h : xs.length ≠ n ∨ ∃ y ∈ xs, isI y = false) : VecV H n (.ref a) false := by
  refine .inr ⟨a, xs, rfl, e, hl, hk, ?_⟩
  rcases h with h | ⟨y, hy, hi⟩
  · rw [decide_eq_false h]; rfl
  · have : xs.all isI = false := by
      rw [List.all_eq_false]
      exact ⟨y, hy, by rw [hi]; decide⟩
    rw [this, Bool.and_false]
theorem row_bad {H : Hp} {n : Nat} {T : Addr} {y0 y1 y2 : V} (e : H T = some (.tup [y0, y1, y2])) (h : VecV H n y0 false) : RowV H n (.ref T) false := .inr (.inr ⟨T, y0, y1, y2, rfl, e, .inl ⟨h, rfl⟩⟩)
section
variable {P : Program} {w : World} {K : PySem.W.Frag} {mg : Str → Option Value} {base : Heap}
abbrev s__law_wrong : Stmt := topS 33
theorem sc__law_wrong : FnScope ["box", "many", "numbers", "relation", "most", "at", "odd", "kind"] ["box", "many"] (defScope s__law_wrong) := ⟨rfl, rfl, rfl, by decide +kernel, rfl, by decide +kernel, by decide +kernel⟩
def sp__law_wrong : Sp := fun vs H Q _ => ∃ (b s g : Addr) (n : Nat), vs = [.ref b, .int n] ∧ Bx H b s g ∧ n ≤ 100 ∧ ∀ (x : V) (H' : Hp), Xt [b, g] H H' → Bx H' b s g → RowV H' n x false → Q x H'
theorem ok__law_wrong {f : Addr} {fd : FuncData} (F : Fun K "_law_wrong" "_law_wrong" s__law_wrong f fd) (B : Bi mg) (C__law_take : Cl P w K mg base CX0 43 "_law_take" ["box", "size"] sp__law_take) (C__law_triple : Cl P w K mg base CX0 45 "_law_triple" ["box", "many", "wide"] sp__law_triple) :
    FnOk P w K mg base CX0 47 f fd ["box", "many"] sp__law_wrong := by
  refine F.ok sc__law_wrong (fun vs H Q E h => ?_) (fun cdv A outer s0 H vs Q E hr h => ?_)
  · obtain ⟨b, s, g, n, rfl, _⟩ := h; rfl
  · obtain ⟨b, s, g, n, rfl, hx, hn, k⟩ := h
    have nd := sc__law_wrong.nd
    refine ⟨_, (pss_cons (ps_asg (pe_y C__law_triple hr (by decide) pass0 (by rfl) (pa_cons (pv 0) (pa_cons (pv 1) (pa_cons pe_int pa_nil)))) (pg_tup (n := 3) (by rfl) (pgs_cons (pg_name (i := 2) nd rfl (.inl rfl)) (pgs_cons (pg_name (i := 3) nd rfl (.inl rfl)) (pgs_cons (pg_name (i := 4) nd rfl (.inl rfl)) pgs_nil)))))
      (pss_cons (ps_set (i := 5) nd rfl (.inl rfl) (pe_y C__law_take hr (by decide) pass0 (by rfl) (pa_cons (pv 0) (pa_cons (pe_callB (cr_mx2 (by rfl)) (by rfl) B.max b_max (pa_cons pe_int (pa_cons (pv 1) pa_nil))) pa_nil))))
      (pss_cons (ps_set (i := 6) nd rfl (.inl rfl) (pe_ix ix_tup (pe_tup (pa_cons pe_str (pa_cons pe_bl (pa_cons (pe_tup (pa_cons pe_int pa_nil)) pa_nil)))) (pe_y C__law_take hr (by decide) pass0 (by rfl) (pa_cons (pv 0) (pa_cons pe_int pa_nil))) (fun _ _ => rfl)))
      (pss_cons (ps_set (i := 7) nd rfl (.inl rfl) (pe_y C__law_take hr (by decide) pass0 (by rfl) (pa_cons (pv 0) (pa_cons pe_int pa_nil))))
      (pss_cons (ps_if (pt_cmpR op_eq (pv 7) pe_int (nomark _))
        (pss_one (ps_ret (pe_tup (pa_cons (pe_op op_catA (pv 2) (pe_tup (pa_cons pe_int pa_nil))) (pa_cons (pv 3) (pa_cons (pv 4) pa_nil))))))
        pss_nil)
      (pss_cons (ps_if (PW.pt (pw_and (pt_cmpR op_eq (pv 7) pe_int (nomark _)) (pw_and1 (pt_cmpR op_gt (pv 1) pe_int (nomark _)))))
        (pss_one (ps_ret (pe_tup (pa_cons (pe_slice sl_tupA (pv 2) (po_some pe_int) po_none) (pa_cons (pv 3) (pa_cons (pv 4) pa_nil))))))
        pss_nil)
      (pss_cons (ps_if (pt_cmpR op_eq (pv 7) pe_int (nomark _))
        (pss_one (ps_ret (pe_tup (pa_cons (pe_tup (pa_cons pe_int (pa_cons pe_int pa_nil))) (pa_cons (pv 3) (pa_cons (pv 4) pa_nil))))))
        pss_nil)
      (pss_cons (ps_if (PW.pt (pw_or (pt_cmpR op_eq (pv 7) pe_int (nomark _)) (pw_or1 (pt_cmpR op_eq (pv 7) pe_int (nomark _)))))
        (pss_one (ps_ret (pe_tup (pa_cons (pe_op op_catA (pe_op op_catA (pe_slice sl_tupA (pv 2) po_none (po_some (pv 5))) (pe_tup (pa_cons (pv 6) pa_nil))) (pe_slice sl_tupA (pv 2) (po_some (pe_op op_add (pv 5) pe_int)) po_none)) (pa_cons (pv 3) (pa_cons (pv 4) pa_nil))))))
        pss_nil)
      (pss_cons (ps_if (pt_cmpR op_eq (pv 7) pe_int (nomark _))
        (pss_one (ps_ret (pe_tup (pa_cons (pv 2) (pa_cons (pv 3) (pa_cons (pv 6) pa_nil))))))
        pss_nil)
      (pss_cons (ps_if (pt_cmpR op_eq (pv 7) pe_int (nomark _))
        (pss_one (ps_ret (pe_tup (pa_cons (pv 2) (pa_cons pe_str (pa_cons (pv 4) pa_nil))))))
        pss_nil)
      (pss_cons (ps_if (pt_cmpR op_eq (pv 7) pe_int (nomark _))
        (pss_one (ps_ret (pe_tup (pa_cons (pv 2) (pa_cons (pv 3) pa_nil)))))
        pss_nil)
      (pss_cons (ps_if (pt_cmpR op_eq (pv 7) pe_int (nomark _))
        (pss_one (ps_ret (pe_tup (pa_cons (pv 2) (pa_cons (pv 3) (pa_cons (pv 4) (pa_cons pe_int pa_nil)))))))
        pss_nil)
      (pss_cons (ps_if (pt_cmpR op_eq (pv 7) pe_int (nomark _))
        (pss_one (ps_ret (pe_tup (pa_cons (pv 3) (pa_cons (pv 2) (pa_cons (pv 4) pa_nil))))))
        pss_nil)
      (pss_cons (ps_if (pt_cmpR op_eq (pv 7) pe_int (nomark _))
        (pss_one (ps_ret (pe_tup (pa_cons (pv 2) (pa_cons (pe_tup (pa_cons (pv 3) pa_nil)) (pa_cons (pv 4) pa_nil))))))
        pss_nil)
      (pss_cons (ps_if (pt_cmpR op_eq (pv 7) pe_int (nomark _))
        (pss_one (ps_ret (pe_tup (pa_cons (pe_tup (pa_cons (pv 2) (pa_cons (pv 3) (pa_cons (pv 4) pa_nil)))) pa_nil))))
        pss_nil)
      (pss_cons (ps_if (pt_cmpR op_eq (pv 7) pe_int (nomark _))
        (pss_one (ps_ret pe_str))
        pss_nil)
      (pss_one (ps_ret pe_int)))))))))))))))))), ?_⟩
    walk_at "rd"
    refine ⟨b, s, g, n, 4, rfl, hx, by omega, by decide, fun T u q c H1 X1 hx1 tr => ?_⟩
    obtain ⟨o, eT, eo, hu, hc⟩ := tr
    refine rd_gtrip eT ?_
    walk_at "rd"
    refine ⟨b, s, g, _, rfl, hx1, by split <;> omega, by split <;> omega, fun d H2 d0 d1 X2 hx2 => ?_⟩
    walk_at "rd"
    have eo2 := X2.at eo (hx1.tin eo)
    refine ⟨sz (show 1 ≤ 100000 by decide), fun T1 nT1 => ?_⟩
    have e3 : Ex H2 (upd H2 T1 (.tup [.int 1])) := ex_new nT1
    have eT1 : upd H2 T1 (.tup [.int 1]) T1 = some (.tup [.int 1]) := upd_same
    generalize upd H2 T1 (HO.tup [.int 1]) = H3 at e3 eT1 ⊢
    walk_at "rd"
    refine ⟨sz (show 3 ≤ 100000 by decide), fun T2 nT2 => ?_⟩
    have e4 : Ex H3 (upd H3 T2 (.tup [.str "x", .bl true, .ref T1])) := ex_new nT2
    have eT2 : upd H3 T2 (.tup [.str "x", .bl true, .ref T1]) T2 = some (.tup [.str "x", .bl true, .ref T1]) := upd_same
    generalize upd H3 T2 (HO.tup [.str "x", .bl true, .ref T1]) = H4 at e4 eT2 ⊢
    have hx4 := (hx2.ex e3).ex e4
    walk_at "rd"
    refine ⟨b, s, g, 3, rfl, hx4, by decide, by decide, fun d5 H5 d50 d51 X5 hx5 => ?_⟩
    have odd : ∃ y, ([.str "x", .bl true, .ref T1] : List V)[d5.toNat]? = some y ∧ isI y = false ∧ Kd H5 y := by
      have : d5 = 0 ∨ d5 = 1 ∨ d5 = 2 := by omega
      rcases this with rfl | rfl | rfl
      · exact ⟨_, rfl, rfl, .inr (.inr (.inl ⟨_, rfl⟩))⟩
      · exact ⟨_, rfl, rfl, .inr (.inl ⟨_, rfl⟩)⟩
      · exact ⟨_, rfl, rfl, .inr (.inr (.inr ⟨T1, _, rfl, X5.at (e4.at eT1) (hx4.tin (e4.at eT1))⟩))⟩
    obtain ⟨y, hy, yi, yk⟩ := odd
    refine rd_ixTn d5.toNat (X5.at eT2 (hx4.tin eT2)) (by omega) hy ?_
    walk_at "rd"
    have eo5 := X5.at (e4.at (e3.at eo2)) (hx4.tin (e4.at (e3.at eo2)))
    refine ⟨b, s, g, 13, rfl, hx5, by decide, by decide, fun z H6 z0 z1 X6 hx6 => ?_⟩
    walk_at "rd"
    have eo6 := X6.at eo5 (hx5.tin eo5)
    have yk6 : Kd H6 y := yk.to X6 hx5.nt
    have X06 : Xt [b, g] H H6 := X1.trans (X2.trans ((Ex.xt e3).trans ((Ex.xt e4).trans (X5.trans X6))))
    have done : ∀ x H', Ex H6 H' → RowV H' n x false → Q x H' := fun x H' e h => k x H' (X06.trans (Ex.xt e)) (hx6.ex e) h
    have t3 : ∀ {H' : Hp} {y0 : V}, Ex H6 H' → VecV H' n y0 false → ∀ p, H' p = none → Q (.ref p) (upd H' p (.tup [y0, .str (rel q), .int c])) := fun {H' y0} e hv p np => done _ _ (Xt.trans e (ex_new np)) (row_bad upd_same (hv.ex (ex_new np)))
    have dz : ∀ (j : Int), z ≠ j → decide (z = j) = false := fun j h => decide_eq_false h
    refine rd_dec (fun _ => ?_) fun h0 => ?_
    · walk_at "rd"
      refine ⟨sz (show 1 ≤ 100000 by decide), fun T3 nT3 => ?_⟩
      have e7 : Ex H6 (upd H6 T3 (.tup [.int 0])) := ex_new nT3
      refine rd_catA (e7.at eo6) upd_same (by rw [tab_len]; show n + 1 ≤ 100000; omega) fun l H8 e8 el => ?_
      walk_at "rd"
      refine ⟨sz (show 3 ≤ 100000 by decide), t3 (Xt.trans e7 e8) (vec_bad el (by rw [List.length_append, tab_len]; show n + 1 ≤ 1000; omega) (fun y hy => ?_) (.inl (by rw [List.length_append, tab_len]; show n + 1 ≠ n; omega)))⟩
      rcases List.mem_append.mp hy with hy | hy
      · exact kd_vl y hy
      · rw [List.mem_singleton.mp hy]; exact .inl ⟨_, rfl⟩
    · walk_at "rd"
      have k2 : ∀ (xx : V) (H' : Hp), True := fun _ _ => trivial
      refine rd_dec (fun h1 => ?_) fun h1 => ?_
      · walk_at "rd"
        refine rd_dec (fun hn0 => ?_) fun hn0 => ?_
        · walk_at "rd"
          refine rd_slA eo6 fun l H7 e7 el => ?_
          walk_at "rd"
          refine ⟨sz (show 3 ≤ 100000 by decide), t3 e7 (vec_bad el (Nat.le_trans cut_len (by omega)) (fun y hy => cut_kd y hy) (.inl ?_))⟩
          rw [show (1 : Int) = ((1 : Nat) : Int) from rfl, cut_hi (by rw [tab_len]; omega), List.length_drop, tab_len]
          omega
        · walk_at "rd"
          refine rd_dec (fun h2 => ?_) fun h2 => absurd h1 h2
          walk_at "rd"
          refine ⟨sz (show 2 ≤ 100000 by decide), fun T3 nT3 => ?_⟩
          have e7 : Ex H6 (upd H6 T3 (.tup [.int 0, .int 0])) := ex_new nT3
          walk_at "rd"
          refine ⟨sz (show 3 ≤ 100000 by decide), t3 e7 (vec_bad upd_same (by decide) (fun y hy => ?_) (.inl (by show 2 ≠ n; omega)))⟩
          obtain rfl : y = .int 0 := by simpa using hy
          exact .inl ⟨_, rfl⟩
      · walk_at "rd"
        refine rd_dec (fun h2 => absurd h2 h1) fun _ => ?_
        walk_at "rd"
        have mid : ∀ {H7 : Hp}, Ex H6 H7 → True := fun _ => trivial
        refine rd_dec (fun _ => ?_) fun _ => ?_
        · walk_at "rd"
          refine rd_slA eo6 fun l1 H7 e7 el1 => ?_
          walk_at "rd"
          refine ⟨sz (show 1 ≤ 100000 by decide), fun T3 nT3 => ?_⟩
          have e8 : Ex H7 (upd H7 T3 (.tup [y])) := ex_new nT3
          refine rd_catA (e8.at el1) upd_same (by have := cut_len (n := n) (u := u) (lo := none) (hi := some d); show _ + 1 ≤ 100000; omega) fun l2 H9 e9 el2 => ?_
          walk_at "rd"
          have e69 : Ex H6 H9 := Xt.trans e7 (Xt.trans e8 e9)
          refine rd_slA (Ex.at e69 eo6) fun l3 H10 e10 el3 => ?_
          have q1 := cut_len (n := n) (u := u) (lo := none) (hi := some d)
          have q2 := cut_len (n := n) (u := u) (lo := some (d + 1)) (hi := none)
          refine rd_catA (e10.at el2) el3 (by rw [List.length_append]; show _ + 1 + _ ≤ 100000; omega) fun l4 H11 e11 el4 => ?_
          have e611 : Ex H6 H11 := Xt.trans e69 (Xt.trans e10 e11)
          walk_at "rd"
          refine ⟨sz (show 3 ≤ 100000 by decide), t3 e611 (vec_bad el4 (by rw [List.length_append, List.length_append]; show _ + 1 + _ ≤ 1000; omega) (fun v hv => ?_) (.inr ⟨y, by simp, yi⟩))⟩
          rcases List.mem_append.mp hv with hv | hv
          · rcases List.mem_append.mp hv with hv | hv
            · exact cut_kd v hv
            · rw [List.mem_singleton.mp hv]; exact yk6.ex e611
          · exact cut_kd v hv
        · walk_at "rd"
          refine rd_dec (fun _ => ?_) fun _ => ?_
          · walk_at "rd"
            refine rd_slA eo6 fun l1 H7 e7 el1 => ?_
            walk_at "rd"
            refine ⟨sz (show 1 ≤ 100000 by decide), fun T3 nT3 => ?_⟩
            have e8 : Ex H7 (upd H7 T3 (.tup [y])) := ex_new nT3
            refine rd_catA (e8.at el1) upd_same (by have := cut_len (n := n) (u := u) (lo := none) (hi := some d); show _ + 1 ≤ 100000; omega) fun l2 H9 e9 el2 => ?_
            walk_at "rd"
            have e69 : Ex H6 H9 := Xt.trans e7 (Xt.trans e8 e9)
            refine rd_slA (Ex.at e69 eo6) fun l3 H10 e10 el3 => ?_
            have q1 := cut_len (n := n) (u := u) (lo := none) (hi := some d)
            have q2 := cut_len (n := n) (u := u) (lo := some (d + 1)) (hi := none)
            refine rd_catA (e10.at el2) el3 (by rw [List.length_append]; show _ + 1 + _ ≤ 100000; omega) fun l4 H11 e11 el4 => ?_
            have e611 : Ex H6 H11 := Xt.trans e69 (Xt.trans e10 e11)
            walk_at "rd"
            refine ⟨sz (show 3 ≤ 100000 by decide), t3 e611 (vec_bad el4 (by rw [List.length_append, List.length_append]; show _ + 1 + _ ≤ 1000; omega) (fun v hv => ?_) (.inr ⟨y, by simp, yi⟩))⟩
            rcases List.mem_append.mp hv with hv | hv
            · rcases List.mem_append.mp hv with hv | hv
              · exact cut_kd v hv
              · rw [List.mem_singleton.mp hv]; exact yk6.ex e611
            · exact cut_kd v hv
          · walk_at "rd"
            have good : ∀ {H' : Hp}, Ex H6 H' → VecV H' n (.ref o) true := fun e => vec_good (e.at eo6) (by omega)
            -- 4: odd in the last place
            refine rd_dec (fun _ => ?_) fun _ => ?_
            · walk_at "rd"
              refine ⟨sz (show 3 ≤ 100000 by decide), fun p np => done _ _ (ex_new np) (.inr (.inr ⟨p, _, _, _, rfl, upd_same, .inr ⟨true, good (ex_new np), .inl ⟨q, rfl, rfl⟩, yk6.ex (ex_new np), by rw [yi]; rfl⟩⟩))⟩
            · walk_at "rd"
              refine rd_dec (fun _ => ?_) fun _ => ?_
              · walk_at "rd"
                refine ⟨sz (show 3 ≤ 100000 by decide), fun p np => done _ _ (ex_new np) (.inr (.inr ⟨p, _, _, _, rfl, upd_same, .inr ⟨false, good (ex_new np), .inr (.inl ⟨rfl, rfl⟩), .inl ⟨_, rfl⟩, rfl⟩⟩))⟩
              · walk_at "rd"
                refine rd_dec (fun _ => ?_) fun _ => ?_
                · walk_at "rd"
                  refine ⟨sz (show 2 ≤ 100000 by decide), fun p np => done _ _ (ex_new np) (.inr (.inl ⟨p, _, rfl, upd_same, (show 2 ≠ 3 by decide), (show 2 ≤ 1000 by decide), rfl⟩))⟩
                · walk_at "rd"
                  refine rd_dec (fun _ => ?_) fun _ => ?_
                  · walk_at "rd"
                    refine ⟨sz (show 4 ≤ 100000 by decide), fun p np => done _ _ (ex_new np) (.inr (.inl ⟨p, _, rfl, upd_same, (show 4 ≠ 3 by decide), (show 4 ≤ 1000 by decide), rfl⟩))⟩
                  · walk_at "rd"
                    refine rd_dec (fun _ => ?_) fun _ => ?_
                    · walk_at "rd"
                      refine ⟨sz (show 3 ≤ 100000 by decide), fun p np => done _ _ (ex_new np) (row_bad upd_same (.inl ⟨.inr ⟨_, rfl⟩, rfl⟩))⟩
                    · walk_at "rd"
                      refine rd_dec (fun _ => ?_) fun _ => ?_
                      · walk_at "rd"
                        refine ⟨sz (show 1 ≤ 100000 by decide), fun T3 nT3 => ?_⟩
                        have e7 : Ex H6 (upd H6 T3 (.tup [.str (rel q)])) := ex_new nT3
                        have eT3 : upd H6 T3 (.tup [.str (rel q)]) T3 = some (.tup [.str (rel q)]) := upd_same
                        generalize upd H6 T3 (HO.tup [.str (rel q)]) = H7 at e7 eT3 ⊢
                        walk_at "rd"
                        refine ⟨sz (show 3 ≤ 100000 by decide), fun p np => done _ _ (Xt.trans e7 (ex_new np)) (.inr (.inr ⟨p, _, _, _, rfl, upd_same, .inr ⟨false, good (Xt.trans e7 (ex_new np)), .inr (.inr ⟨T3, q, rfl, (ex_new np).at eT3, rfl⟩), .inl ⟨_, rfl⟩, rfl⟩⟩))⟩
                      · walk_at "rd"
                        refine rd_dec (fun _ => ?_) fun _ => ?_
                        · walk_at "rd"
                          refine ⟨sz (show 3 ≤ 100000 by decide), fun T3 nT3 => ?_⟩
                          have e7 : Ex H6 (upd H6 T3 (.tup [.ref o, .str (rel q), .int c])) := ex_new nT3
                          walk_at "rd"
                          refine ⟨sz (show 1 ≤ 100000 by decide), fun p np => done _ _ (Xt.trans e7 (ex_new np)) (.inr (.inl ⟨p, _, rfl, upd_same, (show 1 ≠ 3 by decide), (show 1 ≤ 1000 by decide), rfl⟩))⟩
                        · walk_at "rd"
                          refine rd_dec (fun _ => ?_) fun _ => ?_
                          · walk_at "rd"
                            exact done _ H6 Ex.rfl' (.inl ⟨.inr ⟨_, rfl⟩, rfl⟩)
                          · walk_at "rd"
                            exact done _ H6 Ex.rfl' (.inl ⟨.inl ⟨_, rfl⟩, rfl⟩)
end
end Sx
/-! the refusal -/
namespace Sx
open PySem PySem.Spec PyProof.Rows L2 Y L2H
local macro_rules | `(tactic| walk_at "rd1") => `(tactic| first
  | with_reducible refine rd_var rfl ?_
  | with_reducible refine rd_op ?_
  | with_reducible refine rd_c ?_
  | with_reducible refine rd_I0 ?_
  | with_reducible refine rd_seq ?_
  | ((with_reducible refine rd_I ?_ ?_); focus (first | exact mulok_r (by decide) (by decide) | exact mulok_l (by decide) (by decide) | (show _ ≠ _; decide) | (show _ ∧ _; decide)))
  | with_reducible refine rd_asg ?_
  | with_reducible refine rd_name ?_
  | with_reducible refine rd_cb ?_
  | with_reducible refine rd_cons ?_
  | with_reducible refine rd_nil ?_
  | with_reducible refine rd_int ?_
  | with_reducible refine rd_eqI ?_
  | with_reducible refine rd_neI ?_
  | with_reducible refine rd_bl ?_
  | with_reducible refine rd_test ?_
  | with_reducible refine rd_tB ?_
  | with_reducible refine rd_ifS ?_
  | with_reducible refine rd_next ?_
  | with_reducible refine rd_T ?_
  | with_reducible refine rd_F ?_
  | with_reducible refine rd_nT ?_
  | with_reducible refine rd_nF ?_
  | with_reducible refine rd_blV ?_
  | with_reducible refine rd_ret ?_
  | with_reducible refine rd_call ?_
  | with_reducible refine rd_drop ?_
  | with_reducible refine rd_not ?_
  | with_reducible refine rd_and ?_
  | with_reducible refine rd_or ?_
  | with_reducible refine rd_un ?_
  | with_reducible refine rd_U ?_
  | with_reducible refine rd_tup ?_
  | with_reducible refine rd_lst ?_
  | with_reducible refine rd_if ?_
  | with_reducible refine rd_andV ?_
  | with_reducible refine rd_orV ?_
  | with_reducible refine rd_notV ?_
  | with_reducible refine rd_sl ?_
  | with_reducible refine rd_nopart ?_
  | with_reducible refine rd_part ?_
  | with_reducible refine rd_iv ?_
  | with_reducible refine rd_bm ?_
  | with_reducible refine rd_abs ?_
  | with_reducible refine rd_intb ?_
  | with_reducible refine rd_mx2 ?_
  | with_reducible refine rd_mn2 ?_
  | with_reducible refine rd_sub ?_
  | with_reducible refine rd_lc ?_
  | with_reducible refine rd_for ?_
  | with_reducible refine rd_iL ?_
  | with_reducible refine rd_iT ?_
  | with_reducible refine rd_r1 ?_
  | with_reducible refine rd_r2 ?_
  | with_reducible refine rd_iZ ?_
  | with_reducible refine rd_iZM ?_
  | with_reducible refine rd_while ?_
  | with_reducible refine rd_tru ?_
  | with_reducible refine rd_brk ?_
  | with_reducible refine rd_iA ?_
  | with_reducible refine rd_iZA ?_
  | with_reducible refine rd_par ?_
  | with_reducible refine rd_par2 ?_
  | with_reducible refine rd_bits ?_
  | with_reducible refine rd_callS ?_)
local macro_rules | `(tactic| walk_at "rd") => `(tactic| repeat walk_at "rd1")

theorem RowV.to {S : List Addr} {H H' : Hp} {n : Nat} {x : V} {g : Bool} (v : RowV H n x g) (e : Xt S H H') (nt : NoT S H) : RowV H' n x g := by
  rcases v with h | ⟨a, xs, h1, h2, h3⟩ | ⟨a, y0, y1, y2, h1, h2, h3⟩
  · exact .inl h
  · exact .inr (.inl ⟨a, xs, h1, tup_to e nt h2, h3⟩)
  · refine .inr (.inr ⟨a, y0, y1, y2, h1, tup_to e nt h2, ?_⟩)
    rcases h3 with ⟨q1, q2⟩ | ⟨g1, q1, q2, q3, q4⟩
    · exact .inl ⟨q1.to e nt, q2⟩
    · refine .inr ⟨g1, q1.to e nt, ?_, q3.to e nt, q4⟩
      rcases q2 with q | q | ⟨a, q, z1, z2, z3⟩
      · exact .inl q
      · exact .inr (.inl q)
      · exact .inr (.inr ⟨a, q, z1, tup_to e nt z2, z3⟩)
theorem BadAt.to {S : List Addr} {H H' : Hp} {n : Nat} {xs : List V} {at_ : Nat} (b : BadAt H n xs at_) (e : Xt S H H') (nt : NoT S H) : BadAt H' n xs at_ :=
  ⟨let ⟨x, h1, h2⟩ := b.1; ⟨x, h1, h2.to e nt⟩, fun k hk => let ⟨y, h1, h2⟩ := b.2 k hk; ⟨y, h1, h2.to e nt⟩⟩
theorem Rw1.good {H : Hp} {x : V} {n B : Nat} (h : Rw1 H x n B) (hn : n ≤ 1000) : RowV H n x true := by
  obtain ⟨T, a, u, q, c, rfl, h2, h3, h4, h5⟩ := h
  exact .inr (.inr ⟨T, _, _, _, rfl, h2, .inr ⟨true, vec_good h3 hn, .inl ⟨q, rfl, rfl⟩, .inl ⟨_, rfl⟩, rfl⟩⟩)
section
variable {P : Program} {w : World} {K : PySem.W.Frag} {mg : Str → Option Value} {base : Heap}
theorem okP__law_is_integer {f : Addr} {fd : FuncData} (F : Fun K "_law_is_integer" "_law_is_integer" s__law_is_integer f fd) (B : Bi mg) : FnP P w K mg base CX0 41 f fd ["thing"] sp__law_is_integer := by
  refine Y.Fun.okP F sc__law_is_integer (fun vs H Q E h => ?_) (fun cdv A outer s H vs Q E p h => ?_)
  · obtain ⟨x, rfl, _⟩ := h; rfl
  · obtain ⟨x, rfl, kd, k⟩ := h
    have nd := sc__law_is_integer.nd
    refine ⟨_, (pss_one (ps_ret (pe_and (pe_callB call_isi (by rfl) B.isinstance b_isinstance (pa_cons (pv 0) (pa_cons (pe_bltn (v := .ty "int") (by rfl) B.int b_int rfl) pa_nil))) (pe_one (pe_not (pe_callB call_isi (by rfl) B.isinstance b_isinstance (pa_cons (pv 0) (pa_cons (pe_bltn (v := .ty "bool") (by rfl) B.bool b_bool rfl) pa_nil)))))))), ?_⟩
    walk_at "rd"
    refine rd_isInt kd (rd_blV ?_)
    rw [isI_eq] at k
    cases hx : isIB x with
    | false => rw [hx] at k; exact iteF k
    | true =>
      rw [hx] at k
      refine iteT ?_
      walk_at "rd"
      exact rd_isBool kd (rd_blV k)
/-- what is asked of the classes of errors -/
structure BX (P : Program) (w : World) (K : PySem.W.Frag) (mg : Str → Option Value) (base : Heap) (C0 M0 : Addr) : Prop where
  name : mg "BadRows" = some (.ref C0)
  mix : mg "MixError" = some (.ref M0)
  exc : ExcC K C0
  xf : XfC K C0
  noR : PySem.W.findIn K (.ref C0) "row" = some none
  exm : PySem.W.exmOne K (.ref C0) (.ref C0) = some true
  kit : PySem.W.kitOne K (.ref C0) (.ref M0) = some true
  int : ClP P w K mg base 41 "_law_is_integer" ["thing"] sp__law_is_integer
abbrev s__law_refused : Stmt := topS 37
theorem sc__law_refused : FnScope ["box", "many", "rows", "at", "bad", "raised"] ["box", "many", "rows"] (defScope s__law_refused) := ⟨rfl, rfl, rfl, by decide +kernel, rfl, by decide +kernel, by decide +kernel⟩
def sp__law_refused : Sp := fun vs H Q _ => ∃ (b s g p : Addr) (W : Rws), vs = [.ref b, .int W.n, .ref p] ∧ Bx H b s g ∧ W.n ≤ 7 ∧ W.m ≤ 20 ∧ LRow H p W ∧ p ∉ [b, g] ∧ ∀ H', Q (.bl true) H'
theorem ok__law_refused {f C0 M0 : Addr} {fd : FuncData} (F : Fun K "_law_refused" "_law_refused" s__law_refused f fd) (B : Bi mg) (bX : BX P w K mg base C0 M0) (C__law_take : Cl P w K mg base CX0 43 "_law_take" ["box", "size"] sp__law_take) (C__law_wrong : Cl P w K mg base CX0 47 "_law_wrong" ["box", "many"] sp__law_wrong)
    (C_widest_direction : Cl P w K mg base (L2.CX P w) 49 "widest_direction" ["rows", "many"] (sp_widest_direction C0)) : FnOk P w K mg base CX0 51 f fd ["box", "many", "rows"] sp__law_refused := by
  refine F.ok sc__law_refused (fun vs H Q E h => ?_) (fun cdv A outer s0 H vs Q E hr h => ?_)
  · obtain ⟨b, s, g, p, W, rfl, _⟩ := h; rfl
  · obtain ⟨b, s, g, p, W, rfl, hx, hn, hm, hL, hp, k⟩ := h
    have nd := sc__law_refused.nd
    refine ⟨_, (pss_cons (ps_set (i := 3) nd rfl (.inl rfl) (pe_y C__law_take hr (by decide) pass0 (by rfl) (pa_cons (pv 0) (pa_cons (pe_op op_add (pe_callB cr_len (by rfl) B.len b_len (pa_cons (pv 2) pa_nil)) pe_int) pa_nil))))
      (pss_cons (ps_set (i := 4) nd rfl (.inl rfl) (pe_op op_cat (pe_op op_cat (pe_slice sl_list (pv 2) po_none (po_some (pv 3))) (pe_lst (pa_cons (pe_y C__law_wrong hr (by decide) pass0 (by rfl) (pa_cons (pv 0) (pa_cons (pv 1) pa_nil))) pa_nil))) (pe_slice sl_list (pv 2) (po_some (pv 3)) po_none)))
      (pss_cons (ps_if (pt_cmpR op_eq (pe_y C__law_take hr (by decide) pass0 (by rfl) (pa_cons (pv 0) (pa_cons pe_int pa_nil))) pe_int (nomark _))
        (pss_one (ps_expr (pe_bm PySem.F.plainAttrs_list PySem.F.slot_list_append PySem.F.type_list_append mt_append (pv 4) (pa_cons (pe_y C__law_wrong hr (by decide) pass0 (by rfl) (pa_cons (pv 0) (pa_cons (pv 1) pa_nil))) pa_nil))))
        pss_nil)
      (pss_cons (ps_try_as rfl rfl nd (i := 5) rfl rfl (c := .ref C0) ⟨rfl, by decide, .inl bX.name⟩ takes0 (fun W pn xe tk po => (pss_one (ps_expr (pe_yS C_widest_direction hr (by decide) (fun σ => passAt tk σ) (by rfl) (pa_cons (pe_callTy (cr_tupOfK (K := K) rfl) (by rfl) B.tuple b_tuple (pa_cons (pv 4) pa_nil)) (pa_cons (pv 1) pa_nil)))))) (fun a oe cls d pn hz hf => (pss_one (ps_ret (pe_and (pe_callB (call_isF bX.exc hz hf) (by rfl) B.isinstance b_isinstance (pa_cons (pv 5) (pa_cons (pe_glob (v := .ref M0) (by rfl) bX.mix rfl) pa_nil))) (pe_and (pe_callP bX.int hr (by decide) (by rfl) (pa_cons (pe_xf bX.xf bX.noR hz hf (pv 5)) pa_nil)) (pe_one (pe_cmpR op_eq (pe_xf bX.xf bX.noR hz hf (pv 5)) (pv 3) (nomark _)))))))))
      (pss_one (ps_ret pe_bl)))))), ?_⟩
    walk_at "rd"
    obtain ⟨rp, np, ep, er, en⟩ := id hL
    have hW : ∀ k, k < W.m → ∀ {H' : Hp}, Xt [b, g] H H' → RowV H' W.n (.ref (rp k)) true := fun k hk H' X => .inr (.inr ⟨rp k, _, _, _, rfl, tup_to X hx.nt (er k hk), .inr ⟨true, vec_good (tup_to X hx.nt (en k hk)) (by omega), .inl ⟨_, rfl, rfl⟩, .inl ⟨_, rfl⟩, rfl⟩⟩)
    refine rd_lenLt ep ?_
    walk_at "rd"
    refine ⟨b, s, g, _, rfl, hx, by omega, by omega, fun d H1 d0 d1 X1 hx1 => ?_⟩
    obtain ⟨dn, rfl⟩ : ∃ dn : Nat, d = dn := ⟨d.toNat, by omega⟩
    have hdm : dn ≤ W.m := by omega
    walk_at "rd"
    have ep1 := X1.at ep hp
    refine rd_slL ep1 fun l1 H2 nl1 e2 el1 => ?_
    rw [cut_lo (by rw [tab_len]; exact hdm)] at el1
    walk_at "rd"
    have hx2 := hx1.ex e2
    have nl1b := hx1.nin nl1
    refine ⟨b, s, g, W.n, rfl, hx2, by omega, fun x H3 X3 hx3 hbad => ?_⟩
    walk_at "rd"
    have el3 := X3.at el1 nl1b
    refine ⟨sz (show 1 ≤ 100000 by decide), fun l2 nl2 => ?_⟩
    have e4 : Ex H3 (upd H3 l2 (.lst [x])) := ex_new nl2
    have el2 : upd H3 l2 (.lst [x]) l2 = some (.lst [x]) := upd_same
    generalize upd H3 l2 (HO.lst [x]) = H4 at e4 el2 ⊢
    have lt : ((tab W.m fun i => V.ref (rp i)).take dn).length ≤ 100 := by rw [List.length_take]; omega
    refine rd_cat (e4.at el3) el2 (sz (by show _ + 1 ≤ 100000; omega)) fun l3 H5 nl3 e5 el5 => ?_
    walk_at "rd"
    have ep5 := e5.at (e4.at (X3.at (e2.at ep1) hp))
    refine rd_slL ep5 fun l4 H6 nl4 e6 el4 => ?_
    rw [cut_hi (by rw [tab_len]; exact hdm)] at el4
    have ld : ((tab W.m fun i => V.ref (rp i)).drop dn).length ≤ 100 := by rw [List.length_drop, tab_len]; omega
    refine rd_cat (e6.at el5) el4 (sz (by rw [List.length_append]; show _ + 1 + _ ≤ 100000; omega)) fun D H7 nD e7 eD => ?_
    rw [ins_tab hdm] at eD
    walk_at "rd"
    have e37 : Ex H3 H7 := Xt.trans e4 (Xt.trans e5 (Xt.trans e6 e7))
    have hx7 := hx3.ex e37
    have nDb : D ∉ [b, g] := ((hx3.ex e4).ex e5).ex e6 |>.nin nD
    have X07 : Xt [b, g] H H7 := X1.trans ((Ex.xt e2).trans (X3.trans (Ex.xt e37)))
    have bad7 : BadAt H7 W.n (tab (W.m + 1) fun i => if i < dn then V.ref (rp i) else if i = dn then x else V.ref (rp (i - 1))) dn := by
      refine ⟨⟨x, ?_, hbad.ex e37⟩, fun k hk => ⟨.ref (rp k), ?_, hW k (by omega) X07⟩⟩
      · rw [tab_get (by omega), if_neg (by omega), if_pos rfl]
      · rw [tab_get (by omega), if_pos hk]
    refine ⟨b, s, g, 2, rfl, hx7, by decide, by decide, fun c H8 c0 c1 X8 hx8 => ?_⟩
    walk_at "rd"
    have eD8 := X8.at eD nDb
    have bad8 := bad7.to X8 hx7.nt
    refine rd_ifH (fun σ H' => σ = [some (.ref b), some (.int W.n), some (.ref p), some (.int dn), some (.ref D), none] ∧ ∃ xs : List V, H' D = some (.lst xs) ∧ xs.length ≤ 1000 ∧ BadAt H' W.n xs dn) (fun _ tz' hk => ?_) (fun _ => ?_) fun σ H9 hG => ?_
    · walk_at "rd"
      refine ⟨tyL eD8, ?_⟩
      walk_at "rd"
      refine ⟨b, s, g, W.n, rfl, hx8, by omega, fun x2 H9 X9 hx9 hbad2 => ?_⟩
      walk_at "rd"
      have eD9 := X9.at eD8 nDb
      have bad9 := bad8.to X9 hx8.nt
      refine rd_append eD9 (szl (by rw [tab_len]; omega)) fun H10 X10 E10 => ?_
      have bad10 := bad9.to X10 (nt_lst eD9)
      refine hk _ _ ⟨rfl, _, E10, by rw [List.length_append, tab_len]; show W.m + 1 + 1 ≤ 1000; omega, let ⟨y, h1, h2⟩ := bad10.1; ⟨y, ?_, h2⟩, fun k hk => let ⟨y, h1, h2⟩ := bad10.2 k hk; ⟨y, ?_, h2⟩⟩
      · rw [List.getElem?_append_left (List.getElem?_eq_some_iff.mp h1).1]; exact h1
      · rw [List.getElem?_append_left (List.getElem?_eq_some_iff.mp h1).1]; exact h1
    · exact ⟨rfl, _, eD8, by rw [tab_len]; omega, bad8⟩
    · obtain ⟨rfl, xs, exs, hxl, hxbad⟩ := hG
      walk_at "rd"
      refine rd_tupL exs fun T H12 nT e12 eT => ?_
      walk_at "rd"
      refine .inr ⟨T, W.n, dn, xs, rfl, eT, hxl, hxbad.ex e12, fun dd H11 e11 ed => ?_⟩
      show wAs _ _ _ _ _ _ (.ref C0) (some dd) _ H11
      refine ⟨true, bX.exm, fun _ ae nae => ?_, fun z => by cases z⟩
      show tRet _ _ _ _
      walk_at "rd"
      refine ⟨.ref M0, .ref M0, true, dd, _, rfl, fun u r => r, bX.kit, rfl, rfl, ed, ?_⟩
      walk_at "rd"
      refine ⟨.ref ae, rfl, rfl, rfl, dd, _, .int dn, rfl, ed, rfl, ?_⟩
      walk_at "rd"
      refine ⟨_, rfl, .inl ⟨_, rfl⟩, ?_⟩
      show ∃ k, V.bl true = .bl k ∧ _
      walk_at "rd"
      refine ⟨.ref ae, rfl, rfl, rfl, dd, _, .int dn, rfl, ed, rfl, ?_⟩
      walk_at "rd"
      rw [decide_eq_true rfl]
      exact k _
end
end Sx
/-! the law -/
namespace Sx
open PySem PySem.Spec PyProof.Rows L2 Y L2H
local macro_rules | `(tactic| walk_at "rd1") => `(tactic| first
  | with_reducible refine rd_var rfl ?_
  | with_reducible refine rd_op ?_
  | with_reducible refine rd_c ?_
  | with_reducible refine rd_I0 ?_
  | with_reducible refine rd_seq ?_
  | ((with_reducible refine rd_I ?_ ?_); focus (first | exact mulok_r (by decide) (by decide) | exact mulok_l (by decide) (by decide) | (show _ ≠ _; decide) | (show _ ∧ _; decide)))
  | with_reducible refine rd_asg ?_
  | with_reducible refine rd_name ?_
  | with_reducible refine rd_cb ?_
  | with_reducible refine rd_cons ?_
  | with_reducible refine rd_nil ?_
  | with_reducible refine rd_int ?_
  | with_reducible refine rd_eqI ?_
  | with_reducible refine rd_neI ?_
  | with_reducible refine rd_bl ?_
  | with_reducible refine rd_test ?_
  | with_reducible refine rd_tB ?_
  | with_reducible refine rd_ifS ?_
  | with_reducible refine rd_next ?_
  | with_reducible refine rd_T ?_
  | with_reducible refine rd_F ?_
  | with_reducible refine rd_nT ?_
  | with_reducible refine rd_nF ?_
  | with_reducible refine rd_blV ?_
  | with_reducible refine rd_ret ?_
  | with_reducible refine rd_call ?_
  | with_reducible refine rd_drop ?_
  | with_reducible refine rd_not ?_
  | with_reducible refine rd_and ?_
  | with_reducible refine rd_or ?_
  | with_reducible refine rd_un ?_
  | with_reducible refine rd_U ?_
  | with_reducible refine rd_tup ?_
  | with_reducible refine rd_lst ?_
  | with_reducible refine rd_if ?_
  | with_reducible refine rd_andV ?_
  | with_reducible refine rd_orV ?_
  | with_reducible refine rd_notV ?_
  | with_reducible refine rd_sl ?_
  | with_reducible refine rd_nopart ?_
  | with_reducible refine rd_part ?_
  | with_reducible refine rd_iv ?_
  | with_reducible refine rd_bm ?_
  | with_reducible refine rd_abs ?_
  | with_reducible refine rd_intb ?_
  | with_reducible refine rd_mx2 ?_
  | with_reducible refine rd_mn2 ?_
  | with_reducible refine rd_sub ?_
  | with_reducible refine rd_lc ?_
  | with_reducible refine rd_for ?_
  | with_reducible refine rd_iL ?_
  | with_reducible refine rd_iT ?_
  | with_reducible refine rd_r1 ?_
  | with_reducible refine rd_r2 ?_
  | with_reducible refine rd_iZ ?_
  | with_reducible refine rd_iZM ?_
  | with_reducible refine rd_while ?_
  | with_reducible refine rd_tru ?_
  | with_reducible refine rd_brk ?_
  | with_reducible refine rd_iA ?_
  | with_reducible refine rd_iZA ?_
  | with_reducible refine rd_par ?_
  | with_reducible refine rd_par2 ?_
  | with_reducible refine rd_bits ?_
  | with_reducible refine rd_callS ?_)
local macro_rules | `(tactic| walk_at "rd") => `(tactic| repeat walk_at "rd1")

theorem many_at {d : Int} (h0 : 0 ≤ d) (h1 : d < 7) : ∃ n : Nat, ([.int 0, .int 1, .int 1, .int 2, .int 2, .int 3, .int 4] : List V)[d.toNat]? = some (.int n) ∧ n ≤ 4 := by
  have : d = 0 ∨ d = 1 ∨ d = 2 ∨ d = 3 ∨ d = 4 ∨ d = 5 ∨ d = 6 := by omega
  rcases this with rfl | rfl | rfl | rfl | rfl | rfl | rfl
  · exact ⟨0, rfl, by decide⟩
  · exact ⟨1, rfl, by decide⟩
  · exact ⟨1, rfl, by decide⟩
  · exact ⟨2, rfl, by decide⟩
  · exact ⟨2, rfl, by decide⟩
  · exact ⟨3, rfl, by decide⟩
  · exact ⟨4, rfl, by decide⟩
theorem wide_at {d : Int} (h0 : 0 ≤ d) (h1 : d < 6) : ∃ wd : Nat, ([.int 3, .int 3, .int 3, .int 3, .int 1, .int ((10 : Int) ^ (9 : Int).toNat)] : List V)[d.toNat]? = some (.int wd) ∧ wd ≤ 10 ^ 9 := by
  have : d = 0 ∨ d = 1 ∨ d = 2 ∨ d = 3 ∨ d = 4 ∨ d = 5 := by omega
  rcases this with rfl | rfl | rfl | rfl | rfl | rfl
  · exact ⟨3, rfl, by decide⟩
  · exact ⟨3, rfl, by decide⟩
  · exact ⟨3, rfl, by decide⟩
  · exact ⟨3, rfl, by decide⟩
  · exact ⟨1, rfl, by decide⟩
  · exact ⟨10 ^ 9, rfl, by decide⟩
theorem bdd_ok {n : Nat} (h : n ≤ 7) : bdd (n + 1) BB < 2 ^ 400 := by
  have : n = 0 ∨ n = 1 ∨ n = 2 ∨ n = 3 ∨ n = 4 ∨ n = 5 ∨ n = 6 ∨ n = 7 := by omega
  rcases this with rfl | rfl | rfl | rfl | rfl | rfl | rfl | rfl <;> decide +kernel
theorem bdd_ok2 {n : Nat} (h : n ≤ 7) : bdd (n + 1) (20 * BB) < 2 ^ 400 := by
  have : n = 0 ∨ n = 1 ∨ n = 2 ∨ n = 3 ∨ n = 4 ∨ n = 5 ∨ n = 6 ∨ n = 7 := by omega
  rcases this with rfl | rfl | rfl | rfl | rfl | rfl | rfl | rfl <;> decide +kernel
theorem rb_ok {W : Rws} (h : W.le BB) (hn : W.n ≤ 7) (hm : W.m ≤ 20) : Rb W BB := ⟨h, bdd_ok2 hn, by decide +kernel, by omega, hm⟩
theorem le_up {W : Rws} {B B' : Nat} (h : W.le B) (hb : B ≤ B') : W.le B' := ⟨Nat.le_trans h.1 hb, fun i hi => Nat.le_trans (h.2.1 i hi) hb, fun i hi j hj => Nat.le_trans (h.2.2 i hi j hj) hb⟩
theorem IL.to {S : List Addr} {H H' : Hp} {p : Addr} {ls : List Nat} (h : IL H p ls) (e : Xt S H H') (np : p ∉ S) : IL H' p ls := e.at h np
section
variable {P : Program} {w : World} {K : PySem.W.Frag} {mg : Str → Option Value} {base : Heap}
abbrev s_law : Stmt := topS 38
theorem sc_law : FnScope ["script", "box", "many", "wide", "style", "size", "rows", "loose", "firm", "answer", "k", "other", "again", "numbers", "relation", "most"] ["script"] (defScope s_law) := ⟨rfl, rfl, rfl, by decide +kernel, rfl, by decide +kernel, by decide +kernel⟩
/-- the drawn rows with what is known of them -/
def Dr (H : Hp) (b g p l1 l2 : Addr) (W : Rws) (ls fs : List Nat) : Prop := LRow H p W ∧ W.le BB ∧ W.m ≤ 12 ∧ (p ∉ [b, g] ∧ l1 ∉ [b, g] ∧ l2 ∉ [b, g]) ∧ IL H l1 ls ∧ IL H l2 fs ∧ (∀ k ∈ ls, k < W.m ∧ ¬ TightI W k) ∧ ∀ k ∈ fs, k < W.m ∧ TightI W k
def sp_law : Sp := fun vs H Q _ => ∃ (a : Addr) (ns : List Int), vs = [.ref a] ∧ SqL K H a (ns.map V.int) ∧ ∀ H', Q (.bl true) H'
theorem ok_law {f C0 : Addr} {fd : FuncData} (F : Fun K "law" "law" s_law f fd) (B : Bi mg) (C__law_box : Cl P w K mg base CX0 41 "_law_box" ["script"] (sp__law_box (K := K))) (C__law_take : Cl P w K mg base CX0 43 "_law_take" ["box", "size"] sp__law_take)
    (C__law_triple : Cl P w K mg base CX0 45 "_law_triple" ["box", "many", "wide"] sp__law_triple) (C__law_along : Cl P w K mg base CX0 45 "_law_along" ["box", "many", "rows"] sp__law_along) (C__law_around : Cl P w K mg base CX0 45 "_law_around" ["box", "many", "rows"] sp__law_around)
    (C_widest_direction : Cl P w K mg base (L2.CX P w) 49 "widest_direction" ["rows", "many"] (sp_widest_direction C0)) (C__law_pair : Cl P w K mg base CX0 45 "_law_pair" ["rows", "many", "answer"] sp__law_pair) (C__law_is_tight : Cl P w K mg base CX0 49 "_law_is_tight" ["rows", "many", "at"] sp__law_is_tight)
    (C__law_refused : Cl P w K mg base CX0 51 "_law_refused" ["box", "many", "rows"] sp__law_refused) : FnOk P w K mg base CX0 53 f fd ["script"] (sp_law (K := K)) := by
  refine F.ok sc_law (fun vs H Q E h => ?_) (fun cdv A outer s0 H vs Q E hr h => ?_)
  · obtain ⟨a, ns, rfl, _⟩ := h; rfl
  · obtain ⟨a, ns, rfl, ha, k⟩ := h
    have nd := sc_law.nd
    refine ⟨_, (pss_cons (ps_set (i := 1) nd rfl (.inr rfl) (pe_y C__law_box hr (by decide) pass0 (by rfl) (pa_cons (pv 0) pa_nil)))
      (pss_cons (ps_set (i := 2) nd rfl (.inr rfl) (pe_ix ix_tup (pe_tup (pa_cons pe_int (pa_cons pe_int (pa_cons pe_int (pa_cons pe_int (pa_cons pe_int (pa_cons pe_int (pa_cons pe_int pa_nil)))))))) (pe_y C__law_take hr (by decide) pass0 (by rfl) (pa_cons (pv 1) (pa_cons pe_int pa_nil))) (fun _ _ => rfl)))
      (pss_cons (ps_set (i := 3) nd rfl (.inr rfl) (pe_ix ix_tup (pe_tup (pa_cons pe_int (pa_cons pe_int (pa_cons pe_int (pa_cons pe_int (pa_cons pe_int (pa_cons (pe_op op_pow pe_int pe_int) pa_nil))))))) (pe_y C__law_take hr (by decide) pass0 (by rfl) (pa_cons (pv 1) (pa_cons pe_int pa_nil))) (fun _ _ => rfl)))
      (pss_cons (ps_set (i := 4) nd rfl (.inl rfl) (pe_y C__law_take hr (by decide) pass0 (by rfl) (pa_cons (pv 1) (pa_cons pe_int pa_nil))))
      (pss_cons (ps_set (i := 5) nd rfl (.inl rfl) (pe_y C__law_take hr (by decide) pass0 (by rfl) (pa_cons (pv 1) (pa_cons pe_int pa_nil))))
      (pss_cons (ps_if (pt_cmpR op_eq (pe_y C__law_take hr (by decide) pass0 (by rfl) (pa_cons (pv 1) (pa_cons pe_int pa_nil))) pe_int (nomark _))
        (pss_cons (ps_set (i := 2) nd rfl (.inr rfl) (pe_op op_add pe_int (pe_y C__law_take hr (by decide) pass0 (by rfl) (pa_cons (pv 1) (pa_cons pe_int pa_nil)))))
        (pss_cons (ps_set (i := 5) nd rfl (.inl rfl) (pe_op op_add (pv 5) pe_int))
        (pss_one (ps_set (i := 3) nd rfl (.inr rfl) (pe_callB (cr_mn2 (by rfl)) (by rfl) B.min b_min (pa_cons (pv 3) (pa_cons pe_int pa_nil)))))))
        pss_nil)
      (pss_cons (ps_setLc (i := 6) (own := [("k", 10)]) rfl nd rfl rfl (sw_true rfl rfl rfl (by decide +kernel)) (pi_range1 (by rfl) B.range (pa_cons (pv 5) pa_nil)) (blkOk_by (by rfl)) (fun _ _ _ _ _ => (pg_name (i := 10) nd rfl (by first | exact .inl rfl | exact .inr rfl))) (fun _ _ _ _ _ => pts_nil) (fun _ _ _ _ _ => (pe_y C__law_triple hr (by decide) pass0 (by rfl) (pa_cons (pv 1) (pa_cons (pv 2) (pa_cons (pv 3) pa_nil))))))
      (pss_cons (ps_set (i := 7) nd rfl (.inl rfl) (pe_lst pa_nil))
      (pss_cons (ps_set (i := 8) nd rfl (.inl rfl) (pe_lst pa_nil))
      (pss_cons (ps_if (pt_cmpR op_eq (pv 4) pe_int (nomark _))
        (pss_one (ps_asg (pe_y C__law_along hr (by decide) pass0 (by rfl) (pa_cons (pv 1) (pa_cons (pv 2) (pa_cons (pv 6) pa_nil)))) (pg_tup (n := 3) (by rfl) (pgs_cons (pg_name (i := 6) nd rfl (.inl rfl)) (pgs_cons (pg_name (i := 7) nd rfl (.inl rfl)) (pgs_cons (pg_name (i := 8) nd rfl (.inl rfl)) pgs_nil))))))
        pss_nil)
      (pss_cons (ps_if (pt_cmpR op_eq (pv 4) pe_int (nomark _))
        (pss_one (ps_asg (pe_y C__law_around hr (by decide) pass0 (by rfl) (pa_cons (pv 1) (pa_cons (pv 2) (pa_cons (pv 6) pa_nil)))) (pg_tup (n := 2) (by rfl) (pgs_cons (pg_name (i := 6) nd rfl (.inl rfl)) (pgs_cons (pg_name (i := 8) nd rfl (.inl rfl)) pgs_nil)))))
        pss_nil)
      (pss_cons (ps_set (i := 9) nd rfl (.inl rfl) (pe_y C_widest_direction hr (by decide) passL (by rfl) (pa_cons (pe_callTy cr_tupOf (by rfl) B.tuple b_tuple (pa_cons (pv 6) pa_nil)) (pa_cons (pv 2) pa_nil))))
      (pss_cons (ps_if (pt_not (pt_val (pe_y C__law_pair hr (by decide) pass0 (by rfl) (pa_cons (pv 6) (pa_cons (pv 2) (pa_cons (pv 9) pa_nil))))))
        (pss_one (ps_ret pe_bl))
        pss_nil)
      (pss_cons (ps_for PassesOwn.never rfl (pi_list (pv 7)) (pg_name (i := 10) nd rfl (.inl rfl))
        (pss_one (ps_if (pt_cmpR op_in_seq (pv 10) (pe_ix ix_tup (pv 9) pe_int (fun _ _ => rfl)) (by with_unfolding_all rfl))
          (pss_one (ps_ret pe_bl))
          pss_nil)))
      (pss_cons (ps_for PassesOwn.never rfl (pi_list (pv 8)) (pg_name (i := 10) nd rfl (.inl rfl))
        (pss_one (ps_if (pt_cmpR op_notIn_seq (pv 10) (pe_ix ix_tup (pv 9) pe_int (fun _ _ => rfl)) (by with_unfolding_all rfl))
          (pss_one (ps_ret pe_bl))
          pss_nil)))
      (pss_cons (ps_for PassesOwn.never rfl (pi_tup (pe_ix ix_tup (pv 9) pe_int (fun _ _ => rfl))) (pg_name (i := 10) nd rfl (.inl rfl))
        (pss_one (ps_if (pt_not (pt_val (pe_y C__law_is_tight hr (by decide) pass0 (by rfl) (pa_cons (pv 6) (pa_cons (pv 2) (pa_cons (pv 10) pa_nil))))))
          (pss_one (ps_ret pe_bl))
          pss_nil)))
      (pss_cons (ps_setLc (i := 11) (g := gTup K 3 (gCons (gName 13) (gCons (gName 14) (gCons (gName 15) gNil)))) (own := [("numbers", 13), ("relation", 14), ("most", 15)]) rfl nd rfl rfl (sw_true rfl rfl rfl (by decide +kernel)) (pi_list (pv 6)) (blkOk_by (by rfl)) (fun _ _ _ _ _ => (pg_tup (n := 3) (by rfl) (pgs_cons (pg_name (i := 13) nd rfl (by first | exact .inl rfl | exact .inr rfl)) (pgs_cons (pg_name (i := 14) nd rfl (by first | exact .inl rfl | exact .inr rfl)) (pgs_cons (pg_name (i := 15) nd rfl (by first | exact .inl rfl | exact .inr rfl)) pgs_nil))))) (fun _ _ _ _ _ => pts_nil) (fun _ _ _ _ _ => (pe_tup (pa_cons (pv 13) (pa_cons (pv 14) (pa_cons (pe_op op_sub (pe_y C__law_take hr (by decide) pass0 (by rfl) (pa_cons (pv 1) (pa_cons pe_int pa_nil))) pe_int) pa_nil))))))
      (pss_cons (ps_set (i := 12) nd rfl (.inl rfl) (pe_y C_widest_direction hr (by decide) passL (by rfl) (pa_cons (pe_callTy cr_tupOf (by rfl) B.tuple b_tuple (pa_cons (pv 11) pa_nil)) (pa_cons (pv 2) pa_nil))))
      (pss_cons (ps_if (PW.pt (pw_or (pt_not (pt_val (pe_y C__law_pair hr (by decide) pass0 (by rfl) (pa_cons (pv 11) (pa_cons (pv 2) (pa_cons (pv 12) pa_nil)))))) (pw_or1 (pt_cmpR (op_neD hr.units) (pe_ix ix_tup (pv 12) pe_int (fun _ _ => rfl)) (pe_ix ix_tup (pv 9) pe_int (fun _ _ => rfl)) (nomark _)))))
        (pss_one (ps_ret pe_bl))
        pss_nil)
      (pss_one (ps_ret (pe_y C__law_refused hr (by decide) pass0 (by rfl) (pa_cons (pv 1) (pa_cons (pv 2) (pa_cons (pv 6) pa_nil))))))))))))))))))))))))), ?_⟩
    walk_at "rd"
    refine ⟨a, ns, rfl, ha, fun b s g H1 nb ng e1 hx1 => ?_⟩
    walk_at "rd"
    refine ⟨sz (show 7 ≤ 100000 by decide), fun T nT => ?_⟩
    have e2 : Ex H1 (upd H1 T (.tup [.int 0, .int 1, .int 1, .int 2, .int 2, .int 3, .int 4])) := ex_new nT
    have eT : upd H1 T (.tup [.int 0, .int 1, .int 1, .int 2, .int 2, .int 3, .int 4]) T = some (.tup [.int 0, .int 1, .int 1, .int 2, .int 2, .int 3, .int 4]) := upd_same
    generalize upd H1 T (HO.tup [.int 0, .int 1, .int 1, .int 2, .int 2, .int 3, .int 4]) = H2 at e2 eT ⊢
    have hx2 := hx1.ex e2
    walk_at "rd"
    refine ⟨b, s, g, 7, rfl, hx2, by decide, by decide, fun d H3 d0 d1 X3 hx3 => ?_⟩
    obtain ⟨n0, hn0, hn4⟩ := many_at d0 d1
    refine rd_ixTn d.toNat (X3.at eT (hx2.tin eT)) (by omega) hn0 ?_
    walk_at "rd"
    refine ⟨sz (show 6 ≤ 100000 by decide), fun T2 nT2 => ?_⟩
    have e4 : Ex H3 (upd H3 T2 (.tup [.int 3, .int 3, .int 3, .int 3, .int 1, .int ((10 : Int) ^ (9 : Int).toNat)])) := ex_new nT2
    have eT2 : upd H3 T2 (.tup [.int 3, .int 3, .int 3, .int 3, .int 1, .int ((10 : Int) ^ (9 : Int).toNat)]) T2 = some (.tup [.int 3, .int 3, .int 3, .int 3, .int 1, .int ((10 : Int) ^ (9 : Int).toNat)]) := upd_same
    generalize upd H3 T2 (HO.tup [.int 3, .int 3, .int 3, .int 3, .int 1, .int ((10 : Int) ^ (9 : Int).toNat)]) = H4 at e4 eT2 ⊢
    have hx4 := hx3.ex e4
    walk_at "rd"
    refine ⟨b, s, g, 6, rfl, hx4, by decide, by decide, fun d5 H5 d50 d51 X5 hx5 => ?_⟩
    obtain ⟨wd, hwd, hwd9⟩ := wide_at d50 d51
    refine rd_ixTn d5.toNat (X5.at eT2 (hx4.tin eT2)) (by omega) hwd ?_
    walk_at "rd"
    refine ⟨b, s, g, 3, rfl, hx5, by decide, by decide, fun st H6 st0 st1 X6 hx6 => ?_⟩
    walk_at "rd"
    refine ⟨b, s, g, 6, rfl, hx6, by decide, by decide, fun z H7 z0 z1 X7 hx7 => ?_⟩
    walk_at "rd"
    refine ⟨b, s, g, 32, rfl, hx7, by decide, by decide, fun c H8 c0 c1 X8 hx8 => ?_⟩
    walk_at "rd"
    refine rd_ifH (fun σ H' => Bx H' b s g ∧ ∃ n size wd : Nat, n ≤ 7 ∧ size ≤ 8 ∧ wd ≤ 10 ^ 9 ∧ σ = [some (.ref a), some (.ref b), some (.int n), some (.int wd), some (.int st), some (.int size), none, none, none, none, none, none, none, none, none, none]) (fun _ tz' hk => ?_) (fun _ => ⟨hx8, n0, z.toNat, wd, by omega, by omega, hwd9, by rw [show (z.toNat : Int) = z by omega]; rfl⟩) fun σ H9 hG => ?_
    · walk_at "rd"
      refine ⟨b, s, g, 2, rfl, hx8, by decide, by decide, fun c2 H9 c20 c21 X9 hx9 => ?_⟩
      walk_at "rd"
      refine hk _ _ ⟨hx9, (5 + c2).toNat, (z + 3).toNat, if 3 < wd then 3 else wd, by omega, by omega, by split <;> omega, ?_⟩
      have q1 : V.int (if (3 : Int) < (wd : Int) then 3 else (wd : Int)) = V.int ((if 3 < wd then 3 else wd : Nat) : Int) := congrArg V.int (by split <;> split <;> omega)
      rw [show (((5 + c2).toNat : Nat) : Int) = 5 + c2 by omega, show (((z + 3).toNat : Nat) : Int) = z + 3 by omega, ← q1]
      rfl
    · obtain ⟨hx9, n, size, wd, hn, hsz, hwd9, rfl⟩ := hG
      walk_at "rd"
      refine rd_rg1 size rfl (by omega) (lc_efv wkR [b, g] (fun H' => Bx H' b s g) (fun H' v => Rw1 H' v n (10 ^ 9)) (fun S H1 H2 x h e nt => h.to e nt) hx9.bg (by omega) (fun _ _ _ => trivial) (fun H1 x => x.nt) (fun H1 H2 D hD r e => hx9.new r hD e) hx9 (fun i x H10 H11 hi X10 hx10 y Pp hP => ?_) fun p fr H10 np X10 hx10 ep hrw => ?_)
      · obtain ⟨rfl, _⟩ := y
        walk_at "rd"
        refine ⟨rfl, ?_⟩
        walk_at "rd"
        exact ⟨b, s, g, n, wd, rfl, hx10, by omega, hwd9, fun T u q c H12 X12 hx12 tr => hP _ H12 X12 hx12 (tr.rw hwd9 (by decide))⟩
      · have L10 : LR H10 p n size (10 ^ 9) := ⟨fr, ep, hrw⟩
        have npb : p ∉ [b, g] := hx9.nin np
        walk_at "rd"
        refine ⟨sz (show 0 ≤ 100000 by decide), fun l1 nl1 => ?_⟩
        have e11 : Ex H10 (upd H10 l1 (.lst [])) := ex_new nl1
        have el1 : upd H10 l1 (.lst []) l1 = some (.lst []) := upd_same
        generalize upd H10 l1 (HO.lst []) = H11 at e11 el1 ⊢
        walk_at "rd"
        refine ⟨sz (show 0 ≤ 100000 by decide), fun l2 nl2 => ?_⟩
        have e12 : Ex H11 (upd H11 l2 (.lst [])) := ex_new nl2
        have el2 : upd H11 l2 (.lst []) l2 = some (.lst []) := upd_same
        generalize upd H11 l2 (HO.lst []) = H12 at e12 el2 ⊢
        have hx12 := (hx10.ex e11).ex e12
        have L12 := (L10.ex e11).ex e12
        have dr0 : ∃ R C q, Dr H12 b g p l1 l2 ⟨n, size, R, C, q⟩ [] [] := by
          obtain ⟨R, C, q, h1, h2⟩ := L12.rows (by decide)
          exact ⟨R, C, q, h1, le_up h2 (by unfold BB; decide), (show size ≤ 12 by omega), ⟨npb, hx10.nin nl1, (hx10.ex e11).nin nl2⟩, e12.at el1, el2, fun k hk => (by cases hk), fun k hk => (by cases hk)⟩
        walk_at "rd"
        refine rd_ifH (fun σ H' => Bx H' b s g ∧ ∃ (p l1 l2 : Addr) (m : Nat) (R : Nat → Nat → Int) (C : Nat → Int) (q : Nat → Bool) (ls fs : List Nat), (Dr H' b g p l1 l2 ⟨n, m, R, C, q⟩ ls fs ∧ (st ≠ 1 → LR H' p n size (10 ^ 9) ∧ ls = [])) ∧ σ = [some (.ref a), some (.ref b), some (.int n), some (.int wd), some (.int st), some (.int size), some (.ref p), some (.ref l1), some (.ref l2), none, none, none, none, none, none, none])
          (fun h1 tz' hk => ?_) (fun h1 => ?_) fun σ H13 hG => ?_
        · walk_at "rd"
          refine ⟨b, s, g, p, n, size, rfl, hx12, hn, by omega, L12, npb, fun T3 p' l1' l2' m' R C q ls fs H13 X13 hx13 eT3 hL hle hm nin hi1 hi2 hls hfs => ?_⟩
          refine rd_gtrip eT3 ?_
          walk_at "rd"
          exact hk _ _ ⟨hx13, p', l1', l2', m', R, C, q, ls, fs, ⟨⟨hL, le_up hle (by unfold BB; decide), (show m' ≤ 12 by omega), nin, hi1, hi2, hls, hfs⟩, fun z => absurd h1 z⟩, rfl⟩
        · obtain ⟨R, C, q, dr⟩ := dr0
          exact ⟨hx12, p, l1, l2, size, R, C, q, [], [], ⟨dr, fun _ => ⟨L12, rfl⟩⟩, rfl⟩
        · obtain ⟨hx13, p, l1, l2, m, R, C, q, ls, fs, ⟨dr, L13⟩, rfl⟩ := hG
          walk_at "rd"
          refine rd_ifH (fun σ H' => Bx H' b s g ∧ ∃ (p l1 l2 : Addr) (m : Nat) (R : Nat → Nat → Int) (C : Nat → Int) (q : Nat → Bool) (ls fs : List Nat), Dr H' b g p l1 l2 ⟨n, m, R, C, q⟩ ls fs ∧ σ = [some (.ref a), some (.ref b), some (.int n), some (.int wd), some (.int st), some (.int size), some (.ref p), some (.ref l1), some (.ref l2), none, none, none, none, none, none, none])
            (fun h1 tz' hk => ?_) (fun h1 => ⟨hx13, p, l1, l2, m, R, C, q, ls, fs, dr, rfl⟩) fun σ H14 hG => ?_
          · walk_at "rd"
            obtain ⟨d1, d2, d3, d4, d5, d6, d7, d8⟩ := dr
            refine ⟨b, s, g, p, n, size, rfl, hx13, hn, by omega, (L13 (by omega)).1, d4.1, fun T3 p' l2' m' R' C' q' fs' H14 X14 hx14 eT3 hL hle hm nin hi2 hfs => ?_⟩
            refine rd_gpair eT3 ?_
            walk_at "rd"
            obtain rfl := (L13 (by omega)).2
            exact hk _ _ ⟨hx14, p', l1, l2', m', R', C', q', [], fs', ⟨hL, hle, (show m' ≤ 12 by omega), ⟨nin.1, d4.2.1, nin.2⟩, IL.to d5 X14 d4.2.1, hi2, fun k hk => (by cases hk), hfs⟩, rfl⟩
          · obtain ⟨hx14, p, l1, l2, m, R, C, q, ls, fs, ⟨hL, hle, hm, ⟨np, nl1, nl2⟩, hi1, hi2, hls, hfs⟩, rfl⟩ := hG
            walk_at "rd"
            obtain ⟨rp, np', e1p, e2p, e3p⟩ := id hL
            refine rd_tupL e1p fun tp H15 ntp e15 etp => ?_
            walk_at "rd"
            have hm12 : m ≤ 12 := hm
            have hL15 := hL.ex e15
            refine .inl ⟨tp, ⟨n, m, R, C, q⟩, BB, rfl, ⟨rp, np', etp, fun i hi => e15.at (e2p i hi), fun i hi => e15.at (e3p i hi)⟩, rb_ok hle hn (show m ≤ 20 by omega), fun t tot H16 e16 hA => ?_⟩
            walk_at "rd"
            have hL16 := hL15.ex e16
            refine ⟨p, t, ⟨n, m, R, C, q⟩, tot, rfl, hL16, hle, hn, (show m ≤ 20 by omega), hA, fun H17 e17 => ?_⟩
            walk_at "rd"
            obtain ⟨TT, Tt, et, eTT, eTt, hw, htb⟩ := hA
            have hL17 := hL16.ex e17
            have e1417 : Ex H14 H17 := Xt.trans e15 (Xt.trans e16 e17)
            have et17 := e17.at et
            have eTt17 := e17.at eTt
            refine rd_itL (Ex.at e1417 hi1) (for_w wkL (fun i σ H18 => Ex H17 H18 ∧ ∃ o10, σ = [some (.ref a), some (.ref b), some (.int n), some (.int wd), some (.int st), some (.int size), some (.ref p), some (.ref l1), some (.ref l2), some (.ref t), o10, none, none, none, none, none]) ⟨Ex.rfl', _, rfl⟩ (fun i σ H18 _ hP => hP.1.at (Ex.at e1417 hi1)) (fun i x σ H18 H19 hi hP y => ?_) fun σ H18 hP => ?_)
            · obtain ⟨e18, o10, rfl⟩ := hP
              obtain ⟨rfl, hxi⟩ := y
              rw [List.length_map] at hi
              rw [List.getElem?_map, List.getElem?_eq_getElem hi] at hxi
              obtain rfl : V.int (ls[i] : Nat) = x := by cases hxi; rfl
              have lk := hls ls[i] (List.getElem_mem hi)
              walk_at "rd"
              refine rd_ixTn 1 (e18.at et17) rfl rfl ?_
              refine rd_inI (e18.at eTt17) ?_
              walk_at "rd"
              refine rd_dec (fun hin => absurd (hw.2 ls[i] lk.1 (mem_tls.mp hin).2) lk.2) fun _ => ?_
              walk_at "rd"
              exact ⟨e18, _, rfl⟩
            · obtain ⟨e18a, o10, rfl⟩ := hP
              walk_at "rd"
              refine rd_itL (e18a.at (Ex.at e1417 hi2)) (for_w wkL (fun i σ H18 => Ex H17 H18 ∧ ∃ o10, σ = [some (.ref a), some (.ref b), some (.int n), some (.int wd), some (.int st), some (.int size), some (.ref p), some (.ref l1), some (.ref l2), some (.ref t), o10, none, none, none, none, none]) ⟨e18a, _, rfl⟩ (fun i σ H18 _ hP => hP.1.at (Ex.at e1417 hi2)) (fun i x σ H18 H19 hi hP y => ?_) fun σ H18 hP => ?_)
              · obtain ⟨e18, o10, rfl⟩ := hP
                obtain ⟨rfl, hxi⟩ := y
                rw [List.length_map] at hi
                rw [List.getElem?_map, List.getElem?_eq_getElem hi] at hxi
                obtain rfl : V.int (fs[i] : Nat) = x := by cases hxi; rfl
                have lk := hfs fs[i] (List.getElem_mem hi)
                walk_at "rd"
                refine rd_ixTn 1 (e18.at et17) rfl rfl ?_
                refine rd_ninI (e18.at eTt17) ?_
                walk_at "rd"
                refine rd_ndec (fun hin => absurd (mem_tls.mpr ⟨lk.1, lk.2 tot hw.1⟩) hin) fun _ => ?_
                walk_at "rd"
                exact ⟨e18, _, rfl⟩
              · obtain ⟨e18b, o10, rfl⟩ := hP
                walk_at "rd"
                refine rd_ixTn 1 (e18b.at et17) rfl rfl ?_
                refine rd_itT (e18b.at eTt17) (for_w wkT (fun i σ H18 => Ex H17 H18 ∧ ∃ o10, σ = [some (.ref a), some (.ref b), some (.int n), some (.int wd), some (.int st), some (.int size), some (.ref p), some (.ref l1), some (.ref l2), some (.ref t), o10, none, none, none, none, none]) ⟨e18b, _, rfl⟩ (fun i σ H18 _ hP => hP.1.at eTt17) (fun i x σ H18 H19 hi hP y => ?_) fun σ H18 hP => ?_)
                · obtain ⟨e18, o10, rfl⟩ := hP
                  obtain ⟨rfl, hxi⟩ := y
                  rw [List.length_map] at hi
                  rw [List.getElem?_map, List.getElem?_eq_getElem hi] at hxi
                  obtain rfl : V.int ((tls ⟨n, m, R, C, q⟩ tot)[i] : Nat) = x := by cases hxi; rfl
                  have lk := mem_tls.mp (List.getElem_mem hi)
                  walk_at "rd"
                  refine ⟨p, ⟨n, m, R, C, q⟩, _, rfl, hL17.ex e18, hle, bdd_ok hn, hn, (show m ≤ 100 by omega), lk.1, hw.2 _ lk.1 lk.2, fun H20 e20 => ?_⟩
                  walk_at "rd"
                  exact ⟨Xt.trans e18 e20, _, rfl⟩
                · obtain ⟨e18, o10, rfl⟩ := hP
                  have hx18 := (hx14.ex e1417).ex e18
                  have hL18 := hL17.ex e18
                  obtain ⟨rp, np', e1p, e2p, e3p⟩ := id hL18
                  walk_at "rd"
                  refine rd_itL e1p (lc_eft (wkLt (n := m) (f := fun i => .ref (rp i))) [b, g] (fun H' => Bx H' b s g) (fun i xs => ∃ c : Int, xs = [.ref (np' i), .str (rel (q i)), .int c] ∧ c.natAbs ≤ 9) hx18.bg (by omega) (fun H' e _ => e.at e1p np) Bx.noT (fun H1 H2 D hD r e => hx18.new r hD e) hx18 (fun i x H19 H20 hi X19 hx19 y Pp hP => ?_) fun D ps xss H19 nD X19 hx19 eD hp => ?_)
                  · obtain ⟨rfl, rfl⟩ := y
                    refine rd_gtrip (tup_to X19 hx18.nt (e2p i hi)) ?_
                    walk_at "rd"
                    refine ⟨rfl, ?_⟩
                    walk_at "rd"
                    refine ⟨b, s, g, 19, rfl, hx19, by decide, by decide, fun c H21 c0 c1 X21 hx21 => ?_⟩
                    walk_at "rd"
                    refine new_tup (sz (show 3 ≤ 100000 by decide)) fun T5 H22 nT5 e22 eT5 => ?_
                    exact hP T5 _ H22 (X21.trans (Ex.xt e22)) (hx21.ex e22) eT5 ⟨_, rfl, by omega⟩
                  · have hc : ∀ i : Nat, ∃ c : Int, i < m → xss i = [.ref (np' i), .str (rel (q i)), .int c] ∧ c.natAbs ≤ 9 := fun i => by
                      by_cases h : i < m
                      · obtain ⟨c, h1, h2⟩ := (hp i h).2
                        exact ⟨c, fun _ => ⟨h1, h2⟩⟩
                      · exact ⟨0, fun z => absurd z h⟩
                    have ⟨C2, hC2⟩ := Classical.axiomOfChoice hc
                    have hL19 : LRow H19 D ⟨n, m, R, C2, q⟩ := ⟨ps, np', eD, fun i hi => ((hp i hi).1).trans (congrArg (fun z => some (HO.tup z)) (hC2 i hi).1), fun i hi => tup_to X19 hx18.nt (e3p i hi)⟩
                    have hle2 : Rws.le ⟨n, m, R, C2, q⟩ BB := ⟨hle.1, fun i hi => Nat.le_trans (hC2 i hi).2 (by unfold BB; decide), hle.2.2⟩
                    walk_at "rd"
                    refine rd_tupL eD fun tp2 H20 ntp2 e20 etp2 => ?_
                    walk_at "rd"
                    refine .inl ⟨tp2, ⟨n, m, R, C2, q⟩, BB, rfl, ⟨ps, np', etp2, fun i hi => e20.at (((hp i hi).1).trans (congrArg (fun z => some (HO.tup z)) (hC2 i hi).1)), fun i hi => e20.at (tup_to X19 hx18.nt (e3p i hi))⟩, rb_ok hle2 hn (show m ≤ 20 by omega), fun t2 tot2 H21 e21 hA2 => ?_⟩
                    walk_at "rd"
                    refine ⟨D, t2, ⟨n, m, R, C2, q⟩, tot2, rfl, (hL19.ex e20).ex e21, hle2, hn, (show m ≤ 20 by omega), hA2, fun H22 e22 => ?_⟩
                    walk_at "rd"
                    obtain ⟨TT2, Tt2, et2, eTT2, eTt2, hw2, htb2⟩ := hA2
                    have e1922 : Ex H19 H22 := Xt.trans e20 (Xt.trans e21 e22)
                    refine rd_ixTn 1 (e22.at et2) rfl rfl ?_
                    walk_at "rd"
                    have up17 : ∀ {x : Addr} {xs : List V}, H17 x = some (.tup xs) → H22 x = some (.tup xs) := fun h => Ex.at e1922 (tup_to X19 hx18.nt (e18.at h))
                    refine rd_ixTn 1 (up17 et17) rfl rfl ?_
                    have same : tls ⟨n, m, R, C2, q⟩ tot2 = tls ⟨n, m, R, C, q⟩ tot := tls_eq (W := ⟨n, m, R, C, q⟩) hw2 hw
                    have eTt2' := e22.at eTt2
                    rw [same] at eTt2'
                    refine rd_neT (eTt2'.trans (congrArg (fun z => some (HO.tup z)) ints_int)) ((up17 eTt17).trans (congrArg (fun z => some (HO.tup z)) ints_int)) ?_
                    walk_at "rd"
                    refine rd_ndec (fun z => absurd rfl z) fun _ => ?_
                    walk_at "rd"
                    exact ⟨b, s, g, p, ⟨n, m, R, C, q⟩, rfl, hx19.ex e1922, hn, (show m ≤ 20 by omega), (hL18.to X19 hx18.nt np).ex e1922, np, k⟩
end
end Sx
/-! the head, with what is told of the modules that no one looks at -/
namespace Y
open PySem PySem.Spec PyProof.Rows L2
/-- the law called at the heap behind the top: its promise may lean on the base that no one watches -/
theorem law_callS {P : Program} {w : World} {K : PySem.W.Frag} {mg mb : Str → Option Value} {CX : CXT} {k : Nat} {fa a : Addr} {fd : FuncData} {x : Str} {sp : Sp} {t : Shared} {vs : List Value} {ns : List Int}
    (KX : K.In t.heap) (gl : t.heap.Ns mainGlobals mg) (bl : t.heap.Ns builtinsNs mb) (bb : ∀ y : Str, y ≠ "__name__" → mb y = bootBuiltins y) (nl : t.heap.NoLimit) (se : t.heap.NoSeer) (ge : t.gens = #[])
    (ha : t.heap.get? a = some { cls := .type "list", data := .seq vs.toArray }) (hi : IntsAre vs ns) (hl : ns.length ≤ sizeLine) (hr : Room k callerA)
    (F : ∀ base : Heap, K.In base → base.Ns mainGlobals mg → base.NoSeer → FnOk P w K mg base CX k fa fd [x] sp) (bd : ∀ (s : Shared) (u : Value), BindsTo s fd ⟨[u], []⟩ [(x, u)])
    (hsp : ∀ H : Hp, Only H → SqL K H a (ns.map V.int) → sp [.ref a] H (fun v _ => v = .bl true) fun _ _ _ => False)
    (hCX : ∀ H e s', CX [] H t (fun _ _ _ => False) e s' → False) :
    codeAny (model P w) callerA (.call (.ref fa) ⟨[.ref a], []⟩) (fun r s' => r = .ok (.ret (.bool true)) ∧ OldK t.heap s'.heap ∧ s'.os = t.os ∧ AllBare s'.gens) t := by
  have rv := vals_ints hi
  have lv := hi.length
  have core : ∀ H : Hp, Only H → SqL K H a (ns.map V.int) → HOk P w H t.heap → (∀ b, H b ≠ none → b = a) → (H a ≠ none → K.lookup a = none) →
      codeAny (model P w) callerA (.call (.ref fa) ⟨[.ref a], []⟩) (fun r s' => r = .ok (.ret (.bool true)) ∧ OldK t.heap s'.heap ∧ s'.os = t.os ∧ AllBare s'.gens) t := by
    intro H only seq ok own alone
    have free : ∀ {b : Addr} {o : Obj}, t.heap.get? b = some o → o.cls ≠ .type "list" → H b = none := fun {b o} e d => by
      cases q : H b with
      | none => rfl
      | some u =>
        obtain rfl : b = a := own b (by rw [q]; simp)
        rw [ha] at e
        cases e
        exact absurd rfl d
    have freeD : ∀ {b : Addr} {o : Obj} {es : Array DictEntry} {ep : Nat}, t.heap.get? b = some o → o.data = .dict es ep → H b = none := fun {b o es ep} e d => by
      cases q : H b with
      | none => rfl
      | some u =>
        obtain rfl : b = a := own b (by rw [q]; simp)
        rw [ha] at e
        cases e
        have d' : Data.seq vs.toArray _ = Data.dict es ep := d
        cases d'
    have nsB : ∀ {b : Addr} {m : Str → Option Value}, t.heap.Ns b m → (hidT t.heap H).Ns b m := fun {b m} z => let ⟨o, es, ep, e, d, r⟩ := z; ⟨o, es, ep, hidT_get e (freeD e d), d, r⟩
    have kin : K.In (hidT t.heap H) := fun b o e => hidT_get (KX b o e) (by
      cases q : H b with
      | none => rfl
      | some u =>
        obtain rfl : b = a := own b (by rw [q]; simp)
        rw [alone (by rw [q]; simp)] at e
        cases e)
    have seB : (hidT t.heap H).NoSeer := by
      refine ⟨?_, ?_, ?_, ?_⟩
      · obtain ⟨mc, h1, h2⟩ := se.statics; exact ⟨mc, nsB h1, h2⟩
      · obtain ⟨mc, h1, h2⟩ := se.mods; exact ⟨mc, nsB h1, h2⟩
      · obtain ⟨mc, h1, h2⟩ := se.imp; exact ⟨mc, nsB h1, h2⟩
      · obtain ⟨m, bm, ob, h1, h2, h3, h4, h5⟩ := se.main
        exact ⟨m, bm, ob, nsB h1, h2, hidT_get h3 (free h3 (by rw [h4]; decide)), h4, h5⟩
    have md : Mod K mg (hidT t.heap H) := ⟨kin, nsB gl, ⟨mb, nsB bl, bb⟩, let ⟨mc, h1, h2⟩ := nl; ⟨mc, nsB h1, h2⟩⟩
    have env : Env0 P w K mg (hidT t.heap H) callerA [] t H := ⟨rfl, md, fun b o e => of_hidT e, Nat.le_of_eq (hidT_size _ _), trivial, fun b z => absurd (show b ∈ ([] : List Addr) from z) (by simp), ok, .of_eq ge⟩
    refine codeAny_mono ((F _ kin (nsB gl) seB).run callerA [] t H ⟨[.ref a], []⟩ [.ref a] [.ref a] _ _ hr env (bd t (.ref a)) (.cons rfl .nil) (hsp H only seq)) fun r s' h => ?_
    cases r with
    | error e => exact (hCX H e s' h).elim
    | ok fl =>
      cases fl with
      | ret u =>
        obtain ⟨v, H', os, bare, un, ok', r', q⟩ := h
        obtain rfl : v = .bl true := q
        obtain rfl : u = Value.bool true := r'
        refine ⟨rfl, OldK.of_keep fun b o e => ?_, os, bare⟩
        cases q : H b with
        | none => exact un.keep b o e q (fun z => absurd (show b ∈ ([] : List Addr) from z) (by simp)) (by simp)
        | some u =>
          rcases only b with z | ⟨ob, xs, z⟩
          · rw [q] at z; cases z
          · obtain ⟨e1, _⟩ := ok b _ z
            obtain ⟨e2, _⟩ := ok' b _ (un.frzs b ob _ z)
            rw [e] at e1
            cases e1
            exact e2
      | next => exact False.elim h
      | brk => exact False.elim h
      | cont => exact False.elim h
  cases hk : K.lookup a with
  | some o =>
    have e := KX a o hk
    rw [ha] at e
    cases e
    exact core (fun _ => none) (fun _ => .inl rfl) (.inr ⟨_, vs.toArray, _, hk, rfl, rfl, rfl, by rw [List.size_toArray, lv]; exact hl, by simpa using rv⟩) (fun b u z => by
      have z' : (none : Option HO) = some u := z
      cases z') (fun b z => absurd rfl z) fun z => absurd rfl z
  | none =>
    refine core (fun b => if b = a then some (.frz { cls := .type "list", data := .seq vs.toArray } (.lst (ns.map V.int))) else none) (fun b => ?_) (.inl (.inr ⟨{ cls := .type "list", data := .seq vs.toArray }, if_pos rfl⟩)) (fun b u z => ?_) (fun b z => ?_) fun _ => hk
    · by_cases h : b = a
      · exact .inr ⟨_, _, if_pos h⟩
      · exact .inl (if_neg h)
    · by_cases h : b = a
      · have z' := (if_pos h).symm.trans z
        cases z'
        subst h
        exact ⟨ha, by rw [List.length_map]; exact hl, vs, _, rv, ha⟩
      · have z' := (if_neg h).symm.trans z
        cases z'
    · by_cases h : b = a
      · exact h
      · exact absurd (if_neg h) z
theorem walk_ofS {l : PySem.W.OpenLaw} {n k : Nat} {q : Program} {loose : List Str} {XP : (Str → Option Value) → Heap → Prop} {YP : World → Heap → Prop} {d : DefRec} {K : Params → PySem.W.Frag} {CX : World → CXT} {sp : World → Sp} {x : Str}
    (hn : l.most = some n) (hn2 : n ≤ sizeLine) (hdf : d.params.defaults = []) (hr : Room k callerA) (hI : importsNone q = true)
    (hY : ∀ (w : World) (h : Heap), YP w h → (K w.params).In h)
    (F : ∀ (w : World) (mg : Str → Option Value) (fa : Addr) (h : Heap), (K w.params).In h → h.Ns mainGlobals mg → mg d.name = some (.ref fa) →
      ∃ fd : FuncData, (∀ (s : Shared) (u : Value), BindsTo s fd ⟨[u], []⟩ [(x, u)]) ∧ ∀ base : Heap, (K w.params).In base → base.Ns mainGlobals mg → base.NoSeer → FnOk l.prog w (K w.params) mg base (CX w) k fa fd [x] (sp w))
    (hsp : ∀ (w : World) (H : Hp) (a : Addr) (ns : List Int), ns.length ≤ n → Only H → SqL (K w.params) H a (ns.map V.int) → sp w [.ref a] H (fun v _ => v = .bl true) fun _ _ _ => False)
    (hCX : ∀ (w : World) (H : Hp) (s : Shared) (e : Value) (s' : Shared), CX w [] H s (fun _ _ _ => False) e s' → False) :
    PySem.W.WalkO q loose XP YP l.row.toRowW d [] (fun f vs => PySem.call f vs) := by
  refine Att.attach_call hn hdf fun w s₀ t mg mb fa o pm cd doc a vs ns G Y ho hd hcd hmg hobj hints hlen hg => ?_
  have KX := hY w _ Y
  obtain ⟨fd, hb, hF⟩ := F w mg fa _ KX G.T.g hmg
  exact law_callS KX G.T.g G.T.b G.T.builtins G.T.nolimit (G.T.seer hI) hg hobj hints (Nat.le_trans hlen hn2) hr hF hb (fun H hO hS => hsp w H a ns hlen hO hS) fun H e s' => hCX w H t e s'
end Y
/-! the end -/
namespace Sx
open PySem PySem.Spec PyProof.Rows L2 Y L2H NdefX
/-- what super() finds, from what the base finds -/
theorem sup_in {K : PySem.W.Frag} {C M N NM : Addr} {nm q nmM qM : Str} {bs bm bsM bmM : List Value} {sn snM : List Str} {sub subM : List Value} {hd hdM ab abM : Bool} {col colM : Option Bool} {dd ddM : Option Addr} {m0 m1 m2 m3 m5 n0 n1 n2 n3 n5 : Option Value} {i j : String} {x : Str} {r : Option (Option Value)}
    (xL : K.lookup C = some (excClassObj nm q C N bs bm hd sn sub ab col dd m0 m1 m2 m3 m5 i)) (xM : K.lookup M = some (excClassObj nmM qM M NM bsM bmM hdM snM subM abM colM ddM n0 n1 n2 n3 n5 j)) (hb : bm = .ref M :: bmM) (h : PySem.W.findIn K (.ref M) x = r) : PySem.W.ks_superIn K C C x = r := by
  rw [← h]
  have e1 : PySem.W.findIn K (.ref M) x = PySem.W.alongIn K x (.ref M :: bmM) := by
    unfold PySem.W.findIn
    dsimp only
    rw [xM]
  rw [e1, ← hb]
  unfold PySem.W.ks_superIn PySem.W.clsIn
  rw [xL]
  show PySem.W.alongIn K x (((Value.ref C :: bm).dropWhile (· != .ref C)).drop 1) = _
  rw [List.dropWhile_cons, if_neg (by simp)]
  rfl
theorem kit_ref {K : PySem.W.Frag} {M NM : Addr} {t : Value} {nmM qM : Str} {bsM bmM : List Value} {snM : List Str} {subM : List Value} {hdM abM : Bool} {colM : Option Bool} {ddM : Option Addr} {n0 n1 n2 n3 n5 : Option Value} {j : String}
    (xM : K.lookup M = some (excClassObj nmM qM M NM bsM bmM hdM snM subM abM colM ddM n0 n1 n2 n3 n5 j)) (h1 : PySem.W.typeIn K (.ref M) = some (.type "type")) (h2 : PySem.W.subIn K t (.ref M) = some true) : PySem.W.kitOne K t (.ref M) = some true := by
  unfold PySem.W.kitOne
  split
  · rfl
  · show (if ((PySem.W.clsIn K M).isSome && PySem.W.typeIn K (.ref M) == some (.type "type")) = true then PySem.W.subIn K t (.ref M) else none) = some true
    have e1 : (PySem.W.clsIn K M).isSome = true := by unfold PySem.W.clsIn; rw [xM] <;> rfl
    rw [e1, h1, h2]
    rfl
theorem all_mk {l : PySem.W.OpenLaw} {w : World} {K : PySem.W.Frag} {h : Heap} {mg : Str → Option Value} {fa : Addr} (X : K.In h) (G : h.Ns mainGlobals mg) (hfa : mg "law" = some (.ref fa)) (hpt : l.prog.given.tree = none)
    {f_v0 : Addr} {od_v0 an_v0 : Option Addr} {sl_v0 : Array (Option Value)} {oc_v0 kV_v0 dc_v0 pm_v0 cd_v0 ct_v0 : Value}
    {f_v1 : Addr} {od_v1 an_v1 : Option Addr} {sl_v1 : Array (Option Value)} {oc_v1 kV_v1 dc_v1 pm_v1 cd_v1 ct_v1 : Value}
    {f_v2 : Addr} {od_v2 an_v2 : Option Addr} {sl_v2 : Array (Option Value)} {oc_v2 kV_v2 dc_v2 pm_v2 cd_v2 ct_v2 : Value}
    {f_v3 : Addr} {od_v3 an_v3 : Option Addr} {sl_v3 : Array (Option Value)} {oc_v3 kV_v3 dc_v3 pm_v3 cd_v3 ct_v3 : Value}
    {f_v4 : Addr} {od_v4 an_v4 : Option Addr} {sl_v4 : Array (Option Value)} {oc_v4 kV_v4 dc_v4 pm_v4 cd_v4 ct_v4 : Value}
    {f_v5 : Addr} {od_v5 an_v5 : Option Addr} {sl_v5 : Array (Option Value)} {oc_v5 kV_v5 dc_v5 pm_v5 cd_v5 ct_v5 : Value}
    {f_v6 : Addr} {od_v6 an_v6 : Option Addr} {sl_v6 : Array (Option Value)} {oc_v6 kV_v6 dc_v6 pm_v6 cd_v6 ct_v6 : Value}
    {f_v7 : Addr} {od_v7 an_v7 : Option Addr} {sl_v7 : Array (Option Value)} {oc_v7 kV_v7 dc_v7 pm_v7 cd_v7 ct_v7 : Value}
    {f_v8 : Addr} {od_v8 an_v8 : Option Addr} {sl_v8 : Array (Option Value)} {oc_v8 kV_v8 dc_v8 pm_v8 cd_v8 ct_v8 : Value}
    {f_v9 : Addr} {od_v9 an_v9 : Option Addr} {sl_v9 : Array (Option Value)} {oc_v9 kV_v9 dc_v9 pm_v9 cd_v9 ct_v9 : Value}
    {f_v10 : Addr} {od_v10 an_v10 : Option Addr} {sl_v10 : Array (Option Value)} {oc_v10 kV_v10 dc_v10 pm_v10 cd_v10 ct_v10 : Value}
    {f_v11 : Addr} {od_v11 an_v11 : Option Addr} {sl_v11 : Array (Option Value)} {oc_v11 kV_v11 dc_v11 pm_v11 cd_v11 ct_v11 : Value}
    {f_v12 : Addr} {od_v12 an_v12 : Option Addr} {sl_v12 : Array (Option Value)} {oc_v12 kV_v12 dc_v12 pm_v12 cd_v12 ct_v12 : Value}
    {f_v13 : Addr} {od_v13 an_v13 : Option Addr} {sl_v13 : Array (Option Value)} {oc_v13 kV_v13 dc_v13 pm_v13 cd_v13 ct_v13 : Value}
    {f_v14 : Addr} {od_v14 an_v14 : Option Addr} {sl_v14 : Array (Option Value)} {oc_v14 kV_v14 dc_v14 pm_v14 cd_v14 ct_v14 : Value}
    {f_v15 : Addr} {od_v15 an_v15 : Option Addr} {sl_v15 : Array (Option Value)} {oc_v15 kV_v15 dc_v15 pm_v15 cd_v15 ct_v15 : Value}
    {f_v16 : Addr} {od_v16 an_v16 : Option Addr} {sl_v16 : Array (Option Value)} {oc_v16 kV_v16 dc_v16 pm_v16 cd_v16 ct_v16 : Value}
    {f_v17 : Addr} {od_v17 an_v17 : Option Addr} {sl_v17 : Array (Option Value)} {oc_v17 kV_v17 dc_v17 pm_v17 cd_v17 ct_v17 : Value}
    {f_v18 : Addr} {od_v18 an_v18 : Option Addr} {sl_v18 : Array (Option Value)} {oc_v18 kV_v18 dc_v18 pm_v18 cd_v18 ct_v18 : Value}
    {f_v19 : Addr} {od_v19 an_v19 : Option Addr} {sl_v19 : Array (Option Value)} {oc_v19 kV_v19 dc_v19 pm_v19 cd_v19 ct_v19 : Value}
    {f_v20 : Addr} {od_v20 an_v20 : Option Addr} {sl_v20 : Array (Option Value)} {oc_v20 kV_v20 dc_v20 pm_v20 cd_v20 ct_v20 : Value}
    {f_v21 : Addr} {od_v21 an_v21 : Option Addr} {sl_v21 : Array (Option Value)} {oc_v21 kV_v21 dc_v21 pm_v21 cd_v21 ct_v21 : Value}
    {f_v22 : Addr} {od_v22 an_v22 : Option Addr} {sl_v22 : Array (Option Value)} {oc_v22 kV_v22 dc_v22 pm_v22 cd_v22 ct_v22 : Value}
    {f_v23 : Addr} {od_v23 an_v23 : Option Addr} {sl_v23 : Array (Option Value)} {oc_v23 kV_v23 dc_v23 pm_v23 cd_v23 ct_v23 : Value}
    {f_v24 : Addr} {od_v24 an_v24 : Option Addr} {sl_v24 : Array (Option Value)} {oc_v24 kV_v24 dc_v24 pm_v24 cd_v24 ct_v24 : Value}
    {f_v25 : Addr} {od_v25 an_v25 : Option Addr} {sl_v25 : Array (Option Value)} {oc_v25 kV_v25 dc_v25 pm_v25 cd_v25 ct_v25 : Value}
    {f_v26 : Addr} {od_v26 an_v26 : Option Addr} {sl_v26 : Array (Option Value)} {oc_v26 kV_v26 dc_v26 pm_v26 cd_v26 ct_v26 : Value}
    {f_v27 : Addr} {od_v27 an_v27 : Option Addr} {sl_v27 : Array (Option Value)} {oc_v27 kV_v27 dc_v27 pm_v27 cd_v27 ct_v27 : Value}
    {f_v28 : Addr} {od_v28 an_v28 : Option Addr} {sl_v28 : Array (Option Value)} {oc_v28 kV_v28 dc_v28 pm_v28 cd_v28 ct_v28 : Value}
    {f_v29 : Addr} {od_v29 an_v29 : Option Addr} {sl_v29 : Array (Option Value)} {oc_v29 kV_v29 dc_v29 pm_v29 cd_v29 ct_v29 : Value}
    {f_v30 : Addr} {od_v30 an_v30 : Option Addr} {sl_v30 : Array (Option Value)} {oc_v30 kV_v30 dc_v30 pm_v30 cd_v30 ct_v30 : Value}
    {f_v31 : Addr} {od_v31 an_v31 : Option Addr} {sl_v31 : Array (Option Value)} {oc_v31 kV_v31 dc_v31 pm_v31 cd_v31 ct_v31 : Value}
    {C M f1 cc cda N NM : Addr} {nm q nmM qM : Str} {bs bm bsM bmM : List Value} {sn snM : List Str} {sub subM : List Value} {ab abM hdM : Bool} {colM : Option Bool} {ddM : Option Addr} {n0 n1 n2 n3 n5 : Option Value} {col : Option Bool} {dd od1 an1 dc2 dk : Option Addr} {m0 m1 m2 m3 m5 : Option Value} {sl1 sl2 sl3 : Array (Option Value)} {oc1 kV1 dc1 pm1 ct1 oc2 oc3 : Value} {vs1 : Array Value} {fl : Str} {tf : Tok}
    (a_v0 : PySem.W.nsIn K mainGlobals "is_whole" = some (some (.ref f_v0)))
    (l_v0 : K.lookup f_v0 = some ⟨oc_v0, od_v0, .func (PySem.W.fnOf "is_whole" "is_whole" (defArgs s_is_whole) (defBody s_is_whole) (defScope s_is_whole) .none kV_v0 dc_v0 pm_v0 an_v0 cd_v0 ct_v0), sl_v0⟩)
    (c_v0 : PySem.W.codeIn K cd_v0 "is_whole" = true)
    (k_v0 : PySem.W.keepIn K (.ref f_v0) = true)
    (a_v1 : PySem.W.nsIn K mainGlobals "is_vector" = some (some (.ref f_v1)))
    (l_v1 : K.lookup f_v1 = some ⟨oc_v1, od_v1, .func (PySem.W.fnOf "is_vector" "is_vector" (defArgs s_is_vector) (defBody s_is_vector) (defScope s_is_vector) .none kV_v1 dc_v1 pm_v1 an_v1 cd_v1 ct_v1), sl_v1⟩)
    (c_v1 : PySem.W.codeIn K cd_v1 "is_vector" = true)
    (k_v1 : PySem.W.keepIn K (.ref f_v1) = true)
    (a_v2 : PySem.W.nsIn K mainGlobals "_is_row" = some (some (.ref f_v2)))
    (l_v2 : K.lookup f_v2 = some ⟨oc_v2, od_v2, .func (PySem.W.fnOf "_is_row" "_is_row" (defArgs s__is_row) (defBody s__is_row) (defScope s__is_row) .none kV_v2 dc_v2 pm_v2 an_v2 cd_v2 ct_v2), sl_v2⟩)
    (c_v2 : PySem.W.codeIn K cd_v2 "_is_row" = true)
    (k_v2 : PySem.W.keepIn K (.ref f_v2) = true)
    (a_v3 : PySem.W.nsIn K mainGlobals "ask_rows" = some (some (.ref f_v3)))
    (l_v3 : K.lookup f_v3 = some ⟨oc_v3, od_v3, .func (PySem.W.fnOf "ask_rows" "ask_rows" (defArgs s_ask_rows) (defBody s_ask_rows) (defScope s_ask_rows) .none kV_v3 dc_v3 pm_v3 an_v3 cd_v3 ct_v3), sl_v3⟩)
    (c_v3 : PySem.W.codeIn K cd_v3 "ask_rows" = true)
    (k_v3 : PySem.W.keepIn K (.ref f_v3) = true)
    (a_v4 : PySem.W.nsIn K mainGlobals "dot" = some (some (.ref f_v4)))
    (l_v4 : K.lookup f_v4 = some ⟨oc_v4, od_v4, .func (PySem.W.fnOf "dot" "dot" (defArgs s_dot) (defBody s_dot) (defScope s_dot) .none kV_v4 dc_v4 pm_v4 an_v4 cd_v4 ct_v4), sl_v4⟩)
    (c_v4 : PySem.W.codeIn K cd_v4 "dot" = true)
    (k_v4 : PySem.W.keepIn K (.ref f_v4) = true)
    (a_v5 : PySem.W.nsIn K mainGlobals "common" = some (some (.ref f_v5)))
    (l_v5 : K.lookup f_v5 = some ⟨oc_v5, od_v5, .func (PySem.W.fnOf "common" "common" (defArgs s_common) (defBody s_common) (defScope s_common) .none kV_v5 dc_v5 pm_v5 an_v5 cd_v5 ct_v5), sl_v5⟩)
    (c_v5 : PySem.W.codeIn K cd_v5 "common" = true)
    (k_v5 : PySem.W.keepIn K (.ref f_v5) = true)
    (a_v6 : PySem.W.nsIn K mainGlobals "_violated" = some (some (.ref f_v6)))
    (l_v6 : K.lookup f_v6 = some ⟨oc_v6, od_v6, .func (PySem.W.fnOf "_violated" "_violated" (defArgs s__violated) (defBody s__violated) (defScope s__violated) .none kV_v6 dc_v6 pm_v6 an_v6 cd_v6 ct_v6), sl_v6⟩)
    (c_v6 : PySem.W.codeIn K cd_v6 "_violated" = true)
    (k_v6 : PySem.W.keepIn K (.ref f_v6) = true)
    (a_v7 : PySem.W.nsIn K mainGlobals "_entering" = some (some (.ref f_v7)))
    (l_v7 : K.lookup f_v7 = some ⟨oc_v7, od_v7, .func (PySem.W.fnOf "_entering" "_entering" (defArgs s__entering) (defBody s__entering) (defScope s__entering) .none kV_v7 dc_v7 pm_v7 an_v7 cd_v7 ct_v7), sl_v7⟩)
    (c_v7 : PySem.W.codeIn K cd_v7 "_entering" = true)
    (k_v7 : PySem.W.keepIn K (.ref f_v7) = true)
    (a_v8 : PySem.W.nsIn K mainGlobals "_exchanged" = some (some (.ref f_v8)))
    (l_v8 : K.lookup f_v8 = some ⟨oc_v8, od_v8, .func (PySem.W.fnOf "_exchanged" "_exchanged" (defArgs s__exchanged) (defBody s__exchanged) (defScope s__exchanged) .none kV_v8 dc_v8 pm_v8 an_v8 cd_v8 ct_v8), sl_v8⟩)
    (c_v8 : PySem.W.codeIn K cd_v8 "_exchanged" = true)
    (k_v8 : PySem.W.keepIn K (.ref f_v8) = true)
    (a_v9 : PySem.W.nsIn K mainGlobals "_point" = some (some (.ref f_v9)))
    (l_v9 : K.lookup f_v9 = some ⟨oc_v9, od_v9, .func (PySem.W.fnOf "_point" "_point" (defArgs s__point) (defBody s__point) (defScope s__point) .none kV_v9 dc_v9 pm_v9 an_v9 cd_v9 ct_v9), sl_v9⟩)
    (c_v9 : PySem.W.codeIn K cd_v9 "_point" = true)
    (k_v9 : PySem.W.keepIn K (.ref f_v9) = true)
    (a_v10 : PySem.W.nsIn K mainGlobals "_multipliers" = some (some (.ref f_v10)))
    (l_v10 : K.lookup f_v10 = some ⟨oc_v10, od_v10, .func (PySem.W.fnOf "_multipliers" "_multipliers" (defArgs s__multipliers) (defBody s__multipliers) (defScope s__multipliers) .none kV_v10 dc_v10 pm_v10 an_v10 cd_v10 ct_v10), sl_v10⟩)
    (c_v10 : PySem.W.codeIn K cd_v10 "_multipliers" = true)
    (k_v10 : PySem.W.keepIn K (.ref f_v10) = true)
    (a_v11 : PySem.W.nsIn K mainGlobals "solved" = some (some (.ref f_v11)))
    (l_v11 : K.lookup f_v11 = some ⟨oc_v11, od_v11, .func (PySem.W.fnOf "solved" "solved" (defArgs s_solved) (defBody s_solved) (defScope s_solved) .none kV_v11 dc_v11 pm_v11 an_v11 cd_v11 ct_v11), sl_v11⟩)
    (c_v11 : PySem.W.codeIn K cd_v11 "solved" = true)
    (k_v11 : PySem.W.keepIn K (.ref f_v11) = true)
    (a_v12 : PySem.W.nsIn K mainGlobals "meet" = some (some (.ref f_v12)))
    (l_v12 : K.lookup f_v12 = some ⟨oc_v12, od_v12, .func (PySem.W.fnOf "meet" "meet" (defArgs s_meet) (defBody s_meet) (defScope s_meet) .none kV_v12 dc_v12 pm_v12 an_v12 cd_v12 ct_v12), sl_v12⟩)
    (c_v12 : PySem.W.codeIn K cd_v12 "meet" = true)
    (k_v12 : PySem.W.keepIn K (.ref f_v12) = true)
    (a_v13 : PySem.W.nsIn K mainGlobals "_direction" = some (some (.ref f_v13)))
    (l_v13 : K.lookup f_v13 = some ⟨oc_v13, od_v13, .func (PySem.W.fnOf "_direction" "_direction" (defArgs s__direction) (defBody s__direction) (defScope s__direction) .none kV_v13 dc_v13 pm_v13 an_v13 cd_v13 ct_v13), sl_v13⟩)
    (c_v13 : PySem.W.codeIn K cd_v13 "_direction" = true)
    (k_v13 : PySem.W.keepIn K (.ref f_v13) = true)
    (a_v14 : PySem.W.nsIn K mainGlobals "falling" = some (some (.ref f_v14)))
    (l_v14 : K.lookup f_v14 = some ⟨oc_v14, od_v14, .func (PySem.W.fnOf "falling" "falling" (defArgs s_falling) (defBody s_falling) (defScope s_falling) .none kV_v14 dc_v14 pm_v14 an_v14 cd_v14 ct_v14), sl_v14⟩)
    (c_v14 : PySem.W.codeIn K cd_v14 "falling" = true)
    (k_v14 : PySem.W.keepIn K (.ref f_v14) = true)
    (a_v15 : PySem.W.nsIn K mainGlobals "widest" = some (some (.ref f_v15)))
    (l_v15 : K.lookup f_v15 = some ⟨oc_v15, od_v15, .func (PySem.W.fnOf "widest" "widest" (defArgs s_widest) (defBody s_widest) (defScope s_widest) .none kV_v15 dc_v15 pm_v15 an_v15 cd_v15 ct_v15), sl_v15⟩)
    (c_v15 : PySem.W.codeIn K cd_v15 "widest" = true)
    (k_v15 : PySem.W.keepIn K (.ref f_v15) = true)
    (a_v16 : PySem.W.nsIn K mainGlobals "widest_direction" = some (some (.ref f_v16)))
    (l_v16 : K.lookup f_v16 = some ⟨oc_v16, od_v16, .func (PySem.W.fnOf "widest_direction" "widest_direction" (defArgs s_widest_direction) (defBody s_widest_direction) (defScope s_widest_direction) .none kV_v16 dc_v16 pm_v16 an_v16 cd_v16 ct_v16), sl_v16⟩)
    (c_v16 : PySem.W.codeIn K cd_v16 "widest_direction" = true)
    (k_v16 : PySem.W.keepIn K (.ref f_v16) = true)
    (a_v17 : PySem.W.nsIn K mainGlobals "_law_mixed" = some (some (.ref f_v17)))
    (l_v17 : K.lookup f_v17 = some ⟨oc_v17, od_v17, .func (PySem.W.fnOf "_law_mixed" "_law_mixed" (defArgs s__law_mixed) (defBody s__law_mixed) (defScope s__law_mixed) .none kV_v17 dc_v17 pm_v17 an_v17 cd_v17 ct_v17), sl_v17⟩)
    (c_v17 : PySem.W.codeIn K cd_v17 "_law_mixed" = true)
    (k_v17 : PySem.W.keepIn K (.ref f_v17) = true)
    (a_v18 : PySem.W.nsIn K mainGlobals "_law_box" = some (some (.ref f_v18)))
    (l_v18 : K.lookup f_v18 = some ⟨oc_v18, od_v18, .func (PySem.W.fnOf "_law_box" "_law_box" (defArgs s__law_box) (defBody s__law_box) (defScope s__law_box) .none kV_v18 dc_v18 pm_v18 an_v18 cd_v18 ct_v18), sl_v18⟩)
    (c_v18 : PySem.W.codeIn K cd_v18 "_law_box" = true)
    (k_v18 : PySem.W.keepIn K (.ref f_v18) = true)
    (a_v19 : PySem.W.nsIn K mainGlobals "_law_take" = some (some (.ref f_v19)))
    (l_v19 : K.lookup f_v19 = some ⟨oc_v19, od_v19, .func (PySem.W.fnOf "_law_take" "_law_take" (defArgs s__law_take) (defBody s__law_take) (defScope s__law_take) .none kV_v19 dc_v19 pm_v19 an_v19 cd_v19 ct_v19), sl_v19⟩)
    (c_v19 : PySem.W.codeIn K cd_v19 "_law_take" = true)
    (k_v19 : PySem.W.keepIn K (.ref f_v19) = true)
    (a_v20 : PySem.W.nsIn K mainGlobals "_law_is_integer" = some (some (.ref f_v20)))
    (l_v20 : K.lookup f_v20 = some ⟨oc_v20, od_v20, .func (PySem.W.fnOf "_law_is_integer" "_law_is_integer" (defArgs s__law_is_integer) (defBody s__law_is_integer) (defScope s__law_is_integer) .none kV_v20 dc_v20 pm_v20 an_v20 cd_v20 ct_v20), sl_v20⟩)
    (c_v20 : PySem.W.codeIn K cd_v20 "_law_is_integer" = true)
    (k_v20 : PySem.W.keepIn K (.ref f_v20) = true)
    (a_v21 : PySem.W.nsIn K mainGlobals "_law_integers" = some (some (.ref f_v21)))
    (l_v21 : K.lookup f_v21 = some ⟨oc_v21, od_v21, .func (PySem.W.fnOf "_law_integers" "_law_integers" (defArgs s__law_integers) (defBody s__law_integers) (defScope s__law_integers) .none kV_v21 dc_v21 pm_v21 an_v21 cd_v21 ct_v21), sl_v21⟩)
    (c_v21 : PySem.W.codeIn K cd_v21 "_law_integers" = true)
    (k_v21 : PySem.W.keepIn K (.ref f_v21) = true)
    (a_v22 : PySem.W.nsIn K mainGlobals "_law_product" = some (some (.ref f_v22)))
    (l_v22 : K.lookup f_v22 = some ⟨oc_v22, od_v22, .func (PySem.W.fnOf "_law_product" "_law_product" (defArgs s__law_product) (defBody s__law_product) (defScope s__law_product) .none kV_v22 dc_v22 pm_v22 an_v22 cd_v22 ct_v22), sl_v22⟩)
    (c_v22 : PySem.W.codeIn K cd_v22 "_law_product" = true)
    (k_v22 : PySem.W.keepIn K (.ref f_v22) = true)
    (a_v23 : PySem.W.nsIn K mainGlobals "_law_triple" = some (some (.ref f_v23)))
    (l_v23 : K.lookup f_v23 = some ⟨oc_v23, od_v23, .func (PySem.W.fnOf "_law_triple" "_law_triple" (defArgs s__law_triple) (defBody s__law_triple) (defScope s__law_triple) .none kV_v23 dc_v23 pm_v23 an_v23 cd_v23 ct_v23), sl_v23⟩)
    (c_v23 : PySem.W.codeIn K cd_v23 "_law_triple" = true)
    (k_v23 : PySem.W.keepIn K (.ref f_v23) = true)
    (a_v24 : PySem.W.nsIn K mainGlobals "_law_along" = some (some (.ref f_v24)))
    (l_v24 : K.lookup f_v24 = some ⟨oc_v24, od_v24, .func (PySem.W.fnOf "_law_along" "_law_along" (defArgs s__law_along) (defBody s__law_along) (defScope s__law_along) .none kV_v24 dc_v24 pm_v24 an_v24 cd_v24 ct_v24), sl_v24⟩)
    (c_v24 : PySem.W.codeIn K cd_v24 "_law_along" = true)
    (k_v24 : PySem.W.keepIn K (.ref f_v24) = true)
    (a_v25 : PySem.W.nsIn K mainGlobals "_law_around" = some (some (.ref f_v25)))
    (l_v25 : K.lookup f_v25 = some ⟨oc_v25, od_v25, .func (PySem.W.fnOf "_law_around" "_law_around" (defArgs s__law_around) (defBody s__law_around) (defScope s__law_around) .none kV_v25 dc_v25 pm_v25 an_v25 cd_v25 ct_v25), sl_v25⟩)
    (c_v25 : PySem.W.codeIn K cd_v25 "_law_around" = true)
    (k_v25 : PySem.W.keepIn K (.ref f_v25) = true)
    (a_v26 : PySem.W.nsIn K mainGlobals "_law_wrong" = some (some (.ref f_v26)))
    (l_v26 : K.lookup f_v26 = some ⟨oc_v26, od_v26, .func (PySem.W.fnOf "_law_wrong" "_law_wrong" (defArgs s__law_wrong) (defBody s__law_wrong) (defScope s__law_wrong) .none kV_v26 dc_v26 pm_v26 an_v26 cd_v26 ct_v26), sl_v26⟩)
    (c_v26 : PySem.W.codeIn K cd_v26 "_law_wrong" = true)
    (k_v26 : PySem.W.keepIn K (.ref f_v26) = true)
    (a_v27 : PySem.W.nsIn K mainGlobals "_law_clashes" = some (some (.ref f_v27)))
    (l_v27 : K.lookup f_v27 = some ⟨oc_v27, od_v27, .func (PySem.W.fnOf "_law_clashes" "_law_clashes" (defArgs s__law_clashes) (defBody s__law_clashes) (defScope s__law_clashes) .none kV_v27 dc_v27 pm_v27 an_v27 cd_v27 ct_v27), sl_v27⟩)
    (c_v27 : PySem.W.codeIn K cd_v27 "_law_clashes" = true)
    (k_v27 : PySem.W.keepIn K (.ref f_v27) = true)
    (a_v28 : PySem.W.nsIn K mainGlobals "_law_is_tight" = some (some (.ref f_v28)))
    (l_v28 : K.lookup f_v28 = some ⟨oc_v28, od_v28, .func (PySem.W.fnOf "_law_is_tight" "_law_is_tight" (defArgs s__law_is_tight) (defBody s__law_is_tight) (defScope s__law_is_tight) .none kV_v28 dc_v28 pm_v28 an_v28 cd_v28 ct_v28), sl_v28⟩)
    (c_v28 : PySem.W.codeIn K cd_v28 "_law_is_tight" = true)
    (k_v28 : PySem.W.keepIn K (.ref f_v28) = true)
    (a_v29 : PySem.W.nsIn K mainGlobals "_law_pair" = some (some (.ref f_v29)))
    (l_v29 : K.lookup f_v29 = some ⟨oc_v29, od_v29, .func (PySem.W.fnOf "_law_pair" "_law_pair" (defArgs s__law_pair) (defBody s__law_pair) (defScope s__law_pair) .none kV_v29 dc_v29 pm_v29 an_v29 cd_v29 ct_v29), sl_v29⟩)
    (c_v29 : PySem.W.codeIn K cd_v29 "_law_pair" = true)
    (k_v29 : PySem.W.keepIn K (.ref f_v29) = true)
    (a_v30 : PySem.W.nsIn K mainGlobals "_law_refused" = some (some (.ref f_v30)))
    (l_v30 : K.lookup f_v30 = some ⟨oc_v30, od_v30, .func (PySem.W.fnOf "_law_refused" "_law_refused" (defArgs s__law_refused) (defBody s__law_refused) (defScope s__law_refused) .none kV_v30 dc_v30 pm_v30 an_v30 cd_v30 ct_v30), sl_v30⟩)
    (c_v30 : PySem.W.codeIn K cd_v30 "_law_refused" = true)
    (k_v30 : PySem.W.keepIn K (.ref f_v30) = true)
    (a_v31 : PySem.W.nsIn K mainGlobals "law" = some (some (.ref f_v31)))
    (l_v31 : K.lookup f_v31 = some ⟨oc_v31, od_v31, .func (PySem.W.fnOf "law" "law" (defArgs s_law) (defBody s_law) (defScope s_law) .none kV_v31 dc_v31 pm_v31 an_v31 cd_v31 ct_v31), sl_v31⟩)
    (c_v31 : PySem.W.codeIn K cd_v31 "law" = true)
    (k_v31 : PySem.W.keepIn K (.ref f_v31) = true)
    (b_int : PySem.W.nsIn K mainGlobals "int" = some none)
    (b_len : PySem.W.nsIn K mainGlobals "len" = some none)
    (b_range : PySem.W.nsIn K mainGlobals "range" = some none)
    (b_isinstance : PySem.W.nsIn K mainGlobals "isinstance" = some none)
    (b_abs : PySem.W.nsIn K mainGlobals "abs" = some none)
    (b_zip : PySem.W.nsIn K mainGlobals "zip" = some none)
    (b_sum : PySem.W.nsIn K mainGlobals "sum" = some none)
    (b_all : PySem.W.nsIn K mainGlobals "all" = some none)
    (b_tuple : PySem.W.nsIn K mainGlobals "tuple" = some none)
    (b_list : PySem.W.nsIn K mainGlobals "list" = some none)
    (b_bool : PySem.W.nsIn K mainGlobals "bool" = some none)
    (b_max : PySem.W.nsIn K mainGlobals "max" = some none)
    (b_min : PySem.W.nsIn K mainGlobals "min" = some none)
    (b_lcm : PySem.W.nsIn K mainGlobals "lcm" = some (some (.builtin "math.lcm")))
    (b_gcd : PySem.W.nsIn K mainGlobals "gcd" = some (some (.builtin "math.gcd")))
    (bsup : PySem.W.nsIn K mainGlobals "super" = some none)
    (aC : PySem.W.nsIn K mainGlobals "BadRows" = some (some (.ref C)))
    (aM : PySem.W.nsIn K mainGlobals "MixError" = some (some (.ref M)))
    (xL : K.lookup C = some (excClassObj nm q C N bs bm true sn sub ab col dd m0 m1 m2 m3 m5 "ValueError.__new__"))
    (xR : PySem.HandSPX.refsVE bm = true)
    (sa : PySem.W.findIn K (.ref C) "__setattr__" = some (some (.builtin "object.__setattr__")))
    (ga : PySem.W.findIn K (.ref C) "__getattribute__" = some (some (.builtin "BaseException.__getattribute__")))
    (gg : PySem.W.findIn K (.ref C) "__getattr__" = some none)
    (gc : PySem.W.findIn K (.ref C) "__class__" = some (some (.builtin "object.__class__")))
    (gr : PySem.W.findIn K (.ref C) "row" = some none)
    (sn : PySem.W.specialIn K (.builtin "object.__class__") "__get__" = some (some (.builtin "getset_descriptor.__get__")))
    (tk : PySem.W.takesIn K (.builtin "object.__class__") = some true)
    (eC : PySem.W.subIn K (.ref C) (.type "BaseException") = some true)
    (eV : PySem.W.subIn K (.ref C) (.type "ValueError") = some true)
    (eS : PySem.W.subIn K (.ref C) (.ref C) = some true)
    (tC : PySem.W.typeIn K (.ref C) = some (.type "type"))
    (hC : PySem.W.hasDictIn K C = true)
    (kC : PySem.W.keepIn K (.ref C) = true)
    (mO : PySem.W.mroIn K C (.type "object") = some true)
    (mC : PySem.W.mroIn K C (.ref C) = some true)
    (eM : PySem.W.subIn K (.ref C) (.ref M) = some true)
    (tM : PySem.W.typeIn K (.ref M) = some (.type "type"))
    (xM : K.lookup M = some (excClassObj nmM qM M NM bsM bmM hdM snM subM abM colM ddM n0 n1 n2 n3 n5 "ValueError.__new__"))
    (bM : bm = .ref M :: bmM)
    (iM : PySem.W.findIn K (.ref M) "__init__" = some (some (.builtin "ValueError.__init__")))
    (iC : PySem.W.findIn K (.ref C) "__init__" = some (some (.ref f1)))
    (t1 : PySem.W.typeIn K (.ref f1) = some (.type "function"))
    (l1 : K.lookup f1 = some ⟨oc1, od1, .func (PySem.W.fnX "__init__" "BadRows.__init__" (defArgs s_init) (defBody s_init) (defScope s_init) (cl1 cc) .none kV1 dc1 pm1 an1 (.ref cda) ct1), sl1⟩)
    (c1 : PySem.W.codeIn K (.ref cda) "BadRows.__init__" = true)
    (l2 : K.lookup cda = some ⟨oc2, dc2, .fields vs1, sl2⟩)
    (l3 : K.lookup cc = some ⟨oc3, dk, .cell (some (.ref C)), sl3⟩)
    (v2 : vs1[2]? = some (.str fl tf))
    (pf : ((l.prog.main.file : Str) == fl) = true)
    (pt : (l.prog.main.scope.names.lookup ("super" : Str)).isSome = false)
    (so : PySem.W.nsIn K cStatics "thirdparty.any" = some none) :
    ∃ fd : FuncData, (∀ (s : Shared) (v : Value), BindsTo s fd ⟨[v], []⟩ [("script", v)]) ∧ ∀ base : Heap, K.In base → base.Ns mainGlobals mg → base.NoSeer → FnOk l.prog w K mg base CX0 53 fa fd ["script"] (sp_law (K := K)) := by
  have e := hfa.symm.trans (PySem.W.mg_of X G a_v31)
  cases e
  have B : Bi mg := ⟨PySem.W.mg_none_of X G b_int, PySem.W.mg_none_of X G b_len, PySem.W.mg_none_of X G b_range, PySem.W.mg_none_of X G b_isinstance, PySem.W.mg_none_of X G b_abs, PySem.W.mg_none_of X G b_zip, PySem.W.mg_none_of X G b_sum, PySem.W.mg_none_of X G b_all, PySem.W.mg_none_of X G b_tuple, PySem.W.mg_none_of X G b_list, PySem.W.mg_none_of X G b_bool, PySem.W.mg_none_of X G b_max, PySem.W.mg_none_of X G b_min, PySem.W.mg_of X G b_gcd, PySem.W.mg_of X G b_lcm⟩
  have F_v0 := fun_mk (st := s_is_whole) l_v0 c_v0 k_v0
  have B_v0 := F_v0.binds (ps := ["worth"]) fun _ _ _ _ _ _ us hl => match us, hl with | [_], _ => rfl
  have F_v1 := fun_mk (st := s_is_vector) l_v1 c_v1 k_v1
  have B_v1 := F_v1.binds (ps := ["worth", "many"]) fun _ _ _ _ _ _ us hl => match us, hl with | [_, _], _ => rfl
  have F_v2 := fun_mk (st := s__is_row) l_v2 c_v2 k_v2
  have B_v2 := F_v2.binds (ps := ["worth", "many"]) fun _ _ _ _ _ _ us hl => match us, hl with | [_, _], _ => rfl
  have F_v3 := fun_mk (st := s_ask_rows) l_v3 c_v3 k_v3
  have B_v3 := F_v3.binds (ps := ["rows", "many"]) fun _ _ _ _ _ _ us hl => match us, hl with | [_, _], _ => rfl
  have F_v4 := fun_mk (st := s_dot) l_v4 c_v4 k_v4
  have B_v4 := F_v4.binds (ps := ["left", "right"]) fun _ _ _ _ _ _ us hl => match us, hl with | [_, _], _ => rfl
  have F_v5 := fun_mk (st := s_common) l_v5 c_v5 k_v5
  have B_v5 := F_v5.binds (ps := ["fractions"]) fun _ _ _ _ _ _ us hl => match us, hl with | [_], _ => rfl
  have F_v6 := fun_mk (st := s__violated) l_v6 c_v6 k_v6
  have B_v6 := F_v6.binds (ps := ["rows", "many", "table", "basic"]) fun _ _ _ _ _ _ us hl => match us, hl with | [_, _, _, _], _ => rfl
  have F_v7 := fun_mk (st := s__entering) l_v7 c_v7 k_v7
  have B_v7 := F_v7.binds (ps := ["rows", "many", "numbers", "free"]) fun _ _ _ _ _ _ us hl => match us, hl with | [_, _, _, _], _ => rfl
  have F_v8 := fun_mk (st := s__exchanged) l_v8 c_v8 k_v8
  have B_v8 := F_v8.binds (ps := ["table", "scale", "line", "column"]) fun _ _ _ _ _ _ us hl => match us, hl with | [_, _, _, _], _ => rfl
  have F_v9 := fun_mk (st := s__point) l_v9 c_v9 k_v9
  have B_v9 := F_v9.binds (ps := ["many", "table", "basic", "scale"]) fun _ _ _ _ _ _ us hl => match us, hl with | [_, _, _, _], _ => rfl
  have F_v10 := fun_mk (st := s__multipliers) l_v10 c_v10 k_v10
  have B_v10 := F_v10.binds (ps := ["rows", "many", "numbers", "scale", "variable", "free"]) fun _ _ _ _ _ _ us hl => match us, hl with | [_, _, _, _, _, _], _ => rfl
  have F_v11 := fun_mk (st := s_solved) l_v11 c_v11 k_v11
  have B_v11 := F_v11.binds (ps := ["rows", "many"]) fun _ _ _ _ _ _ us hl => match us, hl with | [_, _], _ => rfl
  have F_v12 := fun_mk (st := s_meet) l_v12 c_v12 k_v12
  have B_v12 := F_v12.binds (ps := ["rows", "many"]) fun _ _ _ _ _ _ us hl => match us, hl with | [_, _], _ => rfl
  have F_v13 := fun_mk (st := s__direction) l_v13 c_v13 k_v13
  have B_v13 := F_v13.binds (ps := ["fractions"]) fun _ _ _ _ _ _ us hl => match us, hl with | [_], _ => rfl
  have F_v14 := fun_mk (st := s_falling) l_v14 c_v14 k_v14
  have B_v14 := F_v14.binds (ps := ["rows", "many", "aim"]) fun _ _ _ _ _ _ us hl => match us, hl with | [_, _, _], _ => rfl
  have F_v15 := fun_mk (st := s_widest) l_v15 c_v15 k_v15
  have B_v15 := F_v15.binds (ps := ["rows", "many"]) fun _ _ _ _ _ _ us hl => match us, hl with | [_, _], _ => rfl
  have F_v16 := fun_mk (st := s_widest_direction) l_v16 c_v16 k_v16
  have B_v16 := F_v16.binds (ps := ["rows", "many"]) fun _ _ _ _ _ _ us hl => match us, hl with | [_, _], _ => rfl
  have F_v17 := fun_mk (st := s__law_mixed) l_v17 c_v17 k_v17
  have B_v17 := F_v17.binds (ps := ["seed", "turn"]) fun _ _ _ _ _ _ us hl => match us, hl with | [_, _], _ => rfl
  have F_v18 := fun_mk (st := s__law_box) l_v18 c_v18 k_v18
  have B_v18 := F_v18.binds (ps := ["script"]) fun _ _ _ _ _ _ us hl => match us, hl with | [_], _ => rfl
  have F_v19 := fun_mk (st := s__law_take) l_v19 c_v19 k_v19
  have B_v19 := F_v19.binds (ps := ["box", "size"]) fun _ _ _ _ _ _ us hl => match us, hl with | [_, _], _ => rfl
  have F_v20 := fun_mk (st := s__law_is_integer) l_v20 c_v20 k_v20
  have B_v20 := F_v20.binds (ps := ["thing"]) fun _ _ _ _ _ _ us hl => match us, hl with | [_], _ => rfl
  have F_v21 := fun_mk (st := s__law_integers) l_v21 c_v21 k_v21
  have B_v21 := F_v21.binds (ps := ["thing", "size"]) fun _ _ _ _ _ _ us hl => match us, hl with | [_, _], _ => rfl
  have F_v22 := fun_mk (st := s__law_product) l_v22 c_v22 k_v22
  have B_v22 := F_v22.binds (ps := ["left", "right"]) fun _ _ _ _ _ _ us hl => match us, hl with | [_, _], _ => rfl
  have F_v23 := fun_mk (st := s__law_triple) l_v23 c_v23 k_v23
  have B_v23 := F_v23.binds (ps := ["box", "many", "wide"]) fun _ _ _ _ _ _ us hl => match us, hl with | [_, _, _], _ => rfl
  have F_v24 := fun_mk (st := s__law_along) l_v24 c_v24 k_v24
  have B_v24 := F_v24.binds (ps := ["box", "many", "rows"]) fun _ _ _ _ _ _ us hl => match us, hl with | [_, _, _], _ => rfl
  have F_v25 := fun_mk (st := s__law_around) l_v25 c_v25 k_v25
  have B_v25 := F_v25.binds (ps := ["box", "many", "rows"]) fun _ _ _ _ _ _ us hl => match us, hl with | [_, _, _], _ => rfl
  have F_v26 := fun_mk (st := s__law_wrong) l_v26 c_v26 k_v26
  have B_v26 := F_v26.binds (ps := ["box", "many"]) fun _ _ _ _ _ _ us hl => match us, hl with | [_, _], _ => rfl
  have F_v27 := fun_mk (st := s__law_clashes) l_v27 c_v27 k_v27
  have B_v27 := F_v27.binds (ps := ["rows", "many", "shares"]) fun _ _ _ _ _ _ us hl => match us, hl with | [_, _, _], _ => rfl
  have F_v28 := fun_mk (st := s__law_is_tight) l_v28 c_v28 k_v28
  have B_v28 := F_v28.binds (ps := ["rows", "many", "at"]) fun _ _ _ _ _ _ us hl => match us, hl with | [_, _, _], _ => rfl
  have F_v29 := fun_mk (st := s__law_pair) l_v29 c_v29 k_v29
  have B_v29 := F_v29.binds (ps := ["rows", "many", "answer"]) fun _ _ _ _ _ _ us hl => match us, hl with | [_, _, _], _ => rfl
  have F_v30 := fun_mk (st := s__law_refused) l_v30 c_v30 k_v30
  have B_v30 := F_v30.binds (ps := ["box", "many", "rows"]) fun _ _ _ _ _ _ us hl => match us, hl with | [_, _, _], _ => rfl
  have F_v31 := fun_mk (st := s_law) l_v31 c_v31 k_v31
  have xo : OexC K C := ⟨⟨_, _, _, _, _, _, _, _, _, _, _, _, _, _, _, xL, xR⟩, sa, eC, tC, kC⟩
  have xc : ExcC K C := ⟨ga, gg, eC, hC, gc, sn, tk, mO⟩
  have xf : XfC K C := ⟨ga, gg, eC, hC⟩
  have sk : SupK l.prog K mg C f1 cc cda "self" (cellF "__init__" "BadRows.__init__" (defArgs s_init) (defBody s_init) (defScope s_init) cc cda) _ :=
    ⟨⟨_, _, _, _, _, _, _, _, _, rfl, l1⟩, c1, ⟨_, _, _, _, _, _, l2, v2, pf⟩, ⟨_, _, _, l3⟩, (by obtain ⟨cd, hc, _⟩ := PySem.W.any_some hC; exact ⟨cd, hc⟩), mC, so, sup_in xL xM bM iM, eV, xo, PySem.W.mg_none_of X G bsup, pt, ⟨_, rfl, rfl⟩, (show (defScope s_init).names.lookup ("super" : Str) = some .globalImplicit by decide +kernel), (show (defScope s_init).names.lookup ("__class__" : Str) = some .free by decide +kernel)⟩
  have gC := PySem.W.mg_of X G aC
  have gM := PySem.W.mg_of X G aM
  refine ⟨PySem.W.fnOf "law" "law" (defArgs s_law) (defBody s_law) (defScope s_law) .none kV_v31 dc_v31 pm_v31 an_v31 cd_v31 ct_v31, fun s v => .of_eq rfl, fun base _ _ hs => ?_⟩
  have bI : Binds K _ ["self", "row"] [] := .all (fd := PySem.W.fnX "__init__" "BadRows.__init__" (defArgs s_init) (defBody s_init) (defScope s_init) (cl1 cc) .none kV1 dc1 pm1 an1 (.ref cda) ct1) fun us hl => match us, hl with | [_, _], _ => rfl
  have bR : BR l.prog w K mg base C := ⟨f1, _, xo, iC, t1, ok_init sk gr, bI, gC⟩
  have C__violated := Cl.mk (P := l.prog) (w := w) (mg := mg) (base := base) ⟨f_v6, _, ok__violated F_v6 B, PySem.W.mg_of X G a_v6, k_v6, B_v6⟩
  have C__entering := Cl.mk (P := l.prog) (w := w) (mg := mg) (base := base) ⟨f_v7, _, ok__entering F_v7 B, PySem.W.mg_of X G a_v7, k_v7, B_v7⟩
  have C__exchanged := Cl.mk (P := l.prog) (w := w) (mg := mg) (base := base) ⟨f_v8, _, ok__exchanged F_v8 B, PySem.W.mg_of X G a_v8, k_v8, B_v8⟩
  have C__point := Cl.mk (P := l.prog) (w := w) (mg := mg) (base := base) ⟨f_v9, _, ok__point F_v9 B, PySem.W.mg_of X G a_v9, k_v9, B_v9⟩
  have C__multipliers := Cl.mk (P := l.prog) (w := w) (mg := mg) (base := base) ⟨f_v10, _, ok__multipliers F_v10 B, PySem.W.mg_of X G a_v10, k_v10, B_v10⟩
  have C_solved := Cl.mk (P := l.prog) (w := w) (mg := mg) (base := base) ⟨f_v11, _, ok_solved F_v11 B C__violated C__entering C__exchanged C__point C__multipliers, PySem.W.mg_of X G a_v11, k_v11, B_v11⟩
  have C_is_whole := Cl.mk (P := l.prog) (w := w) (mg := mg) (base := base) ⟨f_v0, _, ok_is_whole F_v0 B, PySem.W.mg_of X G a_v0, k_v0, B_v0⟩
  have C_is_vector := Cl.mk (P := l.prog) (w := w) (mg := mg) (base := base) ⟨f_v1, _, ok_is_vector F_v1 B C_is_whole, PySem.W.mg_of X G a_v1, k_v1, B_v1⟩
  have C__is_row := Cl.mk (P := l.prog) (w := w) (mg := mg) (base := base) ⟨f_v2, _, ok__is_row F_v2 B C_is_whole C_is_vector, PySem.W.mg_of X G a_v2, k_v2, B_v2⟩
  have C_ask_rows := Cl.mk (P := l.prog) (w := w) (mg := mg) (base := base) ⟨f_v3, _, ok_ask_rows F_v3 B bR C__is_row, PySem.W.mg_of X G a_v3, k_v3, B_v3⟩
  have C_dot := Cl.mk (P := l.prog) (w := w) (mg := mg) (base := base) ⟨f_v4, _, ok_dot F_v4 B, PySem.W.mg_of X G a_v4, k_v4, B_v4⟩
  have C_common := Cl.mk (P := l.prog) (w := w) (mg := mg) (base := base) ⟨f_v5, _, ok_common F_v5 B, PySem.W.mg_of X G a_v5, k_v5, B_v5⟩
  have C__direction := Cl.mk (P := l.prog) (w := w) (mg := mg) (base := base) ⟨f_v13, _, ok__direction F_v13 B C_common, PySem.W.mg_of X G a_v13, k_v13, B_v13⟩
  have C_falling := Cl.mk (P := l.prog) (w := w) (mg := mg) (base := base) ⟨f_v14, _, ok_falling F_v14 B C_solved C__direction, PySem.W.mg_of X G a_v14, k_v14, B_v14⟩
  have C_widest := Cl.mk (P := l.prog) (w := w) (mg := mg) (base := base) ⟨f_v15, _, ok_widest F_v15 B C_falling C_dot, PySem.W.mg_of X G a_v15, k_v15, B_v15⟩
  have C_widest_direction := Cl.mk (P := l.prog) (w := w) (mg := mg) (base := base) ⟨f_v16, _, ok_widest_direction F_v16 B C_ask_rows C_widest, PySem.W.mg_of X G a_v16, k_v16, B_v16⟩
  have C_meet := Cl.mk (P := l.prog) (w := w) (mg := mg) (base := base) ⟨f_v12, _, ok_meet F_v12 B C_ask_rows C_solved, PySem.W.mg_of X G a_v12, k_v12, B_v12⟩
  have C__law_mixed := Cl.mk (P := l.prog) (w := w) (mg := mg) (base := base) ⟨f_v17, _, ok__law_mixed F_v17 B, PySem.W.mg_of X G a_v17, k_v17, B_v17⟩
  have C__law_box := Cl.mk (P := l.prog) (w := w) (mg := mg) (base := base) ⟨f_v18, _, ok__law_box F_v18 B, PySem.W.mg_of X G a_v18, k_v18, B_v18⟩
  have C__law_take := Cl.mk (P := l.prog) (w := w) (mg := mg) (base := base) ⟨f_v19, _, ok__law_take F_v19 B C__law_mixed, PySem.W.mg_of X G a_v19, k_v19, B_v19⟩
  have C__law_is_integer := Cl.mk (P := l.prog) (w := w) (mg := mg) (base := base) ⟨f_v20, _, ok__law_is_integer F_v20 B, PySem.W.mg_of X G a_v20, k_v20, B_v20⟩
  have C__law_integers := Cl.mk (P := l.prog) (w := w) (mg := mg) (base := base) ⟨f_v21, _, ok__law_integers F_v21 B C__law_is_integer, PySem.W.mg_of X G a_v21, k_v21, B_v21⟩
  have C__law_product := Cl.mk (P := l.prog) (w := w) (mg := mg) (base := base) ⟨f_v22, _, ok__law_product F_v22 B, PySem.W.mg_of X G a_v22, k_v22, B_v22⟩
  have C__law_triple := Cl.mk (P := l.prog) (w := w) (mg := mg) (base := base) ⟨f_v23, _, ok__law_triple F_v23 B C__law_take, PySem.W.mg_of X G a_v23, k_v23, B_v23⟩
  have C__law_along := Cl.mk (P := l.prog) (w := w) (mg := mg) (base := base) ⟨f_v24, _, ok__law_along F_v24 B C__law_take C__law_product, PySem.W.mg_of X G a_v24, k_v24, B_v24⟩
  have C__law_around := Cl.mk (P := l.prog) (w := w) (mg := mg) (base := base) ⟨f_v25, _, ok__law_around F_v25 B C__law_take, PySem.W.mg_of X G a_v25, k_v25, B_v25⟩
  have C__law_clashes := Cl.mk (P := l.prog) (w := w) (mg := mg) (base := base) ⟨f_v27, _, ok__law_clashes F_v27 B C__law_integers, PySem.W.mg_of X G a_v27, k_v27, B_v27⟩
  have C__law_is_tight := Cl.mk (P := l.prog) (w := w) (mg := mg) (base := base) ⟨f_v28, _, ok__law_is_tight F_v28 B C_meet C__law_clashes, PySem.W.mg_of X G a_v28, k_v28, B_v28⟩
  have C__law_pair := Cl.mk (P := l.prog) (w := w) (mg := mg) (base := base) ⟨f_v29, _, ok__law_pair F_v29 B C__law_integers C__law_product, PySem.W.mg_of X G a_v29, k_v29, B_v29⟩
  have C__law_wrong := Cl.mk (P := l.prog) (w := w) (mg := mg) (base := base) ⟨f_v26, _, ok__law_wrong F_v26 B C__law_take C__law_triple, PySem.W.mg_of X G a_v26, k_v26, B_v26⟩
  have bX : BX l.prog w K mg base C M := ⟨gC, gM, xc, xf, gr, PySem.W.exm_ref eC hC tC eS, kit_ref xM tM eM, ⟨f_v20, _, okP__law_is_integer F_v20 B, PySem.W.mg_of X G a_v20, k_v20, B_v20⟩⟩
  have C__law_refused := Cl.mk (P := l.prog) (w := w) (mg := mg) (base := base) ⟨f_v30, _, ok__law_refused F_v30 B bX C__law_take C__law_wrong C_widest_direction, PySem.W.mg_of X G a_v30, k_v30, B_v30⟩
  exact ok_law F_v31 B C__law_box C__law_take C__law_triple C__law_along C__law_around C_widest_direction C__law_pair C__law_is_tight C__law_refused
end Sx
open PySem PySem.W PyProof.Rows
set_option maxRecDepth 100000 in
set_option maxHeartbeats 0 in
theorem PySem.Challenge.cw_mixproof_k24_widest_direction_holds : PySem.Challenge.rw_mixproof_k24_widest_direction.Holds := by
  w_on; o_law; k_head; (case hw => w_witness2)
  k_fill
  refine Y.walk_ofS (l := PySem.Challenge.rw_mixproof_k24_widest_direction) (n := 63) (k := 53) (x := "script") (CX := fun _ => L2.CX0) (sp := fun w => Sx.sp_law) rfl (by decide) rfl ⟨rfl, by decide, by decide⟩ (by decide +kernel) (fun w h Y => PySem.W.kIn_of Y) ?F (fun _ _ a ns hl _ hS => ⟨a, ns, rfl, hS, fun _ => rfl⟩) fun _ _ _ _ _ z => z
  case F =>
    intro w mg fa h KX G hmg
    refine' Sx.all_mk KX G hmg rfl ?a_v0 ?l_v0 ?c_v0 ?k_v0 ?a_v1 ?l_v1 ?c_v1 ?k_v1 ?a_v2 ?l_v2 ?c_v2 ?k_v2 ?a_v3 ?l_v3 ?c_v3 ?k_v3 ?a_v4 ?l_v4 ?c_v4 ?k_v4 ?a_v5 ?l_v5 ?c_v5 ?k_v5 ?a_v6 ?l_v6 ?c_v6 ?k_v6 ?a_v7 ?l_v7 ?c_v7 ?k_v7 ?a_v8 ?l_v8 ?c_v8 ?k_v8 ?a_v9 ?l_v9 ?c_v9 ?k_v9 ?a_v10 ?l_v10 ?c_v10 ?k_v10 ?a_v11 ?l_v11 ?c_v11 ?k_v11 ?a_v12 ?l_v12 ?c_v12 ?k_v12 ?a_v13 ?l_v13 ?c_v13 ?k_v13 ?a_v14 ?l_v14 ?c_v14 ?k_v14 ?a_v15 ?l_v15 ?c_v15 ?k_v15 ?a_v16 ?l_v16 ?c_v16 ?k_v16 ?a_v17 ?l_v17 ?c_v17 ?k_v17 ?a_v18 ?l_v18 ?c_v18 ?k_v18 ?a_v19 ?l_v19 ?c_v19 ?k_v19 ?a_v20 ?l_v20 ?c_v20 ?k_v20 ?a_v21 ?l_v21 ?c_v21 ?k_v21 ?a_v22 ?l_v22 ?c_v22 ?k_v22 ?a_v23 ?l_v23 ?c_v23 ?k_v23 ?a_v24 ?l_v24 ?c_v24 ?k_v24 ?a_v25 ?l_v25 ?c_v25 ?k_v25 ?a_v26 ?l_v26 ?c_v26 ?k_v26 ?a_v27 ?l_v27 ?c_v27 ?k_v27 ?a_v28 ?l_v28 ?c_v28 ?k_v28 ?a_v29 ?l_v29 ?c_v29 ?k_v29 ?a_v30 ?l_v30 ?c_v30 ?k_v30 ?a_v31 ?l_v31 ?c_v31 ?k_v31 ?b_int ?b_len ?b_range ?b_isinstance ?b_abs ?b_zip ?b_sum ?b_all ?b_tuple ?b_list ?b_bool ?b_max ?b_min ?b_lcm ?b_gcd ?bsup ?aC ?aM ?xL ?xR ?sa ?ga ?gg ?gc ?gr ?sn ?tk ?eC ?eV ?eS ?tC ?hC ?kC ?mO ?mC ?eM ?tM ?xM ?bM ?iM ?iC ?t1 ?l1 ?c1 ?l2 ?l3 ?v2 ?pf ?pt ?so
    (case a_v0 => k_is)
    (case l_v0 => k_is)
    (case c_v0 => k_is)
    (case k_v0 => k_is)
    (case a_v1 => k_is)
    (case l_v1 => k_is)
    (case c_v1 => k_is)
    (case k_v1 => k_is)
    (case a_v2 => k_is)
    (case l_v2 => k_is)
    (case c_v2 => k_is)
    (case k_v2 => k_is)
    (case a_v3 => k_is)
    (case l_v3 => k_is)
    (case c_v3 => k_is)
    (case k_v3 => k_is)
    (case a_v4 => k_is)
    (case l_v4 => k_is)
    (case c_v4 => k_is)
    (case k_v4 => k_is)
    (case a_v5 => k_is)
    (case l_v5 => k_is)
    (case c_v5 => k_is)
    (case k_v5 => k_is)
    (case a_v6 => k_is)
    (case l_v6 => k_is)
    (case c_v6 => k_is)
    (case k_v6 => k_is)
    (case a_v7 => k_is)
    (case l_v7 => k_is)
    (case c_v7 => k_is)
    (case k_v7 => k_is)
    (case a_v8 => k_is)
    (case l_v8 => k_is)
    (case c_v8 => k_is)
    (case k_v8 => k_is)
    (case a_v9 => k_is)
    (case l_v9 => k_is)
    (case c_v9 => k_is)
    (case k_v9 => k_is)
    (case a_v10 => k_is)
    (case l_v10 => k_is)
    (case c_v10 => k_is)
    (case k_v10 => k_is)
    (case a_v11 => k_is)
    (case l_v11 => k_is)
    (case c_v11 => k_is)
    (case k_v11 => k_is)
    (case a_v12 => k_is)
    (case l_v12 => k_is)
    (case c_v12 => k_is)
    (case k_v12 => k_is)
    (case a_v13 => k_is)
    (case l_v13 => k_is)
    (case c_v13 => k_is)
    (case k_v13 => k_is)
    (case a_v14 => k_is)
    (case l_v14 => k_is)
    (case c_v14 => k_is)
    (case k_v14 => k_is)
    (case a_v15 => k_is)
    (case l_v15 => k_is)
    (case c_v15 => k_is)
    (case k_v15 => k_is)
    (case a_v16 => k_is)
    (case l_v16 => k_is)
    (case c_v16 => k_is)
    (case k_v16 => k_is)
    (case a_v17 => k_is)
    (case l_v17 => k_is)
    (case c_v17 => k_is)
    (case k_v17 => k_is)
    (case a_v18 => k_is)
    (case l_v18 => k_is)
    (case c_v18 => k_is)
    (case k_v18 => k_is)
    (case a_v19 => k_is)
    (case l_v19 => k_is)
    (case c_v19 => k_is)
    (case k_v19 => k_is)
    (case a_v20 => k_is)
    (case l_v20 => k_is)
    (case c_v20 => k_is)
    (case k_v20 => k_is)
    (case a_v21 => k_is)
    (case l_v21 => k_is)
    (case c_v21 => k_is)
    (case k_v21 => k_is)
    (case a_v22 => k_is)
    (case l_v22 => k_is)
    (case c_v22 => k_is)
    (case k_v22 => k_is)
    (case a_v23 => k_is)
    (case l_v23 => k_is)
    (case c_v23 => k_is)
    (case k_v23 => k_is)
    (case a_v24 => k_is)
    (case l_v24 => k_is)
    (case c_v24 => k_is)
    (case k_v24 => k_is)
    (case a_v25 => k_is)
    (case l_v25 => k_is)
    (case c_v25 => k_is)
    (case k_v25 => k_is)
    (case a_v26 => k_is)
    (case l_v26 => k_is)
    (case c_v26 => k_is)
    (case k_v26 => k_is)
    (case a_v27 => k_is)
    (case l_v27 => k_is)
    (case c_v27 => k_is)
    (case k_v27 => k_is)
    (case a_v28 => k_is)
    (case l_v28 => k_is)
    (case c_v28 => k_is)
    (case k_v28 => k_is)
    (case a_v29 => k_is)
    (case l_v29 => k_is)
    (case c_v29 => k_is)
    (case k_v29 => k_is)
    (case a_v30 => k_is)
    (case l_v30 => k_is)
    (case c_v30 => k_is)
    (case k_v30 => k_is)
    (case a_v31 => k_is)
    (case l_v31 => k_is)
    (case c_v31 => k_is)
    (case k_v31 => k_is)
    (case b_int => k_is)
    (case b_len => k_is)
    (case b_range => k_is)
    (case b_isinstance => k_is)
    (case b_abs => k_is)
    (case b_zip => k_is)
    (case b_sum => k_is)
    (case b_all => k_is)
    (case b_tuple => k_is)
    (case b_list => k_is)
    (case b_bool => k_is)
    (case b_max => k_is)
    (case b_min => k_is)
    (case b_lcm => k_is)
    (case b_gcd => k_is)
    (case bsup => k_is)
    (case aC => k_is)
    (case aM => k_is)
    (case xL => k_is)
    (case xR => first | rfl | decide +kernel | k_is)
    (case sa => k_is)
    (case ga => k_is)
    (case gg => k_is)
    (case gc => k_is)
    (case gr => k_is)
    (case sn => k_is)
    (case tk => k_is)
    (case eC => k_is)
    (case eV => k_is)
    (case eS => first | rfl | k_is)
    (case tC => k_is)
    (case hC => k_is)
    (case kC => k_is)
    (case mO => k_is)
    (case mC => k_is)
    (case eM => k_is)
    (case tM => k_is)
    (case xM => k_is)
    (case bM => rfl)
    (case iM => k_is)
    (case iC => k_is)
    (case t1 => k_is)
    (case l1 => k_is)
    (case c1 => k_is)
    (case l2 => k_is)
    (case l3 => k_is)
    (case v2 => first | rfl | decide +kernel | k_is)
    (case pf => first | rfl | decide +kernel | k_is)
    (case pt => first | rfl | decide +kernel | k_is)
    (case so => k_is)
