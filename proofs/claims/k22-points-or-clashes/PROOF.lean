import PyProof.Rows.All
import Wide.All
import OpenK.AllK
import Wide.FinOn
import HandS.ForSpec
import HandS.ExcInit
import HandS.ExcField
import HandS.IsInst
import HandS.Comp
import HandS.Iter
import HandS.Zip
import HandS.Walk
import HandS.Conv
import HandS.HotCalls
import HandS.Wide
import KE.IntBitsLaws
import HandS.TupAny
import HandS.Zip0
import HandS.Nested
import HandS.FStr
import HandS.WordsExc
import KE.KExcSuper
import HandS.ExcIs
import HandS.Gcd
import HandS.WideBits
import KE.KMathGC
import HandS.Deep
import PySem.Challenge.RW_mixproof_k22_meet_points_or_clashes
set_option Elab.async false
set_option linter.all false
set_option maxRecDepth 100000
set_option maxHeartbeats 4000000
set_option exponentiation.threshold 5000
/-! my own layer over HandS: readings told step by step, calls by name, more rules -/
namespace Y
open PySem PySem.Spec PyProof.Rows L2

/-! ### heaps: what is kept -/
/-- all that was tracked stands, but at the addresses of S -/
def Xt (S : List Addr) (H H' : Hp) : Prop := ∀ a o, a ∉ S → H a = some o → H' a = some o
abbrev Ex (H H' : Hp) : Prop := Xt [] H H'
theorem Xt.refl {S : List Addr} (H : Hp) : Xt S H H := fun _ _ _ h => h
theorem Xt.trans {S : List Addr} {H H1 H2 : Hp} (a : Xt S H H1) (b : Xt S H1 H2) : Xt S H H2 := fun x o n h => b x o n (a x o n h)
theorem Ex.at {H H' : Hp} (e : Ex H H') {a : Addr} {o : HO} (h : H a = some o) : H' a = some o := e a o (by simp) h
theorem Xt.at {S : List Addr} {H H' : Hp} (e : Xt S H H') {a : Addr} {o : HO} (h : H a = some o) (n : a ∉ S) : H' a = some o := e a o n h
theorem Ex.xt {S : List Addr} {H H' : Hp} (e : Ex H H') : Xt S H H' := fun a o _ h => e a o (by simp) h
theorem Ex.rfl' {H : Hp} : Ex H H := Xt.refl H
theorem Xt.sub {S T : List Addr} {H H' : Hp} (e : Xt S H H') (h : ∀ a ∈ S, a ∈ T) : Xt T H H' := fun a o n q => e a o (fun z => n (h a z)) q
theorem ex_new {H : Hp} {p : Addr} {o : HO} (h : H p = none) : Ex H (upd H p o) := fun a u _ e => by
  rw [upd_ne (ne_of_none e h)]; exact e
theorem xt_upd {S : List Addr} {H : Hp} {p : Addr} {o : HO} (h : p ∈ S) : Xt S H (upd H p o) := fun a u n e => by
  rw [upd_ne (fun z => n (by rw [z]; exact h))]; exact e
/-- what S names was not tracked at first -/
theorem Xt.fresh {S : List Addr} {H H1 H2 : Hp} (a : Ex H H1) (b : Xt S H1 H2) (h : ∀ x ∈ S, H x = none) : Ex H H2 := fun x o _ q =>
  b x o (fun z => by rw [h x z] at q; cases q) (a x o (by simp) q)
theorem fresh_of {S : List Addr} {H H' : Hp} (e : Xt S H H') {p : Addr} (h : H' p = none) (n : p ∉ S) : H p = none := by
  cases q : H p with
  | none => rfl
  | some o => rw [e p o n q] at h; cases h
theorem Ex.back {H H' : Hp} (e : Ex H H') {p : Addr} (h : H' p = none) : H p = none := fresh_of e h (by simp)
theorem Ex.sql {K : PySem.W.Frag} {H H' : Hp} {a : Addr} {xs : List V} (e : Ex H H') (h : SqL K H a xs) : SqL K H' a xs := by
  rcases h with (h | ⟨o, h⟩) | h
  · exact .inl (.inl (e.at h))
  · exact .inl (.inr ⟨o, e.at h⟩)
  · exact .inr h

/-! ### calls by name -/
structure Cl (P : Program) (w : World) (K : PySem.W.Frag) (mg : Str → Option Value) (base : Heap) (CX : CXT) (k : Nat) (x : Str) (ps : List Str) (sp : Sp) : Prop where
  ex : ∃ (f : Addr) (fd : FuncData), FnOk P w K mg base CX k f fd ps sp ∧ mg x = some (.ref f) ∧ PySem.W.keepIn K (.ref f) = true ∧ Binds K fd ps []
theorem pe_y {X : Cx} {CX : CXT} {k j : Nat} {x : Str} {ps : List Str} {sp : Sp} {E : XK} {p pos : Pos} {e : Expr} {es : List Expr} {t : TA} (c : Cl X.prog X.w X.K X.mg X.base CX k x ps sp) (hr : Room j X.A) (hk : k ≤ j) (hx : Passes CX X E) (hg : Gl X x) (ha : PA X (e :: es) t)
    (hdb : (x == ("__debug__" : Str)) = false := by decide) (he : starEach (e :: es) X.env = (false, eval e X.env) :: starEach es X.env := by rfl) (hpl : (backTo pos (starEach es X.env)).any (·.1) = false := by rfl) :
    PE X (.Call (.Name x p) (e :: es) [] pos) (tCall sp [] E t) := by
  obtain ⟨f, fd, F, hm, kp, b⟩ := c.ex
  exact pe_call F (hr.mono hk) hg hm kp b .nil hx ha hdb he hpl

/-! ### readings, told by lemmas -/
section
variable {K : PySem.W.Frag} {σ : L2.St} {H : Hp} {ta tb te tc : TE} {t u : TT} {tu tw tz : TS} {Q : VK} {R : Bool → Hp → Prop} {D : Ends} {g : TG}
theorem rd_seq (h : tu { D with nx := tz D } σ H) : tSeq tu tz D σ H := h
theorem rd_asg (h : te σ H fun x H1 => g x σ H1 D.nx) : tAsg te g D σ H := h
theorem rd_name {i : Nat} {v : V} {q : L2.St → Hp → Prop} (h : q (σ.set i (some v)) H) : gName i v σ H q := h
theorem rd_var {i : Nat} {v : V} (e : σ[i]? = some (some v)) (h : Q v H) : tVar i σ H Q := ⟨v, e, h⟩
theorem rd_c {v : V} (h : Q v H) : tC v σ H Q := h
theorem rd_op {r : R2} (h : ta σ H fun x H1 => tb σ H1 fun y H2 => r x y H2 Q) : tOp r ta tb σ H Q := h
theorem rd_un {r : V → Hp → VK → Prop} (h : ta σ H fun x H1 => r x H1 Q) : tUn r ta σ H Q := h
theorem rd_I0 {f : Int → Int → V} {i j : Int} (h : Q (f i j) H) : rI0 f (.int i) (.int j) H Q := ⟨i, j, rfl, rfl, h⟩
theorem rd_I {C : Int → Int → Prop} {f : Int → Int → V} {i j : Int} (c : C i j) (h : Q (f i j) H) : rI C f (.int i) (.int j) H Q := ⟨i, j, rfl, rfl, c, h⟩
theorem rd_U {f : Int → V} {i : Int} (h : Q (f i) H) : rU f (.int i) H Q := ⟨i, rfl, h⟩
theorem rd_eq {x y : V} (c : scal x y = true) (h : Q (.bl (decide (x = y))) H) : rEq x y H Q := ⟨c, h⟩
theorem rd_ne {x y : V} (c : scal x y = true) (h : Q (.bl (!decide (x = y))) H) : rNe x y H Q := ⟨c, h⟩
theorem rd_eqI {i j : Int} (h : Q (.bl (decide (i = j))) H) : rEq (.int i) (.int j) H Q := ⟨rfl, by
  have e : decide (V.int i = V.int j) = decide (i = j) := decide_eq_decide.mpr ⟨fun z => by injection z, fun z => by rw [z]⟩
  rw [e]; exact h⟩
theorem rd_neI {i j : Int} (h : Q (.bl (!decide (i = j))) H) : rNe (.int i) (.int j) H Q := ⟨rfl, by
  have e : decide (V.int i = V.int j) = decide (i = j) := decide_eq_decide.mpr ⟨fun z => by injection z, fun z => by rw [z]⟩
  rw [e]; exact h⟩
theorem rd_test (h : te σ H fun x H' => ∃ k, x = .bl k ∧ R k H') : tTest te σ H R := h
theorem rd_tB (h : te σ H fun x H' => ∃ k, x = .bl k ∧ R k H') : tB te σ H R := h
theorem rd_bl {b : Bool} (h : R b H) : ∃ k, V.bl b = .bl k ∧ R k H := ⟨b, rfl, h⟩
theorem rd_not (h : t σ H fun c H1 => R (!c) H1) : tNot t σ H R := h
theorem rd_and (h : t σ H fun c H1 => if c = true then u σ H1 R else R false H1) : tAnd t u σ H R := h
theorem rd_or (h : t σ H fun c H1 => if c = true then R true H1 else u σ H1 R) : tOr t u σ H R := h
theorem rd_ifS (h : t σ H fun b H1 => if b = true then tu D σ H1 else tw D σ H1) : tIfS t tu tw D σ H := h
theorem rd_if (h : t σ H fun c H1 => if c = true then ta σ H1 Q else tb σ H1 Q) : tIf t ta tb σ H Q := h
theorem rd_andV (h : ta σ H fun x H1 => ∃ c, x = .bl c ∧ if c = true then tb σ H1 Q else Q (.bl false) H1) : tAndV ta tb σ H Q := h
theorem rd_orV (h : ta σ H fun x H1 => ∃ c, x = .bl c ∧ if c = true then Q (.bl true) H1 else tb σ H1 Q) : tOrV ta tb σ H Q := h
theorem rd_notV (h : ta σ H fun x H1 => ∃ c, x = .bl c ∧ Q (.bl (!c)) H1) : tNotV ta σ H Q := h
theorem rd_blV {b : Bool} {A : Bool → Prop} (h : A b) : ∃ k, V.bl b = .bl k ∧ A k := ⟨b, rfl, h⟩
theorem rd_next (h : D.nx σ H) : tNext D σ H := h
theorem rd_ret (h : te σ H D.rt) : tRet te D σ H := h
theorem rd_drop (h : te σ H fun _ H1 => D.nx σ H1) : tDrop te D σ H := h
theorem rd_nil {A : List V → Hp → Prop} (h : A [] H) : tNil σ H A := h
theorem rd_cons {tr : TA} {A : List V → Hp → Prop} (h : ta σ H fun x H1 => tr σ H1 fun xs H2 => A (x :: xs) H2) : tCons ta tr σ H A := h
theorem rd_cb {r : List V → Hp → VK → Prop} {tr : TA} (h : tr σ H fun vs H1 => r vs H1 Q) : tCB r tr σ H Q := h
theorem rd_call {sp : Sp} {E : XK} {tr : TA} (h : tr σ H fun vs H1 => sp vs H1 Q E) : tCall sp [] E tr σ H Q := by
  show tr σ H fun vs H1 => sp (vs ++ []) H1 Q E
  simp only [List.append_nil]
  exact h
/-- a new object -/
theorem new_tup {xs : List V} (hl : xs.length ≤ sizeLine) (h : ∀ p H2, H p = none → Ex H H2 → H2 p = some (.tup xs) → Q (.ref p) H2) : xs.length ≤ sizeLine ∧ ∀ p, H p = none → Q (.ref p) (upd H p (.tup xs)) :=
  ⟨hl, fun p hp => h p _ hp (ex_new hp) upd_same⟩
theorem new_lst {xs : List V} (hl : xs.length ≤ sizeLine) (h : ∀ p H2, H p = none → Ex H H2 → H2 p = some (.lst xs) → Q (.ref p) H2) : xs.length ≤ sizeLine ∧ ∀ p, H p = none → Q (.ref p) (upd H p (.lst xs)) :=
  ⟨hl, fun p hp => h p _ hp (ex_new hp) upd_same⟩
theorem newL {xs : List V} (h : ∀ p H2, H p = none → Ex H H2 → H2 p = some (.lst xs) → Q (.ref p) H2) : ∀ p, H p = none → Q (.ref p) (upd H p (.lst xs)) :=
  fun p hp => h p _ hp (ex_new hp) upd_same
theorem newT {xs : List V} (h : ∀ p H2, H p = none → Ex H H2 → H2 p = some (.tup xs) → Q (.ref p) H2) : ∀ p, H p = none → Q (.ref p) (upd H p (.tup xs)) :=
  fun p hp => h p _ hp (ex_new hp) upd_same
theorem rd_tup {tr : TA} (h : tr σ H fun xs H1 => xs.length ≤ sizeLine ∧ ∀ p, H1 p = none → Q (.ref p) (upd H1 p (.tup xs))) : tTup tr σ H Q := h
theorem rd_lst {tr : TA} (h : tr σ H fun xs H1 => xs.length ≤ sizeLine ∧ ∀ p, H1 p = none → Q (.ref p) (upd H1 p (.lst xs))) : tLst tr σ H Q := h
theorem rd_bm {T : String} {r : V → List V → Hp → VK → Prop} {tr : TA} (h : ta σ H fun x H1 => tyV K T x H1 ∧ tr σ H1 fun xs H2 => r x xs H2 Q) : tBM K T r ta tr σ H Q := h
theorem rd_sl {r : V → Option Int → Option Int → Hp → VK → Prop} {tl th : TO} (h : te σ H fun x H1 => tl σ H1 fun l H2 => th σ H2 fun u H3 => r x l u H3 Q) : tSl r te tl th σ H Q := h
theorem rd_nopart {A : Option Int → Hp → Prop} (h : A none H) : tNoPart σ H A := h
theorem rd_part {A : Option Int → Hp → Prop} (h : te σ H fun x H1 => ∃ i, x = .int i ∧ A (some i) H1) : tPart te σ H A := h
theorem rd_iv {i : Int} {A : Int → Prop} (h : A i) : ∃ j, V.int i = .int j ∧ A j := ⟨i, rfl, h⟩
end
/-! ### named readings of calls -/
def rInt : List V → Hp → VK → Prop := fun xs H Q => (∃ i, xs = [.int i] ∧ Q (.int i) H) ∨ ∃ k, xs = [.bl k] ∧ Q (.int (if k then 1 else 0)) H
def rLen (K : PySem.W.Frag) : List V → Hp → VK → Prop := fun xs H Q => ∃ p ys, xs = [.ref p] ∧ (SqL K H p ys ∨ SqT K H p ys) ∧ Q (.int ys.length) H
def rAbs : List V → Hp → VK → Prop := fun xs H Q => ∃ i, xs = [.int i] ∧ Q (.int (if i < 0 then -i else i)) H
def rTupOf (K : PySem.W.Frag) : List V → Hp → VK → Prop := fun xs H Q => ∃ p ys, xs = [.ref p] ∧ ((SqL K H p ys ∧ ∀ l, H l = none → Q (.ref l) (upd H l (.tup ys))) ∨ (SqT K H p ys ∧ Q (.ref p) H))
def rLstOf (K : PySem.W.Frag) : List V → Hp → VK → Prop := fun xs H Q => ∃ p ys, xs = [.ref p] ∧ (SqL K H p ys ∨ SqT K H p ys) ∧ ∀ l, H l = none → Q (.ref l) (upd H l (.lst ys))
def rMx2 : List V → Hp → VK → Prop := fun xs H Q => ∃ i j, xs = [.int i, .int j] ∧ Q (.int (if j > i then j else i)) H
def rMn2 : List V → Hp → VK → Prop := fun xs H Q => ∃ i j, xs = [.int i, .int j] ∧ Q (.int (if j < i then j else i)) H
section
variable {X : Cx}
theorem cr_int : CallR X (.type "int") rInt := call_int1
theorem cr_len : CallR X (.builtin "len") (rLen X.K) := call_len_seq
theorem cr_abs : CallR X (.builtin "abs") rAbs := call_abs
theorem cr_tupOf : CallR X (.type "tuple") (rTupOf X.K) := call_tuple_of
theorem cr_lstOf : CallR X (.type "list") (rLstOf X.K) := call_list_of
theorem cr_mx2 (hc : X.calm = true) : CallR X (.builtin "max") rMx2 := call_max2 hc
theorem cr_mn2 (hc : X.calm = true) : CallR X (.builtin "min") rMn2 := call_min2 hc
end
section
variable {K : PySem.W.Frag} {σ : L2.St} {H : Hp} {Q : VK}
theorem rd_int {i : Int} (h : Q (.int i) H) : rInt [.int i] H Q := .inl ⟨i, rfl, h⟩
theorem rd_intb {b : Bool} (h : Q (.int (if b then 1 else 0)) H) : rInt [.bl b] H Q := .inr ⟨b, rfl, h⟩
theorem rd_abs {i : Int} (h : Q (.int (if i < 0 then -i else i)) H) : rAbs [.int i] H Q := ⟨i, rfl, h⟩
theorem rd_mx2 {i j : Int} (h : Q (.int (if j > i then j else i)) H) : rMx2 [.int i, .int j] H Q := ⟨i, j, rfl, h⟩
theorem rd_mn2 {i j : Int} (h : Q (.int (if j < i then j else i)) H) : rMn2 [.int i, .int j] H Q := ⟨i, j, rfl, h⟩
theorem rd_lenL {p : Addr} {ys : List V} (e : H p = some (.lst ys)) (h : Q (.int ys.length) H) : rLen K [.ref p] H Q := ⟨p, ys, rfl, .inl (SqL.of e), h⟩
theorem rd_lenT {p : Addr} {ys : List V} (e : H p = some (.tup ys)) (h : Q (.int ys.length) H) : rLen K [.ref p] H Q := ⟨p, ys, rfl, .inr (SqT.of e), h⟩
theorem rd_tupL {p : Addr} {ys : List V} (e : H p = some (.lst ys)) (h : ∀ l H2, H l = none → Ex H H2 → H2 l = some (.tup ys) → Q (.ref l) H2) : rTupOf K [.ref p] H Q := ⟨p, ys, rfl, .inl ⟨SqL.of e, fun l hl => h l _ hl (ex_new hl) upd_same⟩⟩
theorem rd_tupT {p : Addr} {ys : List V} (e : H p = some (.tup ys)) (h : Q (.ref p) H) : rTupOf K [.ref p] H Q := ⟨p, ys, rfl, .inr ⟨SqT.of e, h⟩⟩
theorem rd_lstL {p : Addr} {ys : List V} (e : H p = some (.lst ys)) (h : ∀ l H2, H l = none → Ex H H2 → H2 l = some (.lst ys) → Q (.ref l) H2) : rLstOf K [.ref p] H Q := ⟨p, ys, rfl, .inl (SqL.of e), fun l hl => h l _ hl (ex_new hl) upd_same⟩
theorem rd_lstT {p : Addr} {ys : List V} (e : H p = some (.tup ys)) (h : ∀ l H2, H l = none → Ex H H2 → H2 l = some (.lst ys) → Q (.ref l) H2) : rLstOf K [.ref p] H Q := ⟨p, ys, rfl, .inr (SqT.of e), fun l hl => h l _ hl (ex_new hl) upd_same⟩
theorem rd_ixL {p : Addr} {xs : List V} {i : Int} {v : V} (e : H p = some (.lst xs)) (a : atI xs i = some v) (h : Q v H) : rIxL K (.ref p) (.int i) H Q := ⟨p, xs, i, v, rfl, rfl, SqL.of e, a, h⟩
theorem rd_ixT {p : Addr} {xs : List V} {i : Int} {v : V} (e : H p = some (.tup xs)) (a : atI xs i = some v) (h : Q v H) : rIxT K (.ref p) (.int i) H Q := ⟨p, xs, i, v, rfl, rfl, SqT.of e, a, h⟩
theorem atI_of {α : Type} {xs : List α} {i : Int} {j : Nat} {v : α} (e : i = (j : Int)) (h : xs[j]? = some v) : atI xs i = some v := by rw [e]; exact atI_nat h
theorem rd_ixLn {p : Addr} {xs : List V} {i : Int} (j : Nat) {v : V} (e : H p = some (.lst xs)) (ei : i = (j : Int)) (a : xs[j]? = some v) (h : Q v H) : rIxL K (.ref p) (.int i) H Q := rd_ixL e (atI_of ei a) h
theorem rd_ixTn {p : Addr} {xs : List V} {i : Int} (j : Nat) {v : V} (e : H p = some (.tup xs)) (ei : i = (j : Int)) (a : xs[j]? = some v) (h : Q v H) : rIxT K (.ref p) (.int i) H Q := rd_ixT e (atI_of ei a) h
/-- a store into a list -/
theorem rd_sub {ta tb : TE} {t : TSet} {v : V} {q : L2.St → Hp → Prop} (h : ta σ H fun o H1 => tb σ H1 fun i H2 => t o i v H2 fun H3 => q σ H3) : gSub ta tb t v σ H q := h
theorem rd_setL {p : Addr} {xs : List V} {i : Int} (j : Nat) {v : V} {q : Hp → Prop} (e : H p = some (.lst xs)) (ei : i = (j : Int)) (hj : j < xs.length) (h : ∀ H2, Xt [p] H H2 → H2 p = some (.lst (xs.set j v)) → q H2) : rSetL (.ref p) (.int i) v H q :=
  ⟨p, xs, i, j, rfl, rfl, e, by unfold ixN; rw [ei, if_pos (by omega), if_pos (by omega)]; simp, h _ (xt_upd (by simp)) upd_same⟩
theorem rd_append {p : Addr} {xs : List V} {v : V} (e : H p = some (.lst xs)) (hz : xs.length < sizeLine) (h : ∀ H2, Xt [p] H H2 → H2 p = some (.lst (xs ++ [v])) → Q .non H2) : rAppend (.ref p) [v] H Q :=
  ⟨p, xs, v, rfl, rfl, e, hz, h _ (xt_upd (by simp)) upd_same⟩
theorem tyL {p : Addr} {xs : List V} (e : H p = some (.lst xs)) : tyV K "list" (.ref p) H := .inl ⟨rfl, _, SqL.of e⟩
/-- cutting: xs[lo:hi] -/
theorem rd_slL {p : Addr} {xs : List V} {lo hi : Option Int} (e : H p = some (.lst xs)) (h : ∀ l H2, H l = none → Ex H H2 → H2 l = some (.lst (cutV xs lo hi)) → Q (.ref l) H2) : rSlL K (.ref p) lo hi H Q := ⟨p, xs, rfl, SqL.of e, fun l hl => h l _ hl (ex_new hl) upd_same⟩
theorem rd_sum {p : Addr} {ns : List Int} (e : H p = some (.lst (ns.map V.int))) (h : Q (.int ns.sum) H) : rSum K [.ref p] H Q := ⟨p, ns, rfl, SqL.of e, h⟩
theorem rd_all {p : Addr} {bs : List Bool} (e : H p = some (.lst (bs.map V.bl))) (h : Q (.bl (bs.all id)) H) : rAll K [.ref p] H Q := ⟨p, bs, rfl, SqL.of e, h⟩
theorem rd_cat {p q : Addr} {xs ys : List V} (e : H p = some (.lst xs)) (f : H q = some (.lst ys)) (hz : xs.length + ys.length ≤ sizeLine) (h : ∀ l H2, H l = none → Ex H H2 → H2 l = some (.lst (xs ++ ys)) → Q (.ref l) H2) : rCat (.ref p) (.ref q) H Q :=
  ⟨p, q, xs, ys, rfl, rfl, e, f, hz, fun l hl => h l _ hl (ex_new hl) upd_same⟩
theorem sz {n : Nat} (h : n ≤ 100000) : n ≤ sizeLine := Nat.le_trans h (by decide)
theorem szl {n : Nat} (h : n < 100000) : n < sizeLine := Nat.lt_of_lt_of_le h (by decide)
end
/-- a decided test -/
theorem if_dec {p : Prop} [Decidable p] {A B : Prop} (h1 : p → A) (h2 : ¬ p → B) : if decide p = true then A else B := by
  by_cases h : p
  · rw [decide_eq_true h]; exact iteT (h1 h)
  · rw [decide_eq_false h]; exact iteF (h2 h)
theorem if_ndec {p : Prop} [Decidable p] {A B : Prop} (h1 : ¬ p → A) (h2 : p → B) : if (!decide p) = true then A else B := by
  by_cases h : p
  · rw [decide_eq_true h]; exact iteF (h2 h)
  · rw [decide_eq_false h]; exact iteT (h1 h)

/-! ### more rules -/
section
variable {X : Cx}
/-- int(x) of an int -/
theorem int_small {i : Int} (h1 : -(2 ^ 64) < i) (h2 : i < 2 ^ 64) : -(2 ^ 64) < i ∧ i < 2 ^ 64 := ⟨h1, h2⟩
theorem op_mulB : OpR X (binaryOp .Mult) (rI IntMulOk fun i j => .int (i * j)) := opI fun _ _ _ _ _ _ _ hc q => mul_int q hc
theorem op_modG : OpR X (binaryOp .Mod) (rI (fun _ j => j ≠ 0) fun i j => .int (i.fmod j)) := op_modN
theorem mulok_r {i j : Int} (h1 : -(2 ^ 63) ≤ j) (h2 : j < 2 ^ 63) : IntMulOk i j := .of_right (intBits_le_64 (by omega) (by omega))
theorem mulok_l {i j : Int} (h1 : -(2 ^ 63) ≤ i) (h2 : i < 2 ^ 63) : IntMulOk i j := .of_left (intBits_le_64 (by omega) (by omega))
end
end Y
/-! loops and comprehensions, told by what each turn does -/
namespace Y
open PySem PySem.Spec PyProof.Rows L2
def LcB (J : It) (g : TG) (tt : TT) (te : TE) (vs : List Nat) (σ : L2.St) (H1 : Hp) (Q : VK) : Prop := ∀ D, H1 D = none → ∃ W : Nat → Nat → Hp → Prop, (∃ m, W 0 m (upd H1 D (.lst []))) ∧ ∀ i m H, W i m H →
  (J.stop i H ∧ Q (.ref D) H) ∨ (J.go i H ∧ ∃ Nx : Hp → Prop, (∀ H', Nx H' → ∃ m', m' < m ∧ W (i + 1) m' H') ∧ ∀ x H', J.yld i H x H' → g x (wipe σ vs) H' fun σ2 H2 => wipe σ2 vs = wipe σ vs ∧ tt σ2 H2 fun b H3 =>
    if b = true then te σ2 H3 fun y H4 => ∃ acc, H4 D = some (.lst acc) ∧ acc.length < sizeLine ∧ Nx (upd H4 D (.lst (acc ++ [y]))) else Nx H3)
def ForB (J : It) (g : TG) (tb : TS) (D : Ends) (σ : L2.St) (H1 : Hp) : Prop := ∃ W : Nat → Nat → L2.St → Hp → Prop, (∃ m, W 0 m σ H1) ∧ ∀ i m σ H, W i m σ H →
  (J.stop i H ∧ D.nx σ H) ∨ (J.go i H ∧ ∃ N : L2.St → Hp → Prop, (∀ σ' H', N σ' H' → ∃ m', m' < m ∧ W (i + 1) m' σ' H') ∧ ∀ x H', J.yld i H x H' → g x σ H' fun σ2 H2 => tb { D with nx := N, ct := N, bk := D.nx } σ2 H2)
def ItL (K : PySem.W.Frag) (x : V) (H : Hp) (R : It → Hp → Prop) : Prop := ∃ a, x = .ref a ∧ (∃ xs, SqL K H a xs) ∧ R (Itl K a) H
def ItT (K : PySem.W.Frag) (x : V) (H : Hp) (R : It → Hp → Prop) : Prop := ∃ a, x = .ref a ∧ (∃ xs, SqT K H a xs) ∧ R (Itt K a) H
def Rg1 (vs : List V) (H : Hp) (R : It → Hp → Prop) : Prop := ∃ j : Int, vs = [.int j] ∧ -(2 ^ 62) ≤ j ∧ j < 2 ^ 62 ∧ R (Itr 0 j.toNat) H
def Rg2 (vs : List V) (H : Hp) (R : It → Hp → Prop) : Prop := ∃ i j : Int, vs = [.int i, .int j] ∧ (-(2 ^ 62) ≤ i ∧ i < 2 ^ 62 ∧ -(2 ^ 62) ≤ j ∧ j < 2 ^ 62) ∧ R (Itr i (j - i).toNat) H
def Zp (K : PySem.W.Frag) (vs : List V) (H : Hp) (R : It → Hp → Prop) : Prop := ∃ a b xs ys, vs = [.ref a, .ref b] ∧ SqL K H a xs ∧ SqL K H b ys ∧ R (Itz K a b) H
section
variable {K : PySem.W.Frag} {σ : L2.St} {H : Hp} {ta tl te : TE} {tr : TA} {tt : TT} {tb : TS} {wi : TI} {g : TG} {vs : List Nat} {Q : VK} {R : It → Hp → Prop} {D : Ends} {J : It} {n : Nat} {G : Hp → Prop} {Y : Nat → Hp → V → Hp → Prop} {p q : Addr} {xs ys : List V}
theorem rd_lc (h : wi σ H fun J H1 => LcB J g tt te vs σ H1 Q) : tLc wi g tt te vs σ H Q := h
theorem rd_for (h : wi σ H fun J H1 => ForB J g tb D σ H1) : tFor wi g tb D σ H := h
theorem rd_iL (h : tl σ H fun x H1 => ItL K x H1 R) : iList K tl σ H R := h
theorem rd_iT (h : tl σ H fun x H1 => ItT K x H1 R) : iTup K tl σ H R := h
theorem rd_r1 (h : tr σ H fun vs H1 => Rg1 vs H1 R) : iRng1 tr σ H R := h
theorem rd_r2 (h : tr σ H fun vs H1 => Rg2 vs H1 R) : iRng2 tr σ H R := h
theorem rd_iZ (h : tr σ H fun vs H1 => Zp K vs H1 R) : iZip K tr σ H R := h
theorem rd_itL (e : H p = some (.lst xs)) (h : R (Itl K p) H) : ItL K (.ref p) H R := ⟨p, rfl, ⟨_, SqL.of e⟩, h⟩
theorem rd_itT (e : H p = some (.tup xs)) (h : R (Itt K p) H) : ItT K (.ref p) H R := ⟨p, rfl, ⟨_, SqT.of e⟩, h⟩
theorem rd_rg1 (n : Nat) {j : Int} (e : j = (n : Int)) (hn : n ≤ 1000000) (h : R (Itr 0 n) H) : Rg1 [.int j] H R := ⟨j, rfl, by omega, by omega, by rw [e]; exact h⟩
theorem rd_rg2 (lo n : Nat) {i j : Int} (ei : i = (lo : Int)) (ej : j = ((lo + n : Nat) : Int)) (hn : lo + n ≤ 1000000) (h : R (Itr i n) H) : Rg2 [.int i, .int j] H R := ⟨i, j, rfl, ⟨by omega, by omega, by omega, by omega⟩, by
  rw [show (j - i).toNat = n by omega]; exact h⟩
theorem rd_zp (e : H p = some (.lst xs)) (f : H q = some (.lst ys)) (h : R (Itz K p q) H) : Zp K [.ref p, .ref q] H R := ⟨p, q, xs, ys, rfl, SqL.of e, SqL.of f, h⟩
/-! ### walks over what is tracked -/
theorem wkL : Walk (Itl K p) xs.length (fun H => H p = some (.lst xs)) (YAt xs) := walk_list.mono (fun _ h => SqL.of h) fun _ _ _ _ _ _ y => y
theorem wkT : Walk (Itt K p) xs.length (fun H => H p = some (.tup xs)) (YAt xs) := walk_tup.mono (fun _ h => SqT.of h) fun _ _ _ _ _ _ y => y
theorem wkR {lo : Int} : Walk (Itr lo n) n (fun _ => True) (YFn fun i => .int (lo + i)) := walk_range
theorem wkZ (hl : xs.length = ys.length) : Walk (Itz K p q) xs.length (fun H => H p = some (.lst xs) ∧ H q = some (.lst ys)) (YPair (fun i => xs[i]?) (fun i => ys[i]?)) :=
  (walk_zip (by omega)).mono (fun _ h => ⟨SqL.of h.1, SqL.of h.2⟩) fun _ _ _ _ _ _ y => y
/-- a for: a word for each turn -/
theorem for_w (w : Walk J n G Y) (Pv : Nat → L2.St → Hp → Prop) (h0 : Pv 0 σ H) (hG : ∀ i σ H, i ≤ n → Pv i σ H → G H)
    (hs : ∀ i x σ H H', i < n → Pv i σ H → Y i H x H' → g x σ H' fun σ2 H2 => tb { D with nx := Pv (i + 1), ct := Pv (i + 1), bk := D.nx } σ2 H2) (hd : ∀ σ H, Pv n σ H → D.nx σ H) : ForB J g tb D σ H :=
  for_it w Pv h0 hG hs hd
/-- a comprehension that makes objects alone: its items are vals -/
theorem lc_pure (w : Walk J n G Y) (vals : Nat → V) (hn : n ≤ 100000) (hG : ∀ H', Ex H H' → G H')
    (hs : ∀ i x H1 H2, i < n → Ex H H1 → Y i H1 x H2 → ∀ P : VK, (∀ H4, Ex H1 H4 → P (vals i) H4) → g x (wipe σ vs) H2 fun σ2 H3 => wipe σ2 vs = wipe σ vs ∧ te σ2 H3 P)
    (hd : ∀ D H', H D = none → Ex H H' → H' D = some (.lst ((List.range n).map vals)) → Q (.ref D) H') : LcB J g tYes te vs σ H Q := fun D hD =>
  lc_it w (fun i H' => Ex H H' ∧ H' D = some (.lst ((List.range i).map vals))) ⟨ex_new hD, upd_same⟩ (fun i H' _ h => hG H' h.1) (fun i x H1 H2 hi h y => by
    refine hs i x H1 H2 hi h.1 y _ fun H4 e4 => ⟨_, e4.at h.2, szl (by rw [List.length_map, List.length_range]; omega), ?_, ?_⟩
    · exact Xt.fresh (S := [D]) (Xt.trans h.1 e4) (xt_upd (by simp)) (by simp [hD])
    · rw [List.range_succ, List.map_append]; exact upd_same) fun H' h => hd D H' hD h.1 h.2
/-- .. with a test: the items are those of vals that are there -/
theorem lc_some (w : Walk J n G Y) (vals : Nat → Option V) (hn : n ≤ 100000) (hG : ∀ H', Ex H H' → G H')
    (hs : ∀ i x H1 H2, i < n → Ex H H1 → Y i H1 x H2 → ∀ (P : VK) (N : Hp → Prop), (∀ v H4, vals i = some v → Ex H1 H4 → P v H4) → (vals i = none → ∀ H4, Ex H1 H4 → N H4) →
      g x (wipe σ vs) H2 fun σ2 H3 => wipe σ2 vs = wipe σ vs ∧ tt σ2 H3 fun b H4 => if b = true then te σ2 H4 P else N H4)
    (hd : ∀ D H', H D = none → Ex H H' → H' D = some (.lst ((List.range n).filterMap vals)) → Q (.ref D) H') : LcB J g tt te vs σ H Q := fun D hD =>
  lc_it w (fun i H' => Ex H H' ∧ H' D = some (.lst ((List.range i).filterMap vals))) ⟨ex_new hD, upd_same⟩ (fun i H' _ h => hG H' h.1) (fun i x H1 H2 hi h y => by
    have hlen : ((List.range i).filterMap vals).length ≤ i := by
      have := List.length_filterMap_le vals (List.range i)
      rw [List.length_range] at this; exact this
    refine hs i x H1 H2 hi h.1 y _ _ (fun v H4 ev e4 => ⟨_, e4.at h.2, szl (by omega), ?_, ?_⟩) fun ev H4 e4 => ⟨Xt.trans h.1 e4, ?_⟩
    · exact Xt.fresh (S := [D]) (Xt.trans h.1 e4) (xt_upd (by simp)) (by simp [hD])
    · rw [List.range_succ, List.filterMap_append, List.filterMap_cons, ev]; exact upd_same
    · rw [List.range_succ, List.filterMap_append, List.filterMap_cons, ev]
      show H4 D = some (.lst (_ ++ []))
      rw [List.append_nil]; exact e4.at h.2) fun H' h => hd D H' hD h.1 h.2
/-- a comprehension whose element changes what S names: R keeps the books -/
theorem lc_eff (w : Walk J n G Y) (S : List Addr) (R : Nat → List V → Hp → Prop) (hS : ∀ a ∈ S, H a ≠ none) (hn : n ≤ 100000) (hG : ∀ i acc H', i ≤ n → Xt S H H' → R i acc H' → G H')
    (hR : ∀ i acc H1 H2 D, H D = none → R i acc H1 → Xt [D] H1 H2 → R i acc H2) (h0 : R 0 [] H)
    (hs : ∀ i x acc H1 H2, i < n → acc.length = i → Xt S H H1 → R i acc H1 → Y i H1 x H2 → ∀ P : VK, (∀ y H4, Xt S H1 H4 → R (i + 1) (acc ++ [y]) H4 → P y H4) → g x (wipe σ vs) H2 fun σ2 H3 => wipe σ2 vs = wipe σ vs ∧ te σ2 H3 P)
    (hd : ∀ D acc H', H D = none → acc.length = n → Xt S H H' → R n acc H' → H' D = some (.lst acc) → Q (.ref D) H') : LcB J g tYes te vs σ H Q := fun D hD => by
  have hDS : D ∉ S := fun z => hS D z hD
  refine lc_it w (fun i H' => ∃ acc : List V, acc.length = i ∧ Xt S H H' ∧ R i acc H' ∧ H' D = some (.lst acc)) ⟨[], rfl, Ex.xt (ex_new hD), hR 0 [] H _ D hD h0 (Ex.xt (ex_new hD)), upd_same⟩ (fun i H' hi h => ?_) (fun i x H1 H2 hi h y => ?_) fun H' h => ?_
  · obtain ⟨acc, _, e, r, _⟩ := h
    exact hG i acc H' hi e r
  · obtain ⟨acc, el, e, r, ed⟩ := h
    refine hs i x acc H1 H2 hi el e r y _ fun z H4 e4 r4 => ⟨acc, e4.at ed hDS, szl (by omega), acc ++ [z], by rw [List.length_append, el]; rfl, ?_, hR _ _ H4 _ D hD r4 (xt_upd (by simp)), upd_same⟩
    refine fun a o na ha => ?_
    have nd : a ≠ D := fun z => by rw [z, hD] at ha; cases ha
    rw [upd_ne nd]
    exact e4 a o na (e a o na ha)
  · obtain ⟨acc, el, e, r, ed⟩ := h
    exact hd D acc H' hD el e r ed
end
/-! ### tests that are told -/
theorem rd_T {A B : Prop} (h : A) : if true = true then A else B := h
theorem rd_F {A B : Prop} (h : B) : if false = true then A else B := h
theorem rd_nT {A B : Prop} (h : B) : if (!true) = true then A else B := h
theorem rd_nF {A B : Prop} (h : A) : if (!false) = true then A else B := h
theorem rd_dec {p : Prop} [Decidable p] {A B : Prop} (h1 : p → A) (h2 : ¬ p → B) : if decide p = true then A else B := if_dec h1 h2
theorem rd_ndec {p : Prop} [Decidable p] {A B : Prop} (h1 : ¬ p → A) (h2 : p → B) : if (!decide p) = true then A else B := if_ndec h1 h2
end Y
/-! zip over a tuple and a list: the turns of a comprehension's target (x, y) -/
namespace Y
open PySem PySem.Spec PyProof.Rows L2
section
variable {prog : Program} {w : World} {A : Around} {s : Shared}
/-- an iterator at it, known by St, gives x and is then known by Fi; it alone is changed -/
def Gives (prog : Program) (w : World) (A : Around) (it : Addr) (St Fi : Heap → Prop) (x : Value) : Prop :=
  ∀ (s0 : Shared) (P : Value → Shared → Prop) (E : Value → Shared → Prop), St s0.heap → (∀ g', Fi g' → Heap.SameBut it s0.heap g' → P x { s0 with heap := g' }) → wpAny (model prog w) A (Builtin.SmallTypes.nextOf (.ref it)) P E s0
theorem zipG_item {E : Value → Shared → Prop} {zz ti oo j1 j2 : Addr} {x y u v : Value} {S1 F1 S2 F2 : Heap → Prop} {Q : Value → Shared → Prop}
    (n1 : ti ≠ zz) (n2 : oo ≠ zz) (n3 : j1 ≠ zz) (n4 : j2 ≠ zz) (n5 : ti ≠ oo) (n6 : oo ≠ j1) (n7 : oo ≠ j2)
    (hz : IsZip s.heap zz ti oo .none) (ht : IsPair s.heap ti (.ref j1) (.ref j2)) (ho : IsPair s.heap oo u v) (g1 : Gives prog w A j1 S1 F1 x) (g2 : Gives prog w A j2 S2 F2 y)
    (st1 : ∀ h1, Heap.SameBut zz s.heap h1 → S1 h1) (st2 : ∀ h1 h2 h3, Heap.SameBut zz s.heap h1 → Heap.SameBut j1 h1 h2 → Heap.SameBut oo h2 h3 → S2 h3)
    (hQ : ∀ h2 h4 h', F1 h2 → F2 h4 → (∀ c ob, c ≠ zz → c ≠ oo → c ≠ j2 → h2.get? c = some ob → h'.get? c = some ob) → (∀ c ob, c ≠ zz → c ≠ oo → h4.get? c = some ob → h'.get? c = some ob) →
      IsZip h' zz ti oo (rawInt s.heap.objs.size) → IsPair h' oo x y → IsPair h' s.heap.objs.size x y → h'.objs.size = s.heap.objs.size + 1 →
      (∀ c ob, c ≠ zz → c ≠ oo → c ≠ j1 → c ≠ j2 → s.heap.get? c = some ob → h'.get? c = some ob) → Q (.ref s.heap.objs.size) { s with heap := h' }) :
    wpAny (model prog w) A (Builtin.«zip.__next__» ⟨[.ref zz], []⟩) (fun fin s' => ∃ r, fin = .done (.ret r) ∧ Q r s') E s := by
  show wpAny _ _ (field (.ref zz) 2 >>= _) _ E s
  refine wpAny_bind (wpAny_field hz rfl (x := .bool false) rfl ?_)
  show wpAny _ _ (field (.ref zz) 3 >>= _) _ E s
  refine wpAny_bind (wpAny_field hz rfl (x := .ref ti) rfl (wpAny_bind (wpAny_seqItems ht rfl ?_)))
  show wpAny _ _ (Builtin.SmallTypes.ownedTupleIsFree (.ref zz) >>= _) _ E s
  refine wpAny_bind ?_
  unfold Builtin.SmallTypes.ownedTupleIsFree
  refine wpAny_bind (wpAny_field hz rfl (x := .none) rfl (wpAny_pure ?_))
  simp only [if_true]
  refine wpAny_bind (wpAny_rule (wpAny_bind (wpAny_field hz rfl (x := .ref oo) rfl (wpAny_bind (wpAny_setField_rec hz (by simp) fun h1 z1 k1 => ?_)))))
  replace z1 : IsZip h1 zz ti oo .ellipsis := z1
  refine wpAny_bind ?_
  simp only [List.zipIdx_cons, List.zipIdx_nil, List.forIn_cons, List.forIn_nil]
  refine wpAny_bind (wpAny_bind (wpAny_onRaise ?_))
  show wpAny _ _ (Builtin.SmallTypes.nextOf (.ref j1) >>= _) _ _ _
  refine wpAny_bind (g1 _ _ _ (st1 h1 k1) fun h2 f2 k2 => wpAny_pure ?_)
  have o2 : IsPair h2 oo u v := k2.extBut _ _ n6 (k1.extBut _ _ n2 ho)
  refine wpAny_bind (wpAny_seqItems o2 rfl (wpAny_bind (wpAny_updateSeq_pair o2 fun h3 o3 k3 => ?_)))
  replace o3 : IsPair h3 oo x v := o3
  refine wpAny_bind (wpAny_letGo (wpAny_pure ?_))
  refine wpAny_bind (wpAny_bind (wpAny_onRaise ?_))
  show wpAny _ _ (Builtin.SmallTypes.nextOf (.ref j2) >>= _) _ _ _
  refine wpAny_bind (g2 _ _ _ (st2 h1 h2 h3 k1 k2 k3) fun h4 f4 k4 => wpAny_pure ?_)
  have o4 : IsPair h4 oo x v := k4.extBut _ _ n7 o3
  refine wpAny_bind (wpAny_seqItems o4 rfl (wpAny_bind (wpAny_updateSeq_pair o4 fun h5 o5 k5 => ?_)))
  replace o5 : IsPair h5 oo x y := o5
  refine wpAny_bind (wpAny_letGo (wpAny_pure (wpAny_pure (wpAny_bind (wpAny_seqItems o5 rfl (wpAny_bind (wpAny_newTuple ?_)))))))
  have es : h5.objs.size = s.heap.objs.size := by rw [k5.1, k4.1, k3.1, k2.1, k1.1]
  have z5 : IsZip h5 zz ti oo .ellipsis := k5.extBut _ _ n2.symm (k4.extBut _ _ n4.symm (k3.extBut _ _ n2.symm (k2.extBut _ _ n3.symm z1)))
  have lz : zz < h5.objs.size := Heap.lt_size z5
  show wpAny _ _ (Builtin.SmallTypes.ownedTupleHandOut (.ref zz) (.ref h5.objs.size) >>= _) _ E _
  refine wpAny_bind ?_
  unfold Builtin.SmallTypes.ownedTupleHandOut
  have z6 : IsZip (h5.push { cls := .type "tuple", data := .seq #[x, y] }) zz ti oo .ellipsis := Heap.get?_push_of_some _ z5
  refine wpAny_bind (wpAny_setField_rec z6 (by simp) fun h7 z7 k7 => ?_)
  replace z7 : IsZip h7 zz ti oo (rawInt h5.objs.size) := z7
  refine wpAny_setField_rec z7 (by simp) fun h8 z8 k8 => ?_
  replace z8 : IsZip h8 zz ti oo (rawInt h5.objs.size) := z8
  have up : ∀ c ob, c ≠ zz → h5.get? c = some ob → h8.get? c = some ob := fun c ob q e => k8.extBut _ _ q (k7.extBut _ _ q (Heap.get?_push_of_some _ e))
  have pn : IsPair h8 h5.objs.size x y := k8.extBut _ _ (Nat.ne_of_gt lz) (k7.extBut _ _ (Nat.ne_of_gt lz) (Heap.get?_push_size _ rfl))
  have sz8 : h8.objs.size = h5.objs.size + 1 := by rw [k8.1, k7.1, Heap.size_push]
  refine wpAny_pure ⟨_, rfl, ?_⟩
  show Q (.ref h5.objs.size) _
  rw [es] at z8 pn sz8 ⊢
  have up4 : ∀ c ob, c ≠ zz → c ≠ oo → h4.get? c = some ob → h8.get? c = some ob := fun c ob q1 q2 e => up c ob q1 (k5.extBut _ _ q2 e)
  have up2 : ∀ c ob, c ≠ zz → c ≠ oo → c ≠ j2 → h2.get? c = some ob → h8.get? c = some ob := fun c ob q1 q2 q3 e => up4 c ob q1 q2 (k4.extBut _ _ q3 (k3.extBut _ _ q2 e))
  exact hQ h2 h4 h8 f2 f4 up2 up4 z8 (up _ _ n2 o5) pn sz8 fun c ob q1 q2 q3 q4 e => up2 c ob q1 q2 q4 (k2.extBut _ _ q3 (k1.extBut _ _ q1 e))
/-- the first iterator is at its end -/
theorem zipG_end {E : Value → Shared → Prop} {zz ti oo j1 j2 : Addr} {u v : Value} {S1 : Heap → Prop} {Q : Fin → Shared → Prop} (n3 : j1 ≠ zz) (hz : IsZip s.heap zz ti oo .none) (ht : IsPair s.heap ti (.ref j1) (.ref j2)) (ho : IsPair s.heap oo u v)
    (g1 : ∀ (s0 : Shared) (P : Value → Shared → Prop) (E : Value → Shared → Prop), S1 s0.heap → (∀ g' e, Heap.ExtBut j1 s0.heap g' → (∃ o, g'.get? e = some o ∧ o.cls = .type "StopIteration") → E (.ref e) { s0 with heap := g' }) → wpAny (model prog w) A (Builtin.SmallTypes.nextOf (.ref j1)) P E s0)
    (st1 : ∀ h1, Heap.SameBut zz s.heap h1 → S1 h1)
    (hE : ∀ h' e, (∀ c ob, c ≠ zz → c ≠ j1 → s.heap.get? c = some ob → h'.get? c = some ob) → (∃ o, h'.get? e = some o ∧ o.cls = .type "StopIteration") → E (.ref e) { s with heap := h' }) :
    wpAny (model prog w) A (Builtin.«zip.__next__» ⟨[.ref zz], []⟩) Q E s := by
  show wpAny _ _ (field (.ref zz) 2 >>= _) _ E s
  refine wpAny_bind (wpAny_field hz rfl (x := .bool false) rfl ?_)
  show wpAny _ _ (field (.ref zz) 3 >>= _) _ E s
  refine wpAny_bind (wpAny_field hz rfl (x := .ref ti) rfl (wpAny_bind (wpAny_seqItems ht rfl ?_)))
  show wpAny _ _ (Builtin.SmallTypes.ownedTupleIsFree (.ref zz) >>= _) _ E s
  refine wpAny_bind ?_
  unfold Builtin.SmallTypes.ownedTupleIsFree
  refine wpAny_bind (wpAny_field hz rfl (x := .none) rfl (wpAny_pure ?_))
  simp only [if_true]
  refine wpAny_bind (wpAny_rule (wpAny_bind (wpAny_field hz rfl (x := .ref oo) rfl (wpAny_bind (wpAny_setField_rec hz (by simp) fun h1 z1 k1 => ?_)))))
  replace z1 : IsZip h1 zz ti oo .ellipsis := z1
  refine wpAny_bind ?_
  simp only [List.zipIdx_cons, List.zipIdx_nil, List.forIn_cons, List.forIn_nil]
  refine wpAny_bind (wpAny_bind (wpAny_onRaise ?_))
  show wpAny _ _ (Builtin.SmallTypes.nextOf (.ref j1) >>= _) _ _ _
  refine wpAny_bind (g1 _ _ _ (st1 h1 k1) fun h2 e k2 he => ?_)
  obtain ⟨oe, e1, e2⟩ := he
  have z2 : IsZip h2 zz ti oo .ellipsis := k2 _ _ n3.symm z1
  have ne : e ≠ zz := fun q => by
    subst q; rw [z2] at e1; cases e1; simp at e2
  exact wpAny_setField_rec z2 (by simp) fun h3 _ k3 => hE h3 e (fun c ob q1 q2 q => k3.extBut _ _ q1 (k2 _ _ q2 (k1.extBut _ _ q1 q))) ⟨oe, k3.extBut _ _ ne e1, e2⟩
end
/-! ### the walk over both -/
def ItM (K : PySem.W.Frag) (a b : Addr) : It :=
  ⟨fun i H => ∃ (xs ys : List V) (x y : V), SqT K H a xs ∧ SqL K H b ys ∧ xs[i]? = some x ∧ ys[i]? = some y,
   fun i H v H' => ∃ T x y, v = .ref T ∧ H T = none ∧ H' = upd H T (.tup [x, y]) ∧ (∀ l, SqT K H a l → l[i]? = some x) ∧ ∀ l, SqL K H b l → l[i]? = some y,
   fun i H => ∃ xs : List V, SqT K H a xs ∧ xs.length ≤ i⟩
def KnowM (zz ti oo j1 j2 a b : Addr) (i : Nat) (h : Heap) : Prop := IsZip h zz ti oo .none ∧ IsPair h ti (.ref j1) (.ref j2) ∧ (∃ u v, IsPair h oo u v) ∧ h.IsTupleIter j1 a i ∧ h.IsListIter j2 b i
theorem turnM {P : Program} {w : World} {K : PySem.W.Frag} {es : List Expr} {kk : Nat} {tp : Pos} {a b zz ti oo j1 j2 : Addr} (D : ZipApart zz ti oo j1 j2 a b) : Turn P w K (.Tuple es kk tp) (ItM K a b) [zz, ti, oo, j1, j2] zz (KnowM zz ti oo j1 j2 a b) where
  mem := List.mem_cons_self ..
  obj := fun i h st c hc => by
    obtain ⟨k1, k2, ⟨u, v, k3⟩, ⟨o4, k4, _, d4⟩, ⟨o5, k5, _, d5⟩⟩ := st
    simp only [List.mem_cons, List.not_mem_nil, or_false] at hc
    rcases hc with rfl | rfl | rfl | rfl | rfl
    · exact ⟨_, k1, fun _ q => nomatch q⟩
    · exact ⟨_, k2, fun _ q => nomatch q⟩
    · exact ⟨_, k3, fun _ q => nomatch q⟩
    · exact ⟨o4, k4, fun _ q => by rw [d4] at q; cases q⟩
    · exact ⟨o5, k5, fun _ q => by rw [d5] at q; cases q⟩
  keep := fun i h h' st k => by
    obtain ⟨k1, k2, ⟨u, v, k3⟩, k4, k5⟩ := st
    exact ⟨k _ (by simp) _ k1, k _ (by simp) _ k2, ⟨u, v, k _ (by simp) _ k3⟩, k4.at fun o q => k _ (by simp) o q, k5.at fun o q => k _ (by simp) o q⟩
  item := by
    rintro X rfl rfl rfl hc i pins s σ H E I hf st ⟨xs, ys, x, y, qx, qy, ex, ey⟩
    obtain ⟨k1, k2, ⟨u0, v0, k3⟩, k4, k5⟩ := st
    obtain ⟨us, ru, pu, _⟩ := I.tuple qx
    obtain ⟨vs, rv, pv', _⟩ := I.list qy
    obtain ⟨u, eu, rxu⟩ := ru.get ex
    obtain ⟨v, ev, ryv⟩ := rv.get ey
    have T0 : s.TypeIs (.ref zz) "zip" := ⟨_, k1, rfl⟩
    have L : zz < s.heap.objs.size := Heap.lt_size k1
    have pt : s.heap.IsTuple a us.toArray := pu
    unfold pyNext
    refine wpAny_bind (wpAny_attempt (wpAny_callSpecial?_slot (name := Str.ofString "__next__") T0 F.slot_zip_next (wpAny_call_entry F.slot_zip_next T0 F.entry_zip_next ?_ (F.args_zip_next_1 _))))
    refine zipG_item (S1 := fun h => h.IsTupleIter j1 a i ∧ h.IsTuple a us.toArray) (F1 := fun h => h.IsTupleIter j1 a (i + 1)) (S2 := fun h => h.IsListIter j2 b i ∧ h.IsList b vs.toArray) (F2 := fun h => h.IsListIter j2 b (i + 1)) (x := u) (y := v)
      D.TIz D.TOz D.i1z D.i2z D.TITO D.TOi1 D.TOi2 k1 k2 k3
      (fun s0 P E h k => RZ.nextOf_tuple_item h.1 h.2 (by simpa using eu) fun g' f e => k g' f e) (fun s0 P E h k => wpAny_nextOf_list_item h.1 h.2 (by simpa using ev) fun g' f e => k g' f e)
      (fun h1 e => ⟨k4.extBut e.extBut D.i1z, pt.extBut e.extBut D.l1z⟩)
      (fun h1 h2 h3 e1 e2 e3 => ⟨((k5.extBut e1.extBut D.i2z).extBut e2.extBut D.i12.symm).extBut e3.extBut D.TOi2.symm, ((pv'.isList.extBut e1.extBut D.l2z).extBut e2.extBut D.l2i1).extBut e3.extBut D.l2TO⟩)
      fun h2 h4 h' f1 f2 up2 up4 z' o' pn' sz' kp' => ?_
    refine wpAny_pure ⟨_, rfl, wpAny_letOwnedTupleGo_zip (s := { s with heap := h' }) z' fun h'' z'' sb => ?_⟩
    have ht2 : IsPair h'' s.heap.objs.size u v := (sb.2 _ (Nat.ne_of_gt L)).trans pn'
    have nw : ObjOk X.prog X.w (upd H s.heap.objs.size (.tup [x, y])) h'' s.heap.objs.size (.tup [x, y]) := ⟨(show (2 : Nat) ≤ sizeLine by decide), [u, v], .cons rxu (.cons ryv .nil), ⟨_, ht2, rfl, _, rfl⟩⟩
    have kall : ∀ c ob, c ∉ [zz, ti, oo, j1, j2] → s.heap.get? c = some ob → h''.get? c = some ob := fun c ob hn q => by
      simp only [List.mem_cons, List.not_mem_nil, or_false, not_or] at hn
      exact (sb.2 c hn.1).trans (kp' c ob hn.1 hn.2.2.1 hn.2.2.2.1 hn.2.2.2.2 q)
    have I1 := I.turnedNew (t' := s.toks) (T := s.heap.objs.size) kall hf (Nat.le_refl _) nw
    refine ⟨.ref s.heap.objs.size, _, I1, rfl, ⟨_, x, y, rfl, I.hok.fresh (Nat.le_refl _), rfl, fun l hl => by rw [I.tuple_inj hl qx]; exact ex, fun l hl => by rw [I.list_inj hl qy]; exact ey⟩, ⟨z'', ?_, ⟨u, v, ?_⟩, ?_, ?_⟩, fun c hcm => ?_⟩
    · exact (sb.2 _ D.TIz).trans (kp' _ _ D.TIz D.TITO D.TIi1 D.TIi2 k2)
    · exact (sb.2 _ D.TOz).trans o'
    · exact f1.at fun o q => (sb.2 _ D.i1z).trans (up2 _ o D.i1z D.TOi1.symm D.i12 q)
    · exact f2.at fun o q => (sb.2 _ D.i2z).trans (up4 _ o D.i2z D.TOi2.symm q)
    · have hlt : c < s.heap.objs.size := by
        simp only [List.mem_cons, List.not_mem_nil, or_false] at hcm
        obtain ⟨o4, e4, _⟩ := k4
        obtain ⟨o5, e5, _⟩ := k5
        rcases hcm with rfl | rfl | rfl | rfl | rfl
        · exact L
        · exact Heap.lt_size k2
        · exact Heap.lt_size k3
        · exact Heap.lt_size e4
        · exact Heap.lt_size e5
      rw [upd_ne (Nat.ne_of_lt hlt)]
      exact (hf c hcm).1
  done := by
    rintro X rfl rfl rfl hc i pins s σ H E I hf st ⟨xs, qx, hle⟩
    obtain ⟨k1, k2, ⟨u0, v0, k3⟩, k4, k5⟩ := st
    obtain ⟨us, ru, pu, _⟩ := I.tuple qx
    have pt : s.heap.IsTuple a us.toArray := pu
    have lu := ru.length
    have T0 : s.TypeIs (.ref zz) "zip" := ⟨_, k1, rfl⟩
    unfold pyNext
    refine wpAny_bind (wpAny_attempt (wpAny_callSpecial?_slot (name := Str.ofString "__next__") T0 F.slot_zip_next (wpAny_call_entry F.slot_zip_next T0 F.entry_zip_next ?_ (F.args_zip_next_1 _))))
    refine zipG_end (S1 := fun h => h.IsTupleIter j1 a i ∧ h.IsTuple a us.toArray) D.i1z k1 k2 k3 (fun s0 P E h k => RZ.nextOf_tuple_end (I.ok.hd hc) h.1 h.2 (by simp; omega) fun g' e q1 q2 => k g' e q1 q2)
      (fun h1 e => ⟨k4.extBut e.extBut D.i1z, pt.extBut e.extBut D.l1z⟩) fun h' e kp he => ?_
    obtain ⟨oe, e1, e2⟩ := he
    refine wpAny_bind (wpAny_isInstance (T := "StopIteration") (b := true) ⟨oe, e1, e2⟩ isSubtype_stop (wpAny_pure ⟨rfl, I.turnedL (t' := s.toks) (ch := [zz, ti, oo, j1, j2]) (fun c ob hn q => ?_) hf⟩))
    simp only [List.mem_cons, List.not_mem_nil, or_false, not_or] at hn
    exact kp c ob hn.1 hn.2.2.2.1 q
  self := fun A i s Q E st h => wpAny_pyIter_zip st.1 h
/-! ### made -/
abbrev oTi (a : Addr) : Obj := { cls := .type "tuple_iterator", data := .fields #[.ref a, .int 0 0] }
abbrev oLi (b : Addr) : Obj := { cls := .type "list_iterator", data := .fields #[.ref b, .int 0 0] }
abbrev oPr (u v : Value) : Obj := { cls := .type "tuple", data := .seq #[u, v] }
abbrev mA (h : Heap) (a : Addr) : Heap := h.push (oTi a)
abbrev mB (h : Heap) (a b : Addr) : Heap := (mA h a).push (oLi b)
abbrev mC (h : Heap) (a b : Addr) : Heap := (mB h a b).push (oPr (.ref h.objs.size) (.ref (mA h a).objs.size))
abbrev mD (h : Heap) (a b : Addr) : Heap := (mC h a b).push (oPr .none .none)
abbrev made (h : Heap) (a b : Addr) : Heap := (mD h a b).push { cls := .type "zip", data := .fields #[.none, .bool false, .bool false, .ref (mB h a b).objs.size, .ref (mC h a b).objs.size] }
theorem meetsM (a b : Addr) (xs ys : Array Value) : Meets (Builtin.«zip.__new__» ⟨[.type "zip", .ref a, .ref b], []⟩) (fun _ R s => s.heap.IsTuple a xs ∧ s.heap.IsList b ys ∧ R (.ok (.ret (.ref (mD s.heap a b).objs.size))) { s with heap := made s.heap a b }) :=
  .of_wp fun prog w A R s h => by
    obtain ⟨hp, gs, dr, tk, os⟩ := s
    obtain ⟨ha, hb, h⟩ := h
    have zs := sub_zip
    have q1 : Heap.IsTuple (Shared.heap ⟨hp, gs, dr, tk, os⟩) a xs := ha
    have q2 : Heap.IsList (Shared.heap ⟨hp.push { cls := .type "tuple_iterator", data := .fields #[.ref a, .int 0 0] }, gs, dr, tk, os⟩) b ys := Heap.IsList.push hb _
    wp_walk using wpAny_pyIter_tuple q1, wpAny_pyIter_list q2
    exact ⟨_, rfl, h⟩
theorem szA {h : Heap} {a : Addr} : (mA h a).objs.size = h.objs.size + 1 := Heap.size_push ..
theorem szB {h : Heap} {a b : Addr} : (mB h a b).objs.size = h.objs.size + 2 := by rw [Heap.size_push, szA]
theorem szC {h : Heap} {a b : Addr} : (mC h a b).objs.size = h.objs.size + 3 := by rw [Heap.size_push, szB]
theorem szD {h : Heap} {a b : Addr} : (mD h a b).objs.size = h.objs.size + 4 := by rw [Heap.size_push, szC]
section
variable {prog : Program} {w : World} {A : Around} {E : Value → Shared → Prop} {s : Shared}
theorem callM {a b : Addr} {xs ys : Array Value} {Q : Value → Shared → Prop} (ha : s.heap.IsTuple a xs) (hb : s.heap.IsList b ys) (h : Q (.ref (s.heap.objs.size + 4)) { s with heap := made s.heap a b }) :
    wpAny (model prog w) A (call (.type "zip") [.ref a, .ref b]) Q E s := by
  refine callType_new F.called_zip (by decide) (F.typeCall_zip_2 _ _) (F.newCall_zip_2 _ _) (fun obj => F.args_object_init_3 obj _ _) F.entry_zip_new (meetsM a b xs ys) ⟨ha, hb, ⟨_, Heap.get?_push_size _ rfl, rfl⟩, ?_⟩
  show Q (.ref (mD s.heap a b).objs.size) _
  rw [szD]
  exact h
end
def iZipM (K : PySem.W.Frag) (ta : TA) : TI := fun σ H R => ta σ H fun vs H1 => ∃ a b xs ys, vs = [.ref a, .ref b] ∧ SqT K H1 a xs ∧ SqL K H1 b ys ∧ R (ItM K a b) H1
theorem pi_zipM {X : Cx} {e e2 : Expr} {ta : TA} {p pos tp : Pos} {es : List Expr} {kk : Nat} (hg : Gl X "zip") (hm : X.mg "zip" = none) (ha : PA X [e, e2] ta)
    (hs : starEach [e, e2] X.env = (false, eval e X.env) :: starEach [e2] X.env := by rfl) (hpl : (backTo pos (starEach [e2] X.env)).any (·.1) = false := by rfl) :
    PI X (.Tuple es kk tp) (.Call (.Name "zip" p) [e, e2] [] pos) (iZipM X.K ta) := by
  refine ⟨fun ps s0 τ G R I h => ?_⟩
  refine Call_ (ld_blt I hg hm boot_zip (callWith_type1 (thn (ha.run pos ps s0 τ G _ I h) fun us s1 ⟨vs, H1, I1, r1, a, b, xs, ys, ev, qx, qy, q⟩ => ?_) hs hpl))
  subst ev
  cases r1 with
  | @cons _ u1 _ u2 r r1 =>
    cases r1 with
    | @cons _ u3 _ u4 r' r1 =>
      cases r1
      obtain rfl : u1 = Value.ref a := r
      obtain rfl : u3 = Value.ref b := r'
      obtain ⟨its, rv, p1, _⟩ := I1.tuple qx
      obtain ⟨its2, rv2, p2, _⟩ := I1.list qy
      have pt : s1.heap.IsTuple a its.toArray := p1
      have kept : ∀ c o, s1.heap.get? c = some o → (made s1.heap a b).get? c = some o := fun c o e => Heap.get?_push_of_some _ (Heap.get?_push_of_some _ (Heap.get?_push_of_some _ (Heap.get?_push_of_some _ (Heap.get?_push_of_some _ e))))
      have k0 : (made s1.heap a b).get? s1.heap.objs.size = some (oTi a) := Heap.get?_push_of_some _ (Heap.get?_push_of_some _ (Heap.get?_push_of_some _ (Heap.get?_push_of_some _ (Heap.get?_push_size _ rfl))))
      have k1 : (made s1.heap a b).get? (s1.heap.objs.size + 1) = some (oLi b) := Heap.get?_push_of_some _ (Heap.get?_push_of_some _ (Heap.get?_push_of_some _ (Heap.get?_push_at szA.symm rfl)))
      have k2 : (made s1.heap a b).get? (s1.heap.objs.size + 2) = some (oPr (.ref s1.heap.objs.size) (.ref (s1.heap.objs.size + 1))) := by
        rw [← szA (h := s1.heap) (a := a)]
        exact Heap.get?_push_of_some _ (Heap.get?_push_of_some _ (Heap.get?_push_at szB.symm rfl))
      have k3 : (made s1.heap a b).get? (s1.heap.objs.size + 3) = some (oPr .none .none) := Heap.get?_push_of_some _ (Heap.get?_push_at szC.symm rfl)
      have zz : IsZip (made s1.heap a b) (s1.heap.objs.size + 4) (s1.heap.objs.size + 2) (s1.heap.objs.size + 3) .none := by
        show (made s1.heap a b).get? (s1.heap.objs.size + 4) = _
        rw [← szB (h := s1.heap) (a := a) (b := b), ← szC (h := s1.heap) (a := a) (b := b), ← szD (h := s1.heap) (a := a) (b := b)]
        exact Heap.get?_push_size _ rfl
      refine callM pt p2.isList (wpAny_pyIter_zip zz ?_)
      have I2 : Inv X ps τ H1 { s1 with heap := made s1.heap a b } := I1.kept (t' := s1.toks) kept
      refine ⟨s1.heap.objs.size + 4, [s1.heap.objs.size + 4, s1.heap.objs.size + 2, s1.heap.objs.size + 3, s1.heap.objs.size, s1.heap.objs.size + 1], _, _, H1, rfl, I2,
        turnM (PySem.W.ktu_apart s1.heap.objs.size a b p1.lt p2.lt), ⟨zz, k2, ⟨_, _, k3⟩, ⟨_, k0, rfl, rfl⟩, ⟨_, k1, rfl, rfl⟩⟩, fun c hcm => ?_, q⟩
      have hle : s1.heap.objs.size ≤ c := by
        simp only [List.mem_cons, List.not_mem_nil, or_false] at hcm
        rcases hcm with rfl | rfl | rfl | rfl | rfl <;> first | exact Nat.le_add_right _ _ | exact Nat.le_refl _
      exact I1.fpOk hle (I1.hok.fresh hle)
theorem walkM {K : PySem.W.Frag} {a b : Addr} {xs ys : List V} (hl : xs.length = ys.length) : Walk (ItM K a b) xs.length (fun H => SqT K H a xs ∧ SqL K H b ys) (YPair (fun i => xs[i]?) (fun i => ys[i]?)) where
  goes := fun i H hi h => ⟨xs, ys, xs[i], ys[i], h.1, h.2, List.getElem?_eq_getElem hi, List.getElem?_eq_getElem (by omega)⟩
  stops := fun H h => ⟨xs, h.1, Nat.le_refl _⟩
  yields := fun i H v H' hi h y => by
    obtain ⟨T, x, z, e1, e2, e3, f1, f2⟩ := y
    exact ⟨T, x, z, e1, e2, e3, f1 xs h.1, f2 ys h.2⟩
end Y
/-! // of ints of any size -/
namespace Y
open PySem PySem.Spec PyProof.Rows L2
section
variable {X : Cx}
theorem op_fdivB (hs : X.base.NoSeer) (ht : X.prog.given.tree = none) (hst : X.stack = X.env :: X.outer) (hg : X.env.scope.isGenerator = false) (hco : X.env.scope.isCoroutine = false) (hd : X.A.depth + Builtin.pylongFrames < recursionLimit) :
    OpR X (binaryOp .FloorDiv) (rI (fun _ j => j ≠ 0) fun i j => .int (i.fdiv j)) := by
  intro pins s σ H x y v u Q I r1 r2 h
  obtain ⟨i, j, e1, e2, c, q⟩ := h
  subst e1; subst e2
  obtain ⟨t, rfl⟩ := r1
  obtain ⟨t', rfl⟩ := r2
  refine floordiv_int c ⟨.int _, H, I.tok _, ⟨_, rfl⟩, q⟩ (.inr (PySem.PylongRoom.of I.nolimit hd ?_))
  exact SeerAt.of (hs.keeps I.bk) ht (by rw [I.ok.frames, hst]) hg hco I.ok.blt I.ok.glob
end
end Y
/-! plain: sums, two tables inverse to each other, the remainder of a floor division -/
namespace Y
/-- f 0 + .. + f (n - 1) -/
def sm : Nat → (Nat → Int) → Int
  | 0, _ => 0
  | n + 1, f => sm n f + f n
theorem sm_list (f : Nat → Int) : ∀ n, ((List.range n).map f).sum = sm n f
  | 0 => rfl
  | n + 1 => by rw [List.range_succ, List.map_append, List.sum_append, sm_list f n]; simp [sm]
theorem sm_congr {f g : Nat → Int} : ∀ {n : Nat}, (∀ i, i < n → f i = g i) → sm n f = sm n g
  | 0, _ => rfl
  | n + 1, h => by
    show sm n f + f n = sm n g + g n
    rw [sm_congr fun i hi => h i (by omega), h n (by omega)]
theorem sm_zero {f : Nat → Int} {n : Nat} (h : ∀ i, i < n → f i = 0) : sm n f = 0 := by
  induction n with
  | zero => rfl
  | succ n ih => show sm n f + f n = 0; rw [ih fun i hi => h i (by omega), h n (by omega)]; rfl
theorem sm_add (f g : Nat → Int) : ∀ n, sm n (fun i => f i + g i) = sm n f + sm n g
  | 0 => rfl
  | n + 1 => by show sm n (fun i => f i + g i) + (f n + g n) = (sm n f + f n) + (sm n g + g n); rw [sm_add f g n]; omega
theorem sm_mul (c : Int) (f : Nat → Int) : ∀ n, sm n (fun i => c * f i) = c * sm n f
  | 0 => by show (0 : Int) = c * 0; rw [Int.mul_zero]
  | n + 1 => by show sm n _ + _ = c * (sm n f + f n); rw [sm_mul c f n, Int.mul_add]
theorem sm_swap (f : Nat → Nat → Int) (m : Nat) : ∀ n, sm n (fun i => sm m fun j => f i j) = sm m fun j => sm n fun i => f i j
  | 0 => by
    show (0 : Int) = sm m fun _ => 0
    rw [sm_zero fun _ _ => rfl]
  | n + 1 => by
    show sm n _ + sm m _ = _
    rw [sm_swap f m n, ← sm_add]
    rfl
/-- one place changed -/
theorem sm_upd {f g : Nat → Int} {s : Nat} (h : ∀ i, i ≠ s → g i = f i) : ∀ {n : Nat}, s < n → sm n g = sm n f + (g s - f s)
  | 0, hs => by omega
  | n + 1, hs => by
    show sm n g + g n = sm n f + f n + (g s - f s)
    by_cases e : s = n
    · subst e
      rw [sm_congr fun i hi => h i (by omega)]
      omega
    · rw [sm_upd h (n := n) (by omega), h n (Ne.symm e)]
      omega
theorem sm_upd2 {f g : Nat → Int} {s t n : Nat} (h : ∀ i, i ≠ s → i ≠ t → g i = f i) (st : s ≠ t) (hs : s < n) (ht : t < n) : sm n g = sm n f + (g s - f s) + (g t - f t) := by
  have h1 : sm n (fun i => if i = s then g s else f i) = sm n f + ((if s = s then g s else f s) - f s) := sm_upd (g := fun i => if i = s then g s else f i) (fun i hi => if_neg hi) hs
  have h2 : sm n g = sm n (fun i => if i = s then g s else f i) + (g t - (if t = s then g s else f t)) := sm_upd (fun i hi => by
    by_cases e : i = s
    · rw [e]; exact (if_pos rfl).symm
    · rw [h i e hi]; exact (if_neg e).symm) ht
  rw [if_pos rfl] at h1
  rw [if_neg (Ne.symm st)] at h2
  rw [h2, h1]
theorem sm_one {f : Nat → Int} {s n : Nat} (hs : s < n) (h : ∀ i, i ≠ s → f i = 0) : sm n f = f s := by
  have q := sm_upd (f := fun _ => 0) (g := f) (s := s) (fun i hi => h i hi) hs
  rw [sm_zero (fun _ _ => rfl)] at q
  omega
abbrev dt (n : Nat) (u v : Nat → Int) : Int := sm n fun j => u j * v j
theorem dt_lin {n : Nat} {u a b : Nat → Int} {t : Int} : dt n u (fun j => a j + t * b j) = dt n u a + t * dt n u b := by
  unfold dt
  rw [← sm_mul, ← sm_add]
  exact sm_congr fun i _ => by rw [Int.mul_add, Int.mul_left_comm]
theorem dt_neg {n : Nat} {u a : Nat → Int} : dt n u (fun j => - a j) = - dt n u a := by
  have q := sm_mul (-1) (fun j => u j * a j) n
  unfold dt
  rw [show -sm n (fun j => u j * a j) = -1 * sm n (fun j => u j * a j) by omega, ← q]
  exact sm_congr fun i _ => by rw [Int.mul_neg]; omega
theorem dt_congr {n : Nat} {u v a b : Nat → Int} (h1 : ∀ j, j < n → u j = v j) (h2 : ∀ j, j < n → a j = b j) : dt n u a = dt n v b := sm_congr fun j hj => by rw [h1 j hj, h2 j hj]
def dlt (i j : Nat) : Int := if j = i then 1 else 0
theorem dlt_self {i : Nat} : dlt i i = 1 := if_pos rfl
theorem dlt_ne {i j : Nat} (h : i ≠ j) : dlt i j = 0 := if_neg (Ne.symm h)
/-- row i gets t times row k -/
def addR (M : Nat → Nat → Int) (i k : Nat) (t : Int) : Nat → Nat → Int := fun a j => if a = i then M i j + t * M k j else M a j
theorem addR_at {M : Nat → Nat → Int} {i k : Nat} {t : Int} : addR M i k t i = fun j => M i j + t * M k j := by funext j; exact if_pos rfl
theorem addR_ne {M : Nat → Nat → Int} {i k a : Nat} {t : Int} (h : a ≠ i) : addR M i k t a = M a := by funext j; exact if_neg h
/-- the tables are inverse to each other -/
structure Inv2 (n : Nat) (L C : Nat → Nat → Int) : Prop where
  a : ∀ i j, i < n → j < n → dt n (L i) (C j) = dlt i j
  b : ∀ i k, i < n → k < n → (sm n fun j => L j i * C j k) = dlt i k
theorem inv_unit (n : Nat) : Inv2 n dlt dlt := ⟨fun i j hi hj => by
    show sm n (fun k => dlt i k * dlt j k) = _
    rw [sm_one hi fun k hk => by rw [dlt_ne (Ne.symm hk), Int.zero_mul], dlt_self, Int.one_mul]
    unfold dlt
    by_cases e : i = j
    · rw [if_pos e, if_pos e.symm]
    · rw [if_neg e, if_neg (Ne.symm e)], fun i k hi hk => by
    rw [sm_one hi fun j hj => by rw [dlt_ne hj, Int.zero_mul], dlt_self, Int.one_mul]⟩
theorem Inv2.congr {n : Nat} {L C L' C' : Nat → Nat → Int} (v : Inv2 n L C) (h1 : ∀ i, i < n → ∀ j, j < n → L' i j = L i j) (h2 : ∀ i, i < n → ∀ j, j < n → C' i j = C i j) : Inv2 n L' C' :=
  ⟨fun i j hi hj => (dt_congr (h1 i hi) (h2 j hj)).trans (v.a i j hi hj), fun i k hi hk => (sm_congr fun j hj => by rw [h1 j hj i hi, h2 j hj k hk]).trans (v.b i k hi hk)⟩
theorem Inv2.take {n : Nat} {L C : Nat → Nat → Int} {s t : Nat} (v : Inv2 n L C) (x : Int) (hs : s < n) (ht : t < n) (st : s ≠ t) : Inv2 n (addR L s t x) (addR C t s (-x)) := by
  have comm : ∀ a b : Nat → Int, dt n a b = dt n b a := fun a b => sm_congr fun j _ => Int.mul_comm _ _
  refine ⟨fun i j hi hj => ?_, fun i k hi hk => ?_⟩
  · have key : ∀ u : Nat → Int, dt n u (addR C t s (-x) j) = dt n u (C j) + (if j = t then -x * dt n u (C s) else 0) := fun u => by
      by_cases e : j = t
      · rw [e, addR_at, if_pos rfl]; exact dt_lin
      · rw [addR_ne e, if_neg e]; omega
    by_cases ei : i = s
    · rw [ei, addR_at, comm, dt_lin, comm _ (L s), comm _ (L t), key, key, v.a s j hs hj, v.a t j ht hj, v.a s s hs hs, v.a t s ht hs, dlt_self, dlt_ne (Ne.symm st)]
      by_cases e : j = t
      · rw [if_pos e, if_pos e, e, dlt_ne st, dlt_self]; omega
      · rw [if_neg e, if_neg e, dlt_ne (Ne.symm e)]; omega
    · rw [addR_ne ei, key, v.a i j hi hj, v.a i s hi hs, dlt_ne ei]
      by_cases e : j = t
      · rw [if_pos e]; omega
      · rw [if_neg e]; omega
  · rw [sm_upd2 (f := fun j => L j i * C j k) (g := fun j => addR L s t x j i * addR C t s (-x) j k) (s := s) (t := t) (fun j h1 h2 => by rw [addR_ne h1, addR_ne h2]) st hs ht, v.b i k hi hk]
    rw [addR_at, addR_ne (Ne.symm st), addR_ne st, addR_at]
    have e1 : (L s i + x * L t i) * C s k = L s i * C s k + x * (L t i * C s k) := by rw [Int.add_mul, Int.mul_assoc]
    have e2 : L t i * (C t k + -x * C s k) = L t i * C t k - x * (L t i * C s k) := by rw [Int.mul_add, Int.mul_left_comm, Int.neg_mul]; omega
    show dlt i k + ((L s i + x * L t i) * C s k - L s i * C s k) + (L t i * (C t k + -x * C s k) - L t i * C t k) = dlt i k
    rw [e1, e2]; omega
/-- rows a and b change places -/
def swR (M : Nat → Nat → Int) (a b : Nat) : Nat → Nat → Int := fun i => if i = b then M a else if i = a then M b else M i
theorem swR_b {M : Nat → Nat → Int} {a b : Nat} : swR M a b b = M a := if_pos rfl
theorem swR_a {M : Nat → Nat → Int} {a b : Nat} : swR M a b a = M b := by
  unfold swR
  split
  · rename_i h; rw [h]
  · rw [if_pos rfl]
theorem swR_o {M : Nat → Nat → Int} {a b i : Nat} (h1 : i ≠ a) (h2 : i ≠ b) : swR M a b i = M i := by unfold swR; rw [if_neg h2, if_neg h1]
theorem swR_same {M : Nat → Nat → Int} {a : Nat} : swR M a a = M := by
  funext i
  unfold swR
  by_cases h : i = a
  · rw [if_pos h, h]
  · rw [if_neg h, if_neg h]
theorem Inv2.swap {n : Nat} {L C : Nat → Nat → Int} {s t : Nat} (v : Inv2 n L C) (hs : s < n) (ht : t < n) : Inv2 n (swR L s t) (swR C s t) := by
  by_cases st : s = t
  · subst st; rw [swR_same, swR_same]; exact v
  have at_ : ∀ i, i < n → ∃ i', i' < n ∧ (∀ M : Nat → Nat → Int, swR M s t i = M i') ∧ (i' = if i = t then s else if i = s then t else i) := fun i hi => by
    by_cases e1 : i = t
    · exact ⟨s, hs, fun M => by rw [e1]; exact swR_b, (if_pos e1).symm⟩
    · by_cases e2 : i = s
      · exact ⟨t, ht, fun M => by rw [e2]; exact swR_a, by rw [if_neg e1, if_pos e2]⟩
      · exact ⟨i, hi, fun M => swR_o e2 e1, by rw [if_neg e1, if_neg e2]⟩
  refine ⟨fun i j hi hj => ?_, fun i k hi hk => ?_⟩
  · obtain ⟨i', hi', ei, fi⟩ := at_ i hi
    obtain ⟨j', hj', ej, fj⟩ := at_ j hj
    rw [ei, ej, v.a i' j' hi' hj']
    unfold dlt
    have : (j' = i') ↔ (j = i) := by
      subst fi; subst fj
      split <;> split <;> (try split) <;> (try split) <;> omega
    by_cases e : j = i
    · rw [if_pos e, if_pos (this.mpr e)]
    · rw [if_neg e, if_neg (fun z => e (this.mp z))]
  · rw [sm_upd2 (f := fun j => L j i * C j k) (g := fun j => swR L s t j i * swR C s t j k) (s := s) (t := t) (fun j h1 h2 => by rw [swR_o h1 h2, swR_o h1 h2]) st hs ht, v.b i k hi hk]
    rw [swR_a, swR_a, swR_b, swR_b]
    omega
def ngR (M : Nat → Nat → Int) (a : Nat) : Nat → Nat → Int := fun i j => if i = a then - M a j else M i j
theorem ngR_at {M : Nat → Nat → Int} {a : Nat} : ngR M a a = fun j => - M a j := by funext j; exact if_pos rfl
theorem ngR_ne {M : Nat → Nat → Int} {a i : Nat} (h : i ≠ a) : ngR M a i = M i := by funext j; exact if_neg h
theorem Inv2.neg {n : Nat} {L C : Nat → Nat → Int} {s : Nat} (v : Inv2 n L C) (hs : s < n) : Inv2 n (ngR L s) (ngR C s) := by
  have comm : ∀ a b : Nat → Int, dt n a b = dt n b a := fun a b => sm_congr fun j _ => Int.mul_comm _ _
  refine ⟨fun i j hi hj => ?_, fun i k hi hk => ?_⟩
  · by_cases ei : i = s <;> by_cases ej : j = s
    · subst ei; subst ej; rw [ngR_at, ngR_at, dt_neg, comm, dt_neg, comm, v.a _ _ hi hi]; omega
    · subst ei; rw [ngR_at, ngR_ne ej, comm, dt_neg, comm, v.a _ _ hi hj, dlt_ne (Ne.symm ej)]; rfl
    · subst ej; rw [ngR_at, ngR_ne ei, dt_neg, v.a _ _ hi hj, dlt_ne ei]; rfl
    · rw [ngR_ne ei, ngR_ne ej, v.a _ _ hi hj]
  · rw [← v.b i k hi hk]
    refine sm_congr fun j _ => ?_
    by_cases e : j = s
    · subst e; rw [ngR_at, ngR_at]; show - L j i * - C j k = _; rw [Int.neg_mul_neg]
    · rw [ngR_ne e, ngR_ne e]
/-! ### floor division -/
theorem fd_pos {a b : Int} (h : 0 < b) : 0 ≤ a - a.fdiv b * b ∧ a - a.fdiv b * b < b := by
  have e : a.fdiv b = a / b := Int.fdiv_eq_ediv_of_nonneg a (Int.le_of_lt h)
  have h1 := Int.emod_nonneg a (Int.ne_of_gt h)
  have h2 := Int.emod_lt_of_pos a h
  have h3 := Int.emod_add_mul_ediv a b
  rw [e, Int.mul_comm]
  omega
theorem fd_neg {a b : Int} (h : b < 0) : b < a - a.fdiv b * b ∧ a - a.fdiv b * b ≤ 0 := by
  have e : a.fdiv b = (-a).fdiv (-b) := by rw [Int.neg_fdiv_neg]
  have q := fd_pos (a := -a) (b := -b) (by omega)
  rw [← e, Int.mul_neg] at q
  omega
/-- the remainder: less than the divisor, of its sign -/
theorem fd_rem {a b : Int} (h : b ≠ 0) : (a - a.fdiv b * b).natAbs < b.natAbs ∧ (a - a.fdiv b * b ≠ 0 → (0 < a - a.fdiv b * b ↔ 0 < b)) := by
  rcases Int.lt_or_gt_of_ne h with q | q
  · have := fd_neg (a := a) q; constructor <;> omega
  · have := fd_pos (a := a) q; constructor <;> omega
theorem fd_quo {a b : Int} (h : b ≠ 0) : (a.fdiv b).natAbs * b.natAbs ≤ a.natAbs + b.natAbs := by
  have r := (fd_rem (a := a) h).1
  rw [← Int.natAbs_mul]
  omega
theorem fd_half {a b : Int} (h : b ≠ 0) (hab : b.natAbs ≤ a.natAbs) (hs : 0 < a ↔ 0 < b) (hr : a - a.fdiv b * b ≠ 0) : 2 * (a - a.fdiv b * b).natAbs < a.natAbs := by
  have key : ∀ a b : Int, 0 < b → b ≤ a → a - a.fdiv b * b ≠ 0 → 2 * (a - a.fdiv b * b) < a := fun a b hb hab _ => by
    have q := fd_pos (a := a) hb
    have e : a.fdiv b = a / b := Int.fdiv_eq_ediv_of_nonneg a (Int.le_of_lt hb)
    have h1 : 1 ≤ a.fdiv b := by
      rw [e]
      exact (Int.le_ediv_iff_mul_le hb).mpr (by omega)
    have h2 : 1 * b ≤ a.fdiv b * b := Int.mul_le_mul_of_nonneg_right h1 (by omega)
    omega
  rcases Int.lt_or_gt_of_ne h with q | q
  · have e : a.fdiv b = (-a).fdiv (-b) := by rw [Int.neg_fdiv_neg]
    have q1 := key (-a) (-b) (by omega) (by omega) (by rw [← e, Int.mul_neg]; omega)
    have q2 := fd_neg (a := a) q
    rw [← e, Int.mul_neg] at q1
    omega
  · have q1 := key a b (by omega) (by omega) hr
    have q2 := fd_pos (a := a) q
    omega
end Y
/-! rows as functions, while, pairs -/
namespace Y
open PySem PySem.Spec PyProof.Rows L2
/-- the list of f 0 .. f (n - 1) -/
abbrev tab (n : Nat) (f : Nat → V) : List V := (List.range n).map f
abbrev vl (n : Nat) (u : Nat → Int) : List V := tab n fun j => .int (u j)
theorem tab_len {n : Nat} {f : Nat → V} : (tab n f).length = n := by rw [List.length_map, List.length_range]
theorem tab_get {n : Nat} {f : Nat → V} {i : Nat} (h : i < n) : (tab n f)[i]? = some (f i) := by rw [List.getElem?_map, List.getElem?_range h]; rfl
theorem tab_at {n : Nat} {f : Nat → V} {i : Nat} {x : V} (h : (tab n f)[i]? = some x) : i < n ∧ x = f i := by
  by_cases hi : i < n
  · rw [tab_get hi] at h; cases h; exact ⟨hi, rfl⟩
  · rw [List.getElem?_eq_none (by rw [tab_len]; omega)] at h; cases h
theorem tab_ext {n : Nat} {f g : Nat → V} (h : ∀ i, i < n → f i = g i) : tab n f = tab n g := List.map_congr_left fun i hi => h i (List.mem_range.mp hi)
theorem tab_set {n : Nat} {f : Nat → V} {i : Nat} {x : V} : (tab n f).set i x = tab n fun k => if k = i then x else f k := by
  refine List.ext_getElem? fun k => ?_
  by_cases hk : k < n
  · rw [List.getElem?_set, tab_get hk, tab_get hk, tab_len]
    by_cases e : i = k
    · subst e; rw [if_pos rfl, if_pos hk, if_pos rfl]
    · rw [if_neg e, if_neg (Ne.symm e)]
  · rw [List.getElem?_eq_none (by rw [List.length_set, tab_len]; omega), List.getElem?_eq_none (by rw [tab_len]; omega)]
theorem tab_snoc {n : Nat} {f : Nat → V} : tab n f ++ [f n] = tab (n + 1) f := by
  show _ = (List.range (n + 1)).map f
  rw [List.range_succ, List.map_append]; rfl
theorem tab_of (xs : List V) : xs = tab xs.length fun i => xs.getD i .non := by
  refine List.ext_getElem? fun k => ?_
  by_cases hk : k < xs.length
  · rw [tab_get hk, List.getElem?_eq_getElem hk, List.getD_eq_getElem?_getD, List.getElem?_eq_getElem hk]; rfl
  · rw [List.getElem?_eq_none (by omega), List.getElem?_eq_none (by rw [tab_len]; omega)]
theorem vl_ints {n : Nat} {u : Nat → Int} : vl n u = ((List.range n).map u).map V.int := by rw [List.map_map]; rfl
section
variable {K : PySem.W.Frag} {σ : L2.St} {H : Hp} {Q : VK} {D : Ends} {tc : TT} {tb : TS} {tr : TA} {R : It → Hp → Prop} {g1 g2 : TG} {T p q : Addr} {x z : V} {G : L2.St → Hp → Prop} {xs ys : List V}
theorem rd_gpair (e : H T = some (.tup [x, z])) (h : g1 x σ H fun σ1 H1 => g2 z σ1 H1 G) : gTup K 2 (gCons g1 (gCons g2 gNil)) (.ref T) σ H G :=
  ⟨T, [x, z], rfl, SqT.of e, rfl, x, [z], rfl, by
    show g1 x σ H fun σ1 H1 => gCons g2 gNil [z] σ1 H1 G
    have e2 : (fun σ1 H1 => gCons g2 gNil [z] σ1 H1 G) = fun σ1 H1 => g2 z σ1 H1 G := by
      funext σ1 H1
      refine propext ⟨fun k => ?_, fun k => ⟨z, [], rfl, ?_⟩⟩
      · obtain ⟨v, vr, ev, k⟩ := k
        cases ev
        have e3 : (fun σ2 H2 => gNil [] σ2 H2 G) = G := by funext σ2 H2; exact propext ⟨fun k => k.2, fun k => ⟨rfl, k⟩⟩
        have k' : g2 z σ1 H1 fun σ2 H2 => gNil [] σ2 H2 G := k
        rw [e3] at k'
        exact k'
      · show g2 z σ1 H1 fun σ2 H2 => gNil [] σ2 H2 G
        have e3 : (fun σ2 H2 => gNil [] σ2 H2 G) = G := by funext σ2 H2; exact propext ⟨fun k => k.2, fun k => ⟨rfl, k⟩⟩
        rw [e3]
        exact k
    rw [e2]
    exact h⟩
def WhB (c : TT) (tb : TS) (D : Ends) (σ : L2.St) (H : Hp) : Prop := tWhile c tb D σ H
theorem rd_while (h : WhB tc tb D σ H) : tWhile tc tb D σ H := h
theorem while_w (W : Nat → L2.St → Hp → Prop) (m : Nat) (h0 : W m σ H)
    (hs : ∀ m σ H, W m σ H → tc σ H fun b H1 => if b = true then ∃ N : L2.St → Hp → Prop, (∀ σ' H', N σ' H' → ∃ m', m' < m ∧ W m' σ' H') ∧ tb { D with nx := N, ct := N, bk := D.nx } σ H1 else D.nx σ H1) : WhB tc tb D σ H := ⟨W, ⟨m, h0⟩, hs⟩
theorem while_in {W : Nat → L2.St → Hp → Prop} {m : Nat} (h : tb { D with nx := fun σ' H' => ∃ m', m' < m ∧ W m' σ' H', ct := fun σ' H' => ∃ m', m' < m ∧ W m' σ' H', bk := D.nx } σ H) :
    ∃ N : L2.St → Hp → Prop, (∀ σ' H', N σ' H' → ∃ m', m' < m ∧ W m' σ' H') ∧ tb { D with nx := N, ct := N, bk := D.nx } σ H := ⟨_, fun _ _ h => h, h⟩
/-- zip of a tuple and a list -/
def ZpM (K : PySem.W.Frag) (vs : List V) (H : Hp) (R : It → Hp → Prop) : Prop := ∃ a b xs ys, vs = [.ref a, .ref b] ∧ SqT K H a xs ∧ SqL K H b ys ∧ R (ItM K a b) H
theorem rd_iZM (h : tr σ H fun vs H1 => ZpM K vs H1 R) : iZipM K tr σ H R := h
theorem rd_zpM (e : H p = some (.tup xs)) (f : H q = some (.lst ys)) (h : R (ItM K p q) H) : ZpM K [.ref p, .ref q] H R := ⟨p, q, xs, ys, rfl, SqT.of e, SqL.of f, h⟩
theorem wkM (hl : xs.length = ys.length) : Walk (ItM K p q) xs.length (fun H => H p = some (.tup xs) ∧ H q = some (.lst ys)) (YPair (fun i => xs[i]?) (fun i => ys[i]?)) :=
  (walkM hl).mono (fun _ h => ⟨SqT.of h.1, SqL.of h.2⟩) fun _ _ _ _ _ _ y => y
/-- the walks over rows told by functions -/
theorem wkMt {n : Nat} {f g : Nat → V} : Walk (ItM K p q) n (fun H => H p = some (.tup (tab n f)) ∧ H q = some (.lst (tab n g))) (YPair (fun i => some (f i)) fun i => some (g i)) := by
  have w := wkM (K := K) (p := p) (q := q) (xs := tab n f) (ys := tab n g) (by rw [tab_len, tab_len])
  rw [tab_len] at w
  exact w.mono (fun _ h => h) fun i H x H' hi _ y => by
    obtain ⟨T, a, b, e1, e2, e3, e4, e5⟩ := y
    exact ⟨T, a, b, e1, e2, e3, (tab_get hi).symm.trans e4, (tab_get hi).symm.trans e5⟩
theorem wkZt {n : Nat} {f g : Nat → V} : Walk (Itz K p q) n (fun H => H p = some (.lst (tab n f)) ∧ H q = some (.lst (tab n g))) (YPair (fun i => some (f i)) fun i => some (g i)) := by
  have w := wkZ (K := K) (p := p) (q := q) (xs := tab n f) (ys := tab n g) (by rw [tab_len, tab_len])
  rw [tab_len] at w
  exact w.mono (fun _ h => h) fun i H x H' hi _ y => by
    obtain ⟨T, a, b, e1, e2, e3, e4, e5⟩ := y
    exact ⟨T, a, b, e1, e2, e3, (tab_get hi).symm.trans e4, (tab_get hi).symm.trans e5⟩
theorem wkLt {n : Nat} {f : Nat → V} : Walk (Itl K p) n (fun H => H p = some (.lst (tab n f))) (YFn f) := by
  have w := wkL (K := K) (p := p) (xs := tab n f)
  rw [tab_len] at w
  exact w.mono (fun _ h => h) fun i H x H' hi _ y => ⟨y.1, (tab_at y.2).2⟩
theorem wkTt {n : Nat} {f : Nat → V} : Walk (Itt K p) n (fun H => H p = some (.tup (tab n f))) (YFn f) := by
  have w := wkT (K := K) (p := p) (xs := tab n f)
  rw [tab_len] at w
  exact w.mono (fun _ h => h) fun i H x H' hi _ y => ⟨y.1, (tab_at y.2).2⟩
theorem rd_lenLt {n : Nat} {f : Nat → V} (e : H p = some (.lst (tab n f))) (h : Q (.int n) H) : rLen K [.ref p] H Q := rd_lenL e (by rw [tab_len]; exact h)
theorem rd_lenTt {n : Nat} {f : Nat → V} (e : H p = some (.tup (tab n f))) (h : Q (.int n) H) : rLen K [.ref p] H Q := rd_lenT e (by rw [tab_len]; exact h)
theorem rd_ixLt {n : Nat} {f : Nat → V} {i : Int} (j : Nat) (e : H p = some (.lst (tab n f))) (ei : i = (j : Int)) (hj : j < n) (h : Q (f j) H) : rIxL K (.ref p) (.int i) H Q := rd_ixLn j e ei (tab_get hj) h
theorem rd_ixTt {n : Nat} {f : Nat → V} {i : Int} (j : Nat) (e : H p = some (.tup (tab n f))) (ei : i = (j : Int)) (hj : j < n) (h : Q (f j) H) : rIxT K (.ref p) (.int i) H Q := rd_ixTn j e ei (tab_get hj) h
theorem rd_setLt {n : Nat} {f : Nat → V} {i : Int} (j : Nat) {v : V} {q : Hp → Prop} (e : H p = some (.lst (tab n f))) (ei : i = (j : Int)) (hj : j < n) (h : ∀ H2, Xt [p] H H2 → H2 p = some (.lst (tab n fun k => if k = j then v else f k)) → q H2) : rSetL (.ref p) (.int i) v H q :=
  rd_setL j e ei (by rw [tab_len]; exact hj) fun H2 x y => h H2 x (by rw [tab_set] at y; exact y)
theorem room_pyl {k : Nat} {A : Around} (r : Room k A) (h : 40 ≤ k) : A.depth + Builtin.pylongFrames < recursionLimit := by
  have := r.dp
  show A.depth + 100 < _
  omega
end
end Y
/-! an own exception over ValueError whose maker begins with super().__init__(one) -/
namespace Y
open PySem PySem.Spec PyProof.Rows L2 NdefX
abbrev cl1 (cc : Addr) : List (Str × Addr) := [("__class__", cc)]
def cellF (name qual : Str) (params : Arguments) (body : List Stmt) (scope : Scope) (cc cda : Addr) : NF := ⟨name, qual, params, body, scope, cl1 cc, cda⟩
/-- what the written part says of the maker at f, of the class C -/
structure SupK (P : Program) (K : PySem.W.Frag) (mg : Str → Option Value) (C f cc cda : Addr) (me : Str) (F : NF) (fd : FuncData) : Prop where
  fun_ : ∃ (oc : Value) (od : Option Addr) (osl : Array (Option Value)) (dV kV doc pm ct : Value) (an : Option Addr), fd = PySem.W.fnX F.name F.qual F.params F.body F.scope (cl1 cc) dV kV doc pm an (.ref cda) ct ∧ K.lookup f = some ⟨oc, od, .func fd, osl⟩
  code : PySem.W.codeIn K (.ref cda) F.qual = true
  file : ∃ (cl : Value) (dd : Option Addr) (vs : Array Value) (sl : Array (Option Value)) (nm : Str) (tf : Tok), K.lookup cda = some ⟨cl, dd, .fields vs, sl⟩ ∧ vs[2]? = some (.str nm tf) ∧ ((P.main.file : Str) == nm) = true
  cell : ∃ (cl : Value) (dd : Option Addr) (sl : Array (Option Value)), K.lookup cc = some ⟨cl, dd, .cell (some (.ref C)), sl⟩
  cls : ∃ cd, PySem.W.clsIn K C = some cd
  self : PySem.W.mroIn K C (.ref C) = some true
  ost : PySem.W.nsIn K cStatics "thirdparty.any" = some none
  up : PySem.W.ks_superIn K C C "__init__" = some (some (.builtin "ValueError.__init__"))
  ve : PySem.W.subIn K (.ref C) (.type "ValueError") = some true
  exc : OexC K C
  nosup : mg "super" = none
  top : (P.main.scope.names.lookup ("super" : Str)).isSome = false
  head : ∃ ar : Arg, (F.params.posonlyargs ++ F.params.args).head? = some ar ∧ ar.arg = me
  ks : F.scope.names.lookup ("super" : Str) = some .globalImplicit
  kc : F.scope.names.lookup ("__class__" : Str) = some .free
theorem boot_super : bootBuiltins "super" = some (.type "super") := by decide +kernel
section
variable {CX : CXT} {P : Program} {w : World} {K : PySem.W.Frag} {mg : Str → Option Value} {base : Heap} {C f cc cda : Addr} {me : Str} {F : NF} {fd : FuncData} {N ps : List Str} {k : Nat} {sp : Sp}
/-- ValueError.__init__ bound to an exception of ours, called -/
theorem run_bound {A : Around} {E : Value → Shared → Prop} {h : Heap} {g : Array GenState} {d : Drawn} {t : Nat} {os : OsState} {nm q : Str} {N : Addr} {bs bm : List Value} {hdct : Bool} {sn : List Str} {sub : List Value} {ab : Bool} {col : Option Bool} {dd : Option Addr} {k0 k1 k2 k3 k5 : Option Value} {e u t0 : Addr} {more : List Value} {Q : Value → Shared → Prop}
    (hC : h.get? C = some (excClassObj nm q C N bs bm hdct sn sub ab col dd k0 k1 k2 k3 k5 "ValueError.__new__")) (he : h.get? e = some ({ cls := .ref C, dict := none, data := .fields #[.ref t0, .none, .none, .none, .bool false, .none] } : Obj)) (hu : h.get? u = some (PySem.W.kxs_mw "ValueError.__init__" e)) (hz : more.length ≤ sizeLine)
    (hq : ∀ h' t1, (∀ b o, b ≠ e → h.get? b = some o → h'.get? b = some o) → h'.get? e = some ({ cls := .ref C, dict := none, data := .fields #[.ref t1, .none, .none, .none, .bool false, .none] } : Obj) → Q .none ⟨h', g, d, t, os⟩) :
    wpAny (model P w) A (call (.ref u) more) Q E ⟨h, g, d, t, os⟩ := by
  have FB := F.excBase_ValueError
  have e1 : (Value.type "method-wrapper" == Value.type "method" || Value.type "method-wrapper" == Value.type "builtin_function_or_method" || Value.type "method-wrapper" == Value.type "method-wrapper") = true := by decide
  refine wpAny_call (codeAny_of_tree ?_); show wpAny _ A.in1 (callAny (.ref u) ⟨more, []⟩) _ _ _
  simp only [callAny]
  refine wpAny_bind (wpAny_load hu ?_)
  simp only [PySem.W.kxs_mw, e1, if_true]
  refine PySem.W.KFB.if_so (by decide) (wpAny_bind (PySem.W.check_bound_init FB.toExcCallFacts hC he rfl ?_))
  refine wpAny_bind (wpAny_pure (wpAny_pure ⟨plainId_quiet FB.init.plain _, codeAny_builtin FB.initEntry ?_⟩))
  exact PySem.W.exc_init_tree (cls := .ref C) (t0 := t0) (dv := none) (c2 := .none) (c3 := .none) (b4 := .bool false) he hz fun h' k1 k2 _ => hq h' _ k1 k2

/-- the maker: super().__init__(one), then the rest -/
theorem sup_ok {p0 p1 p2 p3 p4 : Pos} {one : Expr} {rest : List Stmt} (S : SupK P K mg C f cc cda me F fd) (hF : F.cl = cl1 cc) (hc : F.c = cda) (N1 : NScope N ps ["__class__"] F.scope) (h0 : ps[0]? = some me) (len : ∀ vs H Q E, sp vs H Q E → vs.length = ps.length)
    (hb : F.body = .Expr (.Call (.Attribute (.Call (.Name "super" p0) [] [] p1) "__init__" p2) [one] [] p3) p4 :: rest)
    (hev : ∀ L : Addr, ∃ pl : Sem Bool, eval (.Call (.Attribute (.Call (.Name "super" p0) [] [] p1) "__init__" p2) [one] [] p3) (envF F f L) = (do
      let ov ← attributeBase (.Call (.Name "super" p0) [] [] p1) "__init__" (envF F f L) (eval (.Call (.Name "super" p0) [] [] p1) (envF F f L))
      standAt p2.atName
      let (g, first) ← holding [ov] (getMethod ov "__init__" pl)
      callWith p3 g first (backTo p3 (starEach [one] (envF F f L))) []))
    (hsw : ∀ L : Addr, swapsWith (.Call (.Attribute (.Call (.Name "super" p0) [] [] p1) "__init__" p2) [one] [] p3) none p4.line (envF F f L) = pure false)
    (hin : ∀ L : Addr, interactive (envF F f L) = false)
    (hst : ∀ L : Addr, starEach [one] (envF F f L) = [(false, eval one (envF F f L))])
    (hbody : ∀ (A : Around) (outer : List Env) (s : Shared) (H : Hp) (vs : List V) (Q : VK) (E : XK), Room k (A.deeper (envF F f s.heap.objs.size)) → sp vs H Q E →
      ∃ (te : TA) (t : TS) (a : Addr), PA (ncx CX P w K mg base N F f A outer s H E) [one] te ∧ PSs (ncx CX P w K mg base N F f A outer s H E) rest t ∧ vs[0]? = some (.ref a) ∧ H a = some (exo a C none) ∧
        te (startF N vs [none]) H fun ws H1 => ws.length ≤ 1000 ∧ H1 a = some (exo a C none) ∧ t { nx := fun _ H' => Q .non H', rt := Q } (startF N vs [none]) H1) :
    FnOk P w K mg base CX (k + 1) f fd ps sp := by
  refine ⟨len, fun A outer s H args us vs Q E hr e0 hbn r hsp => ?_⟩
  have hl := len _ _ _ _ hsp
  obtain ⟨oc, od, osl, dV, kV, doc, pm, ct, an, rfl, lk⟩ := S.fun_
  have KX : K.In s.heap := e0.mod.kin.keeps fun b o e => (e0.bs b o e).1
  have nol : s.heap.NoLimit := e0.mod.nolimit.keeps fun b o e => (e0.bs b o e).1
  obtain ⟨ccl, cdd, csl, lcell⟩ := S.cell
  have atK : ∀ {b : Addr} {o : Obj}, K.lookup b = some o → H b = none := fun {b o} q => (e0.bs b o (e0.mod.kin _ _ q)).2
  have bx : ∀ {y : Str} {c : Addr}, F.cl.lookup y = some c → y = "__class__" ∧ c = cc := fun {y c} q => by
    rw [hF] at q
    unfold cl1 List.lookup at q
    split at q
    · rename_i hy
      cases q
      exact ⟨beq_iff_eq.mp hy, rfl⟩
    · cases q
  have cells : CellsAt F.cl ["__class__"] [none] s.heap H := ⟨rfl, fun y c q => by
      obtain ⟨_, rfl⟩ := bx q
      exact ⟨atK lcell, _, _, KX _ _ lcell, rfl⟩, fun x y c q1 q2 => (bx q1).1.trans (bx q2).1.symm, fun i y q => by
      cases i with
      | zero =>
        cases q
        exact ⟨cc, by rw [hF]; rfl, fun v z => by cases z⟩
      | succ i => cases q⟩
  have e4 : callEnv (PySem.W.fnX F.name F.qual F.params F.body F.scope (cl1 cc) dV kV doc pm an (.ref cda) ct) s.heap.objs.size f = envF F f s.heap.objs.size := by
    show _ = PySem.W.envX F.qual F.scope s.heap.objs.size f (.ref F.c) F.cl
    rw [hF, hc]; rfl
  refine ks_codeAny_call_defAt (fd := PySem.W.fnX F.name F.qual F.params F.body F.scope (cl1 cc) dV kV doc pm an (.ref cda) ct) (body := F.body) (binds := ps.zip us) hr.depth (KX _ _ lk) rfl nol (PySem.W.codeRec_of KX S.code) rfl hbn N1.nocell
    (fun ⟨n, _⟩ hy => N1.par n (List.of_mem_zip hy).1) (fun h₁ hns kp => ?_) N1.co N1.gen N1.kind
  rw [e4]
  obtain ⟨te, t, a, he, ht, ea, hA, hq⟩ := hbody A outer s H vs Q E (hr.deeper _) hsp
  have I : Inv (ncx CX P w K mg base N F f A outer s H E) [] (startF N vs [none]) H { s with heap := h₁, toks := s.toks + (ps.zip us).length } := inv_startN N1 hr.hd e0 hl r cells hns kp
  have fin : ∀ {σ' : L2.St} {H' : Hp} {v : V} {u : Value} {s' : Shared}, Inv (ncx CX P w K mg base N F f A outer s H E) [] σ' H' s' → L2.RelV v u → Q v H' → CE outer P w H s Q u s' :=
    fun {σ' H' v u s'} J rv q => ⟨v, H', J.os, J.bare, J.base, J.hok, rv, q⟩
  obtain ⟨u0, hu0, ru0⟩ := r.get ea
  obtain rfl : u0 = Value.ref a := ru0
  obtain ⟨ar, har, earg⟩ := S.head
  obtain ⟨fcl, fdd, fvs, fsl, nm, tf, lcode, hvs, hfile⟩ := S.file
  obtain ⟨cdC, hcd⟩ := S.cls
  obtain ⟨mb, hb1, hb2⟩ := I.mod.blt
  have psN : ps.Nodup := by
    have q := N1.nd.sublist (List.take_sublist (ps.length + [("__class__" : Str)].length) N)
    rw [N1.pre] at q
    exact (List.nodup_append.mp q).1
  have K1 : K.In h₁ := I.kIn
  obtain ⟨oD, hD1, hD2⟩ : ∃ oD, h₁.get? C = some oD ∧ oD.data = .cls cdC := by
    have q := hcd
    unfold PySem.W.clsIn at q
    split at q
    · rename_i c d cd' sl ho
      cases q
      exact ⟨_, K1 _ _ ho, rfl⟩
    · cases q
  obtain ⟨t0, hx0⟩ := exo_at I.hok hA
  have hx0' : h₁.get? a = some ({ cls := .ref C, dict := none, data := .fields #[.ref t0, .none, .none, .none, .bool false, .none] } : Obj) := hx0
  rw [hb]
  refine ks_wpAt_execs_cons (ks_wpAt_Expr_any ?_ (hin _) (hsw _))
  obtain ⟨pl, hev'⟩ := hev s.heap.objs.size
  refine ks_wpAt_MethodCall (pl := pl) ?_ hev'
  refine ks_wpAt_super_base (env := envF F f s.heap.objs.size) S.ks S.kc (by decide) rfl (K1 _ _ lk) rfl har (show Value.ref F.c = .ref cda by rw [hc]) (K1 _ _ lcode) rfl hvs hfile S.top ?_
  refine PySem.W.ks_loadName_global (env := envF F f s.heap.objs.size) N1.kind S.ks (Calls.loadGlobal_builtin (env := envF F f s.heap.objs.size) (I.mod.glob.keeps I.bk) S.nosup (hb1.keeps I.bk) ((hb2 _ (by decide)).trans boot_super) ⟨rfl, ?_⟩)
  refine wpAny_loadName_free (env := envF F f s.heap.objs.size) N1.kind S.kc (show F.cl.lookup _ = some cc by rw [hF]; rfl) ⟨_, K1 _ _ lcell, rfl⟩ ?_
  rw [earg]
  refine wpAny_loadName_local (env := envF F f s.heap.objs.size) N1.kind (N1.par me (List.mem_of_getElem? h0)) hns (zip_look psN h0 hu0) ?_
  refine ks_wpAny_isType_cls hD1 hD2 ⟨rfl, ?_⟩
  refine ks_wpAny_call_super hD1 hD2 hx0' rfl (fun c e => by cases e) (PySem.W.looks_mroIn K1 S.self) (fun h2 so2 kp2 => ?_)
  have I2 := I.kept (h' := h2) (t' := s.toks + (ps.zip us).length) kp2
  have K2 : K.In h2 := I2.kIn
  have ia : PySem.W.InstAt h2 a { cls := .ref C, data := .fields #[.ref t0, .none, .none, .none, .bool false, .none] } C none := ⟨kp2 _ _ hx0', rfl, rfl, trivial⟩
  have hup := S.up
  unfold PySem.W.ks_superIn at hup
  rw [hcd] at hup
  refine PySem.W.kxs_getMethod PySem.W.kxs_ValueError so2 (PySem.W.looks_opaque K2 S.ost) (l₀ := cdC.mro) (fun A Q E s k q => wpAny_bind ((PySem.W.looks_clsIn K2 hcd) A _ E s k (wpAny_pure q))) rfl K2 hup (ia.type.andThen (PySem.W.looks_subIn K2 S.ve)) (PySem.W.ks_ne K2 ia hcd) (by decide) ?_
  have kp3 : ∀ b o, h2.get? b = some o → (h2.push (PySem.W.kxs_mw "ValueError.__init__" a)).get? b = some o := fun b o q => Heap.get?_push_of_some _ q
  have hu3 : (h2.push (PySem.W.kxs_mw "ValueError.__init__" a)).get? h2.objs.size = some (PySem.W.kxs_mw "ValueError.__init__" a) := Heap.get?_push_at rfl rfl
  have I3 := (I2.kept (h' := h2.push (PySem.W.kxs_mw "ValueError.__init__" a)) (t' := s.toks + (ps.zip us).length + 1) kp3).pins_of (pins' := [(h2.objs.size, PySem.W.kxs_mw "ValueError.__init__" a)]) fun p hp => by
    obtain rfl : p = (h2.objs.size, PySem.W.kxs_mw "ValueError.__init__" a) := by simpa using hp
    exact ⟨hu3, I2.hok.fresh (Nat.le_refl _), Nat.ne_of_gt I2.lt, I2.nofs (Nat.le_refl _), fun v z => by cases z⟩
  refine PySem.W.kxs_callWith (i := "ValueError.__init__") (x := a) (by rw [hst]; rfl) ?_
  have hpa := he.run p3 _ _ _ _ _ I3 hq
  have es : starEach [one] (ncx CX P w K mg base N F f A outer s H E).env = [(false, eval one (envF F f s.heap.objs.size))] := hst _
  rw [es] at hpa
  rw [hst]
  refine PySem.Calls.evalArgs_plain (thn hpa fun us4 s4 hh4 => ?_)
  obtain ⟨vs4, H4, I4, r4, hz4, hA4, q4⟩ := hh4
  obtain ⟨hh4, g4, d4, tk4, os4⟩ := s4
  have hu4 : hh4.get? h2.objs.size = some (PySem.W.kxs_mw "ValueError.__init__" a) := (I4.pin (h2.objs.size, PySem.W.kxs_mw "ValueError.__init__" a) (by simp [ncx])).1
  refine ⟨hu4, ?_⟩
  obtain ⟨t4, hx4⟩ := exo_at I4.hok hA4
  obtain ⟨nmC, qC, NC, bsC, bmC, snC, subC, abC, colC, ddC, k0, k1, k2, k3, k5, hC, hbm⟩ := S.exc.cls
  refine run_bound (P := P) (I4.kIn _ _ hC) hx4 hu4 (by show us4.length ≤ sizeLine; rw [← r4.length, sizeLine_eq]; omega) fun h5 t5 kp5 hx5 => ?_
  have J := (I4.write (t' := tk4) (x := a) (e := a) (o := exo a C none) (by rw [hA4]; exact True.intro) (.inl rfl) kp5 ⟨_, hx5⟩ (exo_ok hx5)).pins_of (pins' := []) (fun p hp => by simp at hp)
  have eu : upd H4 a (exo a C none) = H4 := by
    funext b
    by_cases hb : b = a
    · rw [hb, upd_same, hA4]
    · exact upd_ne hb
  rw [eu] at J
  refine wpAt_of_wpAny (wpAny_mono (ht.run [] _ _ _ _ J q4) (fun fl s' hs => ?_) fun e s' hs => hs)
  cases fl with
  | ret u =>
    obtain ⟨v, σ', H', J', rv, q⟩ := hs
    exact fin J' rv q
  | next =>
    obtain ⟨σ', H', J', q⟩ := hs
    exact fin (v := V.non) (u := Value.none) J' rfl q
  | brk => exact (let ⟨_, _, _, q⟩ := hs; False.elim q)
  | cont => exact (let ⟨_, _, _, q⟩ := hs; False.elim q)
end
end Y
/-! three targets, comprehensions that make objects -/
namespace Y
open PySem PySem.Spec PyProof.Rows L2
section
variable {K : PySem.W.Frag} {σ : L2.St} {H : Hp} {Q : VK} {D : Ends} {g g1 g2 g3 : TG} {te : TE} {T p q : Addr} {x y z : V} {G : L2.St → Hp → Prop} {xs ys : List V} {J : It} {n : Nat} {Gd : Hp → Prop} {Yl : Nat → Hp → V → Hp → Prop} {vs : List Nat}
def isTp : HO → Prop
  | .tup _ => True
  | _ => False
/-- a comprehension whose elements are objects: o i the i-th -/
theorem lc_refs (w : Walk J n Gd Yl) (o : Nat → HO) (hn : n ≤ 100000) (hG : ∀ H', Ex H H' → Gd H')
    (hs : ∀ i x H1 H2, i < n → Ex H H1 → Yl i H1 x H2 → ∀ P : VK, (∀ p H4, Ex H1 H4 → H4 p = some (o i) → (H1 p = none ∨ isTp (o i)) → P (.ref p) H4) → g x (wipe σ vs) H2 fun σ2 H3 => wipe σ2 vs = wipe σ vs ∧ te σ2 H3 P)
    (hd : ∀ (D : Addr) (ps : Nat → Addr) (H' : Hp), H D = none → Ex H H' → H' D = some (.lst (tab n fun i => .ref (ps i))) → (∀ i, i < n → H' (ps i) = some (o i) ∧ ps i ≠ D) → Q (.ref D) H') : LcB J g tYes te vs σ H Q := fun D hD =>
  lc_it w (fun i H' => ∃ ps : Nat → Addr, Ex H H' ∧ H' D = some (.lst (tab i fun k => .ref (ps k))) ∧ ∀ k, k < i → H' (ps k) = some (o k) ∧ ps k ≠ D) ⟨fun _ => 0, ex_new hD, upd_same, fun k hk => by omega⟩ (fun i H' _ ⟨ps, h, _⟩ => hG H' h) (fun i x H1 H2 hi h yy => by
    obtain ⟨ps, e, eD, hp⟩ := h
    refine hs i x H1 H2 hi e yy _ fun p H4 e4 ep fr => ?_
    have pD : p ≠ D := fun z => by
      rcases fr with fr | fr
      · rw [z, eD] at fr; cases fr
      · rw [z, e4.at eD] at ep
        have q := Option.some.inj ep
        rw [← q] at fr
        exact fr.elim
    refine ⟨_, e4.at eD, szl (by rw [tab_len]; omega), fun k => if k = i then p else ps k, ?_, ?_, fun k hk => ?_⟩
    · exact Xt.fresh (S := [D]) (Xt.trans e e4) (xt_upd (by simp)) (by simp [hD])
    · rw [upd_same]
      refine congrArg (fun z => some (HO.lst z)) ?_
      rw [← tab_snoc]
      dsimp only
      rw [if_pos rfl]
      refine congrArg (· ++ _) (tab_ext fun k hk => ?_)
      rw [if_neg (by omega)]
    · dsimp only
      by_cases hki : k = i
      · subst hki; rw [if_pos rfl]; exact ⟨by rw [upd_ne pD]; exact ep, pD⟩
      · rw [if_neg hki]
        have q := hp k (by omega)
        exact ⟨by rw [upd_ne q.2]; exact e4.at q.1, q.2⟩) fun H' h => by
    obtain ⟨ps, e, eD, hp⟩ := h
    exact hd D ps H' hD e eD hp
theorem gcons_nil (e : z = z) : (fun (σ1 : L2.St) (H1 : Hp) => gCons g3 gNil [z] σ1 H1 G) = fun σ1 H1 => g3 z σ1 H1 G := by
  funext σ1 H1
  have e3 : (fun σ2 H2 => gNil [] σ2 H2 G) = G := by funext σ2 H2; exact propext ⟨fun k => k.2, fun k => ⟨rfl, k⟩⟩
  refine propext ⟨fun k => ?_, fun k => ⟨z, [], rfl, ?_⟩⟩
  · obtain ⟨v, vr, ev, k⟩ := k
    cases ev
    have k' : g3 z σ1 H1 fun σ2 H2 => gNil [] σ2 H2 G := k
    rw [e3] at k'
    exact k'
  · show g3 z σ1 H1 fun σ2 H2 => gNil [] σ2 H2 G
    rw [e3]
    exact k
theorem gcons_two : (fun (σ1 : L2.St) (H1 : Hp) => gCons g2 (gCons g3 gNil) [y, z] σ1 H1 G) = fun σ1 H1 => g2 y σ1 H1 fun σ2 H2 => g3 z σ2 H2 G := by
  funext σ1 H1
  refine propext ⟨fun k => ?_, fun k => ⟨y, [z], rfl, ?_⟩⟩
  · obtain ⟨v, vr, ev, k⟩ := k
    cases ev
    have k' : g2 y σ1 H1 fun σ2 H2 => gCons g3 gNil [z] σ2 H2 G := k
    rw [gcons_nil rfl] at k'
    exact k'
  · show g2 y σ1 H1 fun σ2 H2 => gCons g3 gNil [z] σ2 H2 G
    rw [gcons_nil rfl]
    exact k
theorem rd_gtrip (e : H T = some (.tup [x, y, z])) (h : g1 x σ H fun σ1 H1 => g2 y σ1 H1 fun σ2 H2 => g3 z σ2 H2 G) : gTup K 3 (gCons g1 (gCons g2 (gCons g3 gNil))) (.ref T) σ H G :=
  ⟨T, [x, y, z], rfl, SqT.of e, rfl, x, [y, z], rfl, by
    show g1 x σ H fun σ1 H1 => gCons g2 (gCons g3 gNil) [y, z] σ1 H1 G
    rw [gcons_two]
    exact h⟩
end
section
variable {K : PySem.W.Frag} {σ : L2.St} {H : Hp} {Q : VK} {g : TG} {te : TE} {J : It} {n : Nat} {Gd : Hp → Prop} {Yl : Nat → Hp → V → Hp → Prop} {vs : List Nat}
/-- a comprehension whose elements are tuples and change what S names; R0 keeps the books -/
theorem lc_eft (w : Walk J n Gd Yl) (S : List Addr) (R0 : Hp → Prop) (Pr : Nat → List V → Prop) (hS : ∀ a ∈ S, H a ≠ none) (hn : n ≤ 100000) (hG : ∀ H', Xt S H H' → R0 H' → Gd H') (hT : ∀ H1, R0 H1 → ∀ a ∈ S, ∀ xs, H1 a ≠ some (.tup xs))
    (hR : ∀ H1 H2 D, H D = none → R0 H1 → Xt [D] H1 H2 → R0 H2) (h0 : R0 H)
    (hs : ∀ i x H1 H2, i < n → Xt S H H1 → R0 H1 → Yl i H1 x H2 → ∀ P : VK, (∀ p xs H4, Xt S H1 H4 → R0 H4 → H4 p = some (.tup xs) → Pr i xs → P (.ref p) H4) → g x (wipe σ vs) H2 fun σ2 H3 => wipe σ2 vs = wipe σ vs ∧ te σ2 H3 P)
    (hd : ∀ (D : Addr) (ps : Nat → Addr) (xss : Nat → List V) (H' : Hp), H D = none → Xt S H H' → R0 H' → H' D = some (.lst (tab n fun i => .ref (ps i))) → (∀ i, i < n → H' (ps i) = some (.tup (xss i)) ∧ Pr i (xss i)) → Q (.ref D) H') : LcB J g tYes te vs σ H Q := fun D hD => by
  have hDS : D ∉ S := fun z => hS D z hD
  refine lc_it w (fun i H' => ∃ (ps : Nat → Addr) (xss : Nat → List V), Xt S H H' ∧ R0 H' ∧ H' D = some (.lst (tab i fun k => .ref (ps k))) ∧ ∀ k, k < i → H' (ps k) = some (.tup (xss k)) ∧ Pr k (xss k)) ⟨fun _ => 0, fun _ => [], Ex.xt (ex_new hD), hR H _ D hD h0 (Ex.xt (ex_new hD)), upd_same, fun k hk => by omega⟩ (fun i H' hi h => ?_) (fun i x H1 H2 hi h yy => ?_) fun H' h => ?_
  · obtain ⟨_, _, e, r, _⟩ := h
    exact hG H' e r
  · obtain ⟨ps, xss, e, r, eD, hp⟩ := h
    refine hs i x H1 H2 hi e r yy _ fun p xs H4 e4 r4 ep pr => ?_
    have pD : p ≠ D := fun z => by
      rw [z, e4.at eD hDS] at ep
      cases ep
    refine ⟨_, e4.at eD hDS, szl (by rw [tab_len]; omega), fun k => if k = i then p else ps k, fun k => if k = i then xs else xss k, ?_, hR _ _ D hD r4 (xt_upd (by simp)), ?_, fun k hk => ?_⟩
    · refine fun a o na ha => ?_
      have nd : a ≠ D := fun z => by rw [z, hD] at ha; cases ha
      rw [upd_ne nd]
      exact e4 a o na (e a o na ha)
    · rw [upd_same]
      refine congrArg (fun z => some (HO.lst z)) ?_
      rw [← tab_snoc]
      dsimp only
      rw [if_pos rfl]
      refine congrArg (· ++ _) (tab_ext fun k hk => ?_)
      rw [if_neg (by omega)]
    · dsimp only
      by_cases hki : k = i
      · subst hki; rw [if_pos rfl, if_pos rfl]; exact ⟨by rw [upd_ne pD]; exact ep, pr⟩
      · rw [if_neg hki, if_neg hki]
        have q := hp k (by omega)
        have kS : ps k ∉ S := fun z => hT H1 r _ z _ q.1
        have kD : ps k ≠ D := fun z => by rw [z, eD] at q; cases q.1
        exact ⟨by rw [upd_ne kD]; exact e4.at q.1 kS, q.2⟩
  · obtain ⟨ps, xss, e, r, eD, hp⟩ := h
    exact hd D ps xss H' hD e r eD hp
end
theorem rd_brk {D : Ends} {σ : L2.St} {H : Hp} (h : D.bk σ H) : tBreak D σ H := h
/-- an if without else whose branch ends where the rest begins -/
theorem rd_ifG {p : Prop} [Decidable p] {tu : TS} {σ : L2.St} {H : Hp} {tz bk ct : L2.St → Hp → Prop} {dr : VK} (G : L2.St → Prop) (h1 : p → ∀ tz' : L2.St → Hp → Prop, (∀ σ', G σ' → tz' σ' H) → tu { nx := tz', rt := dr, bk := bk, ct := ct } σ H) (h2 : ¬ p → G σ)
    (hk : ∀ σ', G σ' → tz σ' H) : if decide p = true then tu { nx := tz, rt := dr, bk := bk, ct := ct } σ H else tNext { nx := tz, rt := dr, bk := bk, ct := ct } σ H := by
  by_cases hp : p
  · rw [decide_eq_true hp]; exact h1 hp tz hk
  · rw [decide_eq_false hp]; exact hk σ (h2 hp)
theorem rd_ifH {p : Prop} [Decidable p] {tu : TS} {σ : L2.St} {H : Hp} {tz bk ct : L2.St → Hp → Prop} {dr : VK} (G : L2.St → Hp → Prop) (h1 : p → ∀ tz' : L2.St → Hp → Prop, (∀ σ' H', G σ' H' → tz' σ' H') → tu { nx := tz', rt := dr, bk := bk, ct := ct } σ H) (h2 : ¬ p → G σ H)
    (hk : ∀ σ' H', G σ' H' → tz σ' H') : if decide p = true then tu { nx := tz, rt := dr, bk := bk, ct := ct } σ H else tNext { nx := tz, rt := dr, bk := bk, ct := ct } σ H := by
  by_cases hp : p
  · rw [decide_eq_true hp]; exact h1 hp tz hk
  · rw [decide_eq_false hp]; exact hk σ H (h2 hp)
/-! ### truth, //, pop -/
def tTru (K : PySem.W.Frag) (ta : TE) : TT := fun σ H Q => ta σ H fun x H' => ∃ k, TruV K x H' k ∧ Q k H'
theorem pt_tru {X : Cx} {a : Expr} {ta : TE} (ha : PE X a ta) (he : ∀ whole, isTrue a X.env whole = (do let v ← whole; standAt a.pos; holding [v] (truthy v))) : PT X a (tTru X.K ta) := pt_truth ha he
theorem op_fdivS {X : Cx} : OpR X (binaryOp .FloorDiv) (rI (fun _ j => j ≠ 0 ∧ j.natAbs.log2 < 9000) fun i j => .int (i.fdiv j)) := opI fun _ _ _ _ _ _ _ hc q => floordiv_int hc.1 q (.inl (PyProof.noPylong_of_log2 hc.2))
section
variable {K : PySem.W.Frag} {σ : L2.St} {H : Hp} {Q : VK} {R : Bool → Hp → Prop} {ta : TE} {p : Addr} {xs : List V}
def Tr (K : PySem.W.Frag) (x : V) (H : Hp) (R : Bool → Hp → Prop) : Prop := ∃ k, TruV K x H k ∧ R k H
theorem rd_tru (h : ta σ H fun x H' => Tr K x H' R) : tTru K ta σ H R := h
theorem rd_truL (e : H p = some (.lst xs)) (h : R (!xs.isEmpty) H) : Tr K (.ref p) H R := ⟨_, .inl ⟨xs, SqL.of e, rfl⟩, h⟩
theorem rd_tru0 (e : H p = some (.lst [])) (h : R false H) : Tr K (.ref p) H R := rd_truL e h
theorem rd_tru1 {x : V} (e : H p = some (.lst (x :: xs))) (h : R true H) : Tr K (.ref p) H R := rd_truL e h
theorem rd_truT {n : Nat} {f : Nat → V} (e : H p = some (.lst (tab n f))) (hn : 0 < n) (h : R true H) : Tr K (.ref p) H R := rd_truL e (by
  have z : (tab n f).isEmpty = false := by
    cases n with
    | zero => omega
    | succ n => show (List.map f (List.range (n + 1))).isEmpty = false; rw [List.range_succ]; simp
  rw [z]; exact h)
theorem rd_popAt {x : V} {xs : List V} (e : H p = some (.lst (x :: xs))) (h : ∀ H2, Xt [p] H H2 → H2 p = some (.lst xs) → Q x H2) : rPopAt (.ref p) [.int 0] H Q :=
  ⟨p, x :: xs, 0, 0, x, rfl, rfl, e, by decide, by decide, by unfold seqIndex?; simp, rfl, h _ (xt_upd (by simp)) upd_same⟩
end
/-! ### rules with the written part named -/
section
variable {X : Cx} {K : PySem.W.Frag} {tg l : Expr} {tl : TE}
theorem ix_listK (h : X.K = K) : IxR X (rIxL K) := by subst h; exact ix_list
theorem ix_tupK (h : X.K = K) : IxR X (rIxT K) := by subst h; exact ix_tup
theorem sl_listK (h : X.K = K) : SlR X (rSlL K) := by subst h; exact sl_list
theorem cr_lenK (h : X.K = K) : CallR X (.builtin "len") (rLen K) := by subst h; exact cr_len
theorem cr_tupOfK (h : X.K = K) : CallR X (.type "tuple") (rTupOf K) := by subst h; exact cr_tupOf
theorem cr_lstOfK (h : X.K = K) : CallR X (.type "list") (rLstOf K) := by subst h; exact cr_lstOf
theorem cr_isiK (h : X.K = K) : CallR X (.builtin "isinstance") (rIsi K) := by subst h; exact call_isi
theorem pi_listK (h : X.K = K) (hl : PE X l tl) : PI X tg l (iList K tl) := by subst h; exact pi_list hl
theorem pi_tupK (h : X.K = K) (hl : PE X l tl) : PI X tg l (iTup K tl) := by subst h; exact pi_tup hl
end
end Y
/-! within an except suite: isinstance of the caught error (with its fields), a plain def called -/
namespace Y
open PySem PySem.Spec PyProof.Rows L2 L2H
/-! ### isinstance of a caught error that has fields -/
section
open PySem.W PySem.Calls
variable {prog : Program} {w : World} {A : Around} {E : Value → Shared → Prop} {s : Shared} {K : Frag} {x D : Addr} {ox : Obj} {od : Option Obj}
theorem obj_data {C : Addr} {name : Str} {a g : Value} (hc : (clsIn K C).isSome = true) (ha : findIn K (.ref C) name = some (some a)) (hg : specialIn K a "__get__" = some (some g)) (ht : takesIn K a = some true) : findObj K C od name = some (.bind g a) := by
  obtain ⟨cd, hc⟩ := Option.isSome_iff_exists.mp hc
  unfold findObj
  rw [hc, Option.bind_some, ha, Option.bind_some]
  simp [hg, ht]
theorem cls_of {Q : Option Value → Shared → Prop} (T : L2.ExcC K D) (X : K.In s.heap) (I : InstAt s.heap x ox D od) (h : Q (some (.ref D)) { s with toks := s.toks + 1 }) : wpAny (model prog w) A (getAttr? (.ref x) "__class__") Q E s := by
  have hf : findObj K D od "__class__" = some (.bind (.builtin "getset_descriptor.__get__") (.builtin "object.__class__")) := obj_data (by
    obtain ⟨cd, hc, _⟩ := any_some T.hd
    rw [hc]; rfl) T.ha T.hn T.ht
  obtain ⟨hp, g, d, t, os⟩ := s
  have k0 := I.type (M := model prog w)
  have k1 := looks_findIn (M := model prog w) X T.hg
  have k2 := looks_findIn (M := model prog w) X T.hk
  have k3 := looks_find (M := model prog w) X I hf
  have sub : Looks (model prog w) hp (isInstance (.ref x) (.type "BaseException")) true := k0.andThen (looks_subIn X T.hs)
  have n0 : (false && onTheHeap (Value.builtin "BaseException.__getattribute__")) = false := rfl
  have n2 : (Value.builtin "BaseException.__getattribute__" == Value.builtin "object.__getattribute__") = false := by decide +kernel
  have n1 : (onTheHeap (Value.ref D) && Value.builtin "BaseException.__getattribute__" == Value.builtin "object.__getattribute__") = false := by rw [n2]; rfl
  unfold getAttr? getAttrBy? getAttrBy
  refine wpAny_bind (wpAny_mkText (wpAny_bind (wpAny_attempt (wpAny_holding (wpAny_bind (k0.at (wpAny_bind (k1.at ?_))))))))
  show wpAny _ _ (if (onTheHeap (Value.ref D) && Value.builtin "BaseException.__getattribute__" == Value.builtin "object.__getattribute__") = true then _ else _) _ _ _
  rw [n1, if_neg Bool.false_ne_true]
  unfold getAttrByItsOwn hookBefore
  refine wpAny_bind ?_
  rw [if_pos (show onTheHeap (Value.ref D) = true from rfl)]
  refine k2.at ?_
  refine wpAny_bind (wpAny_attempt (wpAny_holding ?_))
  unfold callGetattribute
  rw [n0, if_neg Bool.false_ne_true]
  unfold boundAndCalled
  rw [PySem.F.excAttr_ValueError.ga.bind (.ref x)]
  refine wpAny_bind (wpAny_pure ?_)
  show wpAny _ _ (call (.builtin "BaseException.__getattribute__") [.ref x, .str "__class__" t]) _ _ _
  refine wpAny_call (codeAny_call_builtin PySem.F.excAttr_ValueError.ga.plain PySem.F.entry_bexc_ga ?_)
  refine @check_slot (model prog w) _ _ ⟨hp, g, d, t + 1, os⟩ "BaseException.__getattribute__" "BaseException" "__getattribute__" (.ref x) [.str "__class__" t] [] _ (by decide +kernel) (by decide +kernel) sub (PySem.F.args_bexc_ga (.ref x) (.str "__class__" t)) ?_
  unfold Builtin.«object.__getattribute__»
  refine wpAny_bind (wpAny_of_eq (a := ((Value.ref x : Value), [Value.str "__class__" t])) (by first | rfl | (simp only [slotArgs]; rfl)) ?_)
  refine wpAny_bind (wpAny_pure (wpAny_bind (k0.at (wpAny_bind (k3.at ?_)))))
  show wpAny _ _ (holding [Value.builtin "object.__class__"] (call (.builtin "getset_descriptor.__get__") [.builtin "object.__class__", .ref x, .ref D]) >>= ret) _ _ _
  refine wpAny_bind (wpAny_holding (wpAny_call (class_get (s := ⟨hp, g, d, t + 1, os⟩) (ox := ox) (od := od) X I T.hm ?_)))
  refine wpAny_pure ?_
  show wpAny _ _ (handedOut (.ref D)) _ _ _
  rw [handedOut_of (v := .ref D) rfl]
  first
    | exact wpAny_pure (wpAny_pure h)
    | exact wpAny_pure h
    | exact wpAny_pure (wpAny_bind (wpAny_pure (wpAny_pure h)))
theorem kit_exc (T : L2.ExcC K D) : KitX K (.ref x) (.ref D) (fun h => InstAt h x ox D od) where
  ty := fun _ _ _ I => I.type
  it := fun _ _ X _ => by
    obtain ⟨cdD, hcD, _⟩ := any_some T.hd
    unfold clsIn at hcD
    split at hcD
    · rename_i c' d' cd' sl' ho
      intro A' Q' E' s' k q
      unfold isType loadHead
      exact wpAny_bind (wpAny_loadPart (k _ _ (X _ _ ho)) (wpAny_pure q))
    · cases hcD
  ne := fun h tp dd its n sl X htp => by
    obtain ⟨cdD, hcD, _⟩ := any_some T.hd
    refine Bool.eq_false_iff.mpr fun q => ?_
    have e : D = tp := Value.ref.inj (beq_iff_eq.mp q)
    subst e
    unfold clsIn at hcD
    split at hcD
    · rename_i c' d' cd' sl' ho
      have z := (X _ _ ho).symm.trans htp
      cases z
    · cases hcD
  ca := fun X I k => cls_of T X I k
end
/-- isinstance(e, c), e the caught error of the class D that has fields -/
def rIsF (K : PySem.W.Frag) (D a : Addr) (cls : Value) (d : Option Addr) : List V → Hp → VK → Prop := fun xs H Q => ∃ (c : V) (cv : Value) (b : Bool) (dd : Addr) (fs : List (Str × V)), xs = [.ref a, c] ∧ (∀ u, RelV c u → u = cv) ∧ PySem.W.kitOne K (.ref D) cv = some b ∧ cls = .ref D ∧ d = some dd ∧ H dd = some (.xd fs) ∧ Q (.bl b) H
theorem call_isF {X : Cx} {a D : Addr} {oe : Obj} {cls : Value} {d : Option Addr} {pn : List (Addr × Obj)} (C : ExcC X.K D) (hz : Zc cls d oe) (hf : ∃ vs, oe.data = .fields vs) : CallR (X.suite a ((a, oe) :: pn)) (.builtin "isinstance") (rIsF X.K D a cls d) := by
  intro pins s σ H xs us Q I r h
  obtain ⟨c, cv, b, dd, fs, rfl, hcv, e, rfl, rfl, hd, q⟩ := h
  cases r with
  | cons rx rr =>
    cases rr with
    | cons rt rr =>
      cases rr
      cases rx
      have ec := hcv _ rt
      subst ec
      obtain ⟨hget, _⟩ := I.pin (a, oe) (List.mem_append.mpr (.inl List.mem_cons_self))
      obtain ⟨vs, hv⟩ := hf
      have hx : ObjOk X.prog X.w H s.heap dd (.xd fs) := I.hok dd _ hd
      obtain ⟨mA, hns, _⟩ := hx
      obtain ⟨od, ho, _⟩ := lookIn_ns hns
      have J : PySem.W.InstAt s.heap a oe D (some od) := ⟨hget, hz.1, by unfold PySem.W.notCls; rw [hv] <;> rfl, by rw [hz.2]; exact ho⟩
      exact PySem.W.kia_one (kit_exc C) I.kIn J e (fun z => nomatch z) fun tk => ⟨.bl b, H, I.kept (t' := tk) fun _ _ z => z, rfl, q⟩
/-! ### a plain def, called there -/
structure FnP (P : Program) (w : World) (K : PySem.W.Frag) (mg : Str → Option Value) (base : Heap) (CX : CXT) (k : Nat) (f : Addr) (fd : FuncData) (ps : List Str) (sp : Sp) : Prop where
  len : ∀ vs H Q E, sp vs H Q E → vs.length = ps.length
  run : ∀ (A : Around) (outer : List Env) (s : Shared) (H : Hp) (ar : Args) (us : List Value) (vs : List V) (Q : VK) (E : XK) (p : Addr × Obj), RoomH k A → PinOk outer H s p → Env0 P w K mg base A outer s H → BindsTo s fd ar (ps.zip us) → Vals vs us → sp vs H Q E → codeAny (model P w) A (.call (.ref f) ar) (CR CX outer P w H s Q E) s
theorem Fun.okP {P : Program} {w : World} {K : PySem.W.Frag} {mg : Str → Option Value} {base : Heap} {x qual : Str} {st : Stmt} {f : Addr} {fd : FuncData} {N ps : List Str} {k : Nat} {sp : Sp} (F : L2.Fun K x qual st f fd) (S : FnScope N ps (defScope st)) (len : ∀ vs H Q E, sp vs H Q E → vs.length = ps.length)
    (hb : ∀ (cdv : Value) (A : Around) (outer : List Env) (s : Shared) (H : Hp) (vs : List V) (Q : VK) (E : XK) (p : Addr × Obj), sp vs H Q E → ∃ t, PSs (cxH CX0 P w K mg base N qual (defScope st) f cdv A outer s H E p) (defBody st) t ∧ t { nx := fun _ H' => Q .non H', rt := Q } (L2.start N vs) H) : FnP P w K mg base CX0 (k + 1) f fd ps sp := by
  obtain ⟨oc, od, kV, doc, pm, an, cdv, ct, osl, rfl, lk, hcd⟩ := F.ex
  refine ⟨len, fun A outer s H ar us vs Q E p room pin e0 bd r hsp => ?_⟩
  have hl := len _ _ _ _ hsp
  have kx : K.In s.heap := e0.mod.kin.keeps fun b o q => (e0.bs b o q).1
  have nl : s.heap.NoLimit := e0.mod.nolimit.keeps fun b o q => (e0.bs b o q).1
  have kd : ∀ y ∈ ps.zip us, (defScope st).names.lookup y.1 = some .local ∨ ((defScope st).names.lookup y.1 = some .cell ∧ ((cellsFrom (s.heap.objs.size + 1) (defScope st).names []).lookup y.1).isSome = true) := by
    rintro ⟨n, v⟩ hy
    rcases S.par n (List.of_mem_zip hy).1 with q | q
    · exact .inl q
    · exact .inr ⟨q, PySem.W.cellsFrom_some _ _ _ (.inl q)⟩
  refine codeAny_call_function room.depth (kx _ _ lk) rfl S.co S.gen rfl (PySem.W.codeRec_of kx hcd) (bd _ _ _ _ (wpAny_newFunctionEnv_cells S.kind kd fun env he s1 x => ?_))
  subst he
  obtain ⟨t, ht, hq⟩ := hb cdv A outer s H vs Q E p hsp
  have I := inv_startH (CX := CX0) (E := E) (f := f) (cd := cdv) (qual := qual) S pin e0 hl r x
  refine ⟨nl.keeps x.toInCall.keep, codeAny_func (wpAny_mono (ht.run [] s1 (L2.start N vs) H _ I hq) (fun fl s' hs => ?_) fun e s' hs => hs)⟩
  cases fl with
  | ret u => exact (let ⟨v, _, H', J, rv, q⟩ := hs; ⟨v, H', J.os, J.bare, J.base, J.hok, rv, q⟩)
  | next => exact (let ⟨_, H', J, q⟩ := hs; ⟨V.non, H', J.os, J.bare, J.base, J.hok, rfl, q⟩)
  | brk => exact (let ⟨_, _, _, q⟩ := hs; False.elim q)
  | cont => exact (let ⟨_, _, _, q⟩ := hs; False.elim q)
structure ClP (P : Program) (w : World) (K : PySem.W.Frag) (mg : Str → Option Value) (base : Heap) (k : Nat) (x : Str) (ps : List Str) (sp : Sp) : Prop where
  ex : ∃ (f : Addr) (fd : FuncData), FnP P w K mg base CX0 k f fd ps sp ∧ mg x = some (.ref f) ∧ PySem.W.keepIn K (.ref f) = true ∧ Binds K fd ps []
theorem pe_callP {X : Cx} {a : Addr} {oe : Obj} {pn : List (Addr × Obj)} {j k : Nat} {x : Str} {ps : List Str} {sp : Sp} {p pos : Pos} {e : Expr} {es : List Expr} {t : TA} (c : ClP X.prog X.w X.K X.mg X.base k x ps sp) (hr : Room j X.A) (hk : k ≤ j) (hg : Gl X x) (ha : PA (X.suite a ((a, oe) :: pn)) (e :: es) t)
    (hdb : (x == ("__debug__" : Str)) = false := by decide) (he : starEach (e :: es) X.env = (false, eval e X.env) :: starEach es X.env := by rfl) (hpl : (backTo pos (starEach es X.env)).any (·.1) = false := by rfl) :
    PE (X.suite a ((a, oe) :: pn)) (.Call (.Name x p) (e :: es) [] pos) (tCall sp [] E0 t) := by
  obtain ⟨f, fd, F, hm, kp, b⟩ := c.ex
  refine ⟨fun pins s σ H Q I h => ?_⟩
  refine wpAny_Call_Name_kw (ld_glob I hg hm ?_ hdb)
  refine PySem.W.callWith_K (h₀ := X.base) I.ok.mod.kin kp (thn (ha.run pos pins s σ H _ I h) fun us s1 hh => ?_) he hpl
  obtain ⟨vs, H1, I1, r, q⟩ := hh
  refine ⟨I1.kIn, ?_⟩
  have q' : sp vs H1 Q E0 := by
    have z : sp (vs ++ []) H1 Q E0 := q
    rw [List.append_nil] at z
    exact z
  have hl : us.length = ps.length := by rw [← r.length]; exact F.len _ _ _ _ q'
  have bd := b s1 us I1.kIn (by rw [List.append_nil]; exact hl)
  rw [List.append_nil] at bd
  have p1 := I1.pin (a, oe) (List.mem_append_left _ List.mem_cons_self)
  have pin : PinOk X.stack H1 s1 (a, oe) := ⟨p1.1, p1.2.1, fun hm => (List.mem_cons.mp (I1.stkSub a hm)).elim p1.2.2.1 p1.2.2.2.1, p1.2.2.2.2⟩
  have rm : RoomH k (X.suite a ((a, oe) :: pn)).A := ⟨by have := (hr.mono hk).dp; exact this, by have := (hr.mono hk).un; exact this⟩
  refine wpAny_call (codeAny_mono (F.run _ X.stack s1 H1 ⟨us, []⟩ us vs Q E0 (a, oe) rm pin I1.env0 bd r q') fun res s' hq => ?_)
  cases res with
  | error er => exact False.elim hq
  | ok fl =>
    cases fl with
    | ret u => exact I1.after hq
    | next => exact False.elim hq
    | brk => exact False.elim hq
    | cont => exact False.elim hq
/-- a call in a try's body: what it lets out is told by the slots -/
theorem pe_yS {X : Cx} {CX : CXT} {E : L2.St → XK} {k j : Nat} {x : Str} {ps : List Str} {sp : Sp} {p pos : Pos} {e : Expr} {es : List Expr} {t : TA} (c : Cl X.prog X.w X.K X.mg X.base CX k x ps sp) (hr : Room j X.A) (hk : k ≤ j) (hx : ∀ σ, PassesAt CX X σ (E σ)) (hg : Gl X x) (ha : PA X (e :: es) t)
    (hdb : (x == ("__debug__" : Str)) = false := by decide) (he : starEach (e :: es) X.env = (false, eval e X.env) :: starEach es X.env := by rfl) (hpl : (backTo pos (starEach es X.env)).any (·.1) = false := by rfl) :
    PE X (.Call (.Name x p) (e :: es) [] pos) (tCallS sp E t) := by
  obtain ⟨f, fd, F, hm, kp, b⟩ := c.ex
  exact pe_callS F (hr.mono hk) hg hm kp b hx ha hdb he hpl
theorem rd_callS {σ : L2.St} {H : Hp} {Q : VK} {sp : Sp} {E : L2.St → XK} {t : TA} (h : t σ H fun vs H1 => sp vs H1 Q (E σ)) : tCallS sp E t σ H Q := h
end Y
/-! plain: a determinant of integer rows, by expansion along the first column -/
namespace Y
theorem sm_oneB {f : Nat → Int} {s n : Nat} (hs : s < n) (h : ∀ i, i < n → i ≠ s → f i = 0) : sm n f = f s := by
  have q := sm_congr (n := n) (f := f) (g := fun i => if i = s then f s else 0) fun i hi => by
    by_cases e : i = s
    · rw [if_pos e, e]
    · rw [if_neg e, h i hi e]
  rw [q, sm_one hs fun i hi => if_neg hi, if_pos rfl]
theorem sm_twoB {f : Nat → Int} {s t n : Nat} (st : s ≠ t) (hs : s < n) (ht : t < n) (h : ∀ i, i < n → i ≠ s → i ≠ t → f i = 0) : sm n f = f s + f t := by
  have q := sm_congr (n := n) (f := f) (g := fun i => if i = s then f s else if i = t then f t else 0) fun i hi => by
    by_cases e : i = s
    · rw [if_pos e, e]
    · rw [if_neg e]
      by_cases e2 : i = t
      · rw [if_pos e2, e2]
      · rw [if_neg e2, h i hi e e2]
  rw [q, sm_upd2 (f := fun _ => 0) (fun i h1 h2 => by rw [if_neg h1, if_neg h2]) st hs ht, sm_zero (fun _ _ => rfl), if_pos rfl, if_neg (Ne.symm st), if_pos rfl]
  omega
def sg : Nat → Int
  | 0 => 1
  | n + 1 => -sg n
def skip (j i : Nat) : Nat := if i < j then i else i + 1
def det : Nat → (Nat → Nat → Int) → Int
  | 0, _ => 1
  | n + 1, M => sm (n + 1) fun j => sg j * (M j 0 * det n fun i k => M (skip j i) (k + 1))
def up (M : Nat → Nat → Int) (r : Nat) (v : Nat → Int) : Nat → Nat → Int := fun i k => if i = r then v k else M i k
theorem skip_ne (j i : Nat) : skip j i ≠ j := by unfold skip; split <;> omega
def unskip (j r : Nat) : Nat := if r < j then r else r - 1
theorem skip_un {j r : Nat} (h : j ≠ r) (i : Nat) : skip j i = r ↔ i = unskip j r := by
  unfold skip unskip; split <;> split <;> omega
theorem det_up_other {M : Nat → Nat → Int} {r : Nat} {v : Nat → Int} : (fun i k => up M r v (skip r i) (k + 1)) = fun i k => M (skip r i) (k + 1) := by
  funext i k; exact if_neg (skip_ne r i)
theorem det_up_in {M : Nat → Nat → Int} {r j : Nat} {v : Nat → Int} (h : j ≠ r) : (fun i k => up M r v (skip j i) (k + 1)) = up (fun i k => M (skip j i) (k + 1)) (unskip j r) fun k => v (k + 1) := by
  funext i k
  unfold up
  by_cases e : skip j i = r
  · rw [if_pos e, if_pos ((skip_un h i).mp e)]
  · rw [if_neg e, if_neg fun q => e ((skip_un h i).mpr q)]
theorem det_lin (a b : Int) : ∀ (n : Nat) (M : Nat → Nat → Int) (r : Nat) (u v : Nat → Int), r < n →
    det n (up M r fun k => a * u k + b * v k) = a * det n (up M r u) + b * det n (up M r v)
  | 0, _, _, _, _, h => by omega
  | n + 1, M, r, u, v, h => by
    show sm (n + 1) _ = a * sm (n + 1) _ + b * sm (n + 1) _
    rw [← sm_mul, ← sm_mul, ← sm_add]
    refine sm_congr fun j hj => ?_
    by_cases e : j = r
    · subst e
      rw [det_up_other, det_up_other, det_up_other]
      show sg j * ((if j = j then _ else _) * _) = a * (sg j * ((if j = j then _ else _) * _)) + b * (sg j * ((if j = j then _ else _) * _))
      rw [if_pos rfl, if_pos rfl, if_pos rfl]
      grind
    · rw [det_up_in e, det_up_in e, det_up_in e]
      rw [det_lin a b n _ (unskip j r) (fun k => u (k + 1)) (fun k => v (k + 1)) (by unfold unskip; split <;> omega)]
      show sg j * ((if j = r then _ else _) * _) = a * (sg j * ((if j = r then _ else _) * _)) + b * (sg j * ((if j = r then _ else _) * _))
      rw [if_neg e, if_neg e, if_neg e]
      grind
theorem det_adj : ∀ (n : Nat) (M : Nat → Nat → Int) (r : Nat), r + 1 < n → (∀ k, M r k = M (r + 1) k) → det n M = 0
  | 0, _, _, h, _ => by omega
  | n + 1, M, r, h, e => by
    have q := sm_twoB (f := fun j => sg j * (M j 0 * det n fun i k => M (skip j i) (k + 1))) (s := r) (t := r + 1) (n := n + 1) (by omega) (by omega) (by omega) (fun j hj h1 h2 => by
      show sg j * (M j 0 * det n fun i k => M (skip j i) (k + 1)) = 0
      have z : (det n fun i k => M (skip j i) (k + 1)) = 0 := by
        by_cases c : j < r
        · refine det_adj n _ (r - 1) (by omega) fun k => ?_
          show M (skip j (r - 1)) (k + 1) = M (skip j (r - 1 + 1)) (k + 1)
          have a1 : skip j (r - 1) = r := by unfold skip; rw [if_neg (by omega)]; omega
          have a2 : skip j (r - 1 + 1) = r + 1 := by unfold skip; rw [if_neg (by omega)]; omega
          rw [a1, a2]; exact e _
        · refine det_adj n _ r (by omega) fun k => ?_
          show M (skip j r) (k + 1) = M (skip j (r + 1)) (k + 1)
          have a1 : skip j r = r := by unfold skip; rw [if_pos (by omega)]
          have a2 : skip j (r + 1) = r + 1 := by unfold skip; rw [if_pos (by omega)]
          rw [a1, a2]; exact e _
      rw [z, Int.mul_zero, Int.mul_zero])
    show sm (n + 1) _ = 0
    rw [q]
    have w : (fun i k => M (skip r i) (k + 1)) = fun i k => M (skip (r + 1) i) (k + 1) := by
      funext i k
      by_cases c : i = r
      · subst c
        have a1 : skip i i = i + 1 := by unfold skip; rw [if_neg (by omega)]
        have a2 : skip (i + 1) i = i := by unfold skip; rw [if_pos (by omega)]
        rw [a1, a2]; exact (e _).symm
      · have a : skip r i = skip (r + 1) i := by unfold skip; split <;> split <;> omega
        rw [a]
    show sg r * (M r 0 * det n fun i k => M (skip r i) (k + 1)) + -sg r * (M (r + 1) 0 * det n fun i k => M (skip (r + 1) i) (k + 1)) = 0
    rw [w, e 0]
    grind
theorem up_up {M : Nat → Nat → Int} {r : Nat} {u v : Nat → Int} : up (up M r u) r v = up M r v := by
  funext i k; unfold up; split <;> rfl
theorem up_comm {M : Nat → Nat → Int} {r s : Nat} {u v : Nat → Int} (h : r ≠ s) : up (up M r u) s v = up (up M s v) r u := by
  funext i k; unfold up
  by_cases a : i = r
  · rw [if_neg (by omega), if_pos a, if_pos a]
  · by_cases b : i = s
    · rw [if_pos b, if_neg a, if_pos b]
    · rw [if_neg b, if_neg a, if_neg a, if_neg b]
theorem up_self {M : Nat → Nat → Int} {r : Nat} : up M r (M r) = M := by
  funext i k; unfold up; split
  · rename_i h; rw [h]
  · rfl
/-- where equal rows r, s give 0, a change of r for s turns the sign -/
theorem det_swap_of {n r s : Nat} (hr : r < n) (hs : s < n) (rs : r ≠ s) (H : ∀ M : Nat → Nat → Int, (∀ k, M r k = M s k) → det n M = 0) (M : Nat → Nat → Int) (u v : Nat → Int) :
    det n (up (up M r u) s v) = -det n (up (up M r v) s u) := by
  have z : ∀ w : Nat → Int, det n (up (up M r w) s w) = 0 := fun w => H _ fun k => by
    unfold up; rw [if_neg rs, if_pos rfl, if_pos rfl]
  have q := z fun k => 1 * u k + 1 * v k
  rw [det_lin 1 1 n _ s u v hs, up_comm rs, up_comm rs, det_lin 1 1 n _ r u v hr, det_lin 1 1 n _ r u v hr, ← up_comm rs, ← up_comm rs, ← up_comm rs, ← up_comm rs] at q
  rw [z u, z v] at q
  omega
theorem det_alt : ∀ (d n : Nat) (M : Nat → Nat → Int) (r : Nat), r + d + 1 < n → (∀ k, M r k = M (r + d + 1) k) → det n M = 0
  | 0, n, M, r, h, e => det_adj n M r h e
  | d + 1, n, M, r, h, e => by
    have q := det_swap_of (n := n) (r := r + d + 1) (s := r + d + 1 + 1) (by omega) h (by omega) (fun M => det_adj n M _ h) M (M (r + d + 1)) (M (r + d + 1 + 1))
    rw [up_self, up_self] at q
    rw [q, det_alt d n _ r (by omega) fun k => ?_]
    · rfl
    · unfold up
      rw [if_neg (by omega), if_neg (by omega), if_neg (by omega), if_pos rfl]
      exact e k
theorem det_eq {n : Nat} {M : Nat → Nat → Int} {r s : Nat} (hr : r < n) (hs : s < n) (rs : r ≠ s) (e : ∀ k, M r k = M s k) : det n M = 0 := by
  by_cases c : r < s
  · exact det_alt (s - r - 1) n M r (by omega) (by rw [show r + (s - r - 1) + 1 = s from by omega]; exact e)
  · exact det_alt (r - s - 1) n M s (by omega) (by rw [show s + (r - s - 1) + 1 = r from by omega]; exact fun k => (e k).symm)
theorem det_swap {n r s : Nat} (hr : r < n) (hs : s < n) (rs : r ≠ s) (M : Nat → Nat → Int) (u v : Nat → Int) :
    det n (up (up M r u) s v) = -det n (up (up M r v) s u) := det_swap_of hr hs rs (fun _ => det_eq hr hs rs) M u v
theorem det_id : ∀ n : Nat, det n (fun i k => if i = k then 1 else 0) = 1
  | 0 => rfl
  | n + 1 => by
    show sm (n + 1) _ = 1
    rw [sm_one (s := 0) (by omega) fun j hj => by show sg j * ((if j = 0 then 1 else 0) * _) = 0; rw [if_neg hj, Int.zero_mul, Int.mul_zero]]
    have w : (fun i k => if skip 0 i = k + 1 then (1 : Int) else 0) = fun i k => if i = k then 1 else 0 := by
      funext i k
      have a : skip 0 i = i + 1 := by unfold skip; rw [if_neg (by omega)]
      rw [a]
      by_cases c : i = k
      · rw [if_pos (by omega), if_pos c]
      · rw [if_neg (by omega), if_neg c]
    rw [w, det_id n]
    rfl
theorem det_zero_row {n : Nat} {M : Nat → Nat → Int} {r : Nat} (hr : r < n) : det n (up M r fun _ => 0) = 0 := by
  have q := det_lin 0 0 n M r (fun _ => 0) (fun _ => 0) hr
  have a : (fun k : Nat => (0 : Int) * 0 + 0 * 0) = fun _ => 0 := by funext k; rfl
  rw [a] at q
  omega
theorem det_sum {n : Nat} {M : Nat → Nat → Int} {r : Nat} (hr : r < n) (t : Nat → Int) (F : Nat → Nat → Int) : ∀ m : Nat,
    det n (up M r fun k => sm m fun j => t j * F j k) = sm m fun j => t j * det n (up M r (F j))
  | 0 => det_zero_row hr
  | m + 1 => by
    have q := det_lin 1 (t m) n M r (fun k => sm m fun j => t j * F j k) (F m) hr
    have a : (fun k => 1 * (sm m fun j => t j * F j k) + t m * F m k) = fun k => sm (m + 1) fun j => t j * F j k := by funext k; rw [Int.one_mul]; rfl
    rw [a, det_sum hr t F m] at q
    rw [q, Int.one_mul]
    rfl
/-- a row written as a sum of the rows -/
theorem det_coord {n : Nat} {M : Nat → Nat → Int} {c : Nat} (hc : c < n) (t : Nat → Int) :
    det n (up M c fun k => sm n fun j => t j * M j k) = t c * det n M := by
  rw [det_sum hc, sm_oneB hc fun j h hj => ?_, up_self]
  rw [det_eq hc h (Ne.symm hj) fun k => by unfold up; rw [if_pos rfl, if_neg hj], Int.mul_zero]
theorem up_rev {M : Nat → Nat → Int} {c l : Nat} (h : c ≠ l) : up (up M c (M c)) l (M l) = M := by
  rw [up_self, up_self]
/-- two rows written as sums of the rows -/
theorem det_coord2 {n : Nat} {M : Nat → Nat → Int} {c l : Nat} (hc : c < n) (hl : l < n) (cl : c ≠ l) (t s : Nat → Int) :
    det n (up (up M c fun k => sm n fun j => t j * M j k) l fun k => sm n fun j => s j * M j k) = (t c * s l - t l * s c) * det n M := by
  rw [det_sum hl, sm_twoB cl hc hl fun j h j1 j2 => ?_]
  · have e1 : det n (up (up M c fun k => sm n fun j => t j * M j k) l (M l)) = t c * det n M := by
      rw [up_comm cl, up_self, det_coord hc]
    have e2 : det n (up (up M c fun k => sm n fun j => t j * M j k) l (M c)) = -(t l * det n M) := by
      rw [up_comm cl, det_sum hc, sm_oneB hl fun j h hj => ?_, up_comm (Ne.symm cl), det_swap hc hl cl, up_rev cl]
      · grind
      · by_cases e : j = c
        · subst e
          rw [det_eq hc hl cl fun k => by unfold up; rw [if_pos rfl, if_neg (Ne.symm cl), if_pos rfl], Int.mul_zero]
        · rw [det_eq hc h (Ne.symm e) fun k => by unfold up; rw [if_pos rfl, if_neg e, if_neg hj], Int.mul_zero]
    rw [e1, e2]
    grind
  · rw [det_eq hl h (Ne.symm j2) fun k => by unfold up; rw [if_pos rfl, if_neg j2, if_neg j1], Int.mul_zero]
end Y
/-! plain: tables of the simplex rows, exchanges, exactness of the division -/
namespace Y
/-- n unknowns, m rows: numbers R i k (k < n), right side C i, is the row an equation -/
structure Rws where
  n : Nat
  m : Nat
  R : Nat → Nat → Int
  C : Nat → Int
  q : Nat → Bool
structure Stt where
  T : Nat → Nat → Int
  b : Nat → Nat
  f : Nat → Nat
  d : Int
variable (W : Rws)
def Rws.vec (v k : Nat) : Int := if v < W.n then (if v = k then 1 else 0) else if k < W.n then W.R (v - W.n) k else if k = W.n then -W.C (v - W.n) else 0
def Rws.one (k : Nat) : Int := if k = W.n then 1 else 0
def Rws.F (S : Stt) (j : Nat) : Nat → Int := if j < W.n then W.vec (S.f j) else W.one
def Stt.inB (S : Stt) (W : Rws) (v : Nat) : Prop := ∃ i, i < W.m ∧ S.b i = v
def Stt.inF (S : Stt) (W : Rws) (v : Nat) : Prop := ∃ j, j < W.n ∧ S.f j = v
structure Ok (S : Stt) : Prop where
  pos : 0 < S.d
  cov : ∀ v, v < W.n + W.m → S.inB W v ∨ S.inF W v
  dis : ∀ v, S.inB W v → S.inF W v → False
  bj : ∀ i i', i < W.m → i' < W.m → S.b i = S.b i' → i = i'
  fj : ∀ j j', j < W.n → j' < W.n → S.f j = S.f j' → j = j'
  bl : ∀ i, i < W.m → S.b i < W.n + W.m
  fl : ∀ j, j < W.n → S.f j < W.n + W.m
  eqn : ∀ i k, i < W.m → S.d * W.vec (S.b i) k = sm (W.n + 1) fun j => S.T i j * W.F S j k
  dtr : det (W.n + 1) (W.F S) = S.d ∨ det (W.n + 1) (W.F S) = -S.d
/-- the exchange at line l, column c -/
def sgn (p : Int) : Int := if p < 0 then -1 else 1
def Stt.ex (S : Stt) (l c : Nat) : Stt where
  T i j := if i = l then (if j = c then sgn (S.T l c) * S.d else -sgn (S.T l c) * S.T l j)
    else if j = c then sgn (S.T l c) * S.T i c else sgn (S.T l c) * (S.T i j * S.T l c - S.T i c * S.T l j) / S.d
  b i := if i = l then S.f c else S.b i
  f j := if j = c then S.b l else S.f j
  d := (S.T l c).natAbs
theorem sgn_mul (p : Int) : sgn p * p = p.natAbs := by unfold sgn; split <;> omega
theorem sgn_sq (p : Int) : sgn p * sgn p = 1 := by unfold sgn; split <;> rfl
theorem sgn_cases (p : Int) : sgn p = 1 ∨ sgn p = -1 := by unfold sgn; split <;> simp
variable {W} {S : Stt}
theorem Ok.row (h : Ok W S) {i : Nat} (hi : i < W.m) : (fun k => S.d * W.vec (S.b i) k) = fun k => sm (W.n + 1) fun j => S.T i j * W.F S j k := funext fun k => h.eqn i k hi
theorem det_mul1 {n : Nat} {M : Nat → Nat → Int} {r : Nat} (hr : r < n) (a : Int) (u : Nat → Int) : det n (up M r fun k => a * u k) = a * det n (up M r u) := by
  have q := det_lin a 0 n M r u (fun _ => 0) hr
  have e : (fun k => a * u k + 0 * (0 : Int)) = fun k => a * u k := by funext k; omega
  rw [e] at q
  rw [q, Int.zero_mul, Int.add_zero]
theorem Ok.exact (h : Ok W S) {i l c j : Nat} (hi : i < W.m) (hl : l < W.m) (hc : c < W.n) (hj : j < W.n + 1) (cj : c ≠ j) : S.d ∣ S.T i j * S.T l c - S.T i c * S.T l j := by
  have q := det_coord2 (M := W.F S) (n := W.n + 1) (c := c) (l := j) (by omega) hj cj (S.T l) (S.T i)
  rw [← h.row hl, ← h.row hi, det_mul1 hj, up_comm cj, det_mul1 (by omega)] at q
  have hd := h.pos
  generalize det (W.n + 1) (up (up (W.F S) j fun k => W.vec (S.b i) k) c fun k => W.vec (S.b l) k) = E at q
  rcases h.dtr with e | e
  · rw [e] at q
    refine ⟨E, ?_⟩
    have : S.d * (S.d * E) = S.d * (S.T i j * S.T l c - S.T i c * S.T l j) := by rw [q]; grind
    exact (Int.eq_of_mul_eq_mul_left (by omega) this).symm
  · rw [e] at q
    refine ⟨-E, ?_⟩
    have : S.d * (S.d * -E) = S.d * (S.T i j * S.T l c - S.T i c * S.T l j) := by grind
    exact (Int.eq_of_mul_eq_mul_left (by omega) this).symm
theorem F_ex {l c : Nat} (hc : c < W.n) : W.F (S.ex l c) = up (W.F S) c (W.vec (S.b l)) := by
  funext j k
  unfold up Rws.F Stt.ex
  by_cases e : j = c
  · subst e; rw [if_pos hc, if_pos rfl]; show W.vec (if j = j then _ else _) k = _; rw [if_pos rfl]
  · rw [if_neg e]
    by_cases g : j < W.n
    · rw [if_pos g, if_pos g]; show W.vec (if j = c then _ else _) k = _; rw [if_neg e]
    · rw [if_neg g, if_neg g]
theorem Ok.exDet (h : Ok W S) {l c : Nat} (hl : l < W.m) (hc : c < W.n) :
    det (W.n + 1) (W.F (S.ex l c)) = ((S.T l c).natAbs : Int) ∨ det (W.n + 1) (W.F (S.ex l c)) = -((S.T l c).natAbs : Int) := by
  have q := det_coord (M := W.F S) (n := W.n + 1) (c := c) (by omega) (S.T l)
  rw [← h.row hl, det_mul1 (by omega)] at q
  rw [F_ex hc]
  have hd := h.pos
  have e0 : (up (W.F S) c fun k => W.vec (S.b l) k) = up (W.F S) c (W.vec (S.b l)) := rfl
  rw [e0] at q
  generalize det (W.n + 1) (up (W.F S) c (W.vec (S.b l))) = E at q ⊢
  rcases h.dtr with e | e
  · rw [e] at q
    have : S.d * E = S.d * S.T l c := by rw [q]; grind
    have := Int.eq_of_mul_eq_mul_left (by omega) this
    omega
  · rw [e] at q
    have : S.d * E = S.d * -S.T l c := by rw [q]; grind
    have := Int.eq_of_mul_eq_mul_left (by omega) this
    omega
theorem sm_split {f : Nat → Int} {n c : Nat} (hc : c < n) : sm n f = f c + sm n fun j => if j = c then 0 else f j := by
  have q := sm_upd (f := fun j => if j = c then 0 else f j) (g := f) (s := c) (n := n) (fun i hi => by rw [if_neg hi]) hc
  rw [if_pos rfl] at q
  omega
theorem Ok.exEqn (h : Ok W S) {l c : Nat} (hl : l < W.m) (hc : c < W.n) (hp : S.T l c ≠ 0) (i k : Nat) (hi : i < W.m) :
    (S.ex l c).d * W.vec ((S.ex l c).b i) k = sm (W.n + 1) fun j => (S.ex l c).T i j * W.F (S.ex l c) j k := by
  have hd := h.pos
  have hs := sgn_mul (S.T l c)
  have hq := sgn_sq (S.T l c)
  have el := h.eqn l k hl
  have ei := h.eqn i k hi
  rw [sm_split (c := c) (by omega)] at el ei
  rw [sm_split (c := c) (by omega), F_ex hc]
  have fc : W.F S c = W.vec (S.f c) := by unfold Rws.F; rw [if_pos hc]
  rw [fc] at el ei
  have uc : up (W.F S) c (W.vec (S.b l)) c k = W.vec (S.b l) k := by unfold up; rw [if_pos rfl]
  rw [uc]
  show ((S.T l c).natAbs : Int) * W.vec (if i = l then S.f c else S.b i) k = (if i = l then (if c = c then _ else _) else if c = c then _ else _) * _ + _
  by_cases e : i = l
  · subst e
    rw [if_pos rfl, if_pos rfl, if_pos rfl]
    have r : (sm (W.n + 1) fun j => if j = c then 0 else (S.ex i c).T i j * up (W.F S) c (W.vec (S.b i)) j k) = -sgn (S.T i c) * sm (W.n + 1) fun j => if j = c then 0 else S.T i j * W.F S j k := by
      rw [← sm_mul]
      refine sm_congr fun j hj => ?_
      by_cases a : j = c
      · rw [if_pos a, if_pos a]; omega
      · rw [if_neg a, if_neg a]
        have a1 : (S.ex i c).T i j = -sgn (S.T i c) * S.T i j := by show (if i = i then (if j = c then _ else _) else _) = _; rw [if_pos rfl, if_neg a]
        have a2 : up (W.F S) c (W.vec (S.b i)) j k = W.F S j k := by unfold up; rw [if_neg a]
        rw [a1, a2, Int.mul_assoc]
    rw [r, ← hs]
    generalize (sm (W.n + 1) fun j => if j = c then 0 else S.T i j * W.F S j k) = X at *
    grind
  · rw [if_neg e, if_neg e, if_pos rfl]
    have r : S.d * (sm (W.n + 1) fun j => if j = c then 0 else (S.ex l c).T i j * up (W.F S) c (W.vec (S.b l)) j k) =
        sgn (S.T l c) * S.T l c * (sm (W.n + 1) fun j => if j = c then 0 else S.T i j * W.F S j k) + -sgn (S.T l c) * S.T i c * (sm (W.n + 1) fun j => if j = c then 0 else S.T l j * W.F S j k) := by
      rw [← sm_mul, ← sm_mul, ← sm_mul, ← sm_add]
      refine sm_congr fun j hj => ?_
      by_cases a : j = c
      · rw [if_pos a, if_pos a, if_pos a]; omega
      · rw [if_neg a, if_neg a, if_neg a]
        have a1 : (S.ex l c).T i j = sgn (S.T l c) * (S.T i j * S.T l c - S.T i c * S.T l j) / S.d := by show (if i = l then _ else if j = c then _ else _) = _; rw [if_neg e, if_neg a]
        have a2 : up (W.F S) c (W.vec (S.b l)) j k = W.F S j k := by unfold up; rw [if_neg a]
        have a3 : S.d * (sgn (S.T l c) * (S.T i j * S.T l c - S.T i c * S.T l j) / S.d) = sgn (S.T l c) * (S.T i j * S.T l c - S.T i c * S.T l j) :=
          Int.mul_ediv_cancel' (Int.dvd_trans (h.exact hi hl hc hj (Ne.symm a)) (Int.dvd_mul_left _ _))
        rw [a1, a2, ← Int.mul_assoc, a3]
        grind
    refine Int.eq_of_mul_eq_mul_left (a := S.d) (by omega) ?_
    rw [Int.mul_add, r, ← hs]
    generalize (sm (W.n + 1) fun j => if j = c then 0 else S.T i j * W.F S j k) = X at *
    generalize (sm (W.n + 1) fun j => if j = c then 0 else S.T l j * W.F S j k) = Z at *
    grind
end Y
/-! plain: an exchange keeps a state whole; the basic solution of a state -/
namespace Y
variable {W : Rws} {S : Stt}
theorem ex_b_l {l c : Nat} : (S.ex l c).b l = S.f c := if_pos rfl
theorem ex_b {l c i : Nat} (h : i ≠ l) : (S.ex l c).b i = S.b i := if_neg h
theorem ex_f_c {l c : Nat} : (S.ex l c).f c = S.b l := if_pos rfl
theorem ex_f {l c j : Nat} (h : j ≠ c) : (S.ex l c).f j = S.f j := if_neg h
theorem Ok.nbf (h : Ok W S) {i j : Nat} (hi : i < W.m) (hj : j < W.n) : S.b i ≠ S.f j := fun e => h.dis (S.b i) ⟨i, hi, rfl⟩ ⟨j, hj, e.symm⟩
theorem Ok.exB (h : Ok W S) {l c : Nat} (hl : l < W.m) (hc : c < W.n) (v : Nat) : (S.ex l c).inB W v ↔ v = S.f c ∨ (S.inB W v ∧ v ≠ S.b l) := by
  constructor
  · rintro ⟨i, hi, e⟩
    by_cases g : i = l
    · subst g; rw [ex_b_l] at e; exact .inl e.symm
    · rw [ex_b g] at e
      exact .inr ⟨⟨i, hi, e⟩, fun q => g (h.bj i l hi hl (e.trans q))⟩
  · rintro (e | ⟨⟨i, hi, e⟩, n⟩)
    · exact ⟨l, hl, ex_b_l.trans e.symm⟩
    · exact ⟨i, hi, (ex_b fun q => n (by rw [← e, q])).trans e⟩
theorem Ok.exF (h : Ok W S) {l c : Nat} (hl : l < W.m) (hc : c < W.n) (v : Nat) : (S.ex l c).inF W v ↔ v = S.b l ∨ (S.inF W v ∧ v ≠ S.f c) := by
  constructor
  · rintro ⟨i, hi, e⟩
    by_cases g : i = c
    · subst g; rw [ex_f_c] at e; exact .inl e.symm
    · rw [ex_f g] at e
      exact .inr ⟨⟨i, hi, e⟩, fun q => g (h.fj i c hi hc (e.trans q))⟩
  · rintro (e | ⟨⟨i, hi, e⟩, n⟩)
    · exact ⟨c, hc, ex_f_c.trans e.symm⟩
    · exact ⟨i, hi, (ex_f fun q => n (by rw [← e, q])).trans e⟩
theorem Ok.ex (h : Ok W S) {l c : Nat} (hl : l < W.m) (hc : c < W.n) (hp : S.T l c ≠ 0) : Ok W (S.ex l c) where
  pos := by show 0 < ((S.T l c).natAbs : Int); omega
  cov v hv := by
    rw [h.exB hl hc, h.exF hl hc]
    by_cases e1 : v = S.f c
    · exact .inl (.inl e1)
    · by_cases e2 : v = S.b l
      · exact .inr (.inl e2)
      · rcases h.cov v hv with a | a
        · exact .inl (.inr ⟨a, e2⟩)
        · exact .inr (.inr ⟨a, e1⟩)
  dis v a b := by
    rw [h.exB hl hc] at a
    rw [h.exF hl hc] at b
    rcases a with a | ⟨a, a'⟩ <;> rcases b with b | ⟨b, b'⟩
    · exact h.nbf hl hc (b.symm.trans a)
    · exact b' a
    · exact a' b
    · exact h.dis v a b
  bj i i' hi hi' e := by
    by_cases a : i = l <;> by_cases b : i' = l
    · omega
    · rw [a, ex_b_l, ex_b b] at e; exact (h.nbf hi' hc e.symm).elim
    · rw [b, ex_b_l, ex_b a] at e; exact (h.nbf hi hc e).elim
    · rw [ex_b a, ex_b b] at e; exact h.bj i i' hi hi' e
  fj i i' hi hi' e := by
    by_cases a : i = c <;> by_cases b : i' = c
    · omega
    · rw [a, ex_f_c, ex_f b] at e; exact (h.nbf hl hi' e).elim
    · rw [b, ex_f_c, ex_f a] at e; exact (h.nbf hl hi e.symm).elim
    · rw [ex_f a, ex_f b] at e; exact h.fj i i' hi hi' e
  bl i hi := by
    by_cases a : i = l
    · rw [a, ex_b_l]; exact h.fl c hc
    · rw [ex_b a]; exact h.bl i hi
  fl i hi := by
    by_cases a : i = c
    · rw [a, ex_f_c]; exact h.bl l hl
    · rw [ex_f a]; exact h.fl i hi
  eqn i k hi := h.exEqn hl hc hp i k hi
  dtr := h.exDet hl hc
/-- the basic solution, as a linear form on rows -/
def Rws.phi (W : Rws) (S : Stt) (w : Nat → Int) : Int := (if det (W.n + 1) (W.F S) = S.d then 1 else -1) * det (W.n + 1) (up (W.F S) W.n w)
theorem phi_sum (t : Nat → Int) (V : Nat → Nat → Int) (m : Nat) : W.phi S (fun k => sm m fun j => t j * V j k) = sm m fun j => t j * W.phi S (V j) := by
  unfold Rws.phi
  rw [det_sum (by omega), ← sm_mul]
  exact sm_congr fun j hj => by grind
theorem phi_mul (a : Int) (v : Nat → Int) : W.phi S (fun k => a * v k) = a * W.phi S v := by
  unfold Rws.phi
  rw [det_mul1 (by omega)]; grind
theorem phi_f {j : Nat} (hj : j < W.n) : W.phi S (W.vec (S.f j)) = 0 := by
  have z : det (W.n + 1) (up (W.F S) W.n (W.vec (S.f j))) = 0 := det_eq (r := j) (s := W.n) (by omega) (by omega) (by omega) fun k => by
    unfold up
    rw [if_neg (by omega), if_pos rfl]
    unfold Rws.F
    rw [if_pos hj]
  unfold Rws.phi
  rw [z, Int.mul_zero]
theorem Ok.phi_one (h : Ok W S) : W.phi S W.one = S.d := by
  unfold Rws.phi
  have e : up (W.F S) W.n W.one = W.F S := by
    have : W.one = W.F S W.n := by unfold Rws.F; rw [if_neg (by omega)]
    rw [this, up_self]
  rw [e]
  rcases h.dtr with a | a
  · rw [if_pos a, a]; omega
  · have := h.pos
    rw [if_neg (by omega), a]; omega
theorem phi_F (h : Ok W S) {S' : Stt} (i : Nat) : (sm (W.n + 1) fun j => S'.T i j * W.phi S (W.F S' j)) = (sm W.n fun j => S'.T i j * W.phi S (W.vec (S'.f j))) + S'.T i W.n * S.d := by
  show (sm W.n fun j => S'.T i j * W.phi S (W.F S' j)) + S'.T i W.n * W.phi S (W.F S' W.n) = _
  have e : W.F S' W.n = W.one := by unfold Rws.F; rw [if_neg (by omega)]
  rw [e, h.phi_one, sm_congr (n := W.n) (g := fun j => S'.T i j * W.phi S (W.vec (S'.f j))) fun j hj => by unfold Rws.F; rw [if_pos hj]]
/-- a row of one state at the basic solution of another -/
theorem Ok.phi_row (h : Ok W S) {S' : Stt} (h' : Ok W S') {i : Nat} (hi : i < W.m) :
    S'.d * W.phi S (W.vec (S'.b i)) = (sm W.n fun j => S'.T i j * W.phi S (W.vec (S'.f j))) + S'.T i W.n * S.d := by
  rw [← phi_F h, ← phi_sum, ← h'.row hi, phi_mul]
theorem Ok.phi_b (h : Ok W S) {i : Nat} (hi : i < W.m) : W.phi S (W.vec (S.b i)) = S.T i W.n := by
  have q := h.phi_row h hi
  rw [sm_zero (fun j hj => by rw [phi_f hj, Int.mul_zero])] at q
  have := h.pos
  refine Int.eq_of_mul_eq_mul_left (a := S.d) (by omega) ?_
  rw [q]; grind
end Y
/-! plain: the least index rule comes to an end -/
namespace Y
variable {W : Rws} {S : Stt}
/-- line i of S is violated -/
def Rws.vio (W : Rws) (S : Stt) (i : Nat) : Prop := W.n ≤ S.b i ∧ (0 < S.T i W.n ∨ (S.T i W.n < 0 ∧ W.q (S.b i - W.n) = true))
/-- column j of S can move so that line l comes nearer -/
def Rws.mov (W : Rws) (S : Stt) (l j : Nat) : Prop :=
  if S.f j < W.n then S.T l j ≠ 0 else 0 < sgn (S.T l W.n) * S.T l j ∧ W.q (S.f j - W.n) = false
/-- the step of the least index rule: line l, column c -/
structure Pk (W : Rws) (S : Stt) (l c : Nat) : Prop where
  hl : l < W.m
  hc : c < W.n
  vl : W.vio S l
  ml : ∀ i, i < W.m → W.vio S i → S.b l ≤ S.b i
  mv : W.mov S l c
  mc : ∀ j, j < W.n → W.mov S l j → S.f c ≤ S.f j
theorem Pk.ne {l c : Nat} (h : Pk W S l c) : S.T l c ≠ 0 := by
  have q := h.mv
  unfold Rws.mov at q
  split at q
  · exact q
  · intro e; rw [e, Int.mul_zero] at q; omega
theorem vio_pos {i : Nat} (h : W.vio S i) : 0 < sgn (S.T i W.n) * S.T i W.n := by
  rw [sgn_mul]
  rcases h.2 with a | a <;> omega
theorem not_vio {i : Nat} (h : ¬ W.vio S i) (hb : W.n ≤ S.b i) : S.T i W.n ≤ 0 ∧ (W.q (S.b i - W.n) = true → S.T i W.n = 0) := by
  unfold Rws.vio at h
  constructor
  · refine Int.not_lt.mp fun q => h ⟨hb, .inl q⟩
  · intro e
    have a : ¬ 0 < S.T i W.n := fun q => h ⟨hb, .inl q⟩
    have b : ¬ S.T i W.n < 0 := fun q => h ⟨hb, .inr ⟨q, e⟩⟩
    omega
theorem sm_nonneg {f : Nat → Int} : ∀ {n : Nat}, (∀ i, i < n → 0 ≤ f i) → 0 ≤ sm n f
  | 0, _ => by show (0 : Int) ≤ 0; omega
  | n + 1, h => by
    show 0 ≤ sm n f + f n
    have := sm_nonneg (n := n) fun i hi => h i (by omega)
    have := h n (by omega)
    omega
/-- what enters at S does not leave at S', where all above it stand alike -/
theorem bland (h : Ok W S) {S' : Stt} (h' : Ok W S') {l c l' c' : Nat} (p : Pk W S l c) (p' : Pk W S' l' c') (e : S'.b l' = S.f c) (hq : S.b l ≤ S.f c)
    (up : ∀ v, S.f c < v → S.inF W v → S'.inF W v) : False := by
  have q := h'.phi_row h p.hl
  have ps := vio_pos p.vl
  have hd := h.pos
  have hd' := h'.pos
  have hrn : W.n ≤ S.f c := by rw [← e]; exact p'.vl.1
  have hqn : W.n ≤ S.b l := p.vl.1
  have hne : S.b l ≠ S.f c := h.nbf p.hl p.hc
  have g := sgn_cases (S.T l W.n)
  -- what is not violated below r in S'
  have low : ∀ v, v < S.f c → W.n ≤ v → v < W.n + W.m → W.phi S' (W.vec v) ≤ 0 ∧ (W.q (v - W.n) = true → W.phi S' (W.vec v) = 0) := by
    intro v hv hn hvm
    rcases h'.cov v hvm with ⟨i, hi, a⟩ | ⟨j, hj, a⟩
    · subst a
      rw [h'.phi_b hi]
      refine not_vio (fun w => ?_) hn
      have := p'.ml i hi w
      omega
    · subst a
      rw [phi_f hj]
      exact ⟨by omega, fun _ => rfl⟩
  have terms : 0 ≤ sm W.n fun j => sgn (S.T l W.n) * (S.T l j * W.phi S' (W.vec (S.f j))) := by
    refine sm_nonneg fun j hj => ?_
    rw [← Int.mul_assoc]
    rcases Nat.lt_trichotomy (S.f j) (S.f c) with a | a | a
    · have nm : ¬ W.mov S l j := fun w => by have := p.mc j hj w; omega
      unfold Rws.mov at nm
      by_cases b : S.f j < W.n
      · rw [if_pos b] at nm
        have : S.T l j = 0 := by omega
        rw [this]; omega
      · rw [if_neg b] at nm
        have k := low (S.f j) a (by omega) (h.fl j hj)
        by_cases z : W.q (S.f j - W.n) = true
        · rw [k.2 z, Int.mul_zero]; omega
        · have : ¬ 0 < sgn (S.T l W.n) * S.T l j := fun w => nm ⟨w, by simpa using z⟩
          exact Int.mul_nonneg_of_nonpos_of_nonpos (by omega) k.1
    · have jc := h.fj j c hj p.hc a
      subst jc
      have m := p.mv
      unfold Rws.mov at m
      rw [if_neg (by omega)] at m
      rw [← e, h'.phi_b p'.hl]
      rcases p'.vl.2 with w | w
      · exact Int.mul_nonneg (by omega) (by omega)
      · rw [e, m.2] at w; exact absurd w.2 (by simp)
    · rcases up (S.f j) a ⟨j, hj, rfl⟩ with ⟨j', hj', b⟩
      rw [← b, phi_f hj', Int.mul_zero]; omega
  rw [sm_mul] at terms
  have tot : 0 < sgn (S.T l W.n) * (S.d * W.phi S' (W.vec (S.b l))) := by
    rw [q, Int.mul_add, ← Int.mul_assoc _ (S.T l W.n)]
    have := Int.mul_pos ps hd'
    omega
  have k := low (S.b l) (by omega) hqn (h.bl l p.hl)
  generalize W.phi S' (W.vec (S.b l)) = y at k tot
  rcases g with g | g
  · rw [g, Int.one_mul] at tot
    have z := Int.mul_le_mul_of_nonneg_left k.1 (Int.le_of_lt hd)
    rw [Int.mul_zero] at z
    omega
  · rw [g] at tot ps
    rcases p.vl.2 with w | w
    · omega
    · rw [k.2 w.2] at tot; simp at tot
end Y
/-! plain: runs of the least index rule are short -/
namespace Y
variable {W : Rws}
structure Run (W : Rws) (s : Nat → Stt) (l c : Nat → Nat) (N : Nat) : Prop where
  ok : Ok W (s 0)
  pk : ∀ i, i < N → Pk W (s i) (l i) (c i)
  st : ∀ i, i < N → s (i + 1) = (s i).ex (l i) (c i)
variable {s : Nat → Stt} {l c : Nat → Nat} {N : Nat}
theorem Run.all (r : Run W s l c N) : ∀ i, i ≤ N → Ok W (s i)
  | 0, _ => r.ok
  | i + 1, h => by
    have p := r.pk i (by omega)
    rw [r.st i (by omega)]
    exact (r.all i (by omega)).ex p.hl p.hc p.ne
theorem Run.B (r : Run W s l c N) {i : Nat} (h : i < N) (v : Nat) : (s (i + 1)).inB W v ↔ v = (s i).f (c i) ∨ ((s i).inB W v ∧ v ≠ (s i).b (l i)) := by
  rw [r.st i h]; exact (r.all i (by omega)).exB (r.pk i h).hl (r.pk i h).hc v
theorem Run.Fr (r : Run W s l c N) {i : Nat} (h : i < N) (v : Nat) : (s (i + 1)).inF W v ↔ v = (s i).b (l i) ∨ ((s i).inF W v ∧ v ≠ (s i).f (c i)) := by
  rw [r.st i h]; exact (r.all i (by omega)).exF (r.pk i h).hl (r.pk i h).hc v
theorem Run.outs (r : Run W s l c N) {v x : Nat} : ∀ d, x + d ≤ N → (s x).inB W v → (s (x + d)).inF W v → ∃ z, x ≤ z ∧ z < x + d ∧ (s z).b (l z) = v
  | 0, h, a, b => ((r.all x (by omega)).dis v a b).elim
  | d + 1, h, a, b => by
    rw [show x + (d + 1) = x + d + 1 from rfl, r.Fr (by omega)] at b
    rcases b with b | b
    · exact ⟨x + d, by omega, by omega, b.symm⟩
    · rcases r.outs d (by omega) a b.1 with ⟨z, h1, h2, h3⟩
      exact ⟨z, h1, by omega, h3⟩
theorem Run.ins (r : Run W s l c N) {v x : Nat} : ∀ d, x + d ≤ N → (s x).inF W v → (s (x + d)).inB W v → ∃ z, x ≤ z ∧ z < x + d ∧ (s z).f (c z) = v
  | 0, h, a, b => ((r.all x (by omega)).dis v b a).elim
  | d + 1, h, a, b => by
    rw [show x + (d + 1) = x + d + 1 from rfl, r.B (by omega)] at b
    rcases b with b | b
    · exact ⟨x + d, by omega, by omega, b.symm⟩
    · rcases r.ins d (by omega) a b.1 with ⟨z, h1, h2, h3⟩
      exact ⟨z, h1, by omega, h3⟩
/-- above all that move, nothing changes -/
theorem Run.same (r : Run W s l c N) {v x : Nat} : ∀ d, x + d ≤ N → (∀ z, x ≤ z → z < x + d → (s z).f (c z) ≠ v ∧ (s z).b (l z) ≠ v) → ((s (x + d)).inF W v ↔ (s x).inF W v)
  | 0, _, _ => Iff.rfl
  | d + 1, h, k => by
    have q := k (x + d) (by omega) (by omega)
    rw [show x + (d + 1) = x + d + 1 from rfl, r.Fr (by omega), ← r.same d (by omega) fun z h1 h2 => k z h1 (by omega)]
    constructor
    · rintro (e | e)
      · exact (q.2 e.symm).elim
      · exact e.1
    · exact fun e => .inr ⟨e, fun w => q.1 w.symm⟩
theorem Run.same2 (r : Run W s l c N) {v a t : Nat} (h : a + t ≤ N) (k : ∀ z, a ≤ z → z < a + t → (s z).f (c z) ≠ v ∧ (s z).b (l z) ≠ v) {i j : Nat} (hi : a ≤ i) (hi' : i < a + t) (hj : a ≤ j) (hj' : j < a + t) : (s i).inF W v → (s j).inF W v := by
  have p := r.same (v := v) (x := a) (i - a) (by omega) fun z h1 h2 => k z h1 (by omega)
  have q := r.same (v := v) (x := a) (j - a) (by omega) fun z h1 h2 => k z h1 (by omega)
  rw [show a + (i - a) = i from by omega] at p
  rw [show a + (j - a) = j from by omega] at q
  rw [p, q]; exact id
/-- stretch [a, a + t) where nothing above k moves -/
theorem Run.inout (r : Run W s l c N) {a t k : Nat} (h : a + t ≤ N) (hk : ∀ z, a ≤ z → z < a + t → (s z).f (c z) ≤ k ∧ (s z).b (l z) ≤ k) {i j : Nat} (hi : a ≤ i) (hi' : i < a + t) (hj : a ≤ j) (hj' : j < a + t)
    (e : (s i).f (c i) = k) (o : (s j).b (l j) = k) : False :=
  bland (r.all i (by omega)) (r.all j (by omega)) (r.pk i (by omega)) (r.pk j (by omega)) (by rw [e, o]) (by rw [e]; exact (hk i hi hi').2)
    fun v hv => r.same2 h (fun z h1 h2 => by have := hk z h1 h2; omega) hi hi' hj hj'
theorem Run.once (r : Run W s l c N) {a t k : Nat} (h : a + t ≤ N) (hk : ∀ z, a ≤ z → z < a + t → (s z).f (c z) ≤ k ∧ (s z).b (l z) ≤ k) {i j : Nat} (hi : a ≤ i) (ij : i < j) (hj' : j < a + t)
    (p : (s i).f (c i) = k ∨ (s i).b (l i) = k) (q : (s j).f (c j) = k ∨ (s j).b (l j) = k) : False := by
  have pi := r.pk i (by omega)
  have pj := r.pk j (by omega)
  rcases p with p | p <;> rcases q with q | q
  · have b1 : (s (i + 1)).inB W k := (r.B (by omega) k).mpr (.inl p.symm)
    have b2 : (s (i + 1 + (j - i - 1))).inF W k := by rw [show i + 1 + (j - i - 1) = j from by omega]; exact ⟨c j, pj.hc, q⟩
    rcases r.outs (j - i - 1) (by omega) b1 b2 with ⟨z, h1, h2, h3⟩
    exact r.inout h hk (i := i) (j := z) hi (by omega) (by omega) (by omega) p h3
  · exact r.inout h hk (i := i) (j := j) hi (by omega) (by omega) (by omega) p q
  · exact r.inout h hk (i := j) (j := i) (by omega) (by omega) hi (by omega) q p
  · have b1 : (s (i + 1)).inF W k := (r.Fr (by omega) k).mpr (.inl p.symm)
    have b2 : (s (i + 1 + (j - i - 1))).inB W k := by rw [show i + 1 + (j - i - 1) = j from by omega]; exact ⟨l j, pj.hl, q⟩
    rcases r.ins (j - i - 1) (by omega) b1 b2 with ⟨z, h1, h2, h3⟩
    exact r.inout h hk (i := z) (j := i) (by omega) (by omega) hi (by omega) h3 p
theorem Run.few (r : Run W s l c N) : ∀ k a t, a + t ≤ N → (∀ z, a ≤ z → z < a + t → (s z).f (c z) < k ∧ (s z).b (l z) < k) → t < 2 ^ k
  | 0, a, t, h, w => by
    rcases Nat.eq_zero_or_pos t with e | e
    · rw [e]; decide
    · have := w a (by omega) (by omega); omega
  | k + 1, a, t, h, w => by
    by_cases ex : ∃ i, a ≤ i ∧ i < a + t ∧ ((s i).f (c i) = k ∨ (s i).b (l i) = k)
    · rcases ex with ⟨i, i1, i2, i3⟩
      have hk : ∀ z, a ≤ z → z < a + t → (s z).f (c z) ≤ k ∧ (s z).b (l z) ≤ k := fun z h1 h2 => by have := w z h1 h2; omega
      have p := r.few k a (i - a) (by omega) fun z h1 h2 => by
        have g := hk z h1 (by omega)
        have n1 : ¬ ((s z).f (c z) = k ∨ (s z).b (l z) = k) := fun q => r.once h hk h1 (j := i) (by omega) i2 q i3
        omega
      have q := r.few k (i + 1) (a + t - (i + 1)) (by omega) fun z h1 h2 => by
        have g := hk z (by omega) (by omega)
        have n1 : ¬ ((s z).f (c z) = k ∨ (s z).b (l z) = k) := fun q => r.once h hk i1 (j := z) (by omega) (by omega) i3 q
        omega
      rw [Nat.pow_succ]; omega
    · have p := r.few k a t h fun z h1 h2 => by
        have g := w z h1 h2
        have n1 : ¬ ((s z).f (c z) = k ∨ (s z).b (l z) = k) := fun q => ex ⟨z, h1, h2, q⟩
        omega
      rw [Nat.pow_succ]; omega
theorem Run.short (r : Run W s l c N) : N < 2 ^ (W.n + W.m) :=
  r.few _ 0 N (by omega) fun z _ h => ⟨(r.all z (by omega)).fl _ (r.pk z (by omega)).hc, (r.all z (by omega)).bl _ (r.pk z (by omega)).hl⟩
end Y
/-! plain: the first state, bounds of the numbers, the picks as the loops make them, the end of the loop -/
namespace Y
theorem det_congr : ∀ {n : Nat} {M M' : Nat → Nat → Int}, (∀ i, i < n → ∀ k, M i k = M' i k) → det n M = det n M'
  | 0, _, _, _ => rfl
  | n + 1, M, M', h => sm_congr fun j hj => by
    show sg j * (M j 0 * det n fun i k => M (skip j i) (k + 1)) = sg j * (M' j 0 * det n fun i k => M' (skip j i) (k + 1))
    rw [h j hj, det_congr (n := n) fun i hi k => h (skip j i) (by unfold skip; split <;> omega) (k + 1)]
def bdd : Nat → Nat → Nat
  | 0, _ => 1
  | n + 1, B => (n + 1) * (B * bdd n B)
theorem sg_abs : ∀ j, (sg j).natAbs = 1
  | 0 => rfl
  | j + 1 => by show (-sg j).natAbs = 1; rw [Int.natAbs_neg]; exact sg_abs j
theorem sm_absB {f : Nat → Int} {B : Nat} : ∀ {n : Nat}, (∀ i, i < n → (f i).natAbs ≤ B) → (sm n f).natAbs ≤ n * B
  | 0, _ => by show (0 : Int).natAbs ≤ _; simp
  | n + 1, h => by
    have h1 := sm_absB (n := n) fun i hi => h i (by omega)
    have h2 := h n (by omega)
    show (sm n f + f n).natAbs ≤ _
    rw [Nat.succ_mul]; omega
theorem det_abs {B : Nat} : ∀ {n : Nat} {M : Nat → Nat → Int}, (∀ i, i < n → ∀ k, (M i k).natAbs ≤ B) → (det n M).natAbs ≤ bdd n B
  | 0, _, _ => by show (1 : Int).natAbs ≤ 1; decide
  | n + 1, M, h => sm_absB fun j hj => by
    rw [Int.natAbs_mul, Int.natAbs_mul, sg_abs, Nat.one_mul]
    exact Nat.mul_le_mul (h j hj 0) (det_abs fun i hi k => h _ (by unfold skip; split <;> omega) _)
variable {W : Rws} {S : Stt}
/-- all numbers of the rows are at most B -/
def Rws.le (W : Rws) (B : Nat) : Prop := 1 ≤ B ∧ (∀ i, i < W.m → (W.C i).natAbs ≤ B) ∧ ∀ i, i < W.m → ∀ k, k < W.n → (W.R i k).natAbs ≤ B
theorem Rws.le.vec {B : Nat} (h : W.le B) {v : Nat} (hv : v < W.n + W.m) (k : Nat) : (W.vec v k).natAbs ≤ B := by
  have h1 := h.1
  unfold Rws.vec
  split
  · split
    · exact h1
    · exact Nat.zero_le _
  · split
    · exact h.2.2 _ (by omega) k (by assumption)
    · split
      · rw [Int.natAbs_neg]; exact h.2.1 _ (by omega)
      · exact Nat.zero_le _
theorem Rws.le.F {B : Nat} (h : W.le B) (o : Ok W S) (j k : Nat) : (W.F S j k).natAbs ≤ B := by
  unfold Rws.F
  split
  · exact h.vec (o.fl j (by assumption)) k
  · have h1 := h.1
    unfold Rws.one
    split
    · exact h1
    · exact Nat.zero_le _
theorem Ok.dle {B : Nat} (o : Ok W S) (h : W.le B) : S.d.natAbs ≤ bdd (W.n + 1) B := by
  have q := det_abs (n := W.n + 1) (M := W.F S) fun i _ k => h.F o i k
  rcases o.dtr with e | e <;> rw [e] at q
  · exact q
  · rwa [Int.natAbs_neg] at q
theorem Ok.Tle {B : Nat} (o : Ok W S) (h : W.le B) {i j : Nat} (hi : i < W.m) (hj : j < W.n + 1) : (S.T i j).natAbs ≤ bdd (W.n + 1) B := by
  have q := det_coord (M := W.F S) (n := W.n + 1) (c := j) hj (S.T i)
  rw [← o.row hi, det_mul1 hj] at q
  have b := det_abs (n := W.n + 1) (M := up (W.F S) j fun k => W.vec (S.b i) k) fun x _ k => by
    unfold up; split
    · exact h.vec (o.bl i hi) k
    · exact h.F o x k
  have hd := o.pos
  generalize det (W.n + 1) (up (W.F S) j fun k => W.vec (S.b i) k) = E at q b
  rcases o.dtr with e | e <;> rw [e] at q
  · have : S.d * E = S.d * S.T i j := by rw [q]; grind
    have := Int.eq_of_mul_eq_mul_left (by omega) this
    omega
  · have : S.d * E = S.d * -S.T i j := by rw [q]; grind
    have := Int.eq_of_mul_eq_mul_left (by omega) this
    omega
def Rws.s0 (W : Rws) : Stt where
  T i j := if j < W.n then W.R i j else -W.C i
  b i := W.n + i
  f j := j
  d := 1
theorem Rws.ok0 (W : Rws) : Ok W W.s0 where
  pos := by show (0 : Int) < 1; decide
  cov v hv := by
    by_cases h : v < W.n
    · exact .inr ⟨v, h, rfl⟩
    · exact .inl ⟨v - W.n, by omega, by show W.n + (v - W.n) = v; omega⟩
  dis v a b := by
    obtain ⟨i, hi, e⟩ := a
    obtain ⟨j, hj, g⟩ := b
    have e : W.n + i = v := e
    have g : j = v := g
    omega
  bj i i' _ _ e := by have e : W.n + i = W.n + i' := e; omega
  fj j j' _ _ e := e
  bl i hi := by show W.n + i < _; omega
  fl i hi := by show i < _; omega
  eqn i k hi := by
    show 1 * W.vec (W.n + i) k = sm W.n (fun j => (if j < W.n then W.R i j else -W.C i) * W.F W.s0 j k) + (if W.n < W.n then _ else -W.C i) * W.F W.s0 W.n k
    have e : W.F W.s0 W.n k = W.one k := by unfold Rws.F; rw [if_neg (by omega)]
    rw [e, if_neg (by omega), Int.one_mul]
    have g : sm W.n (fun j => (if j < W.n then W.R i j else -W.C i) * W.F W.s0 j k) = sm W.n fun j => if j = k then W.R i k else 0 := sm_congr fun j hj => by
      rw [if_pos hj]
      unfold Rws.F
      rw [if_pos hj]
      show W.R i j * W.vec j k = _
      unfold Rws.vec
      rw [if_pos hj]
      by_cases z : j = k
      · rw [if_pos z, if_pos z, z, Int.mul_one]
      · rw [if_neg z, if_neg z, Int.mul_zero]
    rw [g]
    unfold Rws.vec Rws.one
    rw [if_neg (by omega), Nat.add_sub_cancel_left]
    by_cases z : k < W.n
    · rw [if_pos z, if_neg (by omega), sm_one (s := k) z fun j hj => if_neg hj, if_pos rfl]; omega
    · rw [if_neg z, sm_zero fun j hj => if_neg (by omega)]
      by_cases y : k = W.n
      · rw [if_pos y, if_pos y]; omega
      · rw [if_neg y, if_neg y]; omega
  dtr := .inl <| by
    show _ = (1 : Int)
    rw [← det_id (W.n + 1)]
    refine det_congr fun j hj k => ?_
    unfold Rws.F Rws.one
    by_cases z : j < W.n
    · rw [if_pos z]
      show W.vec j k = _
      unfold Rws.vec
      rw [if_pos z]
    · rw [if_neg z]
      have : j = W.n := by omega
      subst this
      by_cases y : k = W.n
      · rw [if_pos y, if_pos y.symm]
      · rw [if_neg y, if_neg (Ne.symm y)]
/-- the smallest key among those that pass, as a loop finds it -/
def lst (p : Nat → Bool) (key : Nat → Nat) : Nat → Int
  | 0 => -1
  | k + 1 => if p k = true ∧ (lst p key k < 0 ∨ key k < key (lst p key k).toNat) then k else lst p key k
theorem lst_spec (p : Nat → Bool) (key : Nat → Nat) : ∀ k, (lst p key k = -1 ∧ ∀ i, i < k → p i = false) ∨ ∃ l : Nat, l < k ∧ lst p key k = (l : Int) ∧ p l = true ∧ ∀ i, i < k → p i = true → key l ≤ key i
  | 0 => .inl ⟨rfl, fun i h => by omega⟩
  | k + 1 => by
    unfold lst
    rcases lst_spec p key k with ⟨e, h⟩ | ⟨l, hl, e, pl, h⟩
    · rw [e]
      by_cases c : p k = true
      · rw [if_pos ⟨c, .inl (by decide)⟩]
        refine .inr ⟨k, by omega, rfl, c, fun i hi pi => ?_⟩
        by_cases z : i = k
        · rw [z]; exact Nat.le_refl _
        · rw [h i (by omega)] at pi; exact absurd pi (by simp)
      · rw [if_neg fun q => c q.1]
        refine .inl ⟨rfl, fun i hi => ?_⟩
        by_cases z : i = k
        · rw [z]; simpa using c
        · exact h i (by omega)
    · rw [e]
      by_cases c : p k = true ∧ ((l : Int) < 0 ∨ key k < key (l : Int).toNat)
      · rw [if_pos c]
        have c2 : key k < key l := by rcases c.2 with q | q; · omega
                                      · exact q
        refine .inr ⟨k, by omega, rfl, c.1, fun i hi pi => ?_⟩
        by_cases z : i = k
        · rw [z]; exact Nat.le_refl _
        · have := h i (by omega) pi; omega
      · rw [if_neg c]
        refine .inr ⟨l, by omega, rfl, pl, fun i hi pi => ?_⟩
        by_cases z : i = k
        · subst z
          exact Nat.not_lt.mp fun q => c ⟨pi, .inr q⟩
        · exact h i (by omega) pi
instance {i : Nat} : Decidable (W.vio S i) := by unfold Rws.vio; infer_instance
instance {l j : Nat} : Decidable (W.mov S l j) := by unfold Rws.mov; infer_instance
def Rws.ln (W : Rws) (S : Stt) (k : Nat) : Int := lst (fun i => decide (W.vio S i)) S.b k
def Rws.cl (W : Rws) (S : Stt) (l k : Nat) : Int := lst (fun j => decide (W.mov S l j)) S.f k
theorem ln_spec : (W.ln S W.m = -1 ∧ ∀ i, i < W.m → ¬ W.vio S i) ∨ ∃ l : Nat, l < W.m ∧ W.ln S W.m = (l : Int) ∧ W.vio S l ∧ ∀ i, i < W.m → W.vio S i → S.b l ≤ S.b i := by
  rcases lst_spec (fun i => decide (W.vio S i)) S.b W.m with ⟨e, h⟩ | ⟨l, hl, e, pl, h⟩
  · exact .inl ⟨e, fun i hi => by simpa using h i hi⟩
  · exact .inr ⟨l, hl, e, by simpa using pl, fun i hi q => h i hi (by simpa using q)⟩
theorem cl_spec {l : Nat} : (W.cl S l W.n = -1 ∧ ∀ j, j < W.n → ¬ W.mov S l j) ∨ ∃ c : Nat, c < W.n ∧ W.cl S l W.n = (c : Int) ∧ W.mov S l c ∧ ∀ j, j < W.n → W.mov S l j → S.f c ≤ S.f j := by
  rcases lst_spec (fun i => decide (W.mov S l i)) S.f W.n with ⟨e, h⟩ | ⟨c, hc, e, pc, h⟩
  · exact .inl ⟨e, fun i hi => by simpa using h i hi⟩
  · exact .inr ⟨c, hc, e, by simpa using pc, fun i hi q => h i hi (by simpa using q)⟩
/-- the next state, where there is one -/
def Rws.nx (W : Rws) (S : Stt) : Stt := S.ex (W.ln S W.m).toNat (W.cl S (W.ln S W.m).toNat W.n).toNat
def Rws.go (W : Rws) (S : Stt) : Prop := 0 ≤ W.ln S W.m ∧ 0 ≤ W.cl S (W.ln S W.m).toNat W.n
theorem go_pk (h : W.go S) : Pk W S (W.ln S W.m).toNat (W.cl S (W.ln S W.m).toNat W.n).toNat := by
  rcases ln_spec (W := W) (S := S) with ⟨e, _⟩ | ⟨l, hl, e, vl, ml⟩
  · rw [Rws.go, e] at h; omega
  · rw [Rws.go, e] at h
    rw [e, Int.toNat_natCast]
    rw [Int.toNat_natCast] at h
    rcases cl_spec (W := W) (S := S) (l := l) with ⟨g, _⟩ | ⟨c, hc, g, mc, mm⟩
    · rw [g] at h; omega
    · rw [g, Int.toNat_natCast]
      exact ⟨hl, hc, vl, ml, mc, mm⟩
def Rws.at (W : Rws) : Nat → Stt
  | 0 => W.s0
  | k + 1 => W.nx (W.at k)
/-- the loop ends -/
theorem Rws.ends (W : Rws) : ∃ k, k < 2 ^ (W.n + W.m) + 1 ∧ ¬ W.go (W.at k) ∧ ∀ i, i < k → W.go (W.at i) := by
  have ex : ∃ k, k < 2 ^ (W.n + W.m) + 1 ∧ ¬ W.go (W.at k) := by
    refine Classical.byContradiction fun q => ?_
    have g : ∀ k, k < 2 ^ (W.n + W.m) + 1 → W.go (W.at k) := fun k hk => Classical.byContradiction fun z => q ⟨k, hk, z⟩
    have r : Run W W.at (fun i => (W.ln (W.at i) W.m).toNat) (fun i => (W.cl (W.at i) (W.ln (W.at i) W.m).toNat W.n).toNat) (2 ^ (W.n + W.m)) :=
      ⟨W.ok0, fun i hi => go_pk (g i (by omega)), fun i hi => rfl⟩
    have := r.short
    omega
  have : ∀ N k, k < N → k < 2 ^ (W.n + W.m) + 1 → ¬ W.go (W.at k) → ∃ k, k < 2 ^ (W.n + W.m) + 1 ∧ ¬ W.go (W.at k) ∧ ∀ i, i < k → W.go (W.at i) := by
    intro N
    induction N with
    | zero => intro k h; omega
    | succ N ih =>
      intro k hk hb hn
      by_cases z : ∀ i, i < k → W.go (W.at i)
      · exact ⟨k, hb, hn, z⟩
      · have : ∃ i, i < k ∧ ¬ W.go (W.at i) := Classical.byContradiction fun q => z fun i hi => Classical.byContradiction fun y => q ⟨i, hi, y⟩
        rcases this with ⟨i, hi, y⟩
        exact ih i (by omega) (by omega) y
  rcases ex with ⟨k, h1, h2⟩
  exact this (k + 1) k (by omega) h1 h2
theorem Rws.okAt (W : Rws) : ∀ k, (∀ i, i < k → W.go (W.at i)) → Ok W (W.at k)
  | 0, _ => W.ok0
  | k + 1, h => by
    have p := go_pk (h k (by omega))
    exact (W.okAt k fun i hi => h i (by omega)).ex p.hl p.hc p.ne
end Y
/-! plain: what the two ends of the loop say -/
namespace Y
variable {W : Rws} {S : Stt}
theorem Ok.low (h : Ok W S) (nv : ∀ i, i < W.m → ¬ W.vio S i) {v : Nat} (hn : W.n ≤ v) (hv : v < W.n + W.m) : W.phi S (W.vec v) ≤ 0 ∧ (W.q (v - W.n) = true → W.phi S (W.vec v) = 0) := by
  rcases h.cov v hv with ⟨i, hi, a⟩ | ⟨j, hj, a⟩
  · subst a
    rw [h.phi_b hi]
    exact not_vio (nv i hi) hn
  · subst a
    rw [phi_f hj]
    exact ⟨by omega, fun _ => rfl⟩
theorem vec_slack (i : Nat) : W.vec (W.n + i) = fun k => sm (W.n + 1) fun j => (if j < W.n then W.R i j else -W.C i) * (if j < W.n then W.vec j else W.one) k := by
  funext k
  show _ = sm W.n (fun j => (if j < W.n then W.R i j else -W.C i) * (if j < W.n then W.vec j else W.one) k) + (if W.n < W.n then W.R i W.n else -W.C i) * (if W.n < W.n then W.vec W.n else W.one) k
  rw [if_neg (by omega : ¬ W.n < W.n), if_neg (by omega : ¬ W.n < W.n)]
  have g : sm W.n (fun j => (if j < W.n then W.R i j else -W.C i) * (if j < W.n then W.vec j else W.one) k) = sm W.n fun j => if j = k then W.R i k else 0 := sm_congr fun j hj => by
    rw [if_pos hj, if_pos hj]
    unfold Rws.vec
    rw [if_pos hj]
    by_cases z : j = k
    · rw [if_pos z, if_pos z, z, Int.mul_one]
    · rw [if_neg z, if_neg z, Int.mul_zero]
  rw [g]
  unfold Rws.vec Rws.one
  rw [if_neg (by omega), Nat.add_sub_cancel_left]
  by_cases z : k < W.n
  · rw [if_pos z, if_neg (by omega), sm_one (s := k) z fun j hj => if_neg hj, if_pos rfl]; omega
  · rw [if_neg z, sm_zero fun j hj => if_neg (by omega)]
    by_cases y : k = W.n
    · rw [if_pos y, if_pos y]; omega
    · rw [if_neg y, if_neg y]; omega
/-- the unknowns at the basic solution, times d -/
def Rws.X (W : Rws) (S : Stt) (k : Nat) : Int := W.phi S (W.vec k)
theorem Ok.slack (h : Ok W S) (i : Nat) : W.phi S (W.vec (W.n + i)) = (sm W.n fun k => W.R i k * W.X S k) - W.C i * S.d := by
  rw [vec_slack, phi_sum]
  show sm W.n (fun j => (if j < W.n then W.R i j else -W.C i) * W.phi S (if j < W.n then W.vec j else W.one)) + (if W.n < W.n then W.R i W.n else -W.C i) * W.phi S (if W.n < W.n then W.vec W.n else W.one) = _
  rw [if_neg (by omega : ¬ W.n < W.n), if_neg (by omega : ¬ W.n < W.n), h.phi_one, sm_congr (n := W.n) (g := fun k => W.R i k * W.X S k) fun j hj => by rw [if_pos hj, if_pos hj]; rfl]
  grind
theorem Ok.point (h : Ok W S) (nv : ∀ i, i < W.m → ¬ W.vio S i) {i : Nat} (hi : i < W.m) :
    (sm W.n fun k => W.R i k * W.X S k) ≤ W.C i * S.d ∧ (W.q i = true → (sm W.n fun k => W.R i k * W.X S k) = W.C i * S.d) := by
  have q := h.low nv (v := W.n + i) (by omega) (by omega)
  rw [h.slack, Nat.add_sub_cancel_left] at q
  exact ⟨by omega, fun e => by have := q.2 e; omega⟩
theorem Ok.X_b (h : Ok W S) {i : Nat} (hi : i < W.m) : W.X S (S.b i) = S.T i W.n := h.phi_b hi
theorem X_f {j : Nat} (hj : j < W.n) : W.X S (S.f j) = 0 := phi_f hj
/-- the multipliers, as the loop over the columns fills them in -/
def Rws.fnd (W : Rws) (S : Stt) (l : Nat) : Nat → Nat → Int
  | 0, i => if W.n + i = S.b l then sgn (S.T l W.n) * S.d else 0
  | k + 1, i => if S.f k = W.n + i then -sgn (S.T l W.n) * S.T l k else W.fnd S l k i
theorem fnd_zero {l i : Nat} : ∀ {k : Nat}, W.n + i ≠ S.b l → (∀ j, j < k → S.f j ≠ W.n + i) → W.fnd S l k i = 0
  | 0, h, _ => if_neg h
  | k + 1, h, g => by
    show (if _ then _ else _) = (0 : Int)
    rw [if_neg (g k (by omega))]
    exact fnd_zero h fun j hj => g j (by omega)
theorem Ok.fnd_sum (h : Ok W S) {l : Nat} (hl : l < W.m) (hb : W.n ≤ S.b l) (g : Nat → Int) : ∀ k, k ≤ W.n →
    (sm W.m fun i => W.fnd S l k i * g (W.n + i)) = sgn (S.T l W.n) * S.d * g (S.b l) + sm k fun j => if S.f j < W.n then 0 else -sgn (S.T l W.n) * S.T l j * g (S.f j)
  | 0, _ => by
    have bl := h.bl l hl
    rw [sm_one (s := S.b l - W.n) (by omega) fun i hi => ?_]
    · show (if W.n + (S.b l - W.n) = S.b l then _ else _) * _ = _ + (0 : Int)
      rw [if_pos (by omega), show W.n + (S.b l - W.n) = S.b l from by omega]; omega
    · show (if W.n + i = S.b l then _ else _) * _ = (0 : Int)
      rw [if_neg (by omega), Int.zero_mul]
  | k + 1, hk => by
    show _ = _ + (sm k _ + (if S.f k < W.n then 0 else -sgn (S.T l W.n) * S.T l k * g (S.f k)))
    rw [← Int.add_assoc, ← h.fnd_sum hl hb g k (by omega)]
    by_cases z : S.f k < W.n
    · rw [if_pos z, Int.add_zero]
      refine sm_congr fun i hi => ?_
      show (if S.f k = W.n + i then _ else _) * _ = _
      rw [if_neg (by omega)]
    · have fl := h.fl k (by omega)
      rw [if_neg z, sm_upd (f := fun i => W.fnd S l k i * g (W.n + i)) (g := fun i => W.fnd S l (k + 1) i * g (W.n + i)) (s := S.f k - W.n) (fun i hi => ?_) (by omega)]
      · show _ + ((if S.f k = W.n + (S.f k - W.n) then _ else _) * _ - _) = _
        rw [if_pos (by omega), fnd_zero (by rw [show W.n + (S.f k - W.n) = S.f k from by omega]; exact (h.nbf hl (by omega)).symm) fun j hj e => ?_, show W.n + (S.f k - W.n) = S.f k from by omega]
        · omega
        · have := h.fj j k (by omega) (by omega) (by omega); omega
      · show (if S.f k = W.n + i then _ else _) * _ = _
        rw [if_neg (by omega)]
theorem fnd_nonneg {l : Nat} (p : 0 ≤ S.d) (vl : W.vio S l) (nm : ∀ j, j < W.n → ¬ W.mov S l j) {i : Nat} (hq : W.q i = false) : ∀ {k : Nat}, k ≤ W.n → 0 ≤ W.fnd S l k i
  | 0, _ => by
    show (0 : Int) ≤ if W.n + i = S.b l then sgn (S.T l W.n) * S.d else 0
    split
    · rename_i e
      rcases vl.2 with a | a
      · unfold sgn; rw [if_neg (by omega), Int.one_mul]; exact p
      · rw [← e, Nat.add_sub_cancel_left, hq] at a; exact absurd a.2 (by simp)
    · omega
  | k + 1, hk => by
    show (0 : Int) ≤ if S.f k = W.n + i then -sgn (S.T l W.n) * S.T l k else W.fnd S l k i
    split
    · rename_i e
      have q := nm k (by omega)
      unfold Rws.mov at q
      rw [if_neg (by omega), e, Nat.add_sub_cancel_left] at q
      have : ¬ 0 < sgn (S.T l W.n) * S.T l k := fun z => q ⟨z, hq⟩
      rw [Int.neg_mul]; omega
    · exact fnd_nonneg p vl nm hq (by omega)
theorem Ok.fnd_eqn (h : Ok W S) {l : Nat} (hl : l < W.m) (vl : W.vio S l) (nm : ∀ j, j < W.n → ¬ W.mov S l j) (k : Nat) :
    (sm W.m fun i => W.fnd S l W.n i * W.vec (W.n + i) k) = sgn (S.T l W.n) * S.T l W.n * W.one k := by
  rw [h.fnd_sum hl vl.1 (fun v => W.vec v k) W.n (Nat.le_refl _)]
  have e := h.eqn l k hl
  have e2 : (sm W.n fun j => if S.f j < W.n then 0 else -sgn (S.T l W.n) * S.T l j * W.vec (S.f j) k) = -sgn (S.T l W.n) * sm W.n fun j => S.T l j * W.F S j k := by
    rw [← sm_mul]
    refine sm_congr fun j hj => ?_
    unfold Rws.F
    rw [if_pos hj]
    by_cases z : S.f j < W.n
    · rw [if_pos z]
      have q := nm j hj
      unfold Rws.mov at q
      rw [if_pos z] at q
      have : S.T l j = 0 := by omega
      rw [this, Int.zero_mul, Int.mul_zero]
    · rw [if_neg z, Int.mul_assoc]
  have e3 : W.F S W.n k = W.one k := by unfold Rws.F; rw [if_neg (by omega)]
  have e4 : S.d * W.vec (S.b l) k = (sm W.n fun j => S.T l j * W.F S j k) + S.T l W.n * W.one k := by rw [e, ← e3]; rfl
  rw [e2]
  show sgn (S.T l W.n) * S.d * W.vec (S.b l) k + _ = _
  generalize (sm W.n fun j => S.T l j * W.F S j k) = Y at *
  rw [Int.mul_assoc, e4]
  grind
theorem Ok.clash (h : Ok W S) {l : Nat} (hl : l < W.m) (vl : W.vio S l) (nm : ∀ j, j < W.n → ¬ W.mov S l j) :
    (∀ i, W.q i = false → 0 ≤ W.fnd S l W.n i) ∧ (∀ k, k < W.n → (sm W.m fun i => W.fnd S l W.n i * W.R i k) = 0) ∧ (sm W.m fun i => W.fnd S l W.n i * W.C i) < 0 := by
  refine ⟨fun i hq => fnd_nonneg (Int.le_of_lt h.pos) vl nm hq (Nat.le_refl _), fun k hk => ?_, ?_⟩
  · have q := h.fnd_eqn hl vl nm k
    have o : W.one k = 0 := by unfold Rws.one; rw [if_neg (by omega)]
    rw [o, Int.mul_zero] at q
    rw [← q]
    refine sm_congr fun i hi => ?_
    unfold Rws.vec
    rw [if_neg (by omega), if_pos hk, Nat.add_sub_cancel_left]
  · have q := h.fnd_eqn hl vl nm W.n
    have o : W.one W.n = 1 := by unfold Rws.one; rw [if_pos rfl]
    rw [o, Int.mul_one] at q
    have e : (sm W.m fun i => W.fnd S l W.n i * W.vec (W.n + i) W.n) = -1 * sm W.m fun i => W.fnd S l W.n i * W.C i := by
      rw [← sm_mul]
      refine sm_congr fun i hi => ?_
      unfold Rws.vec
      rw [if_neg (by omega), if_neg (by omega), if_pos rfl, Nat.add_sub_cancel_left]
      grind
    have := vio_pos vl
    omega
end Y
/-! x is True; gcd, lcm; list(range(n)); bit_length -/
namespace Y
open PySem PySem.Spec PyProof.Rows L2
section
variable {X : Cx} {H : Hp} {Q : VK} {K : PySem.W.Frag}
def rIsB : R2 := fun x y H Q => ∃ a b : Bool, x = .bl a ∧ y = .bl b ∧ Q (.bl (a == b)) H
theorem op_isB : OpR X (compareOp .Is) rIsB := by
  intro pins s σ H x y v u Q I rx ry h
  obtain ⟨a, b, rfl, rfl, q⟩ := h
  cases rx
  cases ry
  show wpAny _ _ ((isSame (Value.bool a) (Value.bool b)) >>= fun z => pure (Value.bool z)) _ _ s
  exact wpAny_bind (wpAny_isSame_plain (by rfl) (wpAny_pure (fin_bl I q (by cases a <;> cases b <;> rfl))))
theorem rd_isB {a b : Bool} (h : Q (.bl (a == b)) H) : rIsB (.bl a) (.bl b) H Q := ⟨a, b, rfl, rfl, h⟩
theorem rd_gcd {a b : Int} (h : Q (.int ((Nat.gcd a.natAbs b.natAbs : Nat) : Int)) H) : rGcd [.int a, .int b] H Q := ⟨a, b, rfl, h⟩
end
end Y
/-! x in a tuple of data, lists of ints compared -/
namespace Y
open PySem PySem.Spec PyProof.Rows L2
def rInT (K : PySem.W.Frag) : R2 := fun x y H Q => ∃ d ds, Dp K H x d ∧ Dp K H y (.tuple ds) ∧ SeqAt.shaped d = true ∧ SeqAt.shaped (.tuple ds) = true ∧ Q (.bl (ds.any fun z => PyData.eqv z d)) H
theorem r65 {k : Nat} {A : Around} (r : Room k A) : A.units + 65 < cLine := by have := r.un; omega
section
variable {X : Cx}
theorem op_inT (hu : X.A.units + 65 < cLine) : OpR X (compareOp .In) (rInT X.K) := by
  intro pins s σ H x y v u Q I rx ry h
  obtain ⟨d, ds, hd, he, sd, se, q⟩ := h
  obtain ⟨as, r1⟩ := Dp.reads I d x v hd rx
  obtain ⟨bs, r2⟩ := Dp.reads I (.tuple ds) y u he ry
  exact SeqAt.in_tuple_reads r2 r1 (SeqAt.canLay_of_shaped se) (SeqAt.canLay_of_shaped sd) (room_in_shaped sd hu) ⟨.bl _, H, I, rfl, q⟩
end
section
variable {K : PySem.W.Frag} {H : Hp} {Q : VK}
theorem rd_inT {x y : V} {d : PyData} {ds : List PyData} (b : Bool) (hd : Dp K H x d) (he : Dp K H y (.tuple ds)) (sd : SeqAt.shaped d = true) (se : SeqAt.shaped (.tuple ds) = true) (hb : (ds.any fun z => PyData.eqv z d) = b) (h : Q (.bl b) H) : rInT K x y H Q :=
  ⟨d, ds, hd, he, sd, se, by rw [hb]; exact h⟩
def Par2 (R : V → V → Prop) (vs : List V) : Prop := ∃ v w, vs = [v, w] ∧ R v w
theorem rd_par {σ : L2.St} {H : Hp} {D : Ends} {i j : Nat} {ta : TA} (h : ta σ H fun vs H1 => Par2 (fun v w => D.nx ((σ.set i (some v)).set j (some w)) H1) vs) : tPar i j ta D σ H := h
theorem rd_par2 {R : V → V → Prop} {v w : V} (h : R v w) : Par2 R [v, w] := ⟨v, w, rfl, h⟩
theorem rd_bits {σ : L2.St} {H : Hp} {Q : VK} {te : TE} (h : te σ H fun x H1 => ∃ i, x = .int i ∧ Q (.int (Builtin.Int.intBits i : Nat)) H1) : tBits te σ H Q := h
theorem dp_ints {a : Addr} {ns : List Int} (e : H a = some (.lst (ns.map V.int))) : Dp K H (.ref a) (.list (ns.map PyData.int)) := by
  refine .lst (SqL.of e) ?_
  clear e
  induction ns with
  | nil => exact .nil
  | cons n ns ih => exact .cons (.int n) ih
theorem ints_shaped (ns : List Int) : SeqAt.shaped (.list (ns.map PyData.int)) = true := by
  have c : PyData.canLayAll0 (ns.map PyData.int) = true := by
    induction ns with
    | nil => simp [PyData.canLayAll0]
    | cons n ns ih => simp [PyData.canLayAll0, PyData.canLay0, ih]
  have c2 : PyData.canLay0 (.list (ns.map PyData.int)) = true := by simpa [PyData.canLay0] using c
  have d : PyData.depthAll (ns.map PyData.int) = 0 := by
    clear c c2
    induction ns with
    | nil => simp [PyData.depthAll]
    | cons n ns ih => simp [PyData.depthAll, PyData.depth, ih]
  unfold SeqAt.shaped
  rw [c2]
  simp [PyData.depth, d]
theorem ints_eqv : ∀ ns ms : List Int, PyData.eqvAll (ns.map PyData.int) (ms.map PyData.int) = decide (ns = ms)
  | [], [] => by simp [PyData.eqvAll]
  | [], _ :: _ => by simp [PyData.eqvAll]
  | _ :: _, [] => by simp [PyData.eqvAll]
  | n :: ns, m :: ms => by
    have ih := ints_eqv ns ms
    simp only [List.map_cons, PyData.eqvAll, PyData.eqv, ih]
    by_cases h : n = m
    · subst h; simp
    · simp [h]
theorem rd_eqL {a b : Addr} {ns ms : List Int} (e : H a = some (.lst (ns.map V.int))) (f : H b = some (.lst (ms.map V.int))) (h : Q (.bl (decide (ns = ms))) H) : rEqD K (.ref a) (.ref b) H Q :=
  ⟨_, _, dp_ints e, dp_ints f, ints_shaped ns, ints_shaped ms, by
    have : PyData.eqv (.list (ns.map PyData.int)) (.list (ms.map PyData.int)) = decide (ns = ms) := by
      simp only [PyData.eqv]; exact ints_eqv ns ms
    rw [this]; exact h⟩
theorem range_eq {n : Nat} {u v : Nat → Int} : ((List.range n).map u = (List.range n).map v) ↔ ∀ i, i < n → u i = v i := by
  constructor
  · intro h i hi
    have q := congrArg (fun l => l[i]?) h

    rw [List.getElem?_map, List.getElem?_map, List.getElem?_range hi] at q
    exact Option.some.inj q
  · intro h
    exact List.map_congr_left fun i hi => h i (List.mem_range.mp hi)
end
end Y
/-! Euclid's rounds, sums of fractions -/
namespace Y
def eu (a b : Nat) : Nat → Nat × Nat
  | 0 => (a, b)
  | k + 1 => if (eu a b k).2 = 0 then eu a b k else ((eu a b k).2, (eu a b k).1 % (eu a b k).2)
theorem eu_gcd (a b : Nat) : ∀ k, Nat.gcd (eu a b k).1 (eu a b k).2 = Nat.gcd a b
  | 0 => rfl
  | k + 1 => by
    have ih := eu_gcd a b k
    show Nat.gcd (if (eu a b k).2 = 0 then eu a b k else ((eu a b k).2, (eu a b k).1 % (eu a b k).2)).1 (if (eu a b k).2 = 0 then eu a b k else ((eu a b k).2, (eu a b k).1 % (eu a b k).2)).2 = _
    split
    · exact ih
    · show Nat.gcd (eu a b k).2 ((eu a b k).1 % (eu a b k).2) = _
      rw [← ih, Nat.gcd_comm (eu a b k).2, ← Nat.gcd_rec, Nat.gcd_comm]
theorem eu_stay {a b k : Nat} (h : (eu a b k).2 = 0) : eu a b (k + 1) = eu a b k := if_pos h
theorem eu_step {a b k : Nat} (h : (eu a b k).2 ≠ 0) : eu a b (k + 1) = ((eu a b k).2, (eu a b k).1 % (eu a b k).2) := if_neg h
theorem mod_half {r s : Nat} (h0 : 0 < s) (h : s < r) : 2 * (r % s) ≤ r := by
  have h1 := Nat.mod_lt r h0
  by_cases h2 : 2 * s ≤ r
  · omega
  · have : r % s = r - s := by
      rw [Nat.mod_eq_sub_mod (by omega), Nat.mod_eq_of_lt (by omega)]
    omega
theorem eu_half (a b k : Nat) : 2 * (eu a b (k + 2)).2 ≤ (eu a b k).2 := by
  by_cases h : (eu a b k).2 = 0
  · rw [show k + 2 = k + 1 + 1 from rfl, eu_stay (by rw [eu_stay h]; exact h), eu_stay h]; omega
  · have e1 := eu_step h
    by_cases h1 : (eu a b (k + 1)).2 = 0
    · rw [show k + 2 = k + 1 + 1 from rfl, eu_stay h1]; omega
    · have e2 := eu_step h1
      rw [show k + 2 = k + 1 + 1 from rfl, e2, e1]
      rw [e1] at h1
      exact mod_half (Nat.pos_of_ne_zero h1) (Nat.mod_lt _ (Nat.pos_of_ne_zero h))
theorem eu_pow (a b : Nat) : ∀ j, (eu a b (2 * j)).2 * 2 ^ j ≤ b
  | 0 => by show b * 1 ≤ b; omega
  | j + 1 => by
    have ih := eu_pow a b j
    have h := eu_half a b (2 * j)
    rw [show 2 * (j + 1) = 2 * j + 2 by omega, Nat.pow_succ]
    have := Nat.mul_le_mul_right (2 ^ j) h
    calc (eu a b (2 * j + 2)).2 * (2 ^ j * 2) = 2 * (eu a b (2 * j + 2)).2 * 2 ^ j := by grind
      _ ≤ (eu a b (2 * j)).2 * 2 ^ j := this
      _ ≤ b := ih
theorem eu_end {a b n : Nat} (h : b < 2 ^ n) : (eu a b (2 * n + 3)).2 = 0 := by
  have h1 := eu_pow a b n
  have h2 : (eu a b (2 * n)).2 = 0 := by
    by_cases z : (eu a b (2 * n)).2 = 0
    · exact z
    · have := Nat.mul_le_mul_right (2 ^ n) (show 1 ≤ (eu a b (2 * n)).2 by omega)
      omega
  have h3 := eu_stay h2
  have h4 := eu_stay (k := 2 * n + 1) (by rw [h3]; exact h2)
  have h5 := eu_stay (k := 2 * n + 2) (by rw [h4, h3]; exact h2)
  rw [show 2 * n + 3 = 2 * n + 2 + 1 from rfl, h5, h4, h3]; exact h2
/-! ### fractions -/
def blw (D : Nat → Int) : Nat → Int
  | 0 => 1
  | k + 1 => blw D k * D k
def tpw (N D u : Nat → Int) : Nat → Int
  | 0 => 0
  | k + 1 => tpw N D u k * D k + u k * N k * blw D k
theorem blw_pos {D : Nat → Int} : ∀ {k : Nat}, (∀ j, j < k → 0 < D j) → 0 < blw D k
  | 0, _ => by show (0 : Int) < 1; decide
  | k + 1, h => Int.mul_pos (blw_pos fun j hj => h j (by omega)) (h k (by omega))
theorem tpw_eq {N D u x : Nat → Int} {d : Int} : ∀ {k : Nat}, (∀ j, j < k → N j * d = x j * D j) → tpw N D u k * d = blw D k * sm k fun j => u j * x j
  | 0, _ => by show 0 * d = 1 * 0; simp
  | k + 1, h => by
    have ih := tpw_eq (u := u) (k := k) fun j hj => h j (by omega)
    have e := h k (by omega)
    show (tpw N D u k * D k + u k * N k * blw D k) * d = blw D k * D k * ((sm k fun j => u j * x j) + u k * x k)
    have e2 : u k * N k * blw D k * d = u k * blw D k * (N k * d) := by grind
    rw [Int.add_mul, e2, e]
    have e3 : tpw N D u k * D k * d = tpw N D u k * d * D k := by grind
    rw [e3, ih]
    grind
theorem blw_abs {D : Nat → Int} {M : Nat} : ∀ {k : Nat}, (∀ j, j < k → (D j).natAbs ≤ M) → (blw D k).natAbs ≤ M ^ k
  | 0, _ => by show 1 ≤ 1; decide
  | k + 1, h => by
    show (blw D k * D k).natAbs ≤ _
    rw [Int.natAbs_mul, Nat.pow_succ]
    exact Nat.mul_le_mul (blw_abs fun j hj => h j (by omega)) (h k (by omega))
theorem tpw_abs {N D u : Nat → Int} {M Z : Nat} : ∀ {k : Nat}, (∀ j, j < k → (D j).natAbs ≤ M) → (∀ j, j < k → (N j).natAbs ≤ M) → (∀ j, j < k → (u j).natAbs ≤ Z) → (tpw N D u k).natAbs ≤ k * (Z * M ^ k)
  | 0, _, _, _ => by show 0 ≤ _; omega
  | k + 1, h1, h2, h3 => by
    have ih := tpw_abs (k := k) (fun j hj => h1 j (by omega)) (fun j hj => h2 j (by omega)) fun j hj => h3 j (by omega)
    have b := blw_abs (k := k) fun j hj => h1 j (by omega)
    show (tpw N D u k * D k + u k * N k * blw D k).natAbs ≤ _
    have q1 : (tpw N D u k * D k).natAbs ≤ k * (Z * M ^ k) * M := by rw [Int.natAbs_mul]; exact Nat.mul_le_mul ih (h1 k (by omega))
    have q2 : (u k * N k * blw D k).natAbs ≤ Z * M * M ^ k := by rw [Int.natAbs_mul, Int.natAbs_mul]; exact Nat.mul_le_mul (Nat.mul_le_mul (h3 k (by omega)) (h2 k (by omega))) b
    have e1 : k * (Z * M ^ k) * M = k * (Z * M ^ (k + 1)) := by rw [Nat.pow_succ, Nat.mul_assoc, Nat.mul_assoc]
    have e2 : Z * M * M ^ k = Z * M ^ (k + 1) := by rw [Nat.pow_succ, Nat.mul_assoc, Nat.mul_comm M]
    rw [Nat.add_mul, Nat.one_mul]
    omega
/-- the row holds at the point -/
theorem tpw_le {N D u x : Nat → Int} {d c : Int} {n : Nat} (hd : 0 < d) (hD : ∀ j, j < n → 0 < D j) (h : ∀ j, j < n → N j * d = x j * D j) : ((sm n fun j => u j * x j) ≤ c * d → tpw N D u n ≤ c * blw D n) ∧ ((sm n fun j => u j * x j) = c * d → tpw N D u n = c * blw D n) := by
  have e := tpw_eq (u := u) h
  have bp := blw_pos hD
  constructor
  · intro q
    have q2 := Int.mul_le_mul_of_nonneg_left q (Int.le_of_lt bp)
    rw [← e] at q2
    have e2 : blw D n * (c * d) = c * blw D n * d := by grind
    rw [e2] at q2
    exact Int.le_of_mul_le_mul_right q2 hd
  · intro q
    rw [q] at e
    have e2 : blw D n * (c * d) = c * blw D n * d := by grind
    rw [e2] at e
    exact Int.eq_of_mul_eq_mul_right (by omega) e
end Y
/-! the walks of the simplex -/
namespace Sx
open PySem PySem.Spec PyProof.Rows L2 Y
local macro_rules | `(tactic| walk_at "rd1") => `(tactic| first
  | with_reducible refine rd_var rfl ?_
  | with_reducible refine rd_op ?_
  | with_reducible refine rd_c ?_
  | with_reducible refine rd_I0 ?_
  | with_reducible refine rd_seq ?_
  | ((with_reducible refine rd_I ?_ ?_); focus (first | exact mulok_r (by decide) (by decide) | exact mulok_l (by decide) (by decide) | (show _ ≠ _; decide) | (show _ ∧ _; decide)))
  | with_reducible refine rd_asg ?_
  | with_reducible refine rd_name ?_
  | with_reducible refine rd_cb ?_
  | with_reducible refine rd_cons ?_
  | with_reducible refine rd_nil ?_
  | with_reducible refine rd_int ?_
  | with_reducible refine rd_eqI ?_
  | with_reducible refine rd_neI ?_
  | with_reducible refine rd_bl ?_
  | with_reducible refine rd_test ?_
  | with_reducible refine rd_tB ?_
  | with_reducible refine rd_ifS ?_
  | with_reducible refine rd_next ?_
  | with_reducible refine rd_T ?_
  | with_reducible refine rd_F ?_
  | with_reducible refine rd_nT ?_
  | with_reducible refine rd_nF ?_
  | with_reducible refine rd_blV ?_
  | with_reducible refine rd_ret ?_
  | with_reducible refine rd_call ?_
  | with_reducible refine rd_drop ?_
  | with_reducible refine rd_not ?_
  | with_reducible refine rd_and ?_
  | with_reducible refine rd_or ?_
  | with_reducible refine rd_un ?_
  | with_reducible refine rd_U ?_
  | with_reducible refine rd_tup ?_
  | with_reducible refine rd_lst ?_
  | with_reducible refine rd_if ?_
  | with_reducible refine rd_andV ?_
  | with_reducible refine rd_orV ?_
  | with_reducible refine rd_notV ?_
  | with_reducible refine rd_sl ?_
  | with_reducible refine rd_nopart ?_
  | with_reducible refine rd_part ?_
  | with_reducible refine rd_iv ?_
  | with_reducible refine rd_bm ?_
  | with_reducible refine rd_abs ?_
  | with_reducible refine rd_intb ?_
  | with_reducible refine rd_mx2 ?_
  | with_reducible refine rd_mn2 ?_
  | with_reducible refine rd_sub ?_
  | with_reducible refine rd_lc ?_
  | with_reducible refine rd_for ?_
  | with_reducible refine rd_iL ?_
  | with_reducible refine rd_iT ?_
  | with_reducible refine rd_r1 ?_
  | with_reducible refine rd_r2 ?_
  | with_reducible refine rd_iZ ?_
  | with_reducible refine rd_iZM ?_
  | with_reducible refine rd_while ?_
  | with_reducible refine rd_tru ?_
  | with_reducible refine rd_brk ?_
  | with_reducible refine rd_callS ?_)
local macro_rules | `(tactic| walk_at "rd") => `(tactic| repeat walk_at "rd1")

def topS (i : Nat) : Stmt := PySem.Challenge.pw_mixproof_k22_meet_points_or_clashes.main.body.getD i (.Pass ⟨0, 0, 0, 0⟩)
structure Bi (mg : Str → Option Value) : Prop where
  int : mg "int" = none
  len : mg "len" = none
  range : mg "range" = none
  isinstance : mg "isinstance" = none
  abs : mg "abs" = none
  zip : mg "zip" = none
  sum : mg "sum" = none
  all : mg "all" = none
  tuple : mg "tuple" = none
  list : mg "list" = none
  bool : mg "bool" = none
  max : mg "max" = none
  gcd : mg "gcd" = some (.builtin "math.gcd")
theorem b_int : bootBuiltins "int" = some (.type "int") := by decide +kernel
theorem b_tuple : bootBuiltins "tuple" = some (.type "tuple") := by decide +kernel
theorem b_list : bootBuiltins "list" = some (.type "list") := by decide +kernel
theorem b_bool : bootBuiltins "bool" = some (.type "bool") := by decide +kernel
theorem b_len : bootBuiltins "len" = some (.builtin "len") := by decide +kernel
theorem b_abs : bootBuiltins "abs" = some (.builtin "abs") := by decide +kernel
theorem b_sum : bootBuiltins "sum" = some (.builtin "sum") := by decide +kernel
theorem b_all : bootBuiltins "all" = some (.builtin "all") := by decide +kernel
theorem b_max : bootBuiltins "max" = some (.builtin "max") := by decide +kernel
theorem b_isinstance : bootBuiltins "isinstance" = some (.builtin "isinstance") := by decide +kernel
theorem b_range : bootBuiltins "range" = some (.type "range") := by decide +kernel
theorem b_zip : bootBuiltins "zip" = some (.type "zip") := by decide +kernel
section
variable {P : Program} {w : World} {K : PySem.W.Frag} {mg : Str → Option Value} {base : Heap}
def rel (q : Bool) : Str := if q then "equal" else "atmost"
/-- given rows, at a -/
def RwAt (H : Hp) (a : Addr) (W : Rws) : Prop := ∃ rp np : Nat → Addr, H a = some (.tup (tab W.m fun i => .ref (rp i))) ∧
  (∀ i, i < W.m → H (rp i) = some (.tup [.ref (np i), .str (rel (W.q i)), .int (W.C i)])) ∧ ∀ i, i < W.m → H (np i) = some (.tup (vl W.n (W.R i)))
theorem RwAt.ex {H H' : Hp} {a : Addr} {W : Rws} (h : RwAt H a W) (e : Ex H H') : RwAt H' a W := by
  obtain ⟨rp, np, h1, h2, h3⟩ := h
  exact ⟨rp, np, e.at h1, fun i hi => e.at (h2 i hi), fun i hi => e.at (h3 i hi)⟩
/-- a table, at t -/
def TbAt (H : Hp) (t : Addr) (W : Rws) (S : Stt) : Prop := ∃ tp : Nat → Addr, H t = some (.lst (tab W.m fun i => .ref (tp i))) ∧ ∀ i, i < W.m → H (tp i) = some (.lst (vl (W.n + 1) (S.T i)))
theorem rd_cont {D : Ends} {σ : L2.St} {H : Hp} (h : D.ct σ H) : tCont D σ H := h
theorem ln_no {W : Rws} {S : Stt} {i : Nat} (h : ¬ W.vio S i) : W.ln S (i + 1) = W.ln S i := if_neg fun q => h (by simpa using q.1)
theorem ln_yes {W : Rws} {S : Stt} {i : Nat} (h : W.vio S i) (g : W.ln S i < 0 ∨ S.b i < S.b (W.ln S i).toNat) : W.ln S (i + 1) = i := if_pos ⟨by simpa using h, g⟩
theorem ln_old {W : Rws} {S : Stt} {i : Nat} (g : ¬ (W.ln S i < 0 ∨ S.b i < S.b (W.ln S i).toNat)) : W.ln S (i + 1) = W.ln S i := if_neg fun q => g q.2
theorem ln_at {W : Rws} {S : Stt} {i : Nat} (h : ¬ W.ln S i < 0) : ∃ l : Nat, W.ln S i = (l : Int) ∧ l < i := by
  rcases lst_spec (fun i => decide (W.vio S i)) S.b i with ⟨e, _⟩ | ⟨l, hl, e, _⟩
  · have e : W.ln S i = -1 := e
    omega
  · exact ⟨l, e, hl⟩
theorem rel_eq {q : Bool} : V.str (rel q) = V.str "equal" ↔ q = true := by cases q <;> simp [rel] <;> decide
/-! ### _violated -/
abbrev s__violated : Stmt := topS 11
theorem sc__violated : FnScope ["rows", "many", "table", "basic", "found", "line", "variable", "constant"] ["rows", "many", "table", "basic"] (defScope s__violated) := ⟨rfl, rfl, rfl, by decide +kernel, rfl, by decide +kernel, by decide +kernel⟩
def sp__violated : Sp := fun vs H Q _ => ∃ (r t b : Addr) (W : Rws) (S : Stt), vs = [.ref r, .int W.n, .ref t, .ref b] ∧ RwAt H r W ∧ TbAt H t W S ∧ H b = some (.lst (vl W.m fun i => (S.b i : Int))) ∧ W.m ≤ 1000 ∧ (∀ i, i < W.m → S.b i < W.n + W.m) ∧
  ∀ H', Ex H H' → Q (.int (W.ln S W.m)) H'
theorem ok__violated {f : Addr} {fd : FuncData} (F : Fun K "_violated" "_violated" s__violated f fd) (B : Bi mg) : FnOk P w K mg base CX0 41 f fd ["rows", "many", "table", "basic"] sp__violated := by
  refine F.ok sc__violated (fun vs H Q E h => ?_) (fun cdv A outer s0 H vs Q E hr h => ?_)
  · obtain ⟨r, t, b, W, S, rfl, _⟩ := h; rfl
  · obtain ⟨r, t, b, W, S, rfl, hR, hT, hB, hm, hb, k⟩ := h
    have nd := sc__violated.nd
    refine ⟨_, (pss_cons (ps_set (i := 4) nd rfl (.inl rfl) (pe_un un_neg pe_int))
      (pss_cons (ps_for PassesOwn.never rfl (pi_range1 (by rfl) B.range (pa_cons (pe_callB cr_len (by rfl) B.len b_len (pa_cons (pv 2) pa_nil)) pa_nil)) (pg_name (i := 5) nd rfl (.inl rfl))
        (pss_cons (ps_set (i := 6) nd rfl (.inl rfl) (pe_ix ix_list (pv 3) (pv 5) (fun _ _ => rfl)))
        (pss_cons (ps_if (pt_cmpR op_lt (pv 6) (pv 1) (nomark _))
          (pss_one ps_continue)
          pss_nil)
        (pss_cons (ps_set (i := 7) nd rfl (.inl rfl) (pe_ix ix_list (pe_ix ix_list (pv 2) (pv 5) (fun _ _ => rfl)) (pv 1) (fun _ _ => rfl)))
        (pss_one (ps_if (PW.pt (pw_or (pt_cmpR op_gt (pv 7) pe_int (nomark _)) (pw_or1 (PW.pt (pw_and (pt_cmpR op_lt (pv 7) pe_int (nomark _)) (pw_and1 (pt_cmpR op_eq (pe_ix ix_tup (pe_ix ix_tup (pv 0) (pe_op op_sub (pv 6) (pv 1)) (fun _ _ => rfl)) pe_int (fun _ _ => rfl)) pe_str (nomark _))))))))
          (pss_one (ps_if (PW.pt (pw_or (pt_cmpR op_lt (pv 4) pe_int (nomark _)) (pw_or1 (pt_cmpR op_lt (pv 6) (pe_ix ix_list (pv 3) (pv 4) (fun _ _ => rfl)) (nomark _)))))
            (pss_one (ps_set (i := 4) nd rfl (.inl rfl) (pv 5)))
            pss_nil))
          pss_nil))))))
      (pss_one (ps_ret (pv 4))))), ?_⟩
    obtain ⟨rp, np, e1, e2, e3⟩ := hR
    obtain ⟨tp, t1, t2⟩ := hT
    walk_at "rd"
    refine rd_lenLt t1 ?_
    walk_at "rd"
    refine rd_rg1 W.m rfl (by omega) (for_w wkR (fun i σ H2 => Ex H H2 ∧ ∃ o1 o2 o3, σ = [some (.ref r), some (.int W.n), some (.ref t), some (.ref b), some (.int (W.ln S i)), o1, o2, o3]) ⟨Ex.rfl', _, _, _, rfl⟩ (fun i σ H2 _ hP => trivial) (fun i x σ H2 H3 hi hP y => ?_) fun σ H2 hP => ?_)
    · obtain ⟨ex, o1, o2, o3, rfl⟩ := hP
      obtain ⟨rfl, exx⟩ := y
      obtain rfl : x = .int (i : Int) := by rw [exx]; exact congrArg V.int (by omega)
      walk_at "rd"
      refine rd_ixLt i (ex.at hB) rfl hi ?_
      walk_at "rd"
      have hbi := hb i hi
      refine rd_dec (fun hlt => ?_) fun hge => ?_
      · walk_at "rd"
        have nv : ¬ W.vio S i := fun q => by have := q.1; have : (S.b i : Int) < W.n := hlt; omega
        refine rd_cont ?_
        refine ⟨ex, ?_⟩
        rw [ln_no nv]
        exact ⟨_, _, _, rfl⟩
      · walk_at "rd"
        refine rd_ixLt i (ex.at t1) rfl hi ?_
        walk_at "rd"
        refine rd_ixLt W.n (ex.at (t2 i hi)) rfl (by omega) ?_
        walk_at "rd"
        have hge : ¬ ((S.b i : Int) < W.n) := hge
        refine rd_dec (fun h1 => ?_) fun h1 => ?_
        · have hv : W.vio S i := ⟨by omega, .inl h1⟩
          walk_at "rd"
          refine rd_dec (fun g1 => ?_) fun g1 => ?_
          · walk_at "rd"
            refine ⟨ex, ?_⟩
            rw [ln_yes hv (.inl g1)]
            exact ⟨_, _, _, rfl⟩
          · walk_at "rd"
            obtain ⟨l, el, hl⟩ := ln_at g1
            refine rd_ixLt l (ex.at hB) el (by omega) ?_
            walk_at "rd"
            have tl : (W.ln S i).toNat = l := by rw [el]; rfl
            refine rd_dec (fun g2 => ?_) fun g2 => ?_
            · have g2 : (S.b i : Int) < S.b l := g2
              walk_at "rd"
              refine ⟨ex, ?_⟩
              rw [ln_yes hv (.inr (by rw [tl]; omega))]
              exact ⟨_, _, _, rfl⟩
            · have g2 : ¬ (S.b i : Int) < S.b l := g2
              walk_at "rd"
              refine ⟨ex, ?_⟩
              rw [ln_old (by rw [tl]; omega)]
              exact ⟨_, _, _, rfl⟩
        · walk_at "rd"
          refine rd_dec (fun h2 => ?_) fun h2 => ?_
          · walk_at "rd"
            refine rd_ixTt (S.b i - W.n) (ex.at e1) (show ((S.b i : Int) - W.n) = _ by omega) (by omega) ?_
            walk_at "rd"
            refine rd_ixTn 1 (ex.at (e2 _ (by omega))) rfl rfl ?_
            walk_at "rd"
            refine rd_eq rfl ?_
            walk_at "rd"
            refine rd_dec (fun h3 => ?_) fun h3 => ?_
            · have hv : W.vio S i := ⟨by omega, .inr ⟨h2, rel_eq.mp h3⟩⟩
              walk_at "rd"
              refine rd_dec (fun g1 => ?_) fun g1 => ?_
              · walk_at "rd"
                refine ⟨ex, ?_⟩
                rw [ln_yes hv (.inl g1)]
                exact ⟨_, _, _, rfl⟩
              · walk_at "rd"
                obtain ⟨l, el, hl⟩ := ln_at g1
                refine rd_ixLt l (ex.at hB) el (by omega) ?_
                walk_at "rd"
                have tl : (W.ln S i).toNat = l := by rw [el]; rfl
                refine rd_dec (fun g2 => ?_) fun g2 => ?_
                · have g2 : (S.b i : Int) < S.b l := g2
                  walk_at "rd"
                  refine ⟨ex, ?_⟩
                  rw [ln_yes hv (.inr (by rw [tl]; omega))]
                  exact ⟨_, _, _, rfl⟩
                · have g2 : ¬ (S.b i : Int) < S.b l := g2
                  walk_at "rd"
                  refine ⟨ex, ?_⟩
                  rw [ln_old (by rw [tl]; omega)]
                  exact ⟨_, _, _, rfl⟩
            · have nv : ¬ W.vio S i := fun q => q.2.elim (fun z => h1 z) fun z => h3 (rel_eq.mpr z.2)
              walk_at "rd"
              refine ⟨ex, ?_⟩
              rw [ln_no nv]
              exact ⟨_, _, _, rfl⟩
          · have nv : ¬ W.vio S i := fun q => q.2.elim (fun z => h1 z) fun z => h2 z.1
            walk_at "rd"
            refine ⟨ex, ?_⟩
            rw [ln_no nv]
            exact ⟨_, _, _, rfl⟩
    · obtain ⟨ex, o1, o2, o3, rfl⟩ := hP
      walk_at "rd"
      exact k H2 ex
end
end Sx
/-! the walk of _entering -/
namespace Sx
open PySem PySem.Spec PyProof.Rows L2 Y
local macro_rules | `(tactic| walk_at "rd1") => `(tactic| first
  | with_reducible refine rd_var rfl ?_
  | with_reducible refine rd_op ?_
  | with_reducible refine rd_c ?_
  | with_reducible refine rd_I0 ?_
  | with_reducible refine rd_seq ?_
  | ((with_reducible refine rd_I ?_ ?_); focus (first | exact mulok_r (by decide) (by decide) | exact mulok_l (by decide) (by decide) | (show _ ≠ _; decide) | (show _ ∧ _; decide)))
  | with_reducible refine rd_asg ?_
  | with_reducible refine rd_name ?_
  | with_reducible refine rd_cb ?_
  | with_reducible refine rd_cons ?_
  | with_reducible refine rd_nil ?_
  | with_reducible refine rd_int ?_
  | with_reducible refine rd_eqI ?_
  | with_reducible refine rd_neI ?_
  | with_reducible refine rd_bl ?_
  | with_reducible refine rd_test ?_
  | with_reducible refine rd_tB ?_
  | with_reducible refine rd_ifS ?_
  | with_reducible refine rd_next ?_
  | with_reducible refine rd_T ?_
  | with_reducible refine rd_F ?_
  | with_reducible refine rd_nT ?_
  | with_reducible refine rd_nF ?_
  | with_reducible refine rd_blV ?_
  | with_reducible refine rd_ret ?_
  | with_reducible refine rd_call ?_
  | with_reducible refine rd_drop ?_
  | with_reducible refine rd_not ?_
  | with_reducible refine rd_and ?_
  | with_reducible refine rd_or ?_
  | with_reducible refine rd_un ?_
  | with_reducible refine rd_U ?_
  | with_reducible refine rd_tup ?_
  | with_reducible refine rd_lst ?_
  | with_reducible refine rd_if ?_
  | with_reducible refine rd_andV ?_
  | with_reducible refine rd_orV ?_
  | with_reducible refine rd_notV ?_
  | with_reducible refine rd_sl ?_
  | with_reducible refine rd_nopart ?_
  | with_reducible refine rd_part ?_
  | with_reducible refine rd_iv ?_
  | with_reducible refine rd_bm ?_
  | with_reducible refine rd_abs ?_
  | with_reducible refine rd_intb ?_
  | with_reducible refine rd_mx2 ?_
  | with_reducible refine rd_mn2 ?_
  | with_reducible refine rd_sub ?_
  | with_reducible refine rd_lc ?_
  | with_reducible refine rd_for ?_
  | with_reducible refine rd_iL ?_
  | with_reducible refine rd_iT ?_
  | with_reducible refine rd_r1 ?_
  | with_reducible refine rd_r2 ?_
  | with_reducible refine rd_iZ ?_
  | with_reducible refine rd_iZM ?_
  | with_reducible refine rd_while ?_
  | with_reducible refine rd_tru ?_
  | with_reducible refine rd_brk ?_
  | with_reducible refine rd_callS ?_)
local macro_rules | `(tactic| walk_at "rd") => `(tactic| repeat walk_at "rd1")

section
variable {P : Program} {w : World} {K : PySem.W.Frag} {mg : Str → Option Value} {base : Heap}
theorem cl_at {W : Rws} {S : Stt} {l i : Nat} (h : ¬ W.cl S l i < 0) : ∃ c : Nat, W.cl S l i = (c : Int) ∧ c < i := by
  rcases lst_spec (fun i => decide (W.mov S l i)) S.f i with ⟨e, _⟩ | ⟨l, hl, e, _⟩
  · have e : W.cl S _ i = -1 := e
    omega
  · exact ⟨l, e, hl⟩
theorem cl_no {W : Rws} {S : Stt} {l i : Nat} (h : ¬ W.mov S l i) : W.cl S l (i + 1) = W.cl S l i := if_neg fun q => h (by simpa using q.1)
theorem cl_yes {W : Rws} {S : Stt} {l i : Nat} (h : W.mov S l i) (g : W.cl S l i < 0 ∨ S.f i < S.f (W.cl S l i).toNat) : W.cl S l (i + 1) = i := if_pos ⟨by simpa using h, g⟩
theorem cl_old {W : Rws} {S : Stt} {l i : Nat} (g : ¬ (W.cl S l i < 0 ∨ S.f i < S.f (W.cl S l i).toNat)) : W.cl S l (i + 1) = W.cl S l i := if_neg fun q => g q.2
theorem rel_ne {q : Bool} : V.str (rel q) = V.str "atmost" ↔ q = false := by cases q <;> simp [rel] <;> decide
abbrev s__entering : Stmt := topS 12
theorem sc__entering : FnScope ["rows", "many", "numbers", "free", "found", "column", "variable", "number", "movable"] ["rows", "many", "numbers", "free"] (defScope s__entering) := ⟨rfl, rfl, rfl, by decide +kernel, rfl, by decide +kernel, by decide +kernel⟩
def sp__entering : Sp := fun vs H Q _ => ∃ (r nm fr : Addr) (W : Rws) (S : Stt) (l : Nat), vs = [.ref r, .int W.n, .ref nm, .ref fr] ∧ RwAt H r W ∧ H nm = some (.lst (vl (W.n + 1) (S.T l))) ∧ H fr = some (.lst (vl W.n fun i => (S.f i : Int))) ∧ W.n ≤ 1000 ∧ W.m ≤ 1000 ∧ (∀ i, i < W.n → S.f i < W.n + W.m) ∧
  ∀ H', Ex H H' → Q (.int (W.cl S l W.n)) H'
theorem ok__entering {f : Addr} {fd : FuncData} (F : Fun K "_entering" "_entering" s__entering f fd) (B : Bi mg) : FnOk P w K mg base CX0 41 f fd ["rows", "many", "numbers", "free"] sp__entering := by
  refine F.ok sc__entering (fun vs H Q E h => ?_) (fun cdv A outer s0 H vs Q E hr h => ?_)
  · obtain ⟨r, t, b, W, S, l, rfl, _⟩ := h; rfl
  · obtain ⟨r, nm, fr, W, S, l, rfl, hR, hN, hF, hn, hm, hf, k⟩ := h
    have nd := sc__entering.nd
    refine ⟨_, (pss_cons (ps_set (i := 4) nd rfl (.inl rfl) (pe_un un_neg pe_int))
      (pss_cons (ps_for PassesOwn.never rfl (pi_range1 (by rfl) B.range (pa_cons (pv 1) pa_nil)) (pg_name (i := 5) nd rfl (.inl rfl))
        (pss_cons (ps_set (i := 6) nd rfl (.inl rfl) (pe_ix ix_list (pv 3) (pv 5) (fun _ _ => rfl)))
        (pss_cons (ps_set (i := 7) nd rfl (.inl rfl) (pe_ix ix_list (pv 2) (pv 5) (fun _ _ => rfl)))
        (pss_cons (ps_if (pt_cmpR op_lt (pe_ix ix_list (pv 2) (pv 1) (fun _ _ => rfl)) pe_int (nomark _))
          (pss_one (ps_set (i := 7) nd rfl (.inl rfl) (pe_un un_neg (pv 7))))
          pss_nil)
        (pss_cons (ps_set (i := 8) nd rfl (.inl rfl) (pe_cmpR op_ne (pv 7) pe_int (nomark _)))
        (pss_cons (ps_if (pt_cmpR op_ge (pv 6) (pv 1) (nomark _))
          (pss_one (ps_set (i := 8) nd rfl (.inl rfl) (pe_and (pe_cmpR op_gt (pv 7) pe_int (nomark _)) (pe_one (pe_cmpR op_eq (pe_ix ix_tup (pe_ix ix_tup (pv 0) (pe_op op_sub (pv 6) (pv 1)) (fun _ _ => rfl)) pe_int (fun _ _ => rfl)) pe_str (nomark _))))))
          pss_nil)
        (pss_one (ps_if (PW.pt (pw_and (pt_val (pv 8)) (pw_and1 (PW.pt (pw_or (pt_cmpR op_lt (pv 4) pe_int (nomark _)) (pw_or1 (pt_cmpR op_lt (pv 6) (pe_ix ix_list (pv 3) (pv 4) (fun _ _ => rfl)) (nomark _))))))))
          (pss_one (ps_set (i := 4) nd rfl (.inl rfl) (pv 5)))
          pss_nil))))))))
      (pss_one (ps_ret (pv 4))))), ?_⟩
    obtain ⟨rp, np, e1, e2, e3⟩ := hR
    walk_at "rd"
    refine rd_rg1 W.n rfl (by omega) (for_w wkR (fun i σ H2 => Ex H H2 ∧ ∃ o1 o2 o3 o4, σ = [some (.ref r), some (.int W.n), some (.ref nm), some (.ref fr), some (.int (W.cl S l i)), o1, o2, o3, o4]) ⟨Ex.rfl', _, _, _, _, rfl⟩ (fun i σ H2 _ hP => trivial) (fun i x σ H2 H3 hi hP y => ?_) fun σ H2 hP => ?_)
    · obtain ⟨ex, o1, o2, o3, o4, rfl⟩ := hP
      obtain ⟨rfl, exx⟩ := y
      obtain rfl : x = .int (i : Int) := by rw [exx]; exact congrArg V.int (by omega)
      walk_at "rd"
      refine rd_ixLt i (ex.at hF) rfl hi ?_
      walk_at "rd"
      refine rd_ixLt i (ex.at hN) rfl (by omega) ?_
      walk_at "rd"
      refine rd_ixLt W.n (ex.at hN) rfl (by omega) ?_
      walk_at "rd"
      have hfi := hf i hi
      refine rd_ifG (fun σ' => ∃ o, σ' = [some (.ref r), some (.int W.n), some (.ref nm), some (.ref fr), some (.int (W.cl S l i)), some (.int i), some (.int (S.f i)), some (.int (sgn (S.T l W.n) * S.T l i)), o]) (fun h1 tz hz => ?_) (fun h1 => ?_) fun σ' hz => ?_
      · walk_at "rd"
        refine hz _ ?_
        have e : sgn (S.T l W.n) * S.T l i = -S.T l i := by unfold sgn; rw [if_pos h1]; omega
        rw [e]
        exact ⟨_, rfl⟩
      · have e : sgn (S.T l W.n) * S.T l i = S.T l i := by unfold sgn; rw [if_neg h1]; omega
        rw [e]
        exact ⟨_, rfl⟩
      · obtain ⟨o, rfl⟩ := hz
        walk_at "rd"
        refine rd_ifG (fun σ' => σ' = [some (.ref r), some (.int W.n), some (.ref nm), some (.ref fr), some (.int (W.cl S l i)), some (.int i), some (.int (S.f i)), some (.int (sgn (S.T l W.n) * S.T l i)), some (.bl (decide (W.mov S l i)))]) (fun h1 tz hz => ?_) (fun h1 => ?_) fun σ' hz => ?_
        · walk_at "rd"
          have h1 : (W.n : Int) ≤ S.f i := h1
          refine rd_dec (fun h2 => ?_) fun h2 => ?_
          · walk_at "rd"
            refine rd_ixTt (S.f i - W.n) (ex.at e1) (show ((S.f i : Int) - W.n) = _ by omega) (by omega) ?_
            walk_at "rd"
            refine rd_ixTn 1 (ex.at (e2 _ (by omega))) rfl rfl ?_
            walk_at "rd"
            refine rd_eq rfl ?_
            refine hz _ ?_
            have e : decide (V.str (rel (W.q (S.f i - W.n))) = V.str "atmost") = decide (W.mov S l i) := by
              refine decide_eq_decide.mpr ?_
              unfold Rws.mov
              rw [if_neg (by omega), rel_ne]
              exact ⟨fun z => ⟨h2, z⟩, fun z => z.2⟩
            rw [e]; rfl
          · walk_at "rd"
            refine hz _ ?_
            have nv : ¬ W.mov S l i := by
              unfold Rws.mov
              rw [if_neg (by omega)]
              exact fun z => h2 z.1
            rw [decide_eq_false nv]; rfl
        · have h1 : ¬ (W.n : Int) ≤ S.f i := h1
          have e : (!decide (sgn (S.T l W.n) * S.T l i = 0)) = decide (W.mov S l i) := by
            rw [← decide_not]
            refine decide_eq_decide.mpr ?_
            unfold Rws.mov
            rw [if_pos (by omega)]
            rcases sgn_cases (S.T l W.n) with g | g <;> rw [g] <;> omega
          rw [← e]; rfl
        · obtain rfl := hz
          walk_at "rd"
          refine rd_dec (fun hv => ?_) fun nv => ?_
          · walk_at "rd"
            refine rd_dec (fun g1 => ?_) fun g1 => ?_
            · walk_at "rd"
              refine ⟨ex, ?_⟩
              rw [cl_yes hv (.inl g1)]
              exact ⟨_, _, _, _, rfl⟩
            · walk_at "rd"
              obtain ⟨c, el, hl⟩ := cl_at g1
              refine rd_ixLt c (ex.at hF) el (by omega) ?_
              walk_at "rd"
              have tl : (W.cl S l i).toNat = c := by rw [el]; rfl
              refine rd_dec (fun g2 => ?_) fun g2 => ?_
              · have g2 : (S.f i : Int) < S.f c := g2
                walk_at "rd"
                refine ⟨ex, ?_⟩
                rw [cl_yes hv (.inr (by rw [tl]; omega))]
                exact ⟨_, _, _, _, rfl⟩
              · have g2 : ¬ (S.f i : Int) < S.f c := g2
                walk_at "rd"
                refine ⟨ex, ?_⟩
                rw [cl_old (by rw [tl]; omega)]
                exact ⟨_, _, _, _, rfl⟩
          · walk_at "rd"
            refine ⟨ex, ?_⟩
            rw [cl_no nv]
            exact ⟨_, _, _, _, rfl⟩
    · obtain ⟨ex, o1, o2, o3, o4, rfl⟩ := hP
      walk_at "rd"
      exact k H2 ex
end
end Sx
/-! the walk of _exchanged -/
namespace Sx
open PySem PySem.Spec PyProof.Rows L2 Y
local macro_rules | `(tactic| walk_at "rd1") => `(tactic| first
  | with_reducible refine rd_var rfl ?_
  | with_reducible refine rd_op ?_
  | with_reducible refine rd_c ?_
  | with_reducible refine rd_I0 ?_
  | with_reducible refine rd_seq ?_
  | ((with_reducible refine rd_I ?_ ?_); focus (first | exact mulok_r (by decide) (by decide) | exact mulok_l (by decide) (by decide) | (show _ ≠ _; decide) | (show _ ∧ _; decide)))
  | with_reducible refine rd_asg ?_
  | with_reducible refine rd_name ?_
  | with_reducible refine rd_cb ?_
  | with_reducible refine rd_cons ?_
  | with_reducible refine rd_nil ?_
  | with_reducible refine rd_int ?_
  | with_reducible refine rd_eqI ?_
  | with_reducible refine rd_neI ?_
  | with_reducible refine rd_bl ?_
  | with_reducible refine rd_test ?_
  | with_reducible refine rd_tB ?_
  | with_reducible refine rd_ifS ?_
  | with_reducible refine rd_next ?_
  | with_reducible refine rd_T ?_
  | with_reducible refine rd_F ?_
  | with_reducible refine rd_nT ?_
  | with_reducible refine rd_nF ?_
  | with_reducible refine rd_blV ?_
  | with_reducible refine rd_ret ?_
  | with_reducible refine rd_call ?_
  | with_reducible refine rd_drop ?_
  | with_reducible refine rd_not ?_
  | with_reducible refine rd_and ?_
  | with_reducible refine rd_or ?_
  | with_reducible refine rd_un ?_
  | with_reducible refine rd_U ?_
  | with_reducible refine rd_tup ?_
  | with_reducible refine rd_lst ?_
  | with_reducible refine rd_if ?_
  | with_reducible refine rd_andV ?_
  | with_reducible refine rd_orV ?_
  | with_reducible refine rd_notV ?_
  | with_reducible refine rd_sl ?_
  | with_reducible refine rd_nopart ?_
  | with_reducible refine rd_part ?_
  | with_reducible refine rd_iv ?_
  | with_reducible refine rd_bm ?_
  | with_reducible refine rd_abs ?_
  | with_reducible refine rd_intb ?_
  | with_reducible refine rd_mx2 ?_
  | with_reducible refine rd_mn2 ?_
  | with_reducible refine rd_sub ?_
  | with_reducible refine rd_lc ?_
  | with_reducible refine rd_for ?_
  | with_reducible refine rd_iL ?_
  | with_reducible refine rd_iT ?_
  | with_reducible refine rd_r1 ?_
  | with_reducible refine rd_r2 ?_
  | with_reducible refine rd_iZ ?_
  | with_reducible refine rd_iZM ?_
  | with_reducible refine rd_while ?_
  | with_reducible refine rd_tru ?_
  | with_reducible refine rd_brk ?_
  | with_reducible refine rd_callS ?_)
local macro_rules | `(tactic| walk_at "rd") => `(tactic| repeat walk_at "rd1")

section
variable {P : Program} {w : World} {K : PySem.W.Frag} {mg : Str → Option Value} {base : Heap}
theorem bits_lt {a : Int} {k : Nat} (h : a.natAbs < 2 ^ k) : Builtin.Int.intBits a ≤ k := by
  have q : Builtin.Int.intBits a ≤ a.natAbs.log2 + 1 ∧ (a.natAbs = 0 → Builtin.Int.intBits a = 0) := by
    unfold Builtin.Int.intBits
    constructor
    · split <;> omega
    · intro z
      have : a = 0 := by omega
      subst this; rfl
  by_cases z : a.natAbs = 0
  · rw [q.2 z]; exact Nat.zero_le _
  · have := (Nat.log2_lt z).mpr h
    omega
theorem mulok_big {a b : Int} (ha : a.natAbs < 2 ^ 4000) (hb : b.natAbs < 2 ^ 4000) : IntMulOk a b := .of_le (bits_lt ha) (bits_lt hb) (by decide)
theorem log_lt {a : Int} (h : a.natAbs < 2 ^ 4000) : a.natAbs.log2 < 9000 := by
  by_cases z : a.natAbs = 0
  · rw [z]; decide
  · have := (Nat.log2_lt z).mpr h
    omega
theorem msg {p : Int} (x : Int) : IntMulOk (sgn p) x := by
  rcases sgn_cases p with e | e <;> rw [e] <;> exact mulok_l (by decide) (by decide)
theorem msgN {p : Int} (x : Int) : IntMulOk (-sgn p) x := by
  rcases sgn_cases p with e | e <;> rw [e] <;> exact mulok_l (by decide) (by decide)
abbrev s__exchanged : Stmt := topS 13
theorem sc__exchanged : FnScope ["table", "scale", "line", "column", "numbers", "pivot", "sign", "made", "place", "fresh", "older", "part", "number", "one"] ["table", "scale", "line", "column"] (defScope s__exchanged) := ⟨rfl, rfl, rfl, by decide +kernel, rfl, by decide +kernel, by decide +kernel⟩
/-- all numbers of a state have at most e bits -/
def Sm (W : Rws) (S : Stt) (e : Nat) : Prop := S.d.natAbs < 2 ^ e ∧ ∀ i, i < W.m → ∀ j, j < W.n + 1 → (S.T i j).natAbs < 2 ^ e
def sp__exchanged : Sp := fun vs H Q _ => ∃ (t : Addr) (W : Rws) (S : Stt) (l c : Nat), vs = [.ref t, .int S.d, .int l, .int c] ∧ TbAt H t W S ∧ l < W.m ∧ c < W.n ∧ 0 < S.d ∧ Sm W S 4000 ∧ W.n ≤ 1000 ∧ W.m ≤ 1000 ∧
  ∀ (t' : Addr) (tq : Nat → Addr) (H' : Hp), H t' = none → Ex H H' → H' t' = some (.lst (tab W.m fun i => .ref (tq i))) → (∀ i, i < W.m → H (tq i) = none ∧ H' (tq i) = some (.lst (vl (W.n + 1) ((S.ex l c).T i)))) → Q (.ref t') H'
theorem ok__exchanged {f : Addr} {fd : FuncData} (F : Fun K "_exchanged" "_exchanged" s__exchanged f fd) (B : Bi mg) : FnOk P w K mg base CX0 41 f fd ["table", "scale", "line", "column"] sp__exchanged := by
  refine F.ok sc__exchanged (fun vs H Q E h => ?_) (fun cdv A outer s0 H vs Q E hr h => ?_)
  · obtain ⟨t, W, S, l, c, rfl, _⟩ := h; rfl
  · obtain ⟨t, W, S, l, c, rfl, hT, hl, hc, hd, hS, hn, hm, k⟩ := h
    have nd := sc__exchanged.nd
    refine ⟨_, (pss_cons (ps_set (i := 4) nd rfl (.inl rfl) (pe_ix ix_list (pv 0) (pv 2) (fun _ _ => rfl)))
      (pss_cons (ps_set (i := 5) nd rfl (.inr rfl) (pe_ix ix_list (pv 4) (pv 3) (fun _ _ => rfl)))
      (pss_cons (ps_set (i := 6) nd rfl (.inr rfl) pe_int)
      (pss_cons (ps_if (pt_cmpR op_lt (pv 5) pe_int (nomark _))
        (pss_one (ps_set (i := 6) nd rfl (.inr rfl) (pe_un un_neg pe_int)))
        pss_nil)
      (pss_cons (ps_set (i := 7) nd rfl (.inl rfl) (pe_lst pa_nil))
      (pss_cons (ps_for PassesOwn.never rfl (pi_range1 (by rfl) B.range (pa_cons (pe_callB cr_len (by rfl) B.len b_len (pa_cons (pv 0) pa_nil)) pa_nil)) (pg_name (i := 8) nd rfl (.inl rfl))
        (pss_cons (ps_if (pt_cmpR op_eq (pv 8) (pv 2) (nomark _))
          (pss_cons (ps_setLc (i := 9) (own := [("number", 12)]) rfl nd rfl rfl (sw_true rfl rfl rfl (by decide +kernel)) (pi_list (pv 4)) (blkOk_by (by rfl)) (fun _ _ _ _ _ => (pg_name (i := 12) nd rfl (by first | exact .inl rfl | exact .inr rfl))) (fun _ _ _ _ _ => pts_nil) (fun _ _ _ _ _ => (pe_op op_mulB (pe_un un_neg (pv 6)) (pv 12))))
          (pss_one (ps_asg (pe_op op_mulB (pv 6) (pv 1)) (pg_sub (pv 9) (pv 3) set_list))))
          (pss_cons (ps_set (i := 10) nd rfl (.inl rfl) (pe_ix ix_list (pv 0) (pv 8) (fun _ _ => rfl)))
          (pss_cons (ps_set (i := 11) nd rfl (.inr rfl) (pe_ix ix_list (pv 10) (pv 3) (fun _ _ => rfl)))
          (pss_cons (ps_setLc (i := 9) (g := gTup K 2 (gCons (gName 13) (gCons (gName 12) gNil))) (own := [("one", 13), ("number", 12)]) rfl nd rfl rfl (sw_true rfl rfl rfl (by decide +kernel)) (pi_zip (by rfl) B.zip (pa_cons (pv 10) (pa_cons (pv 4) pa_nil))) (blkOk_by (by rfl)) (fun _ _ _ _ _ => (pg_tup (n := 2) (by rfl) (pgs_cons (pg_name (i := 13) nd rfl (by first | exact .inl rfl | exact .inr rfl)) (pgs_cons (pg_name (i := 12) nd rfl (by first | exact .inl rfl | exact .inr rfl)) pgs_nil)))) (fun _ _ _ _ _ => pts_nil) (fun _ _ _ _ _ => (pe_op op_fdivS (pe_op op_mulB (pv 6) (pe_op op_sub (pe_op op_mulB (pv 13) (pv 5)) (pe_op op_mulB (pv 11) (pv 12)))) (pv 1))))
          (pss_one (ps_asg (pe_op op_mulB (pv 6) (pv 11)) (pg_sub (pv 9) (pv 3) set_list)))))))
        (pss_one (ps_expr (pe_bm PySem.F.plainAttrs_list PySem.F.slot_list_append PySem.F.type_list_append mt_append (pv 7) (pa_cons (pv 9) pa_nil))))))
      (pss_one (ps_ret (pv 7))))))))), ?_⟩
    obtain ⟨tp, t1, t2⟩ := hT
    walk_at "rd"
    refine rd_ixLt l t1 rfl hl ?_
    walk_at "rd"
    refine rd_ixLt c (t2 l hl) rfl (by omega) ?_
    walk_at "rd"
    refine rd_ifG (fun σ' => ∃ o1 o2 o3 o4 o5 o6 o7, σ' = [some (.ref t), some (.int S.d), some (.int l), some (.int c), some (.ref (tp l)), some (.int (S.T l c)), some (.int (sgn (S.T l c))), o1, o2, o3, o4, o5, o6, o7]) (fun h1 tz hz => ?_) (fun h1 => ?_) fun σ' hz => ?_
    · walk_at "rd"
      refine hz _ ?_
      have e : sgn (S.T l c) = -1 := by unfold sgn; rw [if_pos h1]
      rw [e]
      exact ⟨_, _, _, _, _, _, _, rfl⟩
    · have e : sgn (S.T l c) = 1 := by unfold sgn; rw [if_neg h1]
      rw [e]
      exact ⟨_, _, _, _, _, _, _, rfl⟩
    · obtain ⟨o1, o2, o3, o4, o5, o6, o7, rfl⟩ := hz
      walk_at "rd"
      refine ⟨sz (show 0 ≤ 100000 by decide), fun p np => ?_⟩
      have exp : Ex H (upd H p (.lst [])) := ex_new np
      have hp : upd H p (.lst []) p = some (.lst []) := upd_same
      generalize upd H p (HO.lst []) = H1 at exp hp ⊢
      walk_at "rd"
      refine rd_lenLt (exp.at t1) ?_
      walk_at "rd"
      refine rd_rg1 W.m rfl (by omega) (for_w wkR (fun i σ H2 => (Ex H H2 ∧ ∃ ps : Nat → Addr, H2 p = some (.lst (tab i fun k => .ref (ps k))) ∧ ∀ k, k < i → (H (ps k) = none ∧ ps k ≠ p) ∧ H2 (ps k) = some (.lst (vl (W.n + 1) ((S.ex l c).T k)))) ∧
        ∃ o1 o2 o3 o4 o5 o6, σ = [some (.ref t), some (.int S.d), some (.int l), some (.int c), some (.ref (tp l)), some (.int (S.T l c)), some (.int (sgn (S.T l c))), some (.ref p), o1, o2, o3, o4, o5, o6]) ⟨⟨exp, fun _ => 0, hp, fun k hk => absurd hk (by omega)⟩, _, _, _, _, _, _, rfl⟩ (fun i σ H2 _ hP => trivial) (fun i x σ H2 H3 hi hP y => ?_) fun σ H2 hP => ?_)
      · obtain ⟨⟨ex, ps, hps, hrow⟩, o1, o2, o3, o4, o5, o6, rfl⟩ := hP
        obtain ⟨rfl, exx⟩ := y
        obtain rfl : x = .int (i : Int) := by rw [exx]; exact congrArg V.int (by omega)
        walk_at "rd"
        refine rd_dec (fun h1 => ?_) fun h1 => ?_
        · have il : i = l := by omega
          walk_at "rd"
          refine rd_itL (ex.at (t2 l hl)) (lc_pure (wkLt (n := W.n + 1) (f := fun j => .int (S.T l j))) (fun j => .int (-sgn (S.T l c) * S.T l j)) (by omega) (fun H' e => e.at (ex.at (t2 l hl))) (fun j x H4 H5 hj e4 y Pp hP => ?_) fun D H4 nD e4 eD => ?_)
          · obtain ⟨rfl, rfl⟩ := y
            walk_at "rd"
            refine ⟨rfl, ?_⟩
            walk_at "rd"
            refine rd_I (msgN _) ?_
            exact hP _ Ex.rfl'
          · have Dp : D ≠ p := fun z => by rw [z, hps] at nD; exact absurd nD (by simp)
            have nDH : H D = none := ex.back nD
            have PN : p ∉ [D] := by simpa using Ne.symm Dp
            walk_at "rd"
            refine rd_I (msg _) ?_
            walk_at "rd"
            refine rd_setLt c eD rfl (by omega) fun H5 x5 e5 => ?_
            walk_at "rd"
            refine ⟨tyL (x5.at (e4.at hps) PN), ?_⟩
            walk_at "rd"
            refine rd_append (x5.at (e4.at hps) PN) (szl (by rw [tab_len]; omega)) fun H6 x6 e6 => ?_
            walk_at "rd"
            refine ⟨⟨Xt.fresh (Xt.fresh (Xt.trans ex e4) x5 fun z hz => ?_) x6 fun z hz => ?_, fun q => if q = i then D else ps q, ?_, fun q hq => ?_⟩, _, _, _, _, _, _, rfl⟩
            · obtain rfl : z = D := by simpa using hz
              exact nDH
            · obtain rfl : z = p := by simpa using hz
              exact np
            · rw [e6]
              refine congrArg (fun z => some (HO.lst z)) ?_
              rw [← tab_snoc]
              refine congr (congrArg _ (tab_ext fun q hq => by show _ = V.ref (if q = i then D else ps q); rw [if_neg (by omega)])) (by show _ = [V.ref (if i = i then D else ps i)]; rw [if_pos rfl])
            · show (H (if q = i then D else ps q) = none ∧ (if q = i then D else ps q) ≠ p) ∧ H6 (if q = i then D else ps q) = _
              by_cases hqi : q = i
              · subst hqi
                rw [if_pos rfl]
                refine ⟨⟨nDH, Dp⟩, (x6.at e5 (by simpa using Dp)).trans ?_⟩
                refine congrArg (fun z => some (HO.lst z)) (tab_ext fun j hj => ?_)
                show (if j = c then _ else _) = V.int (if q = l then (if j = c then _ else _) else _)
                rw [if_pos il]
                by_cases jc : j = c
                · rw [if_pos jc, if_pos jc]
                · rw [if_neg jc, if_neg jc]
              · rw [if_neg hqi]
                have hr := hrow q (by omega)
                have qD : ps q ≠ D := fun z => by have := hr.2; rw [z, nD] at this; exact absurd this (by simp)
                exact ⟨hr.1, x6.at (x5.at (e4.at hr.2) (by simpa using qD)) (by simpa using hr.1.2)⟩
        · have il : i ≠ l := by omega
          walk_at "rd"
          refine rd_ixLt i (ex.at t1) rfl hi ?_
          walk_at "rd"
          refine rd_ixLt c (ex.at (t2 i hi)) rfl (by omega) ?_
          walk_at "rd"
          refine rd_zp (ex.at (t2 i hi)) (ex.at (t2 l hl)) (lc_pure wkZt (fun j => .int ((sgn (S.T l c) * (S.T i j * S.T l c - S.T i c * S.T l j)).fdiv S.d)) (by omega) (fun H' e => ⟨e.at (ex.at (t2 i hi)), e.at (ex.at (t2 l hl))⟩) (fun j x H4 H5 hj e4 y Pp hP => ?_) fun D H4 nD e4 eD => ?_)
          · obtain ⟨T, x1, x2, rfl, nT, rfl, f1, f2⟩ := y
            cases f1; cases f2
            refine rd_gpair upd_same ?_
            walk_at "rd"
            refine ⟨rfl, ?_⟩
            walk_at "rd"
            refine rd_I (mulok_big (hS.2 i hi j hj) (hS.2 l hl c (by omega))) ?_
            walk_at "rd"
            refine rd_I (mulok_big (hS.2 i hi c (by omega)) (hS.2 l hl j hj)) ?_
            walk_at "rd"
            refine rd_I (msg _) ?_
            walk_at "rd"
            refine rd_I ⟨by omega, log_lt hS.1⟩ ?_
            exact hP _ (ex_new nT)
          · have Dp : D ≠ p := fun z => by rw [z, hps] at nD; exact absurd nD (by simp)
            have nDH : H D = none := ex.back nD
            have PN : p ∉ [D] := by simpa using Ne.symm Dp
            walk_at "rd"
            refine rd_I (msg _) ?_
            walk_at "rd"
            refine rd_setLt c eD rfl (by omega) fun H5 x5 e5 => ?_
            walk_at "rd"
            refine ⟨tyL (x5.at (e4.at hps) PN), ?_⟩
            walk_at "rd"
            refine rd_append (x5.at (e4.at hps) PN) (szl (by rw [tab_len]; omega)) fun H6 x6 e6 => ?_
            walk_at "rd"
            refine ⟨⟨Xt.fresh (Xt.fresh (Xt.trans ex e4) x5 fun z hz => ?_) x6 fun z hz => ?_, fun q => if q = i then D else ps q, ?_, fun q hq => ?_⟩, _, _, _, _, _, _, rfl⟩
            · obtain rfl : z = D := by simpa using hz
              exact nDH
            · obtain rfl : z = p := by simpa using hz
              exact np
            · rw [e6]
              refine congrArg (fun z => some (HO.lst z)) ?_
              rw [← tab_snoc]
              refine congr (congrArg _ (tab_ext fun q hq => by show _ = V.ref (if q = i then D else ps q); rw [if_neg (by omega)])) (by show _ = [V.ref (if i = i then D else ps i)]; rw [if_pos rfl])
            · show (H (if q = i then D else ps q) = none ∧ (if q = i then D else ps q) ≠ p) ∧ H6 (if q = i then D else ps q) = _
              by_cases hqi : q = i
              · subst hqi
                rw [if_pos rfl]
                refine ⟨⟨nDH, Dp⟩, (x6.at e5 (by simpa using Dp)).trans ?_⟩
                refine congrArg (fun z => some (HO.lst z)) (tab_ext fun j hj => ?_)
                show (if j = c then _ else _) = V.int (if q = l then _ else if j = c then _ else _)
                rw [if_neg il]
                by_cases jc : j = c
                · rw [if_pos jc, if_pos jc]
                · rw [if_neg jc, if_neg jc]; exact congrArg V.int (Int.fdiv_eq_ediv_of_nonneg _ (by omega))
              · rw [if_neg hqi]
                have hr := hrow q (by omega)
                have qD : ps q ≠ D := fun z => by have := hr.2; rw [z, nD] at this; exact absurd this (by simp)
                exact ⟨hr.1, x6.at (x5.at (e4.at hr.2) (by simpa using qD)) (by simpa using hr.1.2)⟩
      · obtain ⟨⟨ex, ps, hps, hrow⟩, o1, o2, o3, o4, o5, o6, rfl⟩ := hP
        walk_at "rd"
        exact k p ps H2 np ex hps fun k hk => ⟨(hrow k hk).1.1, (hrow k hk).2⟩
end
end Sx
/-! the walk of _point -/
namespace Sx
open PySem PySem.Spec PyProof.Rows L2 Y
local macro_rules | `(tactic| walk_at "rd1") => `(tactic| first
  | with_reducible refine rd_var rfl ?_
  | with_reducible refine rd_op ?_
  | with_reducible refine rd_c ?_
  | with_reducible refine rd_I0 ?_
  | with_reducible refine rd_seq ?_
  | ((with_reducible refine rd_I ?_ ?_); focus (first | exact mulok_r (by decide) (by decide) | exact mulok_l (by decide) (by decide) | (show _ ≠ _; decide) | (show _ ∧ _; decide)))
  | with_reducible refine rd_asg ?_
  | with_reducible refine rd_name ?_
  | with_reducible refine rd_cb ?_
  | with_reducible refine rd_cons ?_
  | with_reducible refine rd_nil ?_
  | with_reducible refine rd_int ?_
  | with_reducible refine rd_eqI ?_
  | with_reducible refine rd_neI ?_
  | with_reducible refine rd_bl ?_
  | with_reducible refine rd_test ?_
  | with_reducible refine rd_tB ?_
  | with_reducible refine rd_ifS ?_
  | with_reducible refine rd_next ?_
  | with_reducible refine rd_T ?_
  | with_reducible refine rd_F ?_
  | with_reducible refine rd_nT ?_
  | with_reducible refine rd_nF ?_
  | with_reducible refine rd_blV ?_
  | with_reducible refine rd_ret ?_
  | with_reducible refine rd_call ?_
  | with_reducible refine rd_drop ?_
  | with_reducible refine rd_not ?_
  | with_reducible refine rd_and ?_
  | with_reducible refine rd_or ?_
  | with_reducible refine rd_un ?_
  | with_reducible refine rd_U ?_
  | with_reducible refine rd_tup ?_
  | with_reducible refine rd_lst ?_
  | with_reducible refine rd_if ?_
  | with_reducible refine rd_andV ?_
  | with_reducible refine rd_orV ?_
  | with_reducible refine rd_notV ?_
  | with_reducible refine rd_sl ?_
  | with_reducible refine rd_nopart ?_
  | with_reducible refine rd_part ?_
  | with_reducible refine rd_iv ?_
  | with_reducible refine rd_bm ?_
  | with_reducible refine rd_abs ?_
  | with_reducible refine rd_intb ?_
  | with_reducible refine rd_mx2 ?_
  | with_reducible refine rd_mn2 ?_
  | with_reducible refine rd_sub ?_
  | with_reducible refine rd_lc ?_
  | with_reducible refine rd_for ?_
  | with_reducible refine rd_iL ?_
  | with_reducible refine rd_iT ?_
  | with_reducible refine rd_r1 ?_
  | with_reducible refine rd_r2 ?_
  | with_reducible refine rd_iZ ?_
  | with_reducible refine rd_iZM ?_
  | with_reducible refine rd_while ?_
  | with_reducible refine rd_tru ?_
  | with_reducible refine rd_brk ?_
  | with_reducible refine rd_callS ?_)
local macro_rules | `(tactic| walk_at "rd") => `(tactic| repeat walk_at "rd1")

section
variable {P : Program} {w : World} {K : PySem.W.Frag} {mg : Str → Option Value} {base : Heap}
/-- the pair of a numerator and d in lowest terms -/
def lowN (x d : Int) : Int := x.fdiv ((Nat.gcd x.natAbs d.natAbs : Nat) : Int)
def lowD (x d : Int) : Int := d.fdiv ((Nat.gcd x.natAbs d.natAbs : Nat) : Int)
def pr (x d : Int) : HO := .tup [.int (lowN x d), .int (lowD x d)]
theorem pr_zero {d : Int} (h : 0 < d) : pr 0 d = .tup [.int 0, .int 1] := by
  have e : ((Nat.gcd (0 : Int).natAbs d.natAbs : Nat) : Int) = d := by
    rw [show (0 : Int).natAbs = 0 from rfl, Nat.gcd_zero_left]; omega
  unfold pr lowN lowD
  rw [e, Int.zero_fdiv, Int.fdiv_eq_ediv_of_nonneg _ (by omega), Int.ediv_self (by omega)]
abbrev s__point : Stmt := topS 14
theorem sc__point : FnScope ["many", "table", "basic", "scale", "found", "line", "constant", "share", "_"] ["many", "table", "basic", "scale"] (defScope s__point) := ⟨rfl, rfl, rfl, by decide +kernel, rfl, by decide +kernel, by decide +kernel⟩
def sp__point : Sp := fun vs H Q _ => ∃ (t b : Addr) (W : Rws) (S : Stt), vs = [.int W.n, .ref t, .ref b, .int S.d] ∧ TbAt H t W S ∧ H b = some (.lst (vl W.m fun i => (S.b i : Int))) ∧ Ok W S ∧ Sm W S 4000 ∧ W.n ≤ 1000 ∧ W.m ≤ 1000 ∧
  ∀ q H' (pp : Nat → Addr), Ex H H' → H' q = some (.tup (tab W.n fun k => .ref (pp k))) → (∀ k, k < W.n → H' (pp k) = some (pr (W.X S k) S.d)) → Q (.ref q) H'
theorem ok__point {f : Addr} {fd : FuncData} (F : Fun K "_point" "_point" s__point f fd) (B : Bi mg) : FnOk P w K mg base CX0 41 f fd ["many", "table", "basic", "scale"] sp__point := by
  refine F.ok sc__point (fun vs H Q E h => ?_) (fun cdv A outer s0 H vs Q E hr h => ?_)
  · obtain ⟨t, b, W, S, rfl, _⟩ := h; rfl
  · obtain ⟨t, b, W, S, rfl, hT, hB, hO, hS, hn, hm, k⟩ := h
    have nd := sc__point.nd
    refine ⟨_, (pss_cons (ps_setLc (i := 4) (own := [("_", 8)]) rfl nd rfl rfl (sw_true rfl rfl rfl (by decide +kernel)) (pi_range1 (by rfl) B.range (pa_cons (pv 0) pa_nil)) (blkOk_by (by rfl)) (fun _ _ _ _ _ => (pg_name (i := 8) nd rfl (by first | exact .inl rfl | exact .inr rfl))) (fun _ _ _ _ _ => pts_nil) (fun _ _ _ _ _ => (pe_tup (pa_cons pe_int (pa_cons pe_int pa_nil)))))
      (pss_cons (ps_for PassesOwn.never rfl (pi_range1 (by rfl) B.range (pa_cons (pe_callB cr_len (by rfl) B.len b_len (pa_cons (pv 1) pa_nil)) pa_nil)) (pg_name (i := 5) nd rfl (.inl rfl))
        (pss_one (ps_if (pt_cmpR op_lt (pe_ix ix_list (pv 2) (pv 5) (fun _ _ => rfl)) (pv 0) (nomark _))
          (pss_cons (ps_set (i := 6) nd rfl (.inl rfl) (pe_ix ix_list (pe_ix ix_list (pv 1) (pv 5) (fun _ _ => rfl)) (pv 0) (fun _ _ => rfl)))
          (pss_cons (ps_set (i := 7) nd rfl (.inl rfl) (pe_callBfun cr_gcd (by rfl) B.gcd (pa_cons (pv 6) (pa_cons (pv 3) pa_nil))))
          (pss_one (ps_asg (pe_tup (pa_cons (pe_op op_fdivS (pv 6) (pv 7)) (pa_cons (pe_op op_fdivS (pv 3) (pv 7)) pa_nil))) (pg_sub (pv 4) (pe_ix ix_list (pv 2) (pv 5) (fun _ _ => rfl)) set_list)))))
          pss_nil)))
      (pss_one (ps_ret (pe_callTy cr_tupOf (by rfl) B.tuple b_tuple (pa_cons (pv 4) pa_nil)))))), ?_⟩
    obtain ⟨tp, t1, t2⟩ := hT
    walk_at "rd"
    refine rd_rg1 W.n rfl (by omega) (lc_refs wkR (fun k => .tup [.int 0, .int 1]) (by omega) (fun _ _ => trivial) (fun i x H1 H2 hi e1 y Pp hP => ?_) fun D ps H1 nD e1 eD hD => ?_)
    · obtain ⟨rfl, ex⟩ := y
      walk_at "rd"
      refine ⟨rfl, ?_⟩
      walk_at "rd"
      refine ⟨sz (show 2 ≤ 100000 by decide), fun p np => ?_⟩
      exact hP p _ (ex_new np) upd_same (.inl np)
    · walk_at "rd"
      refine rd_lenLt (e1.at t1) ?_
      walk_at "rd"
      refine rd_rg1 W.m rfl (by omega) (for_w wkR (fun i σ H2 => (Ex H H2 ∧ ∃ pp : Nat → Addr, H2 D = some (.lst (tab W.n fun k => .ref (pp k))) ∧ ∀ k, k < W.n → pp k ≠ D ∧ (H2 (pp k) = some (pr (W.X S k) S.d) ∨ (H2 (pp k) = some (.tup [.int 0, .int 1]) ∧ ∀ j, j < i → S.b j ≠ k))) ∧
        ∃ o1 o2 o3 o4, σ = [some (.int W.n), some (.ref t), some (.ref b), some (.int S.d), some (.ref D), o1, o2, o3, o4]) ⟨⟨e1, ps, eD, fun k hk => ⟨(hD k hk).2, .inr ⟨(hD k hk).1, fun j hj => by omega⟩⟩⟩, _, _, _, _, rfl⟩ (fun i σ H2 _ hP => trivial) (fun i x σ H2 H3 hi hP y => ?_) fun σ H2 hP => ?_)
      · obtain ⟨⟨ex, pp, hpp, hit⟩, o1, o2, o3, o4, rfl⟩ := hP
        obtain ⟨rfl, exx⟩ := y
        obtain rfl : x = .int (i : Int) := by rw [exx]; exact congrArg V.int (by omega)
        walk_at "rd"
        refine rd_ixLt i (ex.at hB) rfl hi ?_
        walk_at "rd"
        refine rd_dec (fun h1 => ?_) fun h1 => ?_
        · have h1 : (S.b i : Int) < W.n := h1
          walk_at "rd"
          refine rd_ixLt i (ex.at t1) rfl hi ?_
          walk_at "rd"
          refine rd_ixLt W.n (ex.at (t2 i hi)) rfl (by omega) ?_
          walk_at "rd"
          refine rd_gcd ?_
          walk_at "rd"
          have hd := hO.pos
          have g0 : 0 < Nat.gcd (S.T i W.n).natAbs S.d.natAbs := Nat.gcd_pos_of_pos_right _ (by omega)
          have gl : (((Nat.gcd (S.T i W.n).natAbs S.d.natAbs : Nat) : Int)).natAbs < 2 ^ 4000 := by
            have := Nat.gcd_le_right (S.T i W.n).natAbs (n := S.d.natAbs) (by omega)
            have := hS.1
            omega
          refine rd_I ⟨by omega, log_lt gl⟩ ?_
          walk_at "rd"
          refine rd_I ⟨by omega, log_lt gl⟩ ?_
          walk_at "rd"
          refine ⟨sz (show 2 ≤ 100000 by decide), fun p np => ?_⟩
          have e4 : Ex H3 (upd H3 p (pr (S.T i W.n) S.d)) := ex_new np
          have ep : upd H3 p (pr (S.T i W.n) S.d) p = some (pr (S.T i W.n) S.d) := upd_same
          show gSub _ _ _ _ _ (upd H3 p (pr (S.T i W.n) S.d)) _
          generalize upd H3 p (pr (S.T i W.n) S.d) = H4 at e4 ep ⊢
          walk_at "rd"
          refine rd_ixLt i (e4.at (ex.at hB)) rfl hi ?_
          have pD : p ≠ D := fun z => by rw [z, hpp] at np; exact absurd np (by simp)
          refine rd_setLt (S.b i) (e4.at hpp) rfl (by omega) fun H5 x5 e5 => ?_
          walk_at "rd"
          refine ⟨⟨Xt.fresh (Xt.trans ex e4) x5 fun z hz => ?_, fun q => if q = S.b i then p else pp q, ?_, fun q hq => ?_⟩, _, _, _, _, rfl⟩
          · obtain rfl : z = D := by simpa using hz
            exact nD
          · rw [e5]
            exact congrArg (fun z => some (HO.lst z)) (tab_ext fun j hj => by
              show (if j = S.b i then _ else _) = V.ref (if j = S.b i then _ else _)
              by_cases z : j = S.b i
              · rw [if_pos z, if_pos z]
              · rw [if_neg z, if_neg z])
          · show (if q = S.b i then p else pp q) ≠ D ∧ (H5 (if q = S.b i then p else pp q) = _ ∨ H5 (if q = S.b i then p else pp q) = _ ∧ _)
            by_cases z : q = S.b i
            · rw [if_pos z]
              refine ⟨pD, .inl ?_⟩
              rw [z, hO.X_b hi]
              exact x5.at ep (by simpa using pD)
            · rw [if_neg z]
              have hr := hit q hq
              refine ⟨hr.1, hr.2.imp (fun y => x5.at (e4.at y) (by simpa using hr.1)) fun y => ⟨x5.at (e4.at y.1) (by simpa using hr.1), fun j hj => ?_⟩⟩
              by_cases ji : j = i
              · rw [ji]; exact Ne.symm z
              · exact y.2 j (by omega)
        · have h1 : ¬ (S.b i : Int) < W.n := h1
          walk_at "rd"
          exact ⟨⟨ex, pp, hpp, fun k hk => ⟨(hit k hk).1, (hit k hk).2.imp id fun z => ⟨z.1, fun j hj => by
            by_cases ji : j = i
            · rw [ji]; omega
            · exact z.2 j (by omega)⟩⟩⟩, _, _, _, _, rfl⟩
      · obtain ⟨⟨ex, pp, hpp, hit⟩, o1, o2, o3, o4, rfl⟩ := hP
        walk_at "rd"
        refine rd_tupL hpp fun l H4 nl e4 el => ?_
        refine k l H4 pp (Xt.trans ex e4) el fun k hk => e4.at ?_
        rcases (hit k hk).2 with z | z
        · exact z
        · rw [z.1]
          have : W.X S k = 0 := by
            rcases hO.cov k (by omega) with ⟨i, hi, a⟩ | ⟨j, hj, a⟩
            · exact absurd a (z.2 i hi)
            · rw [← a]; exact X_f hj
          rw [this, pr_zero hO.pos]
end
end Sx
/-! the walk of _multipliers -/
namespace Sx
open PySem PySem.Spec PyProof.Rows L2 Y
local macro_rules | `(tactic| walk_at "rd1") => `(tactic| first
  | with_reducible refine rd_var rfl ?_
  | with_reducible refine rd_op ?_
  | with_reducible refine rd_c ?_
  | with_reducible refine rd_I0 ?_
  | with_reducible refine rd_seq ?_
  | ((with_reducible refine rd_I ?_ ?_); focus (first | exact mulok_r (by decide) (by decide) | exact mulok_l (by decide) (by decide) | (show _ ≠ _; decide) | (show _ ∧ _; decide)))
  | with_reducible refine rd_asg ?_
  | with_reducible refine rd_name ?_
  | with_reducible refine rd_cb ?_
  | with_reducible refine rd_cons ?_
  | with_reducible refine rd_nil ?_
  | with_reducible refine rd_int ?_
  | with_reducible refine rd_eqI ?_
  | with_reducible refine rd_neI ?_
  | with_reducible refine rd_bl ?_
  | with_reducible refine rd_test ?_
  | with_reducible refine rd_tB ?_
  | with_reducible refine rd_ifS ?_
  | with_reducible refine rd_next ?_
  | with_reducible refine rd_T ?_
  | with_reducible refine rd_F ?_
  | with_reducible refine rd_nT ?_
  | with_reducible refine rd_nF ?_
  | with_reducible refine rd_blV ?_
  | with_reducible refine rd_ret ?_
  | with_reducible refine rd_call ?_
  | with_reducible refine rd_drop ?_
  | with_reducible refine rd_not ?_
  | with_reducible refine rd_and ?_
  | with_reducible refine rd_or ?_
  | with_reducible refine rd_un ?_
  | with_reducible refine rd_U ?_
  | with_reducible refine rd_tup ?_
  | with_reducible refine rd_lst ?_
  | with_reducible refine rd_if ?_
  | with_reducible refine rd_andV ?_
  | with_reducible refine rd_orV ?_
  | with_reducible refine rd_notV ?_
  | with_reducible refine rd_sl ?_
  | with_reducible refine rd_nopart ?_
  | with_reducible refine rd_part ?_
  | with_reducible refine rd_iv ?_
  | with_reducible refine rd_bm ?_
  | with_reducible refine rd_abs ?_
  | with_reducible refine rd_intb ?_
  | with_reducible refine rd_mx2 ?_
  | with_reducible refine rd_mn2 ?_
  | with_reducible refine rd_sub ?_
  | with_reducible refine rd_lc ?_
  | with_reducible refine rd_for ?_
  | with_reducible refine rd_iL ?_
  | with_reducible refine rd_iT ?_
  | with_reducible refine rd_r1 ?_
  | with_reducible refine rd_r2 ?_
  | with_reducible refine rd_iZ ?_
  | with_reducible refine rd_iZM ?_
  | with_reducible refine rd_while ?_
  | with_reducible refine rd_tru ?_
  | with_reducible refine rd_brk ?_
  | with_reducible refine rd_callS ?_)
local macro_rules | `(tactic| walk_at "rd") => `(tactic| repeat walk_at "rd1")

def gdf (f : Nat → Int) : Nat → Nat
  | 0 => 0
  | k + 1 => Nat.gcd (gdf f k) (f k).natAbs
theorem gdf_dvd (f : Nat → Int) : ∀ {n i : Nat}, i < n → gdf f n ∣ (f i).natAbs
  | 0, _, h => by omega
  | n + 1, i, h => by
    by_cases e : i = n
    · rw [e]; exact Nat.gcd_dvd_right _ _
    · exact Nat.dvd_trans (Nat.gcd_dvd_left _ _) (gdf_dvd f (by omega))
section
variable {P : Program} {w : World} {K : PySem.W.Frag} {mg : Str → Option Value} {base : Heap}
theorem fnd_bl {W : Rws} {S : Stt} (h : Ok W S) {l : Nat} (hl : l < W.m) (hb : W.n ≤ S.b l) : ∀ k, k ≤ W.n → W.fnd S l k (S.b l - W.n) = sgn (S.T l W.n) * S.d
  | 0, _ => if_pos (by omega)
  | k + 1, hk => by
    show (if S.f k = W.n + (S.b l - W.n) then _ else _) = _
    have := h.nbf hl (j := k) (by omega)
    rw [if_neg (by omega)]
    exact fnd_bl h hl hb k (by omega)
abbrev s__multipliers : Stmt := topS 15
theorem sc__multipliers : FnScope ["rows", "many", "numbers", "scale", "variable", "free", "sign", "found", "column", "share", "one", "_"] ["rows", "many", "numbers", "scale", "variable", "free"] (defScope s__multipliers) := ⟨rfl, rfl, rfl, by decide +kernel, rfl, by decide +kernel, by decide +kernel⟩
def sp__multipliers : Sp := fun vs H Q _ => ∃ (r nm fr : Addr) (W : Rws) (S : Stt) (l : Nat), vs = [.ref r, .int W.n, .ref nm, .int S.d, .int (S.b l), .ref fr] ∧ RwAt H r W ∧ H nm = some (.lst (vl (W.n + 1) (S.T l))) ∧ H fr = some (.lst (vl W.n fun i => (S.f i : Int))) ∧ l < W.m ∧ W.n ≤ S.b l ∧ Ok W S ∧ Sm W S 4000 ∧ W.n ≤ 1000 ∧ W.m ≤ 1000 ∧
  ∀ q H', Ex H H' → H' q = some (.tup (vl W.m fun i => (W.fnd S l W.n i).fdiv (gdf (W.fnd S l W.n) W.m))) → Q (.ref q) H'
theorem ok__multipliers {f : Addr} {fd : FuncData} (F : Fun K "_multipliers" "_multipliers" s__multipliers f fd) (B : Bi mg) : FnOk P w K mg base CX0 41 f fd ["rows", "many", "numbers", "scale", "variable", "free"] sp__multipliers := by
  refine F.ok sc__multipliers (fun vs H Q E h => ?_) (fun cdv A outer s0 H vs Q E hr h => ?_)
  · obtain ⟨r, nm, fr, W, S, l, rfl, _⟩ := h; rfl
  · obtain ⟨r, nm, fr, W, S, l, rfl, hR, hN, hF, hl, hbl, hO, hS, hn, hm, k⟩ := h
    have nd := sc__multipliers.nd
    refine ⟨_, (pss_cons (ps_set (i := 6) nd rfl (.inl rfl) pe_int)
      (pss_cons (ps_if (pt_cmpR op_lt (pe_ix ix_list (pv 2) (pv 1) (fun _ _ => rfl)) pe_int (nomark _))
        (pss_one (ps_set (i := 6) nd rfl (.inl rfl) (pe_un un_neg pe_int)))
        pss_nil)
      (pss_cons (ps_setLc (i := 7) (own := [("_", 11)]) rfl nd rfl rfl (sw_true rfl rfl rfl (by decide +kernel)) (pi_tup (pv 0)) (blkOk_by (by rfl)) (fun _ _ _ _ _ => (pg_name (i := 11) nd rfl (by first | exact .inl rfl | exact .inr rfl))) (fun _ _ _ _ _ => pts_nil) (fun _ _ _ _ _ => pe_int))
      (pss_cons (ps_asg (pe_op op_mulB (pv 6) (pv 3)) (pg_sub (pv 7) (pe_op op_sub (pv 4) (pv 1)) set_list))
      (pss_cons (ps_for PassesOwn.never rfl (pi_range1 (by rfl) B.range (pa_cons (pv 1) pa_nil)) (pg_name (i := 8) nd rfl (.inl rfl))
        (pss_one (ps_if (pt_cmpR op_ge (pe_ix ix_list (pv 5) (pv 8) (fun _ _ => rfl)) (pv 1) (nomark _))
          (pss_one (ps_asg (pe_op op_mulB (pe_un un_neg (pv 6)) (pe_ix ix_list (pv 2) (pv 8) (fun _ _ => rfl))) (pg_sub (pv 7) (pe_op op_sub (pe_ix ix_list (pv 5) (pv 8) (fun _ _ => rfl)) (pv 1)) set_list)))
          pss_nil)))
      (pss_cons (ps_set (i := 9) nd rfl (.inr rfl) pe_int)
      (pss_cons (ps_for PassesOwn.never rfl (pi_list (pv 7)) (pg_name (i := 10) nd rfl (.inl rfl))
        (pss_one (ps_set (i := 9) nd rfl (.inr rfl) (pe_callBfun cr_gcd (by rfl) B.gcd (pa_cons (pv 9) (pa_cons (pv 10) pa_nil))))))
      (pss_one (ps_ret (pe_callTy cr_tupOf (by rfl) B.tuple b_tuple (pa_cons (pe_lc (own := [("one", 10)]) rfl nd (pi_list (pv 7)) (blkOk_by (by rfl)) (fun _ _ _ _ _ => (pg_name (i := 10) nd rfl (by first | exact .inl rfl | exact .inr rfl))) (fun _ _ _ _ _ => pts_nil) (fun _ _ _ _ _ => (pe_op op_fdivS (pv 10) (pv 9)))) pa_nil))))))))))), ?_⟩
    obtain ⟨rp, np, e1, e2, e3⟩ := hR
    have hb2 := hO.bl l hl
    walk_at "rd"
    refine rd_ixLt W.n hN rfl (by omega) ?_
    walk_at "rd"
    refine rd_ifG (fun σ' => ∃ o1 o2 o3 o4 o5, σ' = [some (.ref r), some (.int W.n), some (.ref nm), some (.int S.d), some (.int (S.b l)), some (.ref fr), some (.int (sgn (S.T l W.n))), o1, o2, o3, o4, o5]) (fun h1 tz hz => ?_) (fun h1 => ?_) fun σ' hz => ?_
    · walk_at "rd"
      refine hz _ ?_
      have e : sgn (S.T l W.n) = -1 := by unfold sgn; rw [if_pos h1]
      rw [e]
      exact ⟨_, _, _, _, _, rfl⟩
    · have e : sgn (S.T l W.n) = 1 := by unfold sgn; rw [if_neg h1]
      rw [e]
      exact ⟨_, _, _, _, _, rfl⟩
    · obtain ⟨o1, o2, o3, o4, o5, rfl⟩ := hz
      walk_at "rd"
      refine rd_itT e1 (lc_pure (wkTt (n := W.m) (f := fun i => .ref (rp i))) (fun _ => .int 0) (by omega) (fun H' e => e.at e1) (fun i x H1 H2 hi e4 y Pp hP => ?_) fun D H1 nD ex eD => ?_)
      · obtain ⟨rfl, rfl⟩ := y
        walk_at "rd"
        refine ⟨rfl, ?_⟩
        walk_at "rd"
        exact hP _ Ex.rfl'
      · walk_at "rd"
        refine rd_I (msg _) ?_
        walk_at "rd"
        refine rd_setLt (S.b l - W.n) eD (show ((S.b l : Int) - W.n) = _ by omega) (by omega) fun H2 x2 f2 => ?_
        have ex2 : Ex H H2 := Xt.fresh ex x2 fun z hz => by obtain rfl : z = D := by simpa using hz
                                                            exact nD
        walk_at "rd"
        refine rd_rg1 W.n rfl (by omega) (for_w wkR (fun i σ H3 => (Ex H H3 ∧ H3 D = some (.lst (vl W.m (W.fnd S l i)))) ∧ ∃ o1 o2 o3 o4, σ = [some (.ref r), some (.int W.n), some (.ref nm), some (.int S.d), some (.int (S.b l)), some (.ref fr), some (.int (sgn (S.T l W.n))), some (.ref D), o1, o2, o3, o4]) ⟨⟨ex2, ?_⟩, _, _, _, _, rfl⟩ (fun i σ H2 _ hP => trivial) (fun i x σ H3 H4 hi hP y => ?_) fun σ H3 hP => ?_)
        · rw [f2]
          refine congrArg (fun z => some (HO.lst z)) (tab_ext fun j hj => ?_)
          show (if j = S.b l - W.n then _ else _) = V.int (if W.n + j = S.b l then _ else _)
          by_cases z : j = S.b l - W.n
          · rw [if_pos z, if_pos (by omega)]
          · rw [if_neg z, if_neg (by omega)]
        · obtain ⟨⟨ex3, hD⟩, o1, o2, o3, o4, rfl⟩ := hP
          obtain ⟨rfl, exx⟩ := y
          obtain rfl : x = .int (i : Int) := by rw [exx]; exact congrArg V.int (by omega)
          have hfi := hO.fl i hi
          walk_at "rd"
          refine rd_ixLt i (ex3.at hF) rfl hi ?_
          walk_at "rd"
          refine rd_dec (fun h1 => ?_) fun h1 => ?_
          · have h1 : (W.n : Int) ≤ S.f i := h1
            walk_at "rd"
            refine rd_ixLt i (ex3.at hN) rfl (by omega) ?_
            walk_at "rd"
            refine rd_I (msgN _) ?_
            walk_at "rd"
            refine rd_ixLt i (ex3.at hF) rfl hi ?_
            walk_at "rd"
            refine rd_setLt (S.f i - W.n) hD (show ((S.f i : Int) - W.n) = _ by omega) (by omega) fun H5 x5 f5 => ?_
            walk_at "rd"
            refine ⟨⟨Xt.fresh ex3 x5 fun z hz => ?_, ?_⟩, _, _, _, _, rfl⟩
            · obtain rfl : z = D := by simpa using hz
              exact nD
            · rw [f5]
              refine congrArg (fun z => some (HO.lst z)) (tab_ext fun j hj => ?_)
              show (if j = S.f i - W.n then _ else _) = V.int (if S.f i = W.n + j then _ else _)
              by_cases z : j = S.f i - W.n
              · rw [if_pos z, if_pos (by omega)]
              · rw [if_neg z, if_neg (by omega)]
          · have h1 : ¬ (W.n : Int) ≤ S.f i := h1
            walk_at "rd"
            refine ⟨⟨ex3, ?_⟩, _, _, _, _, rfl⟩
            rw [hD]
            refine congrArg (fun z => some (HO.lst z)) (tab_ext fun j hj => ?_)
            show _ = V.int (if S.f i = W.n + j then _ else _)
            rw [if_neg (by omega)]
        · obtain ⟨⟨ex3, hD⟩, o1, o2, o3, o4, rfl⟩ := hP
          have hd := hO.pos
          have gd : gdf (W.fnd S l W.n) W.m ∣ S.d.natAbs := by
            have q := gdf_dvd (W.fnd S l W.n) (n := W.m) (i := S.b l - W.n) (by omega)
            rw [fnd_bl hO hl hbl W.n (Nat.le_refl _), Int.natAbs_mul] at q
            rcases sgn_cases (S.T l W.n) with e | e <;> rw [e] at q <;> simpa using q
          have gp : 0 < gdf (W.fnd S l W.n) W.m := Nat.pos_of_dvd_of_pos gd (by omega)
          have gle : gdf (W.fnd S l W.n) W.m ≤ S.d.natAbs := Nat.le_of_dvd (by omega) gd
          have gl : (((gdf (W.fnd S l W.n) W.m : Nat) : Int)).natAbs < 2 ^ 4000 := by
            have := hS.1
            omega
          walk_at "rd"
          refine rd_itL hD (for_w (wkLt (n := W.m) (f := fun i => .int (W.fnd S l W.n i))) (fun i σ H4 => Ex H3 H4 ∧ ∃ o1 o2 o4, σ = [some (.ref r), some (.int W.n), some (.ref nm), some (.int S.d), some (.int (S.b l)), some (.ref fr), some (.int (sgn (S.T l W.n))), some (.ref D), o1, some (.int (gdf (W.fnd S l W.n) i)), o2, o4]) ⟨Ex.rfl', _, _, _, rfl⟩ (fun i σ H4 _ hP => hP.1.at hD) (fun i x σ H4 H5 hi hP y => ?_) fun σ H4 hP => ?_)
          · obtain ⟨ex4, o1, o2, o4, rfl⟩ := hP
            obtain ⟨rfl, rfl⟩ := y
            walk_at "rd"
            refine rd_gcd ?_
            walk_at "rd"
            exact ⟨ex4, _, _, _, rfl⟩
          · obtain ⟨ex4, o1, o2, o4, rfl⟩ := hP
            walk_at "rd"
            refine rd_itL (ex4.at hD) (lc_pure (wkLt (n := W.m) (f := fun i => .int (W.fnd S l W.n i))) (fun i => .int ((W.fnd S l W.n i).fdiv (gdf (W.fnd S l W.n) W.m))) (by omega) (fun H' e => e.at (ex4.at hD)) (fun i x H5 H6 hi e5 y Pp hP => ?_) fun D2 H5 nD2 e5 eD2 => ?_)
            · obtain ⟨rfl, rfl⟩ := y
              walk_at "rd"
              refine ⟨rfl, ?_⟩
              walk_at "rd"
              refine rd_I ⟨by omega, log_lt gl⟩ ?_
              exact hP _ Ex.rfl'
            · walk_at "rd"
              refine rd_tupL eD2 fun q H6 nq e6 eq => ?_
              exact k q H6 (Xt.trans (Xt.trans (Xt.trans ex3 ex4) e5) e6) eq
end
end Sx
/-! the walk of solved -/
namespace Sx
open PySem PySem.Spec PyProof.Rows L2 Y
local macro_rules | `(tactic| walk_at "rd1") => `(tactic| first
  | with_reducible refine rd_var rfl ?_
  | with_reducible refine rd_op ?_
  | with_reducible refine rd_c ?_
  | with_reducible refine rd_I0 ?_
  | with_reducible refine rd_seq ?_
  | ((with_reducible refine rd_I ?_ ?_); focus (first | exact mulok_r (by decide) (by decide) | exact mulok_l (by decide) (by decide) | (show _ ≠ _; decide) | (show _ ∧ _; decide)))
  | with_reducible refine rd_asg ?_
  | with_reducible refine rd_name ?_
  | with_reducible refine rd_cb ?_
  | with_reducible refine rd_cons ?_
  | with_reducible refine rd_nil ?_
  | with_reducible refine rd_int ?_
  | with_reducible refine rd_eqI ?_
  | with_reducible refine rd_neI ?_
  | with_reducible refine rd_bl ?_
  | with_reducible refine rd_test ?_
  | with_reducible refine rd_tB ?_
  | with_reducible refine rd_ifS ?_
  | with_reducible refine rd_next ?_
  | with_reducible refine rd_T ?_
  | with_reducible refine rd_F ?_
  | with_reducible refine rd_nT ?_
  | with_reducible refine rd_nF ?_
  | with_reducible refine rd_blV ?_
  | with_reducible refine rd_ret ?_
  | with_reducible refine rd_call ?_
  | with_reducible refine rd_drop ?_
  | with_reducible refine rd_not ?_
  | with_reducible refine rd_and ?_
  | with_reducible refine rd_or ?_
  | with_reducible refine rd_un ?_
  | with_reducible refine rd_U ?_
  | with_reducible refine rd_tup ?_
  | with_reducible refine rd_lst ?_
  | with_reducible refine rd_if ?_
  | with_reducible refine rd_andV ?_
  | with_reducible refine rd_orV ?_
  | with_reducible refine rd_notV ?_
  | with_reducible refine rd_sl ?_
  | with_reducible refine rd_nopart ?_
  | with_reducible refine rd_part ?_
  | with_reducible refine rd_iv ?_
  | with_reducible refine rd_bm ?_
  | with_reducible refine rd_abs ?_
  | with_reducible refine rd_intb ?_
  | with_reducible refine rd_mx2 ?_
  | with_reducible refine rd_mn2 ?_
  | with_reducible refine rd_sub ?_
  | with_reducible refine rd_lc ?_
  | with_reducible refine rd_for ?_
  | with_reducible refine rd_iL ?_
  | with_reducible refine rd_iT ?_
  | with_reducible refine rd_r1 ?_
  | with_reducible refine rd_r2 ?_
  | with_reducible refine rd_iZ ?_
  | with_reducible refine rd_iZM ?_
  | with_reducible refine rd_while ?_
  | with_reducible refine rd_tru ?_
  | with_reducible refine rd_brk ?_
  | with_reducible refine rd_callS ?_)
local macro_rules | `(tactic| walk_at "rd") => `(tactic| repeat walk_at "rd1")

/-- what the multipliers of a clash are -/
def Cla (W : Rws) (y : Nat → Int) : Prop := (∀ i, i < W.m → W.q i = false → 0 ≤ y i) ∧ (∀ k, k < W.n → (sm W.m fun i => y i * W.R i k) = 0) ∧ (sm W.m fun i => y i * W.C i) ≤ -1
theorem gdf_dvdI (f : Nat → Int) {n i : Nat} (h : i < n) : ((gdf f n : Nat) : Int) ∣ f i := Int.ofNat_dvd_left.mpr (gdf_dvd f h)
theorem cla_div {W : Rws} {f : Nat → Int} (h1 : ∀ i, i < W.m → W.q i = false → 0 ≤ f i) (h2 : ∀ k, k < W.n → (sm W.m fun i => f i * W.R i k) = 0) (h3 : (sm W.m fun i => f i * W.C i) < 0) (gp : 0 < gdf f W.m) : Cla W (fun i => (f i).fdiv (gdf f W.m)) := by
  have e : ∀ i, i < W.m → f i = (gdf f W.m : Int) * (f i).fdiv (gdf f W.m) := fun i hi => by
    rw [Int.fdiv_eq_ediv_of_nonneg _ (by omega)]
    exact (Int.mul_ediv_cancel' (gdf_dvdI f hi)).symm
  have s : ∀ g : Nat → Int, (sm W.m fun i => f i * g i) = (gdf f W.m : Int) * sm W.m fun i => (f i).fdiv (gdf f W.m) * g i := fun g => by
    rw [← sm_mul]
    refine sm_congr fun i hi => ?_
    rw [← Int.mul_assoc, ← e i hi]
  refine ⟨fun i hi hq => ?_, fun k hk => ?_, ?_⟩
  · show 0 ≤ (f i).fdiv (gdf f W.m : Int)
    rw [Int.fdiv_eq_ediv_of_nonneg _ (by omega)]
    exact Int.ediv_nonneg (h1 i hi hq) (by omega)
  · have q := h2 k hk
    rw [s] at q
    rcases Int.mul_eq_zero.mp q with z | z
    · omega
    · exact z
  · rw [s] at h3
    have : ¬ 0 ≤ sm W.m fun i => (f i).fdiv (gdf f W.m) * W.C i := fun z => by
      have := Int.mul_nonneg (show (0 : Int) ≤ (gdf f W.m : Int) by omega) z
      omega
    show (sm W.m fun i => (f i).fdiv (gdf f W.m) * W.C i) ≤ -1
    omega
theorem fdiv_le {a : Int} {g : Nat} (h : 0 < g) : (a.fdiv g).natAbs ≤ a.natAbs := by
  have q := fd_quo (a := a) (b := (g : Int)) (by omega)
  rw [Int.natAbs_natCast] at q
  have p := fd_pos (a := a) (b := (g : Int)) (by omega)
  by_cases h0 : 0 ≤ a
  · rw [Int.fdiv_eq_ediv_of_nonneg _ (by omega)]
    rw [Int.natAbs_ediv_of_nonneg h0]
    exact Nat.div_le_self _ _
  · have hl : a.fdiv g < 0 := by
      rw [Int.fdiv_eq_ediv_of_nonneg _ (by omega)]
      exact Int.ediv_neg_of_neg_of_pos (by omega) (by omega)
    have h2 : (a.fdiv g + 1) * g ≤ (a.fdiv g + 1) * 1 := Int.mul_le_mul_of_nonpos_left (by omega) (by omega)
    rw [Int.add_mul] at h2
    omega
theorem gdf_pos {W : Rws} {S : Stt} {l : Nat} (hO : Ok W S) (hl : l < W.m) (hbl : W.n ≤ S.b l) : 0 < gdf (W.fnd S l W.n) W.m := by
  have hd := hO.pos
  have hb2 := hO.bl l hl
  have gd : gdf (W.fnd S l W.n) W.m ∣ S.d.natAbs := by
    have q := gdf_dvd (W.fnd S l W.n) (n := W.m) (i := S.b l - W.n) (by omega)
    rw [fnd_bl hO hl hbl W.n (Nat.le_refl _), Int.natAbs_mul] at q
    rcases sgn_cases (S.T l W.n) with e | e <;> rw [e] at q <;> simpa using q
  exact Nat.pos_of_dvd_of_pos gd (by omega)
theorem fnd_le {W : Rws} {S : Stt} {l M : Nat} (h : S.d.natAbs ≤ M) (hT : ∀ j, j < W.n → (S.T l j).natAbs ≤ M) (i : Nat) : ∀ k, k ≤ W.n → (W.fnd S l k i).natAbs ≤ M
  | 0, _ => by
    show (if W.n + i = S.b l then sgn (S.T l W.n) * S.d else 0).natAbs ≤ M
    split
    · rw [Int.natAbs_mul]; rcases sgn_cases (S.T l W.n) with e | e <;> rw [e] <;> simpa using h
    · exact Nat.zero_le _
  | k + 1, hk => by
    show (if S.f k = W.n + i then -sgn (S.T l W.n) * S.T l k else W.fnd S l k i).natAbs ≤ M
    split
    · rw [Int.natAbs_mul]; have := hT k (by omega); rcases sgn_cases (S.T l W.n) with e | e <;> rw [e] <;> simpa using this
    · exact fnd_le h hT i k (by omega)
theorem X_le {W : Rws} {S : Stt} {M : Nat} (h : Ok W S) (hT : ∀ i, i < W.m → (S.T i W.n).natAbs ≤ M) {k : Nat} (hk : k < W.n) : (W.X S k).natAbs ≤ M := by
  rcases h.cov k (by omega) with ⟨i, hi, a⟩ | ⟨j, hj, a⟩
  · rw [← a, h.X_b hi]; exact hT i hi
  · rw [← a, X_f hj]; exact Nat.zero_le _
section
variable {P : Program} {w : World} {K : PySem.W.Frag} {mg : Str → Option Value} {base : Heap}
abbrev s_solved : Stmt := topS 16
theorem sc_solved : FnScope ["rows", "many", "table", "basic", "free", "scale", "line", "numbers", "column", "row"] ["rows", "many"] (defScope s_solved) := ⟨rfl, rfl, rfl, by decide +kernel, rfl, by decide +kernel, by decide +kernel⟩
/-- an answer for the rows, at q -/
def Ans (H : Hp) (q : Addr) (W : Rws) : Prop :=
  (∃ (x : Addr) (pp : Nat → Addr) (xx : Nat → Int) (d : Int), H q = some (.tup [.str "point", .ref x]) ∧ H x = some (.tup (tab W.n fun k => .ref (pp k))) ∧ (∀ k, k < W.n → H (pp k) = some (pr (xx k) d)) ∧ 0 < d ∧ d.natAbs < 2 ^ 400 ∧ (∀ k, k < W.n → (xx k).natAbs < 2 ^ 400) ∧
    ∀ i, i < W.m → (sm W.n fun k => W.R i k * xx k) ≤ W.C i * d ∧ (W.q i = true → (sm W.n fun k => W.R i k * xx k) = W.C i * d)) ∨
  ∃ (x : Addr) (y : Nat → Int), H q = some (.tup [.str "clash", .ref x]) ∧ H x = some (.tup (vl W.m y)) ∧ Cla W y ∧ ∀ i, i < W.m → (y i).natAbs < 2 ^ 400
theorem rd_listRg {σ : L2.St} {H : Hp} {Q : VK} {te : L2.St → Hp → (Int → Int → Hp → Prop) → Prop} (h : te σ H fun a b H1 => RgOk a b ∧ ∀ q, H1 q = none → Q (.ref q) (upd H1 q (.lst (rgV a b)))) : tLstRg te σ H Q := h
theorem rd_prg1 {σ : L2.St} {H : Hp} {ta : TE} {R : Int → Int → Hp → Prop} (h : ta σ H fun x H1 => ∃ n, x = .int n ∧ R 0 n H1) : tRg1 ta σ H R := h
/-- what the loop keeps: a table apart from two lists -/
def TbF (H : Hp) (t b f : Addr) (W : Rws) (S : Stt) : Prop := ∃ tp : Nat → Addr, (t ≠ b ∧ t ≠ f) ∧ H t = some (.lst (tab W.m fun i => .ref (tp i))) ∧ ∀ i, i < W.m → (tp i ≠ b ∧ tp i ≠ f) ∧ H (tp i) = some (.lst (vl (W.n + 1) (S.T i)))
theorem TbF.at {H : Hp} {t b f : Addr} {W : Rws} {S : Stt} (h : TbF H t b f W S) : TbAt H t W S := by
  obtain ⟨tp, h1, h2, h3⟩ := h
  exact ⟨tp, h2, fun i hi => (h3 i hi).2⟩
def sp_solved : Sp := fun vs H Q _ => ∃ (r : Addr) (W : Rws) (B : Nat), vs = [.ref r, .int W.n] ∧ RwAt H r W ∧ W.le B ∧ bdd (W.n + 1) B < 2 ^ 400 ∧ W.n ≤ 1000 ∧ W.m ≤ 1000 ∧ ∀ q H', Ex H H' → Ans H' q W → Q (.ref q) H'
theorem ok_solved {f : Addr} {fd : FuncData} (F : Fun K "solved" "solved" s_solved f fd) (B : Bi mg) (C__violated : Cl P w K mg base CX0 41 "_violated" ["rows", "many", "table", "basic"] sp__violated) (C__entering : Cl P w K mg base CX0 41 "_entering" ["rows", "many", "numbers", "free"] sp__entering)
    (C__exchanged : Cl P w K mg base CX0 41 "_exchanged" ["table", "scale", "line", "column"] sp__exchanged) (C__point : Cl P w K mg base CX0 41 "_point" ["many", "table", "basic", "scale"] sp__point) (C__multipliers : Cl P w K mg base CX0 41 "_multipliers" ["rows", "many", "numbers", "scale", "variable", "free"] sp__multipliers) :
    FnOk P w K mg base CX0 43 f fd ["rows", "many"] sp_solved := by
  refine F.ok sc_solved (fun vs H Q E h => ?_) (fun cdv A outer s0 H vs Q E hr h => ?_)
  · obtain ⟨r, W, Bd, rfl, _⟩ := h; rfl
  · obtain ⟨r, W, Bd, rfl, hR, hle, hbd, hn, hm, k⟩ := h
    have nd := sc_solved.nd
    refine ⟨_, (pss_cons (ps_setLc (i := 2) (own := [("row", 9)]) rfl nd rfl rfl (sw_true rfl rfl rfl (by decide +kernel)) (pi_tup (pv 0)) (blkOk_by (by rfl)) (fun _ _ _ _ _ => (pg_name (i := 9) nd rfl (by first | exact .inl rfl | exact .inr rfl))) (fun _ _ _ _ _ => pts_nil) (fun _ _ _ _ _ => (pe_op op_cat (pe_callTy (cr_lstOfK (K := K) rfl) (by rfl) B.list b_list (pa_cons (pe_ix (ix_tupK (K := K) rfl) (pv 9) pe_int (fun _ _ => rfl)) pa_nil)) (pe_lst (pa_cons (pe_un un_neg (pe_ix (ix_tupK (K := K) rfl) (pv 9) pe_int (fun _ _ => rfl))) pa_nil)))))
      (pss_cons (ps_setLc (i := 3) (own := [("line", 6)]) rfl nd rfl rfl (sw_true rfl rfl rfl (by decide +kernel)) (pi_range1 (by rfl) B.range (pa_cons (pe_callB cr_len (by rfl) B.len b_len (pa_cons (pv 0) pa_nil)) pa_nil)) (blkOk_by (by rfl)) (fun _ _ _ _ _ => (pg_name (i := 6) nd rfl (by first | exact .inl rfl | exact .inr rfl))) (fun _ _ _ _ _ => pts_nil) (fun _ _ _ _ _ => (pe_op op_add (pv 1) (pv 6))))
      (pss_cons (ps_set (i := 4) nd rfl (.inl rfl) (pe_listRg rfl (by rfl) B.list (prg_1 (by rfl) B.range (pv 1))))
      (pss_cons (ps_set (i := 5) nd rfl (.inl rfl) pe_int)
      (pss_one (ps_while PassesOwn.never (pt_val pe_bl)
        (pss_cons (ps_set (i := 6) nd rfl (.inl rfl) (pe_y C__violated hr (by decide) pass0 (by rfl) (pa_cons (pv 0) (pa_cons (pv 1) (pa_cons (pv 2) (pa_cons (pv 3) pa_nil))))))
        (pss_cons (ps_if (pt_cmpR op_lt (pv 6) pe_int (nomark _))
          (pss_one (ps_ret (pe_tup (pa_cons pe_str (pa_cons (pe_y C__point hr (by decide) pass0 (by rfl) (pa_cons (pv 1) (pa_cons (pv 2) (pa_cons (pv 3) (pa_cons (pv 5) pa_nil))))) pa_nil)))))
          pss_nil)
        (pss_cons (ps_set (i := 7) nd rfl (.inl rfl) (pe_ix ix_list (pv 2) (pv 6) (fun _ _ => rfl)))
        (pss_cons (ps_set (i := 8) nd rfl (.inl rfl) (pe_y C__entering hr (by decide) pass0 (by rfl) (pa_cons (pv 0) (pa_cons (pv 1) (pa_cons (pv 7) (pa_cons (pv 4) pa_nil))))))
        (pss_cons (ps_if (pt_cmpR op_lt (pv 8) pe_int (nomark _))
          (pss_one (ps_ret (pe_tup (pa_cons pe_str (pa_cons (pe_y C__multipliers hr (by decide) pass0 (by rfl) (pa_cons (pv 0) (pa_cons (pv 1) (pa_cons (pv 7) (pa_cons (pv 5) (pa_cons (pe_ix ix_list (pv 3) (pv 6) (fun _ _ => rfl)) (pa_cons (pv 4) pa_nil))))))) pa_nil)))))
          pss_nil)
        (pss_cons (ps_set (i := 2) nd rfl (.inl rfl) (pe_y C__exchanged hr (by decide) pass0 (by rfl) (pa_cons (pv 2) (pa_cons (pv 5) (pa_cons (pv 6) (pa_cons (pv 8) pa_nil))))))
        (pss_cons (ps_set (i := 5) nd rfl (.inl rfl) (pe_callB cr_abs (by rfl) B.abs b_abs (pa_cons (pe_ix ix_list (pv 7) (pv 8) (fun _ _ => rfl)) pa_nil)))
        (pss_one (ps_asg (pe_tup (pa_cons (pe_ix ix_list (pv 4) (pv 8) (fun _ _ => rfl)) (pa_cons (pe_ix ix_list (pv 3) (pv 6) (fun _ _ => rfl)) pa_nil))) (pg_tup (n := 2) (by rfl) (pgs_cons (pg_sub (pv 3) (pv 6) set_list) (pgs_cons (pg_sub (pv 4) (pv 8) set_list) pgs_nil)))))))))))))))))), ?_⟩
    obtain ⟨rp, np, e1, e2, e3⟩ := id hR
    walk_at "rd"
    refine rd_itT e1 (lc_refs (wkTt (n := W.m) (f := fun i => .ref (rp i))) (fun i => .lst (vl (W.n + 1) (W.s0.T i))) (by omega) (fun H' e => e.at e1) (fun i x H1 H2 hi ex1 y Pp hP => ?_) fun t tp H1 nt ex1 et htp => ?_)
    · obtain ⟨rfl, rfl⟩ := y
      walk_at "rd"
      refine ⟨rfl, ?_⟩
      walk_at "rd"
      refine rd_ixTn 0 (ex1.at (e2 i hi)) rfl rfl ?_
      walk_at "rd"
      refine rd_lstT (ex1.at (e3 i hi)) fun l1 H3 nl1 ex3 el1 => ?_
      walk_at "rd"
      refine rd_ixTn 2 (ex3.at (ex1.at (e2 i hi))) rfl rfl ?_
      walk_at "rd"
      refine ⟨sz (show 1 ≤ 100000 by decide), fun l2 nl2 => ?_⟩
      have ex4 : Ex H3 (upd H3 l2 (.lst [.int (-W.C i)])) := ex_new nl2
      refine rd_cat (ex4.at el1) upd_same (sz (by rw [tab_len]; show W.n + 1 ≤ 100000; omega)) fun l3 H5 nl3 ex5 el3 => ?_
      refine hP l3 H5 (Xt.trans ex3 (Xt.trans ex4 ex5)) (el3.trans ?_) (.inl (Ex.back (Xt.trans ex3 ex4) nl3))
      refine congrArg (fun z => some (HO.lst z)) ?_
      show _ = tab (W.n + 1) _
      rw [← tab_snoc]
      refine congr (congrArg _ (tab_ext fun j hj => ?_)) ?_
      · show _ = V.int (if j < W.n then _ else _)
        rw [if_pos hj]
      · show _ = [V.int (if W.n < W.n then _ else _)]
        rw [if_neg (by omega)]
    · walk_at "rd"
      refine rd_lenTt (ex1.at e1) ?_
      walk_at "rd"
      refine rd_rg1 W.m rfl (by omega) (lc_pure wkR (fun i => .int ((W.s0.b i : Nat) : Int)) (by omega) (fun _ _ => trivial) (fun i x H2 H3 hi ex2 y Pp hP => ?_) fun b H2 nb ex2 eb => ?_)
      · obtain ⟨rfl, exx⟩ := y
        obtain rfl : x = .int (i : Int) := by rw [exx]; exact congrArg V.int (by omega)
        walk_at "rd"
        refine ⟨rfl, ?_⟩
        walk_at "rd"
        have e : V.int ((W.n : Int) + i) = V.int ((W.s0.b i : Nat) : Int) := rfl
        rw [e]
        exact hP _ Ex.rfl'
      · walk_at "rd"
        refine rd_listRg (rd_prg1 (rd_var rfl ⟨_, rfl, .of_le (by omega) (by omega) (by omega) (by omega), fun f nf => ?_⟩))
        have erg : rgV 0 (W.n : Int) = vl W.n fun i => ((W.s0.f i : Nat) : Int) := by
          unfold rgV
          show _ = tab W.n _
          rw [show ((W.n : Int) - 0).toNat = W.n by omega]
          exact tab_ext fun i hi => congrArg V.int (show 0 + (i : Int) = ((i : Nat) : Int) by omega)
        rw [erg]
        have ex3 : Ex H2 (upd H2 f (.lst (vl W.n fun i => ((W.s0.f i : Nat) : Int)))) := ex_new nf
        have ef : upd H2 f (.lst (vl W.n fun i => ((W.s0.f i : Nat) : Int))) f = some (.lst (vl W.n fun i => ((W.s0.f i : Nat) : Int))) := upd_same
        generalize upd H2 f (HO.lst (vl W.n fun i => ((W.s0.f i : Nat) : Int))) = H3 at ex3 ef ⊢
        walk_at "rd"
        have nbH : H b = none := Ex.back ex1 nb
        have nfH : H f = none := Ex.back (Xt.trans ex1 ex2) nf
        have bf : b ≠ f := fun z => by rw [z] at eb; rw [eb] at nf; cases nf
        have tb : ∀ {a : Addr} {o : HO}, H1 a = some o → a ≠ b ∧ a ≠ f := fun {a o} z => ⟨fun y => (by rw [y, nb] at z; cases z), fun y => (by have := ex2.at z; rw [y, nf] at this; cases this)⟩
        have T0 : TbF H3 t b f W W.s0 := ⟨tp, tb et, ex3.at (ex2.at et), fun i hi => ⟨tb (htp i hi).1, ex3.at (ex2.at (htp i hi).1)⟩⟩
        obtain ⟨kk, _, hend, hgo⟩ := W.ends
        refine while_w (fun m σ H4 => ∃ i, m + i = kk ∧ i ≤ kk ∧ Ex H H4 ∧ H4 b = some (.lst (vl W.m fun j => (((W.at i).b j : Nat) : Int))) ∧ H4 f = some (.lst (vl W.n fun j => (((W.at i).f j : Nat) : Int))) ∧
          ∃ (t : Addr), TbF H4 t b f W (W.at i) ∧ ∃ (o6 o7 o8 o9 : Option V), σ = [some (.ref r), some (.int W.n), some (.ref t), some (.ref b), some (.ref f), some (.int (W.at i).d), o6, o7, o8, o9]) kk ⟨0, by omega, by omega, Xt.trans ex1 (Xt.trans ex2 ex3), ex3.at eb, ef, t, T0, _, _, _, _, rfl⟩ fun m σ H4 hW => ?_
        obtain ⟨i, hmi, hik, ex4, eb4, ef4, t4, T4, o6, o7, o8, o9, rfl⟩ := hW
        have hO : Ok W (W.at i) := W.okAt i fun j hj => hgo j (by omega)
        have tle : ∀ a, a < W.m → ∀ j, j < W.n + 1 → ((W.at i).T a j).natAbs ≤ bdd (W.n + 1) Bd := fun a ha j hj => hO.Tle hle ha hj
        have dle := hO.dle hle
        have p4 : (2 : Nat) ^ 400 ≤ 2 ^ 4000 := Nat.pow_le_pow_right (by decide) (by decide)
        have hSm : Sm W (W.at i) 4000 := ⟨by omega, fun a ha j hj => by have := tle a ha j hj; omega⟩
        walk_at "rd"
        refine while_in ?_
        walk_at "rd"
        refine ⟨r, t4, b, W, W.at i, rfl, hR.ex ex4, T4.at, eb4, hm, hO.bl, fun H5 ex5 => ?_⟩
        walk_at "rd"
        rcases ln_spec (W := W) (S := W.at i) with ⟨eln, hnv⟩ | ⟨l, hl, eln, hv, hml⟩
        · rw [eln]
          refine rd_dec (fun _ => ?_) fun z => absurd (by decide) z
          walk_at "rd"
          obtain ⟨tp4, _, et4, etp4⟩ := id T4
          refine ⟨t4, b, W, W.at i, rfl, ⟨tp4, ex5.at et4, fun a ha => ex5.at (etp4 a ha).2⟩, ex5.at eb4, hO, hSm, hn, hm, fun q H6 pp ex6 eq epp => ?_⟩
          walk_at "rd"
          refine new_tup (sz (show 2 ≤ 100000 by decide)) fun z H7 nz ex7 ez => ?_
          refine k z H7 (Xt.trans ex4 (Xt.trans ex5 (Xt.trans ex6 ex7))) (.inl ⟨q, pp, W.X (W.at i), (W.at i).d, ez, ex7.at eq, fun a ha => ex7.at (epp a ha), hO.pos, by omega, fun a ha => ?_, fun a ha => hO.point hnv ha⟩)
          have := X_le hO (fun j hj => tle j hj W.n (by omega)) ha
          omega
        · rw [eln]
          refine rd_dec (fun z => absurd z (by omega)) fun _ => ?_
          walk_at "rd"
          obtain ⟨tp4, tn4, et4, etp4⟩ := id T4
          refine rd_ixLt l (ex5.at et4) rfl hl ?_
          walk_at "rd"
          refine ⟨r, tp4 l, f, W, W.at i, l, rfl, (hR.ex ex4).ex ex5, ex5.at (etp4 l hl).2, ex5.at ef4, hn, hm, hO.fl, fun H6 ex6 => ?_⟩
          walk_at "rd"
          rcases cl_spec (W := W) (S := W.at i) (l := l) with ⟨ecl, hnm⟩ | ⟨c, hc, ecl, hmv, hmc⟩
          · rw [ecl]
            refine rd_dec (fun _ => ?_) fun z => absurd (by decide) z
            walk_at "rd"
            refine rd_ixLt l (ex6.at (ex5.at eb4)) rfl hl ?_
            walk_at "rd"
            have hbl : W.n ≤ (W.at i).b l := hv.1
            refine ⟨r, tp4 l, f, W, W.at i, l, rfl, ((hR.ex ex4).ex ex5).ex ex6, ex6.at (ex5.at (etp4 l hl).2), ex6.at (ex5.at ef4), hl, hbl, hO, hSm, hn, hm, fun q H7 ex7 eq => ?_⟩
            walk_at "rd"
            refine new_tup (sz (show 2 ≤ 100000 by decide)) fun z H8 nz ex8 ez => ?_
            have gp := gdf_pos hO hl hbl
            have hc := hO.clash hl hv hnm
            refine k z H8 (Xt.trans ex4 (Xt.trans ex5 (Xt.trans ex6 (Xt.trans ex7 ex8)))) (.inr ⟨q, _, ez, ex8.at eq, cla_div (fun a ha => hc.1 a) hc.2.1 hc.2.2 gp, fun a ha => ?_⟩)
            have h1 := fdiv_le (a := W.fnd (W.at i) l W.n a) gp
            have h2 := fnd_le dle (fun j hj => tle l hl j (by omega)) a W.n (Nat.le_refl _)
            omega
          · rw [ecl]
            refine rd_dec (fun z => absurd z (by omega)) fun _ => ?_
            walk_at "rd"
            have hlt : i < kk := by
              by_cases z : i = kk
              · exfalso
                rw [← z] at hend
                exact hend ⟨by omega, by rw [eln]; show 0 ≤ W.cl _ l _; omega⟩
              · omega
            have enx : W.at (i + 1) = (W.at i).ex l c := by
              show (W.at i).ex (W.ln (W.at i) W.m).toNat (W.cl (W.at i) (W.ln (W.at i) W.m).toNat W.n).toNat = _
              rw [eln, show ((l : Int)).toNat = l from rfl, ecl]
              rfl
            refine ⟨t4, W, W.at i, l, c, rfl, ⟨tp4, ex6.at (ex5.at et4), fun a ha => ex6.at (ex5.at (etp4 a ha).2)⟩, hl, hc, hO.pos, hSm, hn, hm, fun t' tq H7 nt' ex7 et' etq => ?_⟩
            walk_at "rd"
            refine rd_ixLt c (ex7.at (ex6.at (ex5.at (etp4 l hl).2))) rfl (by omega) ?_
            walk_at "rd"
            have ed : V.int (if (W.at i).T l c < 0 then -(W.at i).T l c else (W.at i).T l c) = V.int ((W.at i).ex l c).d := congrArg V.int (by
              show _ = (((W.at i).T l c).natAbs : Int)
              split <;> omega)
            rw [ed]
            have eb7 := ex7.at (ex6.at (ex5.at eb4))
            have ef7 := ex7.at (ex6.at (ex5.at ef4))
            refine rd_ixLt c ef7 rfl hc ?_
            walk_at "rd"
            refine rd_ixLt l eb7 rfl hl ?_
            walk_at "rd"
            refine ⟨sz (show 2 ≤ 100000 by decide), fun T nT => ?_⟩
            have ex8 : Ex H7 (upd H7 T (.tup [.int (((W.at i).f c : Nat) : Int), .int (((W.at i).b l : Nat) : Int)])) := ex_new nT
            have eT : upd H7 T (.tup [.int (((W.at i).f c : Nat) : Int), .int (((W.at i).b l : Nat) : Int)]) T = some (.tup [.int (((W.at i).f c : Nat) : Int), .int (((W.at i).b l : Nat) : Int)]) := upd_same
            show gTup _ _ _ _ _ (upd H7 T (.tup [.int (((W.at i).f c : Nat) : Int), .int (((W.at i).b l : Nat) : Int)])) _
            generalize upd H7 T (HO.tup [.int (((W.at i).f c : Nat) : Int), .int (((W.at i).b l : Nat) : Int)]) = H8 at ex8 eT ⊢
            refine rd_gpair eT ?_
            walk_at "rd"
            refine rd_setLt l (ex8.at eb7) rfl hl fun H9 X9 e9 => ?_
            walk_at "rd"
            refine rd_setLt c (X9.at (ex8.at ef7) (by simpa using Ne.symm bf)) rfl hc fun H10 X10 e10 => ?_
            walk_at "rd"
            have live : ∀ {a : Addr} {o : HO}, H6 a = none → (a ≠ b ∧ a ≠ f) := fun {a o} z => ⟨fun y => (by rw [y, ex6.at (ex5.at eb4)] at z; cases z), fun y => (by rw [y, ex6.at (ex5.at ef4)] at z; cases z)⟩
            have up10 : ∀ {a : Addr} {o : HO}, a ≠ b ∧ a ≠ f → H7 a = some o → H10 a = some o := fun {a o} na z => X10.at (X9.at (ex8.at z) (by simpa using na.1)) (by simpa using na.2)
            refine ⟨m - 1, by omega, i + 1, by omega, by omega, ?_, ?_, ?_, t', ?_, ?_⟩
            · refine Xt.fresh (Xt.fresh (Xt.trans ex4 (Xt.trans ex5 (Xt.trans ex6 (Xt.trans ex7 ex8)))) X9 fun z hz => ?_) X10 fun z hz => ?_
              · rw [List.mem_singleton.mp hz]; exact nbH
              · rw [List.mem_singleton.mp hz]; exact nfH
            · rw [X10.at e9 (by simpa using bf), enx]
              refine congrArg (fun z => some (HO.lst z)) (tab_ext fun j hj => ?_)
              show (if j = l then _ else _) = V.int (((if j = l then (W.at i).f c else (W.at i).b j : Nat)) : Int)
              split <;> rfl
            · rw [e10, enx]
              refine congrArg (fun z => some (HO.lst z)) (tab_ext fun j hj => ?_)
              show (if j = c then _ else _) = V.int (((if j = c then (W.at i).b l else (W.at i).f j : Nat)) : Int)
              split <;> rfl
            · rw [enx]
              have l1 := live (o := .lst []) nt'
              exact ⟨tq, l1, up10 l1 et', fun a ha => ⟨live (o := .lst []) (etq a ha).1, up10 (live (o := .lst []) (etq a ha).1) (etq a ha).2⟩⟩
            · rw [enx]; exact ⟨_, _, _, _, rfl⟩
end
end Sx
/-! what is asked of rows -/
namespace Sx
open PySem PySem.Spec PyProof.Rows L2 Y NdefX
local macro_rules | `(tactic| walk_at "rd1") => `(tactic| first
  | with_reducible refine rd_var rfl ?_
  | with_reducible refine rd_op ?_
  | with_reducible refine rd_c ?_
  | with_reducible refine rd_I0 ?_
  | with_reducible refine rd_seq ?_
  | ((with_reducible refine rd_I ?_ ?_); focus (first | exact mulok_r (by decide) (by decide) | exact mulok_l (by decide) (by decide) | (show _ ≠ _; decide) | (show _ ∧ _; decide)))
  | with_reducible refine rd_asg ?_
  | with_reducible refine rd_name ?_
  | with_reducible refine rd_cb ?_
  | with_reducible refine rd_cons ?_
  | with_reducible refine rd_nil ?_
  | with_reducible refine rd_int ?_
  | with_reducible refine rd_eqI ?_
  | with_reducible refine rd_neI ?_
  | with_reducible refine rd_bl ?_
  | with_reducible refine rd_test ?_
  | with_reducible refine rd_tB ?_
  | with_reducible refine rd_ifS ?_
  | with_reducible refine rd_next ?_
  | with_reducible refine rd_T ?_
  | with_reducible refine rd_F ?_
  | with_reducible refine rd_nT ?_
  | with_reducible refine rd_nF ?_
  | with_reducible refine rd_blV ?_
  | with_reducible refine rd_ret ?_
  | with_reducible refine rd_call ?_
  | with_reducible refine rd_drop ?_
  | with_reducible refine rd_not ?_
  | with_reducible refine rd_and ?_
  | with_reducible refine rd_or ?_
  | with_reducible refine rd_un ?_
  | with_reducible refine rd_U ?_
  | with_reducible refine rd_tup ?_
  | with_reducible refine rd_lst ?_
  | with_reducible refine rd_if ?_
  | with_reducible refine rd_andV ?_
  | with_reducible refine rd_orV ?_
  | with_reducible refine rd_notV ?_
  | with_reducible refine rd_sl ?_
  | with_reducible refine rd_nopart ?_
  | with_reducible refine rd_part ?_
  | with_reducible refine rd_iv ?_
  | with_reducible refine rd_bm ?_
  | with_reducible refine rd_abs ?_
  | with_reducible refine rd_intb ?_
  | with_reducible refine rd_mx2 ?_
  | with_reducible refine rd_mn2 ?_
  | with_reducible refine rd_sub ?_
  | with_reducible refine rd_lc ?_
  | with_reducible refine rd_for ?_
  | with_reducible refine rd_iL ?_
  | with_reducible refine rd_iT ?_
  | with_reducible refine rd_r1 ?_
  | with_reducible refine rd_r2 ?_
  | with_reducible refine rd_iZ ?_
  | with_reducible refine rd_iZM ?_
  | with_reducible refine rd_while ?_
  | with_reducible refine rd_tru ?_
  | with_reducible refine rd_brk ?_
  | with_reducible refine rd_par ?_
  | with_reducible refine rd_par2 ?_
  | with_reducible refine rd_bits ?_
  | with_reducible refine rd_callS ?_)
local macro_rules | `(tactic| walk_at "rd") => `(tactic| repeat walk_at "rd1")

/-! ### kinds -/
/-- what the law hands about: an int, a bool, a text, a tuple -/
def Kd (H : Hp) (x : V) : Prop := (∃ i, x = .int i) ∨ (∃ b, x = .bl b) ∨ (∃ z, x = .str z) ∨ ∃ a xs, x = .ref a ∧ H a = some (.tup xs)
def isI : V → Bool
  | .int _ => true
  | _ => false
def isIB : V → Bool
  | .int _ => true
  | .bl _ => true
  | _ => false
def isBl : V → Bool
  | .bl _ => true
  | _ => false
def isRf : V → Bool
  | .ref _ => true
  | _ => false
theorem Kd.ex {H H' : Hp} {x : V} (k : Kd H x) (e : Ex H H') : Kd H' x := by
  rcases k with h | h | h | ⟨a, xs, h1, h2⟩
  · exact .inl h
  · exact .inr (.inl h)
  · exact .inr (.inr (.inl h))
  · exact .inr (.inr (.inr ⟨a, xs, h1, e.at h2⟩))
section
variable {K : PySem.W.Frag} {H : Hp} {Q : VK} {x : V}
theorem rd_isi {T S : String} {b : Bool} (t : TyX K H x (.type S)) (k : kitB S T = some b) (h : Q (.bl b) H) : rIsi K [x, .ty T] H Q := ⟨x, .ty T, .type S, .type T, b, rfl, .ty T, t, kit_ty k, h⟩
theorem rd_isInt (k : Kd H x) (h : Q (.bl (isIB x)) H) : rIsi K [x, .ty "int"] H Q := by
  rcases k with ⟨i, rfl⟩ | ⟨b, rfl⟩ | ⟨z, rfl⟩ | ⟨a, xs, rfl, e⟩
  · exact rd_isi (.base (.int i)) (show kitB "int" "int" = some true by decide +kernel) h
  · exact rd_isi (.base (.bl b)) (show kitB "bool" "int" = some true by decide +kernel) h
  · exact rd_isi (.base (.str z)) (show kitB "str" "int" = some false by decide +kernel) h
  · exact rd_isi (.base (.tup e)) (show kitB "tuple" "int" = some false by decide +kernel) h
theorem rd_isBool (k : Kd H x) (h : Q (.bl (isBl x)) H) : rIsi K [x, .ty "bool"] H Q := by
  rcases k with ⟨i, rfl⟩ | ⟨b, rfl⟩ | ⟨z, rfl⟩ | ⟨a, xs, rfl, e⟩
  · exact rd_isi (.base (.int i)) (show kitB "int" "bool" = some false by decide +kernel) h
  · exact rd_isi (.base (.bl b)) (show kitB "bool" "bool" = some true by decide +kernel) h
  · exact rd_isi (.base (.str z)) (show kitB "str" "bool" = some false by decide +kernel) h
  · exact rd_isi (.base (.tup e)) (show kitB "tuple" "bool" = some false by decide +kernel) h
theorem rd_isTup (k : Kd H x) (h : Q (.bl (isRf x)) H) : rIsi K [x, .ty "tuple"] H Q := by
  rcases k with ⟨i, rfl⟩ | ⟨b, rfl⟩ | ⟨z, rfl⟩ | ⟨a, xs, rfl, e⟩
  · exact rd_isi (.base (.int i)) (show kitB "int" "tuple" = some false by decide +kernel) h
  · exact rd_isi (.base (.bl b)) (show kitB "bool" "tuple" = some false by decide +kernel) h
  · exact rd_isi (.base (.str z)) (show kitB "str" "tuple" = some false by decide +kernel) h
  · exact rd_isi (.base (.tup e)) (show kitB "tuple" "tuple" = some true by decide +kernel) h
theorem isI_eq : isI x = (isIB x && !isBl x) := by cases x <;> rfl
end
theorem map_getD {α β : Type} (d : α) (f : α → β) (xs : List α) : (List.range xs.length).map (fun i => f (xs.getD i d)) = xs.map f := by
  refine List.ext_getElem? fun i => ?_
  rw [List.getElem?_map, List.getElem?_map]
  by_cases hi : i < xs.length
  · rw [List.getElem?_range hi, List.getElem?_eq_getElem hi]
    show some (f (xs.getD i d)) = some (f xs[i])
    rw [List.getD_eq_getElem?_getD, List.getElem?_eq_getElem hi]; rfl
  · rw [List.getElem?_eq_none (by rw [List.length_range]; omega), List.getElem?_eq_none (by omega)]; rfl
/-- x is a vector of n numbers: g -/
def VecV (H : Hp) (n : Nat) (x : V) (g : Bool) : Prop := (((∃ i, x = .int i) ∨ ∃ z, x = .str z) ∧ g = false) ∨ ∃ a xs, x = .ref a ∧ H a = some (.tup xs) ∧ xs.length ≤ 1000 ∧ (∀ y ∈ xs, Kd H y) ∧ g = (decide (xs.length = n) && xs.all isI)
theorem VecV.ex {H H' : Hp} {n : Nat} {x : V} {g : Bool} (v : VecV H n x g) (e : Ex H H') : VecV H' n x g := by
  rcases v with h | ⟨a, xs, h1, h2, h3, h4, h5⟩
  · exact .inl h
  · exact .inr ⟨a, xs, h1, e.at h2, h3, fun y hy => (h4 y hy).ex e, h5⟩
/-- y is one of the two words: g -/
def RlV (H : Hp) (y : V) (g : Bool) : Prop := (∃ q, y = .str (rel q) ∧ g = true) ∨ (y = .str "less" ∧ g = false) ∨ ∃ a q, y = .ref a ∧ H a = some (.tup [.str (rel q)]) ∧ g = false
/-- x is a row of n numbers: g -/
def RowV (H : Hp) (n : Nat) (x : V) (g : Bool) : Prop := (((∃ i, x = .int i) ∨ ∃ z, x = .str z) ∧ g = false) ∨ (∃ a xs, x = .ref a ∧ H a = some (.tup xs) ∧ xs.length ≠ 3 ∧ xs.length ≤ 1000 ∧ g = false) ∨
  ∃ a y0 y1 y2, x = .ref a ∧ H a = some (.tup [y0, y1, y2]) ∧ ((VecV H n y0 false ∧ g = false) ∨ ∃ g1, VecV H n y0 true ∧ RlV H y1 g1 ∧ Kd H y2 ∧ g = (g1 && isI y2))
theorem RowV.ex {H H' : Hp} {n : Nat} {x : V} {g : Bool} (v : RowV H n x g) (e : Ex H H') : RowV H' n x g := by
  rcases v with h | ⟨a, xs, h1, h2, h3⟩ | ⟨a, y0, y1, y2, h1, h2, h3⟩
  · exact .inl h
  · exact .inr (.inl ⟨a, xs, h1, e.at h2, h3⟩)
  · refine .inr (.inr ⟨a, y0, y1, y2, h1, e.at h2, ?_⟩)
    rcases h3 with ⟨q1, q2⟩ | ⟨g1, q1, q2, q3, q4⟩
    · exact .inl ⟨q1.ex e, q2⟩
    · refine .inr ⟨g1, q1.ex e, ?_, q3.ex e, q4⟩
      rcases q2 with q | q | ⟨a, q, z1, z2, z3⟩
      · exact .inl q
      · exact .inr (.inl q)
      · exact .inr (.inr ⟨a, q, z1, e.at z2, z3⟩)
theorem vec_good {H : Hp} {a : Addr} {n : Nat} {u : Nat → Int} (e : H a = some (.tup (vl n u))) (hn : n ≤ 1000) : VecV H n (.ref a) true := by
  refine .inr ⟨a, _, rfl, e, by rw [tab_len]; exact hn, fun y hy => ?_, ?_⟩
  · obtain ⟨i, _, rfl⟩ := List.mem_map.mp hy
    exact .inl ⟨_, rfl⟩
  · rw [tab_len, decide_eq_true rfl, Bool.true_and]
    refine (List.all_eq_true.mpr ?_).symm
    intro y hy
    obtain ⟨i, _, rfl⟩ := List.mem_map.mp hy
    rfl
section
variable {P : Program} {w : World} {K : PySem.W.Frag} {mg : Str → Option Value} {base : Heap}
/-! ### is_whole -/
abbrev s_is_whole : Stmt := topS 5
theorem sc_is_whole : FnScope ["worth"] ["worth"] (defScope s_is_whole) := ⟨rfl, rfl, rfl, by decide +kernel, rfl, by decide +kernel, by decide +kernel⟩
def sp_is_whole : Sp := fun vs H Q _ => ∃ x, vs = [x] ∧ Kd H x ∧ Q (.bl (isI x)) H
theorem ok_is_whole {f : Addr} {fd : FuncData} (F : Fun K "is_whole" "is_whole" s_is_whole f fd) (B : Bi mg) : FnOk P w K mg base CX0 41 f fd ["worth"] sp_is_whole := by
  refine F.ok sc_is_whole (fun vs H Q E h => ?_) (fun cdv A outer s H vs Q E hr h => ?_)
  · obtain ⟨x, rfl, _⟩ := h; rfl
  · obtain ⟨x, rfl, kd, k⟩ := h
    have nd := sc_is_whole.nd
    refine ⟨_, (pss_one (ps_ret (pe_and (pe_callB call_isi (by rfl) B.isinstance b_isinstance (pa_cons (pv 0) (pa_cons (pe_bltn (v := .ty "int") (by rfl) B.int b_int rfl) pa_nil))) (pe_one (pe_not (pe_callB call_isi (by rfl) B.isinstance b_isinstance (pa_cons (pv 0) (pa_cons (pe_bltn (v := .ty "bool") (by rfl) B.bool b_bool rfl) pa_nil)))))))), ?_⟩
    walk_at "rd"
    refine rd_isInt kd (rd_blV ?_)
    rw [isI_eq] at k
    cases hx : isIB x with
    | false => rw [hx] at k; exact iteF k
    | true =>
      rw [hx] at k
      refine iteT ?_
      walk_at "rd"
      exact rd_isBool kd (rd_blV k)
/-! ### is_vector -/
abbrev s_is_vector : Stmt := topS 6
theorem sc_is_vector : FnScope ["worth", "many", "one"] ["worth", "many"] (defScope s_is_vector) := ⟨rfl, rfl, rfl, by decide +kernel, rfl, by decide +kernel, by decide +kernel⟩
def sp_is_vector : Sp := fun vs H Q _ => ∃ (x : V) (n : Nat) (g : Bool), vs = [x, .int n] ∧ VecV H n x g ∧ ∀ H', Ex H H' → Q (.bl g) H'
theorem ok_is_vector {f : Addr} {fd : FuncData} (F : Fun K "is_vector" "is_vector" s_is_vector f fd) (B : Bi mg) (C_is_whole : Cl P w K mg base CX0 41 "is_whole" ["worth"] sp_is_whole) : FnOk P w K mg base CX0 42 f fd ["worth", "many"] sp_is_vector := by
  refine F.ok sc_is_vector (fun vs H Q E h => ?_) (fun cdv A outer s H vs Q E hr h => ?_)
  · obtain ⟨x, n, g, rfl, _⟩ := h; rfl
  · obtain ⟨x, n, g, rfl, h, k⟩ := h
    have nd := sc_is_vector.nd
    refine ⟨_, (pss_cons (ps_if (PW.pt (pw_or (pt_not (pt_val (pe_callB call_isi (by rfl) B.isinstance b_isinstance (pa_cons (pv 0) (pa_cons (pe_bltn (v := .ty "tuple") (by rfl) B.tuple b_tuple rfl) pa_nil))))) (pw_or1 (pt_cmpR op_ne (pe_callB cr_len (by rfl) B.len b_len (pa_cons (pv 0) pa_nil)) (pv 1) (nomark _)))))
        (pss_one (ps_ret pe_bl))
        pss_nil)
      (pss_one (ps_ret (pe_callB (cr_all (by rfl)) (by rfl) B.all b_all (pa_cons (pe_lc (own := [("one", 2)]) rfl nd (pi_tup (pv 0)) (blkOk_by (by rfl)) (fun _ _ _ _ _ => (pg_name (i := 2) nd rfl (by first | exact .inl rfl | exact .inr rfl))) (fun _ _ _ _ _ => pts_nil) (fun _ _ _ _ _ => (pe_y C_is_whole hr (by decide) pass0 (by rfl) (pa_cons (pv 2) pa_nil)))) pa_nil))))), ?_⟩
    walk_at "rd"
    rcases h with ⟨kx, rfl⟩ | ⟨a, xs, rfl, ex, hl, hk, rfl⟩
    · have kd : Kd H x := kx.elim .inl fun z => .inr (.inr (.inl z))
      have nr : isRf x = false := by rcases kx with ⟨i, rfl⟩ | ⟨z, rfl⟩ <;> rfl
      refine rd_isTup kd ?_
      rw [nr]
      walk_at "rd"
      exact k H Ex.rfl'
    · refine rd_isTup (.inr (.inr (.inr ⟨a, xs, rfl, ex⟩))) ?_
      walk_at "rd"
      refine iteF ?_
      walk_at "rd"
      refine rd_lenT ex ?_
      walk_at "rd"
      refine if_ndec (fun hn => ?_) (fun hn => ?_)
      · walk_at "rd"
        have e : decide (xs.length = n) = false := decide_eq_false (by omega)
        rw [e] at k
        exact k H (Xt.refl H)
      · walk_at "rd"
        have e : decide (xs.length = n) = true := decide_eq_true (by omega)
        rw [e, Bool.true_and] at k
        refine rd_itT ex (lc_pure wkT (fun i => .bl (isI (xs.getD i .non))) (by omega) (fun H' e' => e'.at ex) (fun i x H1 H2 hi e1 y Pp hP => ?_) fun D H' nD e1 eD => ?_)
        · obtain ⟨rfl, ey⟩ := y
          walk_at "rd"
          refine ⟨rfl, ?_⟩
          walk_at "rd"
          have ed : xs.getD i .non = x := by rw [List.getD_eq_getElem?_getD, ey]; rfl
          refine ⟨x, rfl, (hk x (List.mem_of_getElem? ey)).ex e1, ?_⟩
          have hP' := hP H2 (Xt.refl H2)
          rw [ed] at hP'
          exact hP'
        · walk_at "rd"
          have e2 : (List.range xs.length).map (fun i => V.bl (isI (xs.getD i .non))) = (xs.map isI).map V.bl := by rw [map_getD .non (fun x => V.bl (isI x)), List.map_map]; rfl
          rw [e2] at eD
          refine rd_all eD ?_
          have e3 : (xs.map isI).all id = xs.all isI := by rw [List.all_map]; rfl
          rw [e3]
          exact k H' e1
/-! ### _is_row -/
abbrev s__is_row : Stmt := topS 7
theorem sc__is_row : FnScope ["worth", "many"] ["worth", "many"] (defScope s__is_row) := ⟨rfl, rfl, rfl, by decide +kernel, rfl, by decide +kernel, by decide +kernel⟩
def sp__is_row : Sp := fun vs H Q _ => ∃ (x : V) (n : Nat) (g : Bool), vs = [x, .int n] ∧ RowV H n x g ∧ ∀ H', Ex H H' → Q (.bl g) H'
theorem ok__is_row {f : Addr} {fd : FuncData} (F : Fun K "_is_row" "_is_row" s__is_row f fd) (B : Bi mg) (C_is_whole : Cl P w K mg base CX0 41 "is_whole" ["worth"] sp_is_whole) (C_is_vector : Cl P w K mg base CX0 42 "is_vector" ["worth", "many"] sp_is_vector) : FnOk P w K mg base CX0 43 f fd ["worth", "many"] sp__is_row := by
  refine F.ok sc__is_row (fun vs H Q E h => ?_) (fun cdv A outer s H vs Q E hr h => ?_)
  · obtain ⟨x, n, g, rfl, _⟩ := h; rfl
  · obtain ⟨x, n, g, rfl, h, k⟩ := h
    have nd := sc__is_row.nd
    refine ⟨_, (pss_cons (ps_if (PW.pt (pw_or (pt_not (pt_val (pe_callB call_isi (by rfl) B.isinstance b_isinstance (pa_cons (pv 0) (pa_cons (pe_bltn (v := .ty "tuple") (by rfl) B.tuple b_tuple rfl) pa_nil))))) (pw_or1 (pt_cmpR op_ne (pe_callB cr_len (by rfl) B.len b_len (pa_cons (pv 0) pa_nil)) pe_int (nomark _)))))
        (pss_one (ps_ret pe_bl))
        pss_nil)
      (pss_one (ps_ret (pe_and (pe_y C_is_vector hr (by decide) pass0 (by rfl) (pa_cons (pe_ix ix_tup (pv 0) pe_int (fun _ _ => rfl)) (pa_cons (pv 1) pa_nil))) (pe_and (pe_cmpR (op_inT (r65 hr)) (pe_ix ix_tup (pv 0) pe_int (fun _ _ => rfl)) (pe_tup (pa_cons pe_str (pa_cons pe_str pa_nil))) (by with_unfolding_all rfl)) (pe_one (pe_y C_is_whole hr (by decide) pass0 (by rfl) (pa_cons (pe_ix ix_tup (pv 0) pe_int (fun _ _ => rfl)) pa_nil)))))))), ?_⟩
    walk_at "rd"
    rcases h with ⟨kx, rfl⟩ | ⟨a, xs, rfl, ex, hl, hl2, rfl⟩ | ⟨a, y0, y1, y2, rfl, ex, h3⟩
    · have kd : Kd H x := kx.elim .inl fun z => .inr (.inr (.inl z))
      have nr : isRf x = false := by rcases kx with ⟨i, rfl⟩ | ⟨z, rfl⟩ <;> rfl
      refine rd_isTup kd ?_
      rw [nr]
      walk_at "rd"
      exact k H Ex.rfl'
    · refine rd_isTup (.inr (.inr (.inr ⟨a, xs, rfl, ex⟩))) ?_
      walk_at "rd"
      refine iteF ?_
      walk_at "rd"
      refine rd_lenT ex ?_
      walk_at "rd"
      refine if_ndec (fun hn => ?_) (fun hn => absurd hn (by omega))
      walk_at "rd"
      exact k H (Xt.refl H)
    · refine rd_isTup (.inr (.inr (.inr ⟨a, _, rfl, ex⟩))) ?_
      walk_at "rd"
      refine iteF ?_
      walk_at "rd"
      refine rd_lenT ex ?_
      walk_at "rd"
      refine if_ndec (fun hn => absurd rfl hn) (fun _ => ?_)
      walk_at "rd"
      refine rd_ixTn 0 ex rfl rfl ?_
      walk_at "rd"
      rcases h3 with ⟨v0, rfl⟩ | ⟨g1, v0, v1, v2, rfl⟩
      · refine ⟨y0, n, false, rfl, v0, fun H1 e1 => rd_blV ?_⟩
        refine iteF ?_
        exact k H1 e1
      · refine ⟨y0, n, true, rfl, v0, fun H1 e1 => rd_blV ?_⟩
        refine iteT ?_
        walk_at "rd"
        refine rd_ixTn 1 (e1.at ex) rfl rfl ?_
        walk_at "rd"
        refine ⟨sz (show 2 ≤ 100000 by decide), fun p np => ?_⟩
        have e2 : Ex H1 (upd H1 p (.tup [.str "atmost", .str "equal"])) := ex_new np
        have ep : upd H1 p (.tup [.str "atmost", .str "equal"]) p = some (.tup [.str "atmost", .str "equal"]) := upd_same
        generalize upd H1 p (HO.tup [.str "atmost", .str "equal"]) = H2 at e2 ep ⊢
        have dp : Dp K H2 (.ref p) (.tuple [.str "atmost", .str "equal"]) := .tup (SqT.of ep) (.cons (.str _) (.cons (.str _) .nil))
        have sh : SeqAt.shaped (.tuple [.str "atmost", .str "equal"]) = true := by decide +kernel
        rcases v1 with ⟨q, rfl, rfl⟩ | ⟨rfl, rfl⟩ | ⟨b, q, rfl, eb, rfl⟩
        · refine rd_inT true (.str _) dp (by cases q <;> decide +kernel) sh (by cases q <;> decide +kernel) (rd_blV ?_)
          refine iteT ?_
          walk_at "rd"
          refine rd_ixTn 2 (e2.at (e1.at ex)) rfl rfl ?_
          walk_at "rd"
          refine ⟨y2, rfl, v2.ex (Xt.trans e1 e2), ?_⟩
          exact k H2 (Xt.trans e1 e2)
        · refine rd_inT false (.str _) dp (by decide +kernel) sh (by decide +kernel) (rd_blV ?_)
          refine iteF ?_
          exact k H2 (Xt.trans e1 e2)
        · refine rd_inT false (.tup (SqT.of (e2.at (e1.at eb))) (.cons (.str _) .nil)) dp (by cases q <;> decide +kernel) sh (by cases q <;> decide +kernel) (rd_blV ?_)
          refine iteF ?_
          exact k H2 (Xt.trans e1 e2)
/-! ### the error of rows -/
abbrev s_init : Stmt := inClass (topS 3) 0
theorem nsc_init : NScope ["self", "row", "__class__"] ["self", "row"] ["__class__"] (defScope s_init) := ⟨rfl, rfl, rfl, by decide +kernel, rfl, by decide +kernel, by decide +kernel, by decide +kernel, by decide +kernel⟩
def sp_init (C : Addr) : Sp := fun vs H Q _ => ∃ (a : Addr) (i : Nat), vs = [.ref a, .int i] ∧ i ≤ 1000 ∧ H a = some (exo a C none) ∧ ∀ dx, H dx = none → dx ≠ a → Q .non (upd (upd H dx (exd dx [("row", .int i)])) a (exo a C (some dx)))
theorem small_log {i : Nat} (h : i ≤ 1000) : (i : Int).natAbs.log2 < 1920 := by
  rw [Int.natAbs_natCast]
  by_cases z : i = 0
  · subst z; decide
  · exact Nat.lt_of_lt_of_le ((Nat.log2_lt z).mpr (show i < 2 ^ 10 by omega)) (by decide)
theorem ok_init {C f cc cda : Addr} {fd : FuncData} (S : SupK P K mg C f cc cda "self" (cellF "__init__" "BadRows.__init__" (defArgs s_init) (defBody s_init) (defScope s_init) cc cda) fd) (noN : PySem.W.findIn K (.ref C) "row" = some none) : FnOk P w K mg base CX0 41 f fd ["self", "row"] (sp_init C) := by
  refine sup_ok (N := ["self", "row", "__class__"]) S rfl rfl nsc_init rfl (fun vs H Q E h => ?_) rfl (fun L => ⟨_, rfl⟩) (fun L => rfl) (fun L => rfl) (fun L => rfl) fun A outer s H vs Q E hr h => ?_
  · obtain ⟨a, i, rfl, _⟩ := h; rfl
  · obtain ⟨a, i, rfl, hi, ha, k⟩ := h
    refine ⟨_, _, a, pa_cons (pe_joined (.cons pe_str (.cons (pe_fmt (pv 1)) .nil))) pa_nil, pss_one (ps_ost (pv 0) (pv 1)), rfl, ha, ?_⟩
    walk_at "rd"
    have l2 := int_text_len_1921 (small_log hi)
    refine ⟨_, rfl, Nat.le_trans (show (Str.empty ++ ("row: " : Str)).length ≤ 5 by decide +kernel) (by rw [sizeLine_eq]; omega), V.int i, rfl, .inr ⟨(i : Int), rfl, small_log hi, _, rfl, ?_, ?_⟩⟩
    · rw [PySem.Str.length_append, sizeLine_eq]
      have : (Str.empty ++ ("row: " : Str)).length ≤ 5 := by decide +kernel
      have l3 : (toString (i : Int) : Str).length ≤ 1921 := l2
      omega
    · show [V.str _].length ≤ 1000 ∧ _
      refine ⟨(show 1 ≤ 1000 by decide), ha, ?_⟩
      refine ⟨V.int i, rfl, .ref a, rfl, a, C, rfl, S.exc, noN, .inl ⟨ha, fun dx h1 h2 => k dx h1 h2⟩⟩
/-- the error of rows: its class, its maker -/
structure BR (P : Program) (w : World) (K : PySem.W.Frag) (mg : Str → Option Value) (base : Heap) (C : Addr) : Prop where
  ex : ∃ (fI : Addr) (fd : FuncData), OexC K C ∧ PySem.W.findIn K (.ref C) "__init__" = some (some (.ref fI)) ∧ PySem.W.typeIn K (.ref fI) = some (.type "function") ∧ FnOk P w K mg base CX0 41 fI fd ["self", "row"] (sp_init C) ∧ Binds K fd ["self", "row"] [] ∧ mg "BadRows" = some (.ref C)
theorem pmk_bad {X : Cx} {C : Addr} {k : Nat} {p pos : Pos} {e : Expr} {es : List Expr} {ta : TA} (b : BR X.prog X.w X.K X.mg X.base C) (hr : Room k X.A) (hk : 42 ≤ k) (hg : Gl X "BadRows") (ha : PA X (e :: es) ta)
    (he : starEach (e :: es) X.env = (false, eval e X.env) :: starEach es X.env := by rfl) (hpl : (backTo pos (starEach es X.env)).any (·.1) = false := by rfl) : PMk X (.Call (.Name "BadRows" p) (e :: es) [] pos) (tMkO C (sp_init C) [] ta) := by
  obtain ⟨fI, fd, h1, h2, h3, h4, h5, h6⟩ := b.ex
  exact pmk_oex h1 h2 h3 h4 (hr.mono hk) h5 .nil pass0 hg h6 ha (by decide) he hpl
def BadMk (C : Addr) (R : XK) (vs : List V) (H1 : Hp) : Prop := vs.length ≤ 1000 ∧ ∀ a, H1 a = none → sp_init C (.ref a :: (vs ++ [])) (upd H1 a (exo a C none)) (fun v H2 => v = .non ∧ ∃ (d : Addr) (fs : List (Str × V)), H2 a = some (exo a C (some d)) ∧ H2 d = some (exd d fs) ∧ H1 d = none ∧ R (.ref C) (some d) (upd (del H2 a) d (.xd fs))) (fun _ _ _ => False)
theorem rd_mkO {C : Addr} {σ : L2.St} {H : Hp} {R : XK} {ta : TA} (h : ta σ H fun vs H1 => BadMk C R vs H1) : tMkO C (sp_init C) [] ta σ H R := h
/-- what the making of the error leaves -/
theorem rd_bad {C : Addr} {H : Hp} {R : XK} {i : Nat} (hi : i ≤ 1000) (h : ∀ d H', Ex H H' → H d = none → H' d = some (.xd [("row", .int i)]) → R (.ref C) (some d) H') :
    BadMk C R [.int i] H := by
  show (fun vs H1 => vs.length ≤ 1000 ∧ ∀ a, H1 a = none → sp_init C (.ref a :: (vs ++ [])) (upd H1 a (exo a C none)) (fun v H2 => v = .non ∧ ∃ (d : Addr) (fs : List (Str × V)), H2 a = some (exo a C (some d)) ∧ H2 d = some (exd d fs) ∧ H1 d = none ∧ R (.ref C) (some d) (upd (del H2 a) d (.xd fs))) (fun _ _ _ => False)) [.int i] H
  refine ⟨(by decide : 1 ≤ 1000), fun a na => ⟨a, i, rfl, hi, upd_same, fun dx nd da => ⟨rfl, dx, [("row", .int i)], upd_same, ?_, ?_, ?_⟩⟩⟩
  · rw [upd_ne da, upd_same]
  · rw [upd_ne da] at nd; exact nd
  · rw [upd_ne da] at nd
    refine h dx _ (fun b o _ hb => ?_) nd upd_same
    have b1 : b ≠ dx := fun z => by rw [z, nd] at hb; cases hb
    have b2 : b ≠ a := fun z => by rw [z, na] at hb; cases hb
    rw [upd_ne b1, del_ne b2, upd_ne b2, upd_ne b1, upd_ne b2]
    exact hb
/-! ### ask_rows -/
abbrev s_ask_rows : Stmt := topS 8
theorem sc_ask_rows : FnScope ["rows", "many", "place"] ["rows", "many"] (defScope s_ask_rows) := ⟨rfl, rfl, rfl, by decide +kernel, rfl, by decide +kernel, by decide +kernel⟩
/-- the first bad row of xs -/
def BadAt (H : Hp) (n : Nat) (xs : List V) (at_ : Nat) : Prop := (∃ x, xs[at_]? = some x ∧ RowV H n x false) ∧ ∀ k, k < at_ → ∃ y, xs[k]? = some y ∧ RowV H n y true
theorem BadAt.ex {H H' : Hp} {n : Nat} {xs : List V} {at_ : Nat} (b : BadAt H n xs at_) (e : Ex H H') : BadAt H' n xs at_ :=
  ⟨let ⟨x, h1, h2⟩ := b.1; ⟨x, h1, h2.ex e⟩, fun k hk => let ⟨y, h1, h2⟩ := b.2 k hk; ⟨y, h1, h2.ex e⟩⟩
def AskO (C : Addr) (H : Hp) (n : Nat) (xs : List V) (ok : Hp → Prop) (E : XK) : Prop := ((∀ (k : Nat) (x : V), xs[k]? = some x → RowV H n x true) ∧ ∀ H', Ex H H' → ok H') ∨
  ∃ at_, BadAt H n xs at_ ∧ ∀ d H', Ex H H' → H' d = some (.xd [("row", .int at_)]) → E (.ref C) (some d) H'
def sp_ask_rows (C : Addr) : Sp := fun vs H Q E => ∃ (a : Addr) (n : Nat) (xs : List V), vs = [.ref a, .int n] ∧ H a = some (.tup xs) ∧ xs.length ≤ 1000 ∧ AskO C H n xs (Q .non) E
theorem ok_ask_rows {f C0 : Addr} {fd : FuncData} (F : Fun K "ask_rows" "ask_rows" s_ask_rows f fd) (B : Bi mg) (bR : BR P w K mg base C0) (C__is_row : Cl P w K mg base CX0 43 "_is_row" ["worth", "many"] sp__is_row) :
    FnOk P w K mg base (L2.CX P w) 45 f fd ["rows", "many"] (sp_ask_rows C0) := by
  refine F.okX sc_ask_rows (fun vs H Q E h => ?_) (fun cdv A outer s0 H vs Q E hr h => ?_)
  · obtain ⟨a, n, xs, rfl, _⟩ := h; rfl
  · obtain ⟨a, n, xs, rfl, ha, hx, h⟩ := h
    have nd := sc_ask_rows.nd
    refine ⟨_, (pss_one (ps_for (passes_of rfl) rfl (pi_range1 (by rfl) B.range (pa_cons (pe_callB cr_len (by rfl) B.len b_len (pa_cons (pv 0) pa_nil)) pa_nil)) (pg_name (i := 2) nd rfl (.inl rfl))
        (pss_one (ps_if (pt_not (pt_val (pe_y C__is_row hr (by decide) pass0 (by rfl) (pa_cons (pe_ix ix_tup (pv 0) (pv 2) (fun _ _ => rfl)) (pa_cons (pv 1) pa_nil)))))
          (pss_one (ps_raise rfl (takes_of rfl rfl rfl rfl) (pmk_bad bR hr (by decide) (by rfl) (pa_cons (pv 2) pa_nil))))
          pss_nil)))), ?_⟩
    walk_at "rd"
    refine rd_lenT ha ?_
    walk_at "rd"
    rcases h with ⟨hgood, k⟩ | ⟨at_, ⟨⟨x, hat, hbad⟩, hgood⟩, k⟩
    · refine rd_rg1 xs.length rfl (by omega) (for_w wkR (fun i σ H1 => Ex H H1 ∧ ∃ o2, σ = [some (.ref a), some (.int n), o2]) ⟨Ex.rfl', _, rfl⟩ (fun _ _ _ _ _ => trivial) (fun i x1 σ H1 H2 hi hP yy => ?_) fun σ H1 hP => ?_)
      · obtain ⟨e1, o2, rfl⟩ := hP
        obtain ⟨rfl, ex⟩ := yy
        obtain rfl : x1 = .int (i : Int) := by rw [ex]; exact congrArg V.int (by omega)
        walk_at "rd"
        refine rd_ixTn i (e1.at ha) rfl (List.getElem?_eq_getElem hi) ?_
        walk_at "rd"
        refine ⟨xs[i], n, true, rfl, (hgood i _ (List.getElem?_eq_getElem hi)).ex e1, fun H3 e3 => ?_⟩
        walk_at "rd"
        exact ⟨Xt.trans e1 e3, _, rfl⟩
      · obtain ⟨e1, o2, rfl⟩ := hP
        walk_at "rd"
        exact k H1 e1
    · have hlt : at_ < xs.length := (List.getElem?_eq_some_iff.mp hat).1
      refine rd_rg1 xs.length rfl (by omega) (for_w wkR (fun i σ H1 => i ≤ at_ ∧ Ex H H1 ∧ ∃ o2, σ = [some (.ref a), some (.int n), o2]) ⟨Nat.zero_le _, Ex.rfl', _, rfl⟩ (fun _ _ _ _ _ => trivial) (fun i x1 σ H1 H2 hi hP yy => ?_) fun σ H1 hP => ?_)
      · obtain ⟨hia, e1, o2, rfl⟩ := hP
        obtain ⟨rfl, ex⟩ := yy
        obtain rfl : x1 = .int (i : Int) := by rw [ex]; exact congrArg V.int (by omega)
        walk_at "rd"
        by_cases z : i = at_
        · subst z
          refine rd_ixTn i (e1.at ha) rfl hat ?_
          walk_at "rd"
          refine ⟨x, n, false, rfl, hbad.ex e1, fun H3 e3 => ?_⟩
          walk_at "rd"
          refine rd_mkO ?_
          walk_at "rd"
          exact rd_bad (by omega) fun d H4 e4 nd4 ed => k d H4 (Xt.trans e1 (Xt.trans e3 e4)) ed
        · obtain ⟨y, hy, gy⟩ := hgood i (by omega)
          refine rd_ixTn i (e1.at ha) rfl hy ?_
          walk_at "rd"
          refine ⟨y, n, true, rfl, gy.ex e1, fun H3 e3 => ?_⟩
          walk_at "rd"
          exact ⟨by omega, Xt.trans e1 e3, _, rfl⟩
      · omega
end
end Sx
/-! the walks of dot, adds_up, is_clash, meet -/
namespace Sx
open PySem PySem.Spec PyProof.Rows L2 Y NdefX
local macro_rules | `(tactic| walk_at "rd1") => `(tactic| first
  | with_reducible refine rd_var rfl ?_
  | with_reducible refine rd_op ?_
  | with_reducible refine rd_c ?_
  | with_reducible refine rd_I0 ?_
  | with_reducible refine rd_seq ?_
  | ((with_reducible refine rd_I ?_ ?_); focus (first | exact mulok_r (by decide) (by decide) | exact mulok_l (by decide) (by decide) | (show _ ≠ _; decide) | (show _ ∧ _; decide)))
  | with_reducible refine rd_asg ?_
  | with_reducible refine rd_name ?_
  | with_reducible refine rd_cb ?_
  | with_reducible refine rd_cons ?_
  | with_reducible refine rd_nil ?_
  | with_reducible refine rd_int ?_
  | with_reducible refine rd_eqI ?_
  | with_reducible refine rd_neI ?_
  | with_reducible refine rd_bl ?_
  | with_reducible refine rd_test ?_
  | with_reducible refine rd_tB ?_
  | with_reducible refine rd_ifS ?_
  | with_reducible refine rd_next ?_
  | with_reducible refine rd_T ?_
  | with_reducible refine rd_F ?_
  | with_reducible refine rd_nT ?_
  | with_reducible refine rd_nF ?_
  | with_reducible refine rd_blV ?_
  | with_reducible refine rd_ret ?_
  | with_reducible refine rd_call ?_
  | with_reducible refine rd_drop ?_
  | with_reducible refine rd_not ?_
  | with_reducible refine rd_and ?_
  | with_reducible refine rd_or ?_
  | with_reducible refine rd_un ?_
  | with_reducible refine rd_U ?_
  | with_reducible refine rd_tup ?_
  | with_reducible refine rd_lst ?_
  | with_reducible refine rd_if ?_
  | with_reducible refine rd_andV ?_
  | with_reducible refine rd_orV ?_
  | with_reducible refine rd_notV ?_
  | with_reducible refine rd_sl ?_
  | with_reducible refine rd_nopart ?_
  | with_reducible refine rd_part ?_
  | with_reducible refine rd_iv ?_
  | with_reducible refine rd_bm ?_
  | with_reducible refine rd_abs ?_
  | with_reducible refine rd_intb ?_
  | with_reducible refine rd_mx2 ?_
  | with_reducible refine rd_mn2 ?_
  | with_reducible refine rd_sub ?_
  | with_reducible refine rd_lc ?_
  | with_reducible refine rd_for ?_
  | with_reducible refine rd_iL ?_
  | with_reducible refine rd_iT ?_
  | with_reducible refine rd_r1 ?_
  | with_reducible refine rd_r2 ?_
  | with_reducible refine rd_iZ ?_
  | with_reducible refine rd_iZM ?_
  | with_reducible refine rd_while ?_
  | with_reducible refine rd_tru ?_
  | with_reducible refine rd_brk ?_
  | with_reducible refine rd_par ?_
  | with_reducible refine rd_par2 ?_
  | with_reducible refine rd_bits ?_
  | with_reducible refine rd_callS ?_)
local macro_rules | `(tactic| walk_at "rd") => `(tactic| repeat walk_at "rd1")

section
variable {P : Program} {w : World} {K : PySem.W.Frag} {mg : Str → Option Value} {base : Heap}
/-! ### dot -/
abbrev s_dot : Stmt := topS 9
theorem sc_dot : FnScope ["left", "right", "one", "other"] ["left", "right"] (defScope s_dot) := ⟨rfl, rfl, rfl, by decide +kernel, rfl, by decide +kernel, by decide +kernel⟩
def sp_dot : Sp := fun vs H Q _ => ∃ (a b : Addr) (n : Nat) (u v : Nat → Int), vs = [.ref a, .ref b] ∧ H a = some (.tup (vl n u)) ∧ H b = some (.lst (vl n v)) ∧ n ≤ 1000 ∧ (∀ j, j < n → IntMulOk (u j) (v j)) ∧ ∀ H', Ex H H' → Q (.int (dt n u v)) H'
theorem ok_dot {f : Addr} {fd : FuncData} (F : Fun K "dot" "dot" s_dot f fd) (B : Bi mg) : FnOk P w K mg base CX0 41 f fd ["left", "right"] sp_dot := by
  refine F.ok sc_dot (fun vs H Q E h => ?_) (fun cdv A outer s H vs Q E hr h => ?_)
  · obtain ⟨a, b, n, u, v, rfl, _⟩ := h; rfl
  · obtain ⟨a, b, n, u, v, rfl, ea, eb, hn, hm, k⟩ := h
    have nd := sc_dot.nd
    refine ⟨_, (pss_one (ps_ret (pe_callB (cr_sum (by rfl)) (by rfl) B.sum b_sum (pa_cons (pe_lc (g := gTup K 2 (gCons (gName 2) (gCons (gName 3) gNil))) (own := [("one", 2), ("other", 3)]) rfl nd (pi_zipM (by rfl) B.zip (pa_cons (pv 0) (pa_cons (pv 1) pa_nil))) (blkOk_by (by rfl)) (fun _ _ _ _ _ => (pg_tup (n := 2) (by rfl) (pgs_cons (pg_name (i := 2) nd rfl (by first | exact .inl rfl | exact .inr rfl)) (pgs_cons (pg_name (i := 3) nd rfl (by first | exact .inl rfl | exact .inr rfl)) pgs_nil)))) (fun _ _ _ _ _ => pts_nil) (fun _ _ _ _ _ => (pe_op op_mulB (pv 2) (pv 3)))) pa_nil)))), ?_⟩
    walk_at "rd"
    refine rd_zpM ea eb (lc_pure wkMt (fun j => .int (u j * v j)) (by omega) (fun H' e => ⟨e.at ea, e.at eb⟩) (fun i x H1 H2 hi e1 y Pp hP => ?_) fun D H' nD e1 eD => ?_)
    · obtain ⟨T, x1, x2, rfl, nT, rfl, f1, f2⟩ := y
      cases f1; cases f2
      refine rd_gpair upd_same ?_
      walk_at "rd"
      refine ⟨rfl, ?_⟩
      walk_at "rd"
      refine rd_I (hm i hi) ?_
      exact hP _ (ex_new nT)
    · walk_at "rd"
      refine rd_sum (eD.trans (congrArg (fun z => some (HO.lst z)) (vl_ints (u := fun j => u j * v j)))) ?_
      rw [sm_list]
      exact k H' e1
/-! ### adds_up -/
abbrev s_adds_up : Stmt := topS 10
theorem sc_adds_up : FnScope ["rows", "many", "multipliers", "place", "column", "row"] ["rows", "many", "multipliers"] (defScope s_adds_up) := ⟨rfl, rfl, rfl, by decide +kernel, rfl, by decide +kernel, by decide +kernel⟩
/-- the numbers of the rows are small enough -/
def RSm (W : Rws) : Prop := ∀ i, i < W.m → (W.C i).natAbs < 2 ^ 4000 ∧ ∀ j, j < W.n → (W.R i j).natAbs < 2 ^ 4000
/-- the question whether x is a clash: its answer -/
def AddO (H : Hp) (W : Rws) (x : V) (ok : Bool → Hp → Prop) : Prop := (VecV H W.m x false ∧ ∀ H', Ex H H' → ok false H') ∨
  ∃ a y, x = .ref a ∧ H a = some (.tup (vl W.m y)) ∧ (∀ i, i < W.m → (y i).natAbs < 2 ^ 4000) ∧ ∀ (b : Bool) H', Ex H H' → (b = true ↔ Cla W y) → ok b H'
def sp_adds_up : Sp := fun vs H Q _ => ∃ (r : Addr) (W : Rws) (x : V), vs = [.ref r, .int W.n, x] ∧ RwAt H r W ∧ W.n ≤ 1000 ∧ W.m ≤ 1000 ∧ RSm W ∧ AddO H W x fun b => Q (.bl b)
theorem ok_adds_up {f : Addr} {fd : FuncData} (F : Fun K "adds_up" "adds_up" s_adds_up f fd) (B : Bi mg) (C_is_vector : Cl P w K mg base CX0 42 "is_vector" ["worth", "many"] sp_is_vector) (C_dot : Cl P w K mg base CX0 41 "dot" ["left", "right"] sp_dot) : FnOk P w K mg base CX0 43 f fd ["rows", "many", "multipliers"] sp_adds_up := by
  refine F.ok sc_adds_up (fun vs H Q E h => ?_) (fun cdv A outer s H vs Q E hr h => ?_)
  · obtain ⟨r, W, x, rfl, _⟩ := h; rfl
  · obtain ⟨r, W, x, rfl, hR, hn, hm, hS, h⟩ := h
    have nd := sc_adds_up.nd
    refine ⟨_, (pss_cons (ps_if (pt_not (pt_val (pe_y C_is_vector hr (by decide) pass0 (by rfl) (pa_cons (pv 2) (pa_cons (pe_callB cr_len (by rfl) B.len b_len (pa_cons (pv 0) pa_nil)) pa_nil)))))
        (pss_one (ps_ret pe_bl))
        pss_nil)
      (pss_cons (ps_for PassesOwn.never rfl (pi_range1 (by rfl) B.range (pa_cons (pe_callB cr_len (by rfl) B.len b_len (pa_cons (pv 0) pa_nil)) pa_nil)) (pg_name (i := 3) nd rfl (.inl rfl))
        (pss_one (ps_if (PW.pt (pw_and (pt_cmpR op_eq (pe_ix ix_tup (pe_ix ix_tup (pv 0) (pv 3) (fun _ _ => rfl)) pe_int (fun _ _ => rfl)) pe_str (nomark _)) (pw_and1 (pt_cmpR op_lt (pe_ix ix_tup (pv 2) (pv 3) (fun _ _ => rfl)) pe_int (nomark _)))))
          (pss_one (ps_ret pe_bl))
          pss_nil)))
      (pss_cons (ps_for PassesOwn.never rfl (pi_range1 (by rfl) B.range (pa_cons (pv 1) pa_nil)) (pg_name (i := 4) nd rfl (.inr rfl))
        (pss_one (ps_if (pt_cmpR op_ne (pe_y C_dot hr (by decide) pass0 (by rfl) (pa_cons (pv 2) (pa_cons (pe_lc (own := [("row", 5)]) rfl nd (pi_tup (pv 0)) (blkOk_by (by rfl)) (fun _ _ _ _ _ => (pg_name (i := 5) nd rfl (by first | exact .inl rfl | exact .inr rfl))) (fun _ _ _ _ _ => pts_nil) (fun _ _ _ _ _ => (pe_ix (ix_tupK (K := K) rfl) (pe_ix (ix_tupK (K := K) rfl) (pv 5) pe_int (fun _ _ => rfl)) (pv 4) (fun _ _ => rfl)))) pa_nil))) pe_int (nomark _))
          (pss_one (ps_ret pe_bl))
          pss_nil)))
      (pss_one (ps_ret (pe_cmpR op_le (pe_y C_dot hr (by decide) pass0 (by rfl) (pa_cons (pv 2) (pa_cons (pe_lc (own := [("row", 5)]) rfl nd (pi_tup (pv 0)) (blkOk_by (by rfl)) (fun _ _ _ _ _ => (pg_name (i := 5) nd rfl (by first | exact .inl rfl | exact .inr rfl))) (fun _ _ _ _ _ => pts_nil) (fun _ _ _ _ _ => (pe_ix (ix_tupK (K := K) rfl) (pv 5) pe_int (fun _ _ => rfl)))) pa_nil))) (pe_un un_neg pe_int) (nomark _))))))), ?_⟩
    obtain ⟨rp, np, e1, e2, e3⟩ := id hR
    walk_at "rd"
    refine rd_lenTt e1 ?_
    walk_at "rd"
    rcases h with ⟨hv, k⟩ | ⟨a, y, rfl, ea, hy, k⟩
    · refine ⟨x, W.m, false, rfl, hv, fun H1 ex1 => ?_⟩
      walk_at "rd"
      exact k H1 ex1
    · refine ⟨.ref a, W.m, true, rfl, vec_good ea hm, fun H1 ex1 => ?_⟩
      walk_at "rd"
      refine rd_lenTt (ex1.at e1) ?_
      walk_at "rd"
      refine rd_rg1 W.m rfl (by omega) (for_w wkR (fun i σ H2 => (Ex H H2 ∧ ∀ j, j < i → W.q j = false → 0 ≤ y j) ∧ ∃ o3 o4 o5, σ = [some (.ref r), some (.int W.n), some (.ref a), o3, o4, o5]) ⟨⟨ex1, fun j hj => by omega⟩, _, _, _, rfl⟩ (fun i σ H2 _ hP => trivial) (fun i x σ H2 H3 hi hP yy => ?_) fun σ H2 hP => ?_)
      · obtain ⟨⟨ex, hq⟩, o3, o4, o5, rfl⟩ := hP
        obtain ⟨rfl, exx⟩ := yy
        obtain rfl : x = .int (i : Int) := by rw [exx]; exact congrArg V.int (by omega)
        walk_at "rd"
        refine rd_ixTt i (ex.at e1) rfl hi ?_
        walk_at "rd"
        refine rd_ixTn 1 (ex.at (e2 i hi)) rfl rfl ?_
        walk_at "rd"
        refine rd_eq rfl ?_
        walk_at "rd"
        refine rd_dec (fun h1 => ?_) fun h1 => ?_
        · walk_at "rd"
          refine rd_ixTt i (ex.at ea) rfl hi ?_
          walk_at "rd"
          refine rd_dec (fun h2 => ?_) fun h2 => ?_
          · walk_at "rd"
            refine k false H3 ex ⟨fun z => (by cases z), fun z => absurd (z.1 i hi (rel_ne.mp h1)) (by omega)⟩
          · walk_at "rd"
            refine ⟨⟨ex, fun j hj hqj => ?_⟩, _, _, _, rfl⟩
            by_cases ji : j = i
            · rw [ji]; omega
            · exact hq j (by omega) hqj
        · walk_at "rd"
          refine ⟨⟨ex, fun j hj hqj => ?_⟩, _, _, _, rfl⟩
          by_cases ji : j = i
          · rw [ji] at hqj; exact absurd (rel_ne.mpr hqj) h1
          · exact hq j (by omega) hqj
      · obtain ⟨⟨ex2, hq⟩, o3, o4, o5, rfl⟩ := hP
        walk_at "rd"
        refine rd_rg1 W.n rfl (by omega) (for_w wkR (fun i σ H3 => (Ex H H3 ∧ ∀ j, j < i → (sm W.m fun i => y i * W.R i j) = 0) ∧ ∃ o3 o4 o5, σ = [some (.ref r), some (.int W.n), some (.ref a), o3, o4, o5]) ⟨⟨ex2, fun j hj => by omega⟩, _, _, _, rfl⟩ (fun i σ H2 _ hP => trivial) (fun c x σ H3 H4 hc hP yy => ?_) fun σ H3 hP => ?_)
        · obtain ⟨⟨ex, hz⟩, o3, o4, o5, rfl⟩ := hP
          obtain ⟨rfl, exx⟩ := yy
          obtain rfl : x = .int (c : Int) := by rw [exx]; exact congrArg V.int (by omega)
          walk_at "rd"
          refine rd_itT (ex.at e1) (lc_pure (wkTt (n := W.m) (f := fun i => .ref (rp i))) (fun i => .int (W.R i c)) (by omega) (fun H' e => e.at (ex.at e1)) (fun i x H5 H6 hi e5 yy Pp hP => ?_) fun D H5 nD e5 eD => ?_)
          · obtain ⟨rfl, rfl⟩ := yy
            walk_at "rd"
            refine ⟨rfl, ?_⟩
            walk_at "rd"
            refine rd_ixTn 0 (e5.at (ex.at (e2 i hi))) rfl rfl ?_
            walk_at "rd"
            refine rd_ixTt c (e5.at (ex.at (e3 i hi))) rfl hc ?_
            exact hP _ Ex.rfl'
          · walk_at "rd"
            refine ⟨a, D, W.m, y, fun i => W.R i c, rfl, e5.at (ex.at ea), eD, hm, fun j hj => mulok_big (hy j hj) ((hS j hj).2 c hc), fun H6 e6 => ?_⟩
            walk_at "rd"
            refine rd_ndec (fun hne => ?_) fun he => ?_
            · walk_at "rd"
              refine k false H6 (Xt.trans ex (Xt.trans e5 e6)) ⟨fun z => (by cases z), fun z => absurd (z.2.1 c hc) hne⟩
            · walk_at "rd"
              refine ⟨⟨Xt.trans ex (Xt.trans e5 e6), fun j hj => ?_⟩, _, _, _, rfl⟩
              by_cases ji : j = c
              · rw [ji]; exact he
              · exact hz j (by omega)
        · obtain ⟨⟨ex, hz⟩, o3, o4, o5, rfl⟩ := hP
          walk_at "rd"
          refine rd_itT (ex.at e1) (lc_pure (wkTt (n := W.m) (f := fun i => .ref (rp i))) (fun i => .int (W.C i)) (by omega) (fun H' e => e.at (ex.at e1)) (fun i x H5 H6 hi e5 yy Pp hP => ?_) fun D H5 nD e5 eD => ?_)
          · obtain ⟨rfl, rfl⟩ := yy
            walk_at "rd"
            refine ⟨rfl, ?_⟩
            walk_at "rd"
            refine rd_ixTn 2 (e5.at (ex.at (e2 i hi))) rfl rfl ?_
            exact hP _ Ex.rfl'
          · walk_at "rd"
            refine ⟨a, D, W.m, y, fun i => W.C i, rfl, e5.at (ex.at ea), eD, hm, fun j hj => mulok_big (hy j hj) (hS j hj).1, fun H6 e6 => ?_⟩
            walk_at "rd"
            refine k _ H6 (Xt.trans ex (Xt.trans e5 e6)) ?_
            rw [decide_eq_true_iff]
            exact ⟨fun z => ⟨hq, hz, z⟩, fun z => z.2.2⟩
/-! ### is_clash, meet -/
theorem rw_good {H : Hp} {r : Addr} {W : Rws} (h : RwAt H r W) (hn : W.n ≤ 1000) : ∃ xs, H r = some (.tup xs) ∧ xs.length = W.m ∧ ∀ (k : Nat) (x : V), xs[k]? = some x → RowV H W.n x true := by
  obtain ⟨rp, np, e1, e2, e3⟩ := h
  refine ⟨_, e1, tab_len, fun k x hk => ?_⟩
  obtain ⟨hk', rfl⟩ := tab_at hk
  exact .inr (.inr ⟨rp k, _, _, _, rfl, e2 k hk', .inr ⟨true, vec_good (e3 k hk') hn, .inl ⟨_, rfl, rfl⟩, .inl ⟨_, rfl⟩, rfl⟩⟩)
abbrev s_is_clash : Stmt := topS 18
theorem sc_is_clash : FnScope ["rows", "many", "multipliers"] ["rows", "many", "multipliers"] (defScope s_is_clash) := ⟨rfl, rfl, rfl, by decide +kernel, rfl, by decide +kernel, by decide +kernel⟩
def sp_is_clash (C : Addr) : Sp := fun vs H Q E => (∃ (r : Addr) (W : Rws) (x : V), vs = [.ref r, .int W.n, x] ∧ RwAt H r W ∧ W.n ≤ 1000 ∧ W.m ≤ 1000 ∧ RSm W ∧ AddO H W x fun b => Q (.bl b)) ∨
  ∃ (a : Addr) (n at_ : Nat) (xs : List V) (x : V), vs = [.ref a, .int n, x] ∧ H a = some (.tup xs) ∧ xs.length ≤ 1000 ∧ BadAt H n xs at_ ∧ ∀ d H', Ex H H' → H' d = some (.xd [("row", .int at_)]) → E (.ref C) (some d) H'
theorem AddO.to {H H' : Hp} {W : Rws} {x : V} {ok : Bool → Hp → Prop} (h : AddO H W x ok) (e : Ex H H') : AddO H' W x ok := by
  rcases h with ⟨h1, h2⟩ | ⟨a, y, h1, h2, h3, h4⟩
  · exact .inl ⟨h1.ex e, fun H2 e2 => h2 H2 (Xt.trans e e2)⟩
  · exact .inr ⟨a, y, h1, e.at h2, h3, fun b H2 e2 hb => h4 b H2 (Xt.trans e e2) hb⟩
theorem ok_is_clash {f C0 : Addr} {fd : FuncData} (F : Fun K "is_clash" "is_clash" s_is_clash f fd) (B : Bi mg) (C_ask_rows : Cl P w K mg base (L2.CX P w) 45 "ask_rows" ["rows", "many"] (sp_ask_rows C0)) (C_adds_up : Cl P w K mg base CX0 43 "adds_up" ["rows", "many", "multipliers"] sp_adds_up) :
    FnOk P w K mg base (L2.CX P w) 47 f fd ["rows", "many", "multipliers"] (sp_is_clash C0) := by
  refine F.okX sc_is_clash (fun vs H Q E h => ?_) (fun cdv A outer s0 H vs Q E hr h => ?_)
  · rcases h with ⟨r, W, x, rfl, _⟩ | ⟨a, n, t, xs, x, rfl, _⟩ <;> rfl
  · have nd := sc_is_clash.nd
    refine ⟨_, (pss_cons (ps_expr (pe_y C_ask_rows hr (by decide) (passes_call (takes_of rfl rfl rfl rfl) (fun _ _ _ _ h => h)) (by rfl) (pa_cons (pv 0) (pa_cons (pv 1) pa_nil))))
      (pss_one (ps_ret (pe_y C_adds_up hr (by decide) pass0 (by rfl) (pa_cons (pv 0) (pa_cons (pv 1) (pa_cons (pv 2) pa_nil))))))), ?_⟩
    rcases h with ⟨r, W, x, rfl, hR, hn, hm, hS, h⟩ | ⟨a, n, at_, xs, x, rfl, ha, hx, hb, k⟩
    · obtain ⟨xs, ea, el, hg⟩ := rw_good hR hn
      walk_at "rd"
      refine ⟨r, W.n, xs, rfl, ea, by omega, .inl ⟨hg, fun H1 e1 => ?_⟩⟩
      walk_at "rd"
      exact ⟨r, W, x, rfl, hR.ex e1, hn, hm, hS, h.to e1⟩
    · walk_at "rd"
      refine ⟨a, n, xs, rfl, ha, hx, .inr ⟨at_, hb, k⟩⟩
abbrev s_meet : Stmt := topS 17
theorem sc_meet : FnScope ["rows", "many"] ["rows", "many"] (defScope s_meet) := ⟨rfl, rfl, rfl, by decide +kernel, rfl, by decide +kernel, by decide +kernel⟩
def sp_meet (C : Addr) : Sp := fun vs H Q E => (∃ (r : Addr) (W : Rws) (B : Nat), vs = [.ref r, .int W.n] ∧ RwAt H r W ∧ W.le B ∧ bdd (W.n + 1) B < 2 ^ 400 ∧ W.n ≤ 1000 ∧ W.m ≤ 1000 ∧ ∀ q H', Ex H H' → Ans H' q W → Q (.ref q) H') ∨
  ∃ (a : Addr) (n at_ : Nat) (xs : List V), vs = [.ref a, .int n] ∧ H a = some (.tup xs) ∧ xs.length ≤ 1000 ∧ BadAt H n xs at_ ∧ ∀ d H', Ex H H' → H' d = some (.xd [("row", .int at_)]) → E (.ref C) (some d) H'
theorem ok_meet {f C0 : Addr} {fd : FuncData} (F : Fun K "meet" "meet" s_meet f fd) (B : Bi mg) (C_ask_rows : Cl P w K mg base (L2.CX P w) 45 "ask_rows" ["rows", "many"] (sp_ask_rows C0)) (C_solved : Cl P w K mg base CX0 43 "solved" ["rows", "many"] sp_solved) :
    FnOk P w K mg base (L2.CX P w) 47 f fd ["rows", "many"] (sp_meet C0) := by
  refine F.okX sc_meet (fun vs H Q E h => ?_) (fun cdv A outer s0 H vs Q E hr h => ?_)
  · rcases h with ⟨r, W, B, rfl, _⟩ | ⟨a, n, t, xs, rfl, _⟩ <;> rfl
  · have nd := sc_meet.nd
    refine ⟨_, (pss_cons (ps_expr (pe_y C_ask_rows hr (by decide) (passes_call (takes_of rfl rfl rfl rfl) (fun _ _ _ _ h => h)) (by rfl) (pa_cons (pv 0) (pa_cons (pv 1) pa_nil))))
      (pss_one (ps_ret (pe_y C_solved hr (by decide) pass0 (by rfl) (pa_cons (pv 0) (pa_cons (pv 1) pa_nil)))))), ?_⟩
    rcases h with ⟨r, W, Bd, rfl, hR, hle, hbd, hn, hm, k⟩ | ⟨a, n, at_, xs, rfl, ha, hx, hb, k⟩
    · obtain ⟨xs, ea, el, hg⟩ := rw_good hR hn
      walk_at "rd"
      refine ⟨r, W.n, xs, rfl, ea, by omega, .inl ⟨hg, fun H1 e1 => ?_⟩⟩
      walk_at "rd"
      exact ⟨r, W, Bd, rfl, hR.ex e1, hle, hbd, hn, hm, fun q H2 e2 ha => k q H2 (Xt.trans e1 e2) ha⟩
    · walk_at "rd"
      refine ⟨a, n, xs, rfl, ha, hx, .inr ⟨at_, hb, k⟩⟩
end
end Sx
/-! the law's own small functions -/
namespace Sx
open PySem PySem.Spec PyProof.Rows L2 Y
local macro_rules | `(tactic| walk_at "rd1") => `(tactic| first
  | with_reducible refine rd_var rfl ?_
  | with_reducible refine rd_op ?_
  | with_reducible refine rd_c ?_
  | with_reducible refine rd_I0 ?_
  | with_reducible refine rd_seq ?_
  | ((with_reducible refine rd_I ?_ ?_); focus (first | exact mulok_r (by decide) (by decide) | exact mulok_l (by decide) (by decide) | (show _ ≠ _; decide) | (show _ ∧ _; decide)))
  | with_reducible refine rd_asg ?_
  | with_reducible refine rd_name ?_
  | with_reducible refine rd_cb ?_
  | with_reducible refine rd_cons ?_
  | with_reducible refine rd_nil ?_
  | with_reducible refine rd_int ?_
  | with_reducible refine rd_eqI ?_
  | with_reducible refine rd_neI ?_
  | with_reducible refine rd_bl ?_
  | with_reducible refine rd_test ?_
  | with_reducible refine rd_tB ?_
  | with_reducible refine rd_ifS ?_
  | with_reducible refine rd_next ?_
  | with_reducible refine rd_T ?_
  | with_reducible refine rd_F ?_
  | with_reducible refine rd_nT ?_
  | with_reducible refine rd_nF ?_
  | with_reducible refine rd_blV ?_
  | with_reducible refine rd_ret ?_
  | with_reducible refine rd_call ?_
  | with_reducible refine rd_drop ?_
  | with_reducible refine rd_not ?_
  | with_reducible refine rd_and ?_
  | with_reducible refine rd_or ?_
  | with_reducible refine rd_un ?_
  | with_reducible refine rd_U ?_
  | with_reducible refine rd_tup ?_
  | with_reducible refine rd_lst ?_
  | with_reducible refine rd_if ?_
  | with_reducible refine rd_andV ?_
  | with_reducible refine rd_orV ?_
  | with_reducible refine rd_notV ?_
  | with_reducible refine rd_sl ?_
  | with_reducible refine rd_nopart ?_
  | with_reducible refine rd_part ?_
  | with_reducible refine rd_iv ?_
  | with_reducible refine rd_bm ?_
  | with_reducible refine rd_abs ?_
  | with_reducible refine rd_intb ?_
  | with_reducible refine rd_mx2 ?_
  | with_reducible refine rd_mn2 ?_
  | with_reducible refine rd_sub ?_
  | with_reducible refine rd_lc ?_
  | with_reducible refine rd_for ?_
  | with_reducible refine rd_iL ?_
  | with_reducible refine rd_iT ?_
  | with_reducible refine rd_r1 ?_
  | with_reducible refine rd_r2 ?_
  | with_reducible refine rd_iZ ?_
  | with_reducible refine rd_iZM ?_
  | with_reducible refine rd_while ?_
  | with_reducible refine rd_tru ?_
  | with_reducible refine rd_brk ?_
  | with_reducible refine rd_par ?_
  | with_reducible refine rd_par2 ?_
  | with_reducible refine rd_bits ?_
  | with_reducible refine rd_callS ?_)
local macro_rules | `(tactic| walk_at "rd") => `(tactic| repeat walk_at "rd1")

theorem fm_lo {i j : Int} (h : 0 < j) : 0 ≤ i.fmod j := Int.fmod_nonneg_of_pos i h
theorem fm_hi {i j : Int} (h : 0 < j) : i.fmod j < j := Int.fmod_lt_of_pos i h
section
variable {P : Program} {w : World} {K : PySem.W.Frag} {mg : Str → Option Value} {base : Heap}
/-! ### _law_mixed -/
abbrev s__law_mixed : Stmt := topS 20
theorem sc__law_mixed : FnScope ["seed", "turn", "first", "second"] ["seed", "turn"] (defScope s__law_mixed) := ⟨rfl, rfl, rfl, by decide +kernel, rfl, by decide +kernel, by decide +kernel⟩
def sp__law_mixed : Sp := fun vs H Q _ => ∃ i j : Int, vs = [.int i, .int j] ∧ ∀ r, Q (.int r) H
theorem ok__law_mixed {f : Addr} {fd : FuncData} (F : Fun K "_law_mixed" "_law_mixed" s__law_mixed f fd) (B : Bi mg) : FnOk P w K mg base CX0 41 f fd ["seed", "turn"] sp__law_mixed := by
  refine F.ok sc__law_mixed (fun vs H Q E h => ?_) (fun cdv A outer s H vs Q E hr h => ?_)
  · obtain ⟨i, j, rfl, _⟩ := h; rfl
  · obtain ⟨i, j, rfl, k⟩ := h
    have nd := sc__law_mixed.nd
    refine ⟨_, (pss_cons (ps_set (i := 2) nd rfl (.inl rfl) (pe_op op_modN (pe_callTy cr_int (by rfl) B.int b_int (pa_cons (pe_op op_add (pe_op op_add (pe_op op_mulB (pv 0) pe_int) (pe_op op_mulB (pv 1) pe_int)) pe_int) pa_nil)) pe_int))
      (pss_cons (ps_set (i := 3) nd rfl (.inl rfl) (pe_op op_modN (pe_callTy cr_int (by rfl) B.int b_int (pa_cons (pe_op op_add (pe_op op_add (pe_op op_mulB (pv 2) (pv 2)) (pe_op op_mulB (pv 1) pe_int)) (pe_op op_mulB (pv 0) pe_int)) pa_nil)) pe_int))
      (pss_one (ps_ret (pe_op op_modN (pe_callTy cr_int (by rfl) B.int b_int (pa_cons (pe_op op_add (pe_op op_mulB (pe_op op_fdivN (pv 3) pe_int) pe_int) (pe_op op_fdivN (pv 2) pe_int)) pa_nil)) pe_int))))), ?_⟩
    walk_at "rd"
    have h1 := fm_lo (i := i * 48271 + j * 69621 + 7919) (j := 2147483647) (by decide)
    have h2 := fm_hi (i := i * 48271 + j * 69621 + 7919) (j := 2147483647) (by decide)
    refine rd_I (mulok_r (by omega) (by omega)) ?_
    walk_at "rd"
    exact k _
/-! ### _law_box -/
/-- the box at b: two lists of numbers, two counts -/
def Bx (H : Hp) (b s g : Addr) : Prop := b ≠ g ∧ s ≠ b ∧ s ≠ g ∧ ∃ (ss gs : List Int) (i j : Int), H b = some (.lst [.ref s, .ref g, .int i, .int j]) ∧ H s = some (.lst (ss.map V.int)) ∧ ss ≠ [] ∧ ss.length ≤ 1000 ∧ H g = some (.lst (gs.map V.int))
theorem Bx.ex {H H' : Hp} {b s g : Addr} (x : Bx H b s g) (e : Ex H H') : Bx H' b s g := by
  obtain ⟨h1, h2, h3, ss, gs, i, j, e1, e2, e3, e4, e5⟩ := x
  exact ⟨h1, h2, h3, ss, gs, i, j, e.at e1, e.at e2, e3, e4, e.at e5⟩
abbrev s__law_box : Stmt := topS 21
theorem sc__law_box : FnScope ["script", "cells", "great", "small", "cell"] ["script"] (defScope s__law_box) := ⟨rfl, rfl, rfl, by decide +kernel, rfl, by decide +kernel, by decide +kernel⟩
def sp__law_box : Sp := fun vs H Q _ => ∃ (a : Addr) (ns : List Int), vs = [.ref a] ∧ SqL K H a (ns.map V.int) ∧ ∀ b s g H', H b = none → H g = none → Ex H H' → Bx H' b s g → Q (.ref b) H'
theorem ok__law_box {f : Addr} {fd : FuncData} (F : Fun K "_law_box" "_law_box" s__law_box f fd) (B : Bi mg) : FnOk P w K mg base CX0 41 f fd ["script"] (sp__law_box (K := K)) := by
  refine F.ok sc__law_box (fun vs H Q E h => ?_) (fun cdv A outer s0 H vs Q E hr h => ?_)
  · obtain ⟨a, ns, rfl, _⟩ := h; rfl
  · obtain ⟨a, ns, rfl, ha, k⟩ := h
    have nd := sc__law_box.nd
    refine ⟨_, (pss_cons (ps_setLc (i := 1) (own := [("cell", 4)]) rfl nd rfl rfl (sw_true rfl rfl rfl (by decide +kernel)) (pi_list (pe_slice sl_list (pv 0) po_none (po_some pe_int))) (blkOk_by (by rfl)) (fun _ _ _ _ _ => (pg_name (i := 4) nd rfl (by first | exact .inl rfl | exact .inr rfl))) (fun _ _ _ _ _ => pts_nil) (fun _ _ _ _ _ => (pe_callB cr_abs (by rfl) B.abs b_abs (pa_cons (pe_callTy cr_int (by rfl) B.int b_int (pa_cons (pv 4) pa_nil)) pa_nil))))
      (pss_cons (ps_setLc (i := 2) (own := [("cell", 4)]) rfl nd rfl rfl (sw_true rfl rfl rfl (by decide +kernel)) (pi_list (pv 1)) (blkOk_by (by rfl)) (fun _ _ _ _ _ => (pg_name (i := 4) nd rfl (by first | exact .inl rfl | exact .inr rfl))) (fun _ _ _ _ _ => (pts_one (pt_cmpR op_ge (pv 4) (pe_op op_pow pe_int pe_int) (nomark _)))) (fun _ _ _ _ _ => (pv 4)))
      (pss_cons (ps_setLc (i := 3) (own := [("cell", 4)]) rfl nd rfl rfl (sw_true rfl rfl rfl (by decide +kernel)) (pi_list (pv 1)) (blkOk_by (by rfl)) (fun _ _ _ _ _ => (pg_name (i := 4) nd rfl (by first | exact .inl rfl | exact .inr rfl))) (fun _ _ _ _ _ => pts_nil) (fun _ _ _ _ _ => (pe_op op_modN (pe_callTy cr_int (by rfl) B.int b_int (pa_cons (pv 4) pa_nil)) pe_int)))
      (pss_cons (ps_if (pt_not (pt_tru (pv 3) (by intro _; rfl)))
        (pss_one (ps_set (i := 3) nd rfl (.inl rfl) (pe_lst (pa_cons pe_int pa_nil))))
        pss_nil)
      (pss_one (ps_ret (pe_lst (pa_cons (pv 3) (pa_cons (pv 2) (pa_cons pe_int (pa_cons pe_int pa_nil))))))))))), ?_⟩
    walk_at "rd"
    refine ⟨a, _, rfl, ha, fun l0 nl0 => ?_⟩
    have el0 : upd H l0 (.lst (cutV (ns.map V.int) none (some 63))) l0 = some (.lst (cutV (ns.map V.int) none (some 63))) := upd_same
    have x0 : Ex H (upd H l0 (.lst (cutV (ns.map V.int) none (some 63)))) := ex_new nl0
    have hcut : ∃ ms : List Int, cutV (ns.map V.int) none (some 63) = ms.map V.int ∧ ms.length ≤ 63 := by
      refine ⟨ns.take 63, ?_, by rw [List.length_take]; omega⟩
      unfold cutV
      have e0 : HT.sIx (ns.map V.int).length 0 none = 0 := rfl
      rw [e0, List.drop_zero, List.map_take]
      have e1 : HT.sIx (ns.map V.int).length (ns.map V.int).length (some 63) = min 63 (ns.map V.int).length := by
        unfold HT.sIx
        dsimp only
        first | omega | (split <;> omega) | trace_state
      rw [e1, Nat.sub_zero]
      by_cases h : 63 ≤ (ns.map V.int).length
      · rw [Nat.min_eq_left h]
      · rw [Nat.min_eq_right (by omega), List.take_of_length_le (Nat.le_refl _), List.take_of_length_le (by omega)]
    obtain ⟨ms, hms, hml⟩ := hcut
    rw [hms] at el0 x0 ⊢
    generalize upd H l0 (HO.lst (ms.map V.int)) = H1 at el0 x0 ⊢
    refine rd_itL el0 (lc_pure wkL (fun i => .int ((ms.getD i 0).natAbs : Int)) (by rw [List.length_map]; omega) (fun H' e => e.at el0) (fun i x H2 H3 hi e2 yy Pp hP => ?_) fun D H2 nD e2 eD => ?_)
    · obtain ⟨rfl, hx⟩ := yy
      rw [List.getElem?_map] at hx
      have hi' : i < ms.length := by rw [List.length_map] at hi; exact hi
      rw [List.getElem?_eq_getElem hi'] at hx
      obtain rfl : V.int ms[i] = x := by cases hx; rfl
      walk_at "rd"
      refine ⟨rfl, ?_⟩
      walk_at "rd"
      have q := hP H3 Ex.rfl'
      rw [List.getD_eq_getElem?_getD, List.getElem?_eq_getElem hi'] at q
      have e3 : (if ms[i] < 0 then -ms[i] else ms[i]) = ((ms[i]).natAbs : Int) := by split <;> omega
      rw [e3]
      exact q
    · rw [List.length_map] at eD
      walk_at "rd"
      refine rd_itL eD (lc_some wkLt (fun i => if decide ((10 : Int) ^ (18 : Int).toNat ≤ ((ms.getD i 0).natAbs : Int)) = true then some (.int ((ms.getD i 0).natAbs : Int)) else none) (by omega) (fun H' e => e.at eD) (fun i x H3 H4 hi e3 yy Pp Np hP hN => ?_) fun G H3 nG e3 eG => ?_)
      · obtain ⟨rfl, rfl⟩ := yy
        walk_at "rd"
        refine ⟨rfl, ?_⟩
        walk_at "rd"
        refine rd_dec (fun hc => ?_) fun hc => ?_
        · walk_at "rd"
          exact hP _ _ (if_pos (decide_eq_true hc)) Ex.rfl'
        · exact hN (if_neg (by rw [decide_eq_false hc]; decide)) _ Ex.rfl'
      · walk_at "rd"
        have hgs : ∃ gs : List Int, (List.range ms.length).filterMap (fun i => if decide ((10 : Int) ^ (18 : Int).toNat ≤ ((ms.getD i 0).natAbs : Int)) = true then some (V.int ((ms.getD i 0).natAbs : Int)) else none) = gs.map V.int := by
          refine ⟨(List.range ms.length).filterMap (fun i => if decide ((10 : Int) ^ (18 : Int).toNat ≤ ((ms.getD i 0).natAbs : Int)) = true then some ((ms.getD i 0).natAbs : Int) else none), ?_⟩
          rw [List.map_filterMap]
          refine congrArg (fun f => List.filterMap f _) (funext fun i => ?_)
          split <;> rfl
        obtain ⟨gs, hgs⟩ := hgs
        rw [hgs] at eG
        refine rd_itL (e3.at eD) (lc_pure wkLt (fun i => .int (((ms.getD i 0).natAbs : Int).fmod 2147483629)) (by omega) (fun H' e => e.at (e3.at eD)) (fun i x H4 H5 hi e4 yy Pp hP => ?_) fun S H4 nS e4 eS => ?_)
        · obtain ⟨rfl, rfl⟩ := yy
          walk_at "rd"
          refine ⟨rfl, ?_⟩
          walk_at "rd"
          exact hP _ Ex.rfl'
        · walk_at "rd"
          have SG : S ≠ G := fun z => (by rw [z, eG] at nS; cases nS)
          have e04 : Ex H H4 := Xt.trans x0 (Xt.trans e2 (Xt.trans e3 e4))
          have nGH : H G = none := Ex.back (Xt.trans x0 e2) nG
          cases hm : ms with
          | nil =>
            rw [hm] at eS
            refine rd_tru0 eS ?_
            walk_at "rd"
            refine ⟨sz (show 1 ≤ 100000 by decide), fun S2 nS2 => ?_⟩
            have e5 : Ex H4 (upd H4 S2 (.lst [V.int 0])) := ex_new nS2
            have eS2 : upd H4 S2 (.lst [V.int 0]) S2 = some (.lst [V.int 0]) := upd_same
            generalize upd H4 S2 (HO.lst [V.int 0]) = H5 at e5 eS2 ⊢
            walk_at "rd"
            refine ⟨sz (show 4 ≤ 100000 by decide), fun b nb => ?_⟩
            have e6 : Ex H5 (upd H5 b (.lst [V.ref S2, V.ref G, V.int 0, V.int 0])) := ex_new nb
            have eG5 := e5.at (e4.at eG)
            refine k b S2 G _ (Ex.back (Xt.trans e04 e5) nb) nGH (Xt.trans e04 (Xt.trans e5 e6)) ⟨fun z => (by rw [z, eG5] at nb; cases nb), fun z => (by rw [z] at eS2; rw [eS2] at nb; cases nb), fun z => (by rw [z, e4.at eG] at nS2; cases nS2), [0], gs, 0, 0, upd_same, e6.at eS2, by simp, by simp, e6.at eG5⟩
          | cons m0 mr =>
            rw [hm] at eS
            refine rd_truT eS (by simp) ?_
            walk_at "rd"
            refine ⟨sz (show 4 ≤ 100000 by decide), fun b nb => ?_⟩
            have e6 : Ex H4 (upd H4 b (.lst [V.ref S, V.ref G, V.int 0, V.int 0])) := ex_new nb
            have eG5 := e4.at eG
            have hS : (tab (m0 :: mr).length fun i => V.int ((((m0 :: mr).getD i 0).natAbs : Int).fmod 2147483629)) = ((List.range (m0 :: mr).length).map fun i => ((((m0 :: mr).getD i 0).natAbs : Int).fmod 2147483629)).map V.int := by rw [List.map_map]; rfl
            refine k b S G _ (Ex.back e04 nb) nGH (Xt.trans e04 e6) ⟨fun z => (by rw [z, eG5] at nb; cases nb), fun z => (by rw [z] at eS; rw [eS] at nb; cases nb), SG, _, gs, 0, 0, upd_same, e6.at (eS.trans (congrArg (fun z => some (HO.lst z)) hS)), by simp, by rw [List.length_map, List.length_range, ← hm]; omega, e6.at eG5⟩
/-! ### _law_take -/
abbrev s__law_take : Stmt := topS 22
theorem sc__law_take : FnScope ["box", "size", "small", "great", "digit"] ["box", "size"] (defScope s__law_take) := ⟨rfl, rfl, rfl, by decide +kernel, rfl, by decide +kernel, by decide +kernel⟩
def sp__law_take : Sp := fun vs H Q _ => ∃ (b s g : Addr) (n : Int), vs = [.ref b, .int n] ∧ Bx H b s g ∧ 0 < n ∧ n < 2 ^ 62 ∧ ∀ d H', 0 ≤ d → d < n → Xt [b, g] H H' → Bx H' b s g → Q (.int d) H'
theorem ok__law_take {f : Addr} {fd : FuncData} (F : Fun K "_law_take" "_law_take" s__law_take f fd) (B : Bi mg) (C__law_mixed : Cl P w K mg base CX0 41 "_law_mixed" ["seed", "turn"] sp__law_mixed) : FnOk P w K mg base CX0 43 f fd ["box", "size"] sp__law_take := by
  refine F.ok sc__law_take (fun vs H Q E h => ?_) (fun cdv A outer s0 H vs Q E hr h => ?_)
  · obtain ⟨b, s, g, n, rfl, _⟩ := h; rfl
  · obtain ⟨b, s, g, n, rfl, ⟨bg, sb, sg, ss, gs, c2, c3, eb, es, hs, hsl, eg⟩, n0, n1, k⟩ := h
    have nd := sc__law_take.nd
    refine ⟨_, (pss_cons (ps_set (i := 2) nd rfl (.inl rfl) (pe_ix ix_list (pv 0) pe_int (fun _ _ => rfl)))
      (pss_cons (ps_set (i := 3) nd rfl (.inl rfl) (pe_ix ix_list (pv 0) pe_int (fun _ _ => rfl)))
      (pss_cons (ps_asg (pe_op op_add (pe_ix ix_list (pv 0) pe_int (fun _ _ => rfl)) pe_int) (pg_sub (pv 0) pe_int set_list))
      (pss_cons (ps_if (pt_tru (pv 3) (by intro _; rfl))
        (pss_cons (ps_set (i := 4) nd rfl (.inl rfl) (pe_op op_modN (pe_callTy cr_int (by rfl) B.int b_int (pa_cons (pe_ix ix_list (pv 3) pe_int (fun _ _ => rfl)) pa_nil)) (pv 1)))
        (pss_cons (ps_asg (pe_op op_fdivS (pe_ix ix_list (pv 3) pe_int (fun _ _ => rfl)) (pv 1)) (pg_sub (pv 3) pe_int set_list))
        (pss_cons (ps_asg (pe_op op_add (pe_ix ix_list (pv 0) pe_int (fun _ _ => rfl)) pe_int) (pg_sub (pv 0) pe_int set_list))
        (pss_cons (ps_if (PW.pt (pw_or (pt_cmpR op_eq (pe_ix ix_list (pv 3) pe_int (fun _ _ => rfl)) pe_int (nomark _)) (pw_or1 (pt_cmpR op_eq (pe_ix ix_list (pv 0) pe_int (fun _ _ => rfl)) pe_int (nomark _)))))
          (pss_cons (ps_expr (pe_bm PySem.F.plainAttrs_list PySem.F.slot_list_pop PySem.F.type_list_pop mt_popAt (pv 3) (pa_cons pe_int pa_nil)))
          (pss_one (ps_asg pe_int (pg_sub (pv 0) pe_int set_list))))
          pss_nil)
        (pss_one (ps_ret (pv 4)))))))
        pss_nil)
      (pss_one (ps_ret (pe_op op_modN (pe_callTy cr_int (by rfl) B.int b_int (pa_cons (pe_y C__law_mixed hr (by decide) pass0 (by rfl) (pa_cons (pe_ix ix_list (pv 2) (pe_op op_modN (pe_callTy cr_int (by rfl) B.int b_int (pa_cons (pe_ix ix_list (pv 0) pe_int (fun _ _ => rfl)) pa_nil)) (pe_callB cr_len (by rfl) B.len b_len (pa_cons (pv 2) pa_nil))) (fun _ _ => rfl)) (pa_cons (pe_ix ix_list (pv 0) pe_int (fun _ _ => rfl)) pa_nil))) pa_nil)) (pv 1)))))))), ?_⟩
    walk_at "rd"
    refine rd_ixLn 0 eb rfl rfl ?_
    walk_at "rd"
    refine rd_ixLn 1 eb rfl rfl ?_
    walk_at "rd"
    refine rd_ixLn 2 eb rfl rfl ?_
    walk_at "rd"
    refine rd_setL 2 eb rfl (show 2 < 4 by decide) fun H1 X1 E1 => ?_
    walk_at "rd"
    have eg1 := X1.at eg (by simpa using Ne.symm bg)
    have es1 := X1.at es (by simpa using sb)
    have n9 : n.natAbs.log2 < 9000 := Nat.lt_of_lt_of_le ((Nat.log2_lt (by omega)).mpr (show n.natAbs < 2 ^ 62 by omega)) (by decide)
    cases gs with
    | nil =>
      refine rd_tru0 eg1 ?_
      walk_at "rd"
      refine rd_ixLn 2 E1 rfl rfl ?_
      walk_at "rd"
      refine rd_lenL es1 ?_
      walk_at "rd"
      have sl : 0 < ss.length := List.length_pos_iff.mpr hs
      rw [List.length_map]
      refine rd_I (show (ss.length : Int) ≠ 0 by omega) ?_
      have f1 := fm_lo (i := c2 + 1) (j := ss.length) (by omega)
      have f2 := fm_hi (i := c2 + 1) (j := ss.length) (by omega)
      refine rd_ixLn ((c2 + 1).fmod ss.length).toNat es1 (by omega) (by rw [List.getElem?_map, List.getElem?_eq_getElem (by omega)]; rfl) ?_
      walk_at "rd"
      refine rd_ixLn 2 E1 rfl rfl ?_
      walk_at "rd"
      refine ⟨_, _, rfl, fun r => ?_⟩
      walk_at "rd"
      refine rd_I (show n ≠ 0 by omega) ?_
      exact k _ H1 (fm_lo n0) (fm_hi n0) (X1.sub (by simp)) ⟨bg, sb, sg, ss, [], _, _, E1, es1, hs, hsl, eg1⟩
    | cons x gr =>
      refine rd_tru1 eg1 ?_
      walk_at "rd"
      refine rd_ixLn 0 eg1 rfl rfl ?_
      walk_at "rd"
      refine rd_I (show n ≠ 0 by omega) ?_
      walk_at "rd"
      refine rd_ixLn 0 eg1 rfl rfl ?_
      walk_at "rd"
      refine rd_I (show n ≠ 0 ∧ n.natAbs.log2 < 9000 from ⟨by omega, n9⟩) ?_
      walk_at "rd"
      refine rd_setL 0 eg1 rfl (Nat.succ_pos _) fun H2 X2 E2 => ?_
      walk_at "rd"
      have eb2 := X2.at E1 (by simpa using bg)
      refine rd_ixLn 3 eb2 rfl rfl ?_
      walk_at "rd"
      refine rd_setL 3 eb2 rfl (show 3 < 4 by decide) fun H3 X3 E3 => ?_
      walk_at "rd"
      have eg3 := X3.at E2 (by simpa using Ne.symm bg)
      have es3 := X3.at (X2.at es1 (by simpa using sg)) (by simpa using sb)
      have X03 : Xt [b, g] H H3 := (X1.sub (by simp)).trans ((X2.sub (by simp)).trans (X3.sub (by simp)))
      have done : ∀ H', Xt [b, g] H3 H' → (∃ gs' : List Int, H' g = some (.lst (gs'.map V.int))) → (∃ i j : Int, H' b = some (.lst [.ref s, .ref g, .int i, .int j])) → Q (.int (x.fmod n)) H' := fun H' X' ⟨gs', e1⟩ ⟨i, j, e2⟩ =>
        k _ H' (fm_lo n0) (fm_hi n0) (X03.trans X') ⟨bg, sb, sg, ss, gs', i, j, e2, X'.at es3 (by simp; exact ⟨sb, sg⟩), hs, hsl, e1⟩
      have pop : ∀ H4, H4 = H3 → True := fun _ _ => trivial
      refine rd_ixLn 0 eg3 rfl rfl ?_
      walk_at "rd"
      refine rd_dec (fun h0 => ?_) fun h0 => ?_
      · walk_at "rd"
        refine ⟨tyL eg3, ?_⟩
        walk_at "rd"
        refine rd_popAt eg3 fun H4 X4 E4 => ?_
        walk_at "rd"
        have eb4 := X4.at E3 (by simpa using bg)
        refine rd_setL 3 eb4 rfl (show 3 < 4 by decide) fun H5 X5 E5 => ?_
        walk_at "rd"
        exact done H5 ((X4.sub (by simp)).trans (X5.sub (by simp))) ⟨gr, X5.at E4 (by simpa using Ne.symm bg)⟩ ⟨_, _, E5⟩
      · walk_at "rd"
        refine rd_ixLn 3 E3 rfl rfl ?_
        walk_at "rd"
        refine rd_dec (fun h1 => ?_) fun h1 => ?_
        · walk_at "rd"
          refine ⟨tyL eg3, ?_⟩
          walk_at "rd"
          refine rd_popAt eg3 fun H4 X4 E4 => ?_
          walk_at "rd"
          have eb4 := X4.at E3 (by simpa using bg)
          refine rd_setL 3 eb4 rfl (show 3 < 4 by decide) fun H5 X5 E5 => ?_
          walk_at "rd"
          exact done H5 ((X4.sub (by simp)).trans (X5.sub (by simp))) ⟨gr, X5.at E4 (by simpa using Ne.symm bg)⟩ ⟨_, _, E5⟩
        · walk_at "rd"
          exact done H3 (Xt.refl _) ⟨x.fdiv n :: gr, eg3⟩ ⟨_, _, E3⟩
/-! ### _law_is_integer -/
abbrev s__law_is_integer : Stmt := topS 23
theorem sc__law_is_integer : FnScope ["thing"] ["thing"] (defScope s__law_is_integer) := ⟨rfl, rfl, rfl, by decide +kernel, rfl, by decide +kernel, by decide +kernel⟩
def sp__law_is_integer : Sp := fun vs H Q _ => ∃ x, vs = [x] ∧ Kd H x ∧ Q (.bl (isI x)) H
theorem ok__law_is_integer {f : Addr} {fd : FuncData} (F : Fun K "_law_is_integer" "_law_is_integer" s__law_is_integer f fd) (B : Bi mg) : FnOk P w K mg base CX0 41 f fd ["thing"] sp__law_is_integer := by
  refine F.ok sc__law_is_integer (fun vs H Q E h => ?_) (fun cdv A outer s H vs Q E hr h => ?_)
  · obtain ⟨x, rfl, _⟩ := h; rfl
  · obtain ⟨x, rfl, kd, k⟩ := h
    have nd := sc__law_is_integer.nd
    refine ⟨_, (pss_one (ps_ret (pe_and (pe_callB call_isi (by rfl) B.isinstance b_isinstance (pa_cons (pv 0) (pa_cons (pe_bltn (v := .ty "int") (by rfl) B.int b_int rfl) pa_nil))) (pe_one (pe_not (pe_callB call_isi (by rfl) B.isinstance b_isinstance (pa_cons (pv 0) (pa_cons (pe_bltn (v := .ty "bool") (by rfl) B.bool b_bool rfl) pa_nil)))))))), ?_⟩
    walk_at "rd"
    refine rd_isInt kd (rd_blV ?_)
    rw [isI_eq] at k
    cases hx : isIB x with
    | false => rw [hx] at k; exact iteF k
    | true =>
      rw [hx] at k
      refine iteT ?_
      walk_at "rd"
      exact rd_isBool kd (rd_blV k)
/-! ### _law_integers -/
abbrev s__law_integers : Stmt := topS 24
theorem sc__law_integers : FnScope ["thing", "size", "one"] ["thing", "size"] (defScope s__law_integers) := ⟨rfl, rfl, rfl, by decide +kernel, rfl, by decide +kernel, by decide +kernel⟩
def sp__law_integers : Sp := fun vs H Q _ => ∃ (x : V) (n : Nat) (g : Bool), vs = [x, .int n] ∧ VecV H n x g ∧ ∀ H', Ex H H' → Q (.bl g) H'
theorem ok__law_integers {f : Addr} {fd : FuncData} (F : Fun K "_law_integers" "_law_integers" s__law_integers f fd) (B : Bi mg) (C__law_is_integer : Cl P w K mg base CX0 41 "_law_is_integer" ["thing"] sp__law_is_integer) : FnOk P w K mg base CX0 43 f fd ["thing", "size"] sp__law_integers := by
  refine F.ok sc__law_integers (fun vs H Q E h => ?_) (fun cdv A outer s H vs Q E hr h => ?_)
  · obtain ⟨x, n, g, rfl, _⟩ := h; rfl
  · obtain ⟨x, n, g, rfl, h, k⟩ := h
    have nd := sc__law_integers.nd
    refine ⟨_, (pss_cons (ps_if (PW.pt (pw_or (pt_not (pt_val (pe_callB call_isi (by rfl) B.isinstance b_isinstance (pa_cons (pv 0) (pa_cons (pe_bltn (v := .ty "tuple") (by rfl) B.tuple b_tuple rfl) pa_nil))))) (pw_or1 (pt_cmpR op_ne (pe_callB cr_len (by rfl) B.len b_len (pa_cons (pv 0) pa_nil)) (pv 1) (nomark _)))))
        (pss_one (ps_ret pe_bl))
        pss_nil)
      (pss_cons (ps_for PassesOwn.never rfl (pi_tup (pv 0)) (pg_name (i := 2) nd rfl (.inl rfl))
        (pss_one (ps_if (pt_not (pt_val (pe_y C__law_is_integer hr (by decide) pass0 (by rfl) (pa_cons (pv 2) pa_nil))))
          (pss_one (ps_ret pe_bl))
          pss_nil)))
      (pss_one (ps_ret pe_bl)))), ?_⟩
    walk_at "rd"
    rcases h with ⟨kx, rfl⟩ | ⟨a, xs, rfl, ea, hl, hk, rfl⟩
    · have kd : Kd H x := kx.elim .inl fun z => .inr (.inr (.inl z))
      have nr : isRf x = false := by rcases kx with ⟨i, rfl⟩ | ⟨z, rfl⟩ <;> rfl
      refine rd_isTup kd ?_
      rw [nr]
      walk_at "rd"
      exact k H Ex.rfl'
    · refine rd_isTup (.inr (.inr (.inr ⟨a, _, rfl, ea⟩))) ?_
      show ∃ k, V.bl true = .bl k ∧ _
      walk_at "rd"
      refine rd_lenT ea ?_
      walk_at "rd"
      refine rd_ndec (fun hn => ?_) fun hn => ?_
      · walk_at "rd"
        have e : decide (xs.length = n) = false := decide_eq_false (by omega)
        rw [e] at k
        exact k H Ex.rfl'
      · walk_at "rd"
        have e : decide (xs.length = n) = true := decide_eq_true (by omega)
        rw [e, Bool.true_and] at k
        refine rd_itT ea (for_w wkT (fun i σ H1 => (H1 = H ∧ ∀ (j : Nat) (y : V), j < i → xs[j]? = some y → isI y = true) ∧ ∃ o, σ = [some (.ref a), some (.int n), o]) ⟨⟨rfl, fun j y hj => by omega⟩, _, rfl⟩ (fun i σ H1 _ hP => by rw [hP.1.1]; exact ea) (fun i x σ H1 H2 hi hP y => ?_) fun σ H1 hP => ?_)
        · obtain ⟨⟨rfl, hg⟩, o, rfl⟩ := hP
          obtain ⟨rfl, hy⟩ := y
          walk_at "rd"
          refine ⟨x, rfl, hk x (List.mem_of_getElem? hy), ?_⟩
          cases hx : isI x with
          | false =>
            walk_at "rd"
            have e2 : xs.all isI = false := by
              rw [List.all_eq_false]
              exact ⟨x, List.mem_of_getElem? hy, by rw [hx]; decide⟩
            rw [e2] at k
            exact k _ Ex.rfl'
          | true =>
            walk_at "rd"
            refine ⟨⟨rfl, fun j z hj hz => ?_⟩, _, rfl⟩
            by_cases ji : j = i
            · rw [ji, hy] at hz; cases hz; exact hx
            · exact hg j z (by omega) hz
        · obtain ⟨⟨rfl, hg⟩, o, rfl⟩ := hP
          walk_at "rd"
          have e2 : xs.all isI = true := by
            rw [List.all_eq_true]
            intro y hy
            obtain ⟨j, hj⟩ := List.mem_iff_getElem?.mp hy
            exact hg j y (List.getElem?_eq_some_iff.mp hj).1 hj
          rw [e2] at k
          exact k _ Ex.rfl'
/-! ### _law_product -/
abbrev s__law_product : Stmt := topS 25
theorem sc__law_product : FnScope ["left", "right", "total", "k"] ["left", "right"] (defScope s__law_product) := ⟨rfl, rfl, rfl, by decide +kernel, rfl, by decide +kernel, by decide +kernel⟩
def sp__law_product : Sp := fun vs H Q _ => ∃ (a b : Addr) (n : Nat) (u v : Nat → Int), vs = [.ref a, .ref b] ∧ H a = some (.tup (vl n u)) ∧ H b = some (.lst (vl n v)) ∧ n ≤ 1000 ∧ (∀ j, j < n → IntMulOk (u j) (v j)) ∧ Q (.int (dt n u v)) H
theorem ok__law_product {f : Addr} {fd : FuncData} (F : Fun K "_law_product" "_law_product" s__law_product f fd) (B : Bi mg) : FnOk P w K mg base CX0 41 f fd ["left", "right"] sp__law_product := by
  refine F.ok sc__law_product (fun vs H Q E h => ?_) (fun cdv A outer s H vs Q E hr h => ?_)
  · obtain ⟨a, b, n, u, v, rfl, _⟩ := h; rfl
  · obtain ⟨a, b, n, u, v, rfl, ea, eb, hn, hm, k⟩ := h
    have nd := sc__law_product.nd
    refine ⟨_, (pss_cons (ps_set (i := 2) nd rfl (.inl rfl) pe_int)
      (pss_cons (ps_for PassesOwn.never rfl (pi_range1 (by rfl) B.range (pa_cons (pe_callB cr_len (by rfl) B.len b_len (pa_cons (pv 0) pa_nil)) pa_nil)) (pg_name (i := 3) nd rfl (.inl rfl))
        (pss_one (ps_set (i := 2) nd rfl (.inl rfl) (pe_op op_add (pv 2) (pe_op op_mulB (pe_ix ix_tup (pv 0) (pv 3) (fun _ _ => rfl)) (pe_ix ix_list (pv 1) (pv 3) (fun _ _ => rfl)))))))
      (pss_one (ps_ret (pv 2))))), ?_⟩
    walk_at "rd"
    refine rd_lenTt ea ?_
    walk_at "rd"
    refine rd_rg1 n rfl (by omega) (for_w wkR (fun i σ H1 => H1 = H ∧ ∃ o, σ = [some (.ref a), some (.ref b), some (.int (dt i u v)), o]) ⟨rfl, _, rfl⟩ (fun _ _ _ _ _ => trivial) (fun i x σ H1 H2 hi hP y => ?_) fun σ H1 hP => ?_)
    · obtain ⟨rfl, o, rfl⟩ := hP
      obtain ⟨rfl, ex⟩ := y
      obtain rfl : x = .int (i : Int) := by rw [ex]; exact congrArg V.int (by omega)
      walk_at "rd"
      refine rd_ixTt i ea rfl hi ?_
      walk_at "rd"
      refine rd_ixLt i eb rfl hi ?_
      refine rd_I (hm i hi) ?_
      walk_at "rd"
      exact ⟨rfl, _, rfl⟩
    · obtain ⟨rfl, o, rfl⟩ := hP
      walk_at "rd"
      exact k
theorem Bx.keep {H H' : Hp} {b s g : Addr} {S : List Addr} (x : Bx H b s g) (e : Xt S H H') (h1 : b ∉ S) (h2 : s ∉ S) (h3 : g ∉ S) : Bx H' b s g := by
  obtain ⟨q1, q2, q3, ss, gs, i, j, e1, e2, e3, e4, e5⟩ := x
  exact ⟨q1, q2, q3, ss, gs, i, j, e.at e1 h1, e.at e2 h2, e3, e4, e.at e5 h3⟩
theorem Bx.live {H : Hp} {b s g : Addr} (x : Bx H b s g) : H b ≠ none ∧ H s ≠ none ∧ H g ≠ none := by
  obtain ⟨q1, q2, q3, ss, gs, i, j, e1, e2, e3, e4, e5⟩ := x
  rw [e1, e2, e5]; exact ⟨by simp, by simp, by simp⟩
theorem Bx.new {H H1 H2 : Hp} {b s g D : Addr} (x0 : Bx H b s g) (x : Bx H1 b s g) (hD : H D = none) (e : Xt [D] H1 H2) : Bx H2 b s g := by
  obtain ⟨l1, l2, l3⟩ := x0.live
  refine x.keep e ?_ ?_ ?_ <;> · simp; rintro rfl; contradiction
theorem Bx.noT {b s g : Addr} : ∀ H1, Bx H1 b s g → ∀ a ∈ [b, g], ∀ xs, H1 a ≠ some (.tup xs) := fun H1 x a ha xs z => by
  obtain ⟨q1, q2, q3, ss, gs, i, j, e1, e2, e3, e4, e5⟩ := x
  rcases List.mem_cons.mp ha with rfl | ha
  · rw [e1] at z; cases z
  · rw [List.mem_singleton.mp ha, e5] at z; cases z
theorem Bx.bg {H : Hp} {b s g : Addr} (x : Bx H b s g) : ∀ a ∈ [b, g], H a ≠ none := fun a ha => by
  rcases List.mem_cons.mp ha with rfl | ha
  · exact x.live.1
  · rw [List.mem_singleton.mp ha]; exact x.live.2.2
theorem Bx.nin {H : Hp} {b s g D : Addr} (x : Bx H b s g) (h : H D = none) : D ∉ [b, g] := fun z => x.bg D z h
theorem Bx.tin {H : Hp} {b s g D : Addr} {xs : List V} (x : Bx H b s g) (h : H D = some (.tup xs)) : D ∉ [b, g] := fun z => x.noT H D z xs h
/-! ### _law_triple -/
abbrev s__law_triple : Stmt := topS 26
theorem sc__law_triple : FnScope ["box", "many", "wide", "numbers", "relation", "k"] ["box", "many", "wide"] (defScope s__law_triple) := ⟨rfl, rfl, rfl, by decide +kernel, rfl, by decide +kernel, by decide +kernel⟩
/-- what a drawn row is -/
def Trip (H : Hp) (T : Addr) (n wd : Nat) (u : Nat → Int) (q : Bool) (c : Int) : Prop := ∃ a, H T = some (.tup [.ref a, .str (rel q), .int c]) ∧ H a = some (.tup (vl n u)) ∧ (∀ j, j < n → (u j).natAbs ≤ wd) ∧ c.natAbs ≤ 9
def sp__law_triple : Sp := fun vs H Q _ => ∃ (b s g : Addr) (n : Nat) (wd : Nat), vs = [.ref b, .int n, .int wd] ∧ Bx H b s g ∧ n ≤ 1000 ∧ wd ≤ 10 ^ 9 ∧ ∀ (T : Addr) (u : Nat → Int) (q : Bool) (c : Int) (H' : Hp), Xt [b, g] H H' → Bx H' b s g → Trip H' T n wd u q c → Q (.ref T) H'
theorem ok__law_triple {f : Addr} {fd : FuncData} (F : Fun K "_law_triple" "_law_triple" s__law_triple f fd) (B : Bi mg) (C__law_take : Cl P w K mg base CX0 43 "_law_take" ["box", "size"] sp__law_take) : FnOk P w K mg base CX0 45 f fd ["box", "many", "wide"] sp__law_triple := by
  refine F.ok sc__law_triple (fun vs H Q E h => ?_) (fun cdv A outer s0 H vs Q E hr h => ?_)
  · obtain ⟨b, s, g, n, wd, rfl, _⟩ := h; rfl
  · obtain ⟨b, s, g, n, wd, rfl, hx, hn, hw, k⟩ := h
    have nd := sc__law_triple.nd
    refine ⟨_, (pss_cons (ps_set (i := 3) nd rfl (.inl rfl) (pe_callTy cr_tupOf (by rfl) B.tuple b_tuple (pa_cons (pe_lc (own := [("k", 5)]) rfl nd (pi_range1 (by rfl) B.range (pa_cons (pv 1) pa_nil)) (blkOk_by (by rfl)) (fun _ _ _ _ _ => (pg_name (i := 5) nd rfl (by first | exact .inl rfl | exact .inr rfl))) (fun _ _ _ _ _ => pts_nil) (fun _ _ _ _ _ => (pe_op op_sub (pe_y C__law_take hr (by decide) pass0 (by rfl) (pa_cons (pv 0) (pa_cons (pe_op op_add (pe_op op_mulB pe_int (pv 2)) pe_int) pa_nil))) (pv 2)))) pa_nil)))
      (pss_cons (ps_set (i := 4) nd rfl (.inl rfl) pe_str)
      (pss_cons (ps_if (pt_cmpR op_eq (pe_y C__law_take hr (by decide) pass0 (by rfl) (pa_cons (pv 0) (pa_cons pe_int pa_nil))) pe_int (nomark _))
        (pss_one (ps_set (i := 4) nd rfl (.inl rfl) pe_str))
        pss_nil)
      (pss_one (ps_ret (pe_tup (pa_cons (pv 3) (pa_cons (pv 4) (pa_cons (pe_op op_sub (pe_y C__law_take hr (by decide) pass0 (by rfl) (pa_cons (pv 0) (pa_cons pe_int pa_nil))) pe_int) pa_nil))))))))), ?_⟩
    walk_at "rd"
    refine rd_rg1 n rfl (by omega) (lc_eff wkR [b, g] (fun i acc H1 => Bx H1 b s g ∧ ∃ u : Nat → Int, acc = vl i u ∧ ∀ j, j < i → (u j).natAbs ≤ wd) hx.bg (by omega) (fun _ _ _ _ _ _ => trivial) (fun i acc H1 H2 D hD hR e => ⟨hx.new hR.1 hD e, hR.2⟩) ⟨hx, fun _ => 0, rfl, fun j hj => by omega⟩ (fun i x acc H1 H2 hi hl e hR y Pp hP => ?_) fun D acc H1 nD hl e hR eD => ?_)
    · obtain ⟨rfl, ex⟩ := y
      obtain ⟨hx2, u, rfl, hu⟩ := hR
      walk_at "rd"
      refine ⟨rfl, ?_⟩
      walk_at "rd"
      refine ⟨b, s, g, _, rfl, hx2, by omega, by omega, fun d H3 d0 d1 X3 hx3 => ?_⟩
      walk_at "rd"
      refine hP _ H3 X3 ⟨hx3, fun j => if j = i then d - wd else u j, ?_, fun j hj => ?_⟩
      · show _ = tab (i + 1) _
        rw [← tab_snoc]
        dsimp only
        rw [if_pos rfl]
        exact congrArg (· ++ _) (tab_ext fun j hj => by rw [if_neg (by omega)])
      · dsimp only
        by_cases h : j = i
        · rw [if_pos h]; omega
        · rw [if_neg h]; exact hu j (by omega)
    · obtain ⟨hx2, u, rfl, hu⟩ := hR
      walk_at "rd"
      refine rd_tupL eD fun a H3 na e3 ea => ?_
      walk_at "rd"
      have hx3 := hx2.ex e3
      refine ⟨b, s, g, 4, rfl, hx3, by decide, by decide, fun d H4 d0 d1 X4 hx4 => ?_⟩
      walk_at "rd"
      have ea4 := X4.at ea (hx3.tin ea)
      refine rd_ifG (fun σ' => ∃ (q : Bool) (o5 : Option V), σ' = [some (.ref b), some (.int n), some (.int wd), some (.ref a), some (.str (rel q)), o5]) (fun h1 tz hz => ?_) (fun h1 => ⟨false, _, rfl⟩) fun σ' hz => ?_
      · walk_at "rd"
        exact hz _ ⟨true, _, rfl⟩
      · obtain ⟨q, o5, rfl⟩ := hz
        walk_at "rd"
        refine ⟨b, s, g, 19, rfl, hx4, by decide, by decide, fun c H5 c0 c1 X5 hx5 => ?_⟩
        walk_at "rd"
        refine new_tup (sz (show 3 ≤ 100000 by decide)) fun T H6 nT e6 eT => ?_
        exact k T u q (c - 9) H6 (e.trans ((Ex.xt e3).trans (X4.trans (X5.trans (Ex.xt e6))))) (hx5.ex e6) ⟨a, eT, e6.at (X5.at ea4 (hx4.tin ea4)), hu, by omega⟩
end
end Sx
/-! drawn rows with an answer that is known -/
namespace Sx
open PySem PySem.Spec PyProof.Rows L2 Y
local macro_rules | `(tactic| walk_at "rd1") => `(tactic| first
  | with_reducible refine rd_var rfl ?_
  | with_reducible refine rd_op ?_
  | with_reducible refine rd_c ?_
  | with_reducible refine rd_I0 ?_
  | with_reducible refine rd_seq ?_
  | ((with_reducible refine rd_I ?_ ?_); focus (first | exact mulok_r (by decide) (by decide) | exact mulok_l (by decide) (by decide) | (show _ ≠ _; decide) | (show _ ∧ _; decide)))
  | with_reducible refine rd_asg ?_
  | with_reducible refine rd_name ?_
  | with_reducible refine rd_cb ?_
  | with_reducible refine rd_cons ?_
  | with_reducible refine rd_nil ?_
  | with_reducible refine rd_int ?_
  | with_reducible refine rd_eqI ?_
  | with_reducible refine rd_neI ?_
  | with_reducible refine rd_bl ?_
  | with_reducible refine rd_test ?_
  | with_reducible refine rd_tB ?_
  | with_reducible refine rd_ifS ?_
  | with_reducible refine rd_next ?_
  | with_reducible refine rd_T ?_
  | with_reducible refine rd_F ?_
  | with_reducible refine rd_nT ?_
  | with_reducible refine rd_nF ?_
  | with_reducible refine rd_blV ?_
  | with_reducible refine rd_ret ?_
  | with_reducible refine rd_call ?_
  | with_reducible refine rd_drop ?_
  | with_reducible refine rd_not ?_
  | with_reducible refine rd_and ?_
  | with_reducible refine rd_or ?_
  | with_reducible refine rd_un ?_
  | with_reducible refine rd_U ?_
  | with_reducible refine rd_tup ?_
  | with_reducible refine rd_lst ?_
  | with_reducible refine rd_if ?_
  | with_reducible refine rd_andV ?_
  | with_reducible refine rd_orV ?_
  | with_reducible refine rd_notV ?_
  | with_reducible refine rd_sl ?_
  | with_reducible refine rd_nopart ?_
  | with_reducible refine rd_part ?_
  | with_reducible refine rd_iv ?_
  | with_reducible refine rd_bm ?_
  | with_reducible refine rd_abs ?_
  | with_reducible refine rd_intb ?_
  | with_reducible refine rd_mx2 ?_
  | with_reducible refine rd_mn2 ?_
  | with_reducible refine rd_sub ?_
  | with_reducible refine rd_lc ?_
  | with_reducible refine rd_for ?_
  | with_reducible refine rd_iL ?_
  | with_reducible refine rd_iT ?_
  | with_reducible refine rd_r1 ?_
  | with_reducible refine rd_r2 ?_
  | with_reducible refine rd_iZ ?_
  | with_reducible refine rd_iZM ?_
  | with_reducible refine rd_while ?_
  | with_reducible refine rd_tru ?_
  | with_reducible refine rd_brk ?_
  | with_reducible refine rd_par ?_
  | with_reducible refine rd_par2 ?_
  | with_reducible refine rd_bits ?_
  | with_reducible refine rd_callS ?_)
local macro_rules | `(tactic| walk_at "rd") => `(tactic| repeat walk_at "rd1")

/-! ### cutting lists -/
theorem cut_lo {xs : List V} {d : Nat} (h : d ≤ xs.length) : cutV xs none (some (d : Int)) = xs.take d := by
  unfold cutV
  have e1 : HT.sIx xs.length 0 none = 0 := rfl
  have e2 : HT.sIx xs.length xs.length (some (d : Int)) = d := by
    rw [HT.sIx_nat xs.length xs.length d]; omega
  rw [e1, e2, List.drop_zero, Nat.sub_zero]
theorem cut_hi {xs : List V} {d : Nat} (h : d ≤ xs.length) : cutV xs (some (d : Int)) none = xs.drop d := by
  unfold cutV
  have e1 : HT.sIx xs.length xs.length none = xs.length := rfl
  have e2 : HT.sIx xs.length 0 (some (d : Int)) = d := by
    rw [HT.sIx_nat xs.length 0 d]; omega
  rw [e1, e2, List.take_of_length_le (by rw [List.length_drop]; exact Nat.le_refl _)]
theorem tab_none {n i : Nat} {f : Nat → V} (h : n ≤ i) : (tab n f)[i]? = none := List.getElem?_eq_none (by rw [tab_len]; exact h)
theorem ins_tab {m d : Nat} {f : Nat → V} {x : V} (h : d ≤ m) : (tab m f).take d ++ [x] ++ (tab m f).drop d = tab (m + 1) fun i => if i < d then f i else if i = d then x else f (i - 1) := by
  have tl : ((tab m f).take d).length = d := by rw [List.length_take, tab_len]; omega
  refine List.ext_getElem? fun i => ?_
  rw [List.append_assoc]
  by_cases h1 : i < d
  · rw [List.getElem?_append_left (by omega), List.getElem?_take_of_lt h1, tab_get (by omega), tab_get (by omega), if_pos h1]
  · rw [List.getElem?_append_right (by omega), tl]
    by_cases h2 : i = d
    · subst h2
      rw [Nat.sub_self, tab_get (by omega), if_neg h1, if_pos rfl]; rfl
    · obtain ⟨j, rfl⟩ : ∃ j, i = d + 1 + j := ⟨i - d - 1, by omega⟩
      rw [show d + 1 + j - d = j + 1 by omega]
      show ((tab m f).drop d)[j]? = _
      rw [List.getElem?_drop]
      by_cases h3 : d + j < m
      · rw [tab_get h3, tab_get (by omega), if_neg h1, if_neg h2]
        rw [show d + 1 + j - 1 = d + j by omega]
      · rw [tab_none (by omega), tab_none (by omega)]
theorem rep_tab {m d : Nat} {f : Nat → V} {x : V} (h : d < m) : (tab m f).take d ++ [x] ++ (tab m f).drop (d + 1) = tab m fun i => if i = d then x else f i := by
  have tl : ((tab m f).take d).length = d := by rw [List.length_take, tab_len]; omega
  refine List.ext_getElem? fun i => ?_
  rw [List.append_assoc]
  by_cases h1 : i < d
  · rw [List.getElem?_append_left (by omega), List.getElem?_take_of_lt h1, tab_get (by omega), tab_get (by omega), if_neg (by omega)]
  · rw [List.getElem?_append_right (by omega), tl]
    by_cases h2 : i = d
    · subst h2
      rw [Nat.sub_self, tab_get (by omega), if_pos rfl]; rfl
    · obtain ⟨j, rfl⟩ : ∃ j, i = d + 1 + j := ⟨i - d - 1, by omega⟩
      rw [show d + 1 + j - d = j + 1 by omega]
      show ((tab m f).drop (d + 1))[j]? = _
      rw [List.getElem?_drop]
      by_cases h3 : d + 1 + j < m
      · rw [tab_get h3, tab_get (by omega), if_neg h2]
      · rw [tab_none (by omega), tab_none (by omega)]
theorem del_tab {m d : Nat} {f : Nat → V} (h : d < m) : (tab m f).take d ++ (tab m f).drop (d + 1) = tab (m - 1) fun i => if i < d then f i else f (i + 1) := by
  have tl : ((tab m f).take d).length = d := by rw [List.length_take, tab_len]; omega
  refine List.ext_getElem? fun i => ?_
  by_cases h1 : i < d
  · rw [List.getElem?_append_left (by omega), List.getElem?_take_of_lt h1, tab_get (by omega), tab_get (by omega), if_pos h1]
  · rw [List.getElem?_append_right (by omega), tl, List.getElem?_drop]
    rw [show d + 1 + (i - d) = i + 1 by omega]
    by_cases h3 : i + 1 < m
    · rw [tab_get h3, tab_get (by omega), if_neg h1]
    · rw [tab_none (by omega), tab_none (by omega)]
/-! ### drawn rows -/
theorem Xt.fr {S : List Addr} {H H1 H2 : Hp} {p : Addr} (a : Xt S H H1) (b : Xt [p] H1 H2) (h : H p = none) : Xt S H H2 := fun x o n q =>
  b x o (fun z => by rw [List.mem_singleton.mp z, h] at q; cases q) (a x o n q)
def NoT (S : List Addr) (H : Hp) : Prop := ∀ a ∈ S, ∀ xs, H a ≠ some (.tup xs)
theorem Bx.nt {H : Hp} {b s g : Addr} (x : Bx H b s g) : NoT [b, g] H := x.noT H
theorem nt_lst {H : Hp} {p : Addr} {xs : List V} (h : H p = some (.lst xs)) : NoT [p] H := fun a ha ys z => by rw [List.mem_singleton.mp ha, h] at z; cases z
theorem tup_to {S : List Addr} {H H' : Hp} {a : Addr} {xs : List V} (e : Xt S H H') (nt : NoT S H) (h : H a = some (.tup xs)) : H' a = some (.tup xs) := e.at h fun z => nt a z xs h
/-- a row of n numbers, none above B -/
def Rw1 (H : Hp) (x : V) (n B : Nat) : Prop := ∃ T a u q c, x = .ref T ∧ H T = some (.tup [.ref a, .str (rel q), .int c]) ∧ H a = some (.tup (vl n u)) ∧ c.natAbs ≤ B ∧ ∀ j, j < n → (u j).natAbs ≤ B
theorem Rw1.to {S : List Addr} {H H' : Hp} {x : V} {n B : Nat} (h : Rw1 H x n B) (e : Xt S H H') (nt : NoT S H) : Rw1 H' x n B := by
  obtain ⟨T, a, u, q, c, h1, h2, h3, h4, h5⟩ := h
  exact ⟨T, a, u, q, c, h1, tup_to e nt h2, tup_to e nt h3, h4, h5⟩
theorem Rw1.up {H : Hp} {x : V} {n B B' : Nat} (h : Rw1 H x n B) (hb : B ≤ B') : Rw1 H x n B' := by
  obtain ⟨T, a, u, q, c, h1, h2, h3, h4, h5⟩ := h
  exact ⟨T, a, u, q, c, h1, h2, h3, by omega, fun j hj => Nat.le_trans (h5 j hj) hb⟩
theorem Trip.rw {H : Hp} {T : Addr} {n wd B : Nat} {u : Nat → Int} {q : Bool} {c : Int} (h : Trip H T n wd u q c) (h1 : wd ≤ B) (h2 : 9 ≤ B) : Rw1 H (.ref T) n B := by
  obtain ⟨a, h3, h4, h5, h6⟩ := h
  exact ⟨T, a, u, q, c, rfl, h3, h4, by omega, fun j hj => Nat.le_trans (h5 j hj) h1⟩
theorem nt_ex {H : Hp} : NoT [] H := fun a ha => by cases ha
/-- a list of m rows -/
def LR (H : Hp) (p : Addr) (n m B : Nat) : Prop := ∃ f : Nat → V, H p = some (.lst (tab m f)) ∧ ∀ k, k < m → Rw1 H (f k) n B
theorem LR.to {S : List Addr} {H H' : Hp} {p : Addr} {n m B : Nat} (h : LR H p n m B) (e : Xt S H H') (nt : NoT S H) (np : p ∉ S) : LR H' p n m B := by
  obtain ⟨f, h1, h2⟩ := h
  exact ⟨f, e.at h1 np, fun k hk => (h2 k hk).to e nt⟩
theorem LR.ex {H H' : Hp} {p : Addr} {n m B : Nat} (h : LR H p n m B) (e : Ex H H') : LR H' p n m B := h.to e nt_ex (by simp)
theorem LR.up {H : Hp} {p : Addr} {n m B B' : Nat} (h : LR H p n m B) (hb : B ≤ B') : LR H p n m B' := by
  obtain ⟨f, h1, h2⟩ := h
  exact ⟨f, h1, fun k hk => (h2 k hk).up hb⟩
theorem sm_abs {f : Nat → Int} {B : Nat} : ∀ {n : Nat}, (∀ i, i < n → (f i).natAbs ≤ B) → (sm n f).natAbs ≤ n * B
  | 0, _ => Nat.zero_le _
  | n + 1, h => by
    have h1 := sm_abs (n := n) fun i hi => h i (by omega)
    have h2 := h n (by omega)
    show (sm n f + f n).natAbs ≤ _
    rw [Nat.add_mul]
    omega
section
variable {P : Program} {w : World} {K : PySem.W.Frag} {mg : Str → Option Value} {base : Heap}
/-! ### _law_through -/
abbrev s__law_through : Stmt := topS 27
theorem sc__law_through : FnScope ["box", "many", "rows", "below", "point", "found", "numbers", "relation", "most", "total", "slack", "k", "one"] ["box", "many", "rows"] (defScope s__law_through) := ⟨rfl, rfl, rfl, by decide +kernel, rfl, by decide +kernel, by decide +kernel⟩
def BB : Nat := 10 ^ 11
def sp__law_through : Sp := fun vs H Q _ => ∃ (b s g p : Addr) (n m : Nat), vs = [.ref b, .int n, .ref p] ∧ Bx H b s g ∧ n ≤ 7 ∧ m ≤ 100 ∧ LR H p n m (10 ^ 9) ∧ p ∉ [b, g] ∧ ∀ (p' : Addr) (H' : Hp), Xt [b, g] H H' → Bx H' b s g → LR H' p' n m BB → p' ∉ [b, g] → Q (.ref p') H'
theorem ok__law_through {f : Addr} {fd : FuncData} (F : Fun K "_law_through" "_law_through" s__law_through f fd) (B : Bi mg) (C__law_take : Cl P w K mg base CX0 43 "_law_take" ["box", "size"] sp__law_take) (C__law_product : Cl P w K mg base CX0 41 "_law_product" ["left", "right"] sp__law_product) : FnOk P w K mg base CX0 45 f fd ["box", "many", "rows"] sp__law_through := by
  refine F.ok sc__law_through (fun vs H Q E h => ?_) (fun cdv A outer s0 H vs Q E hr h => ?_)
  · obtain ⟨b, s, g, p, n, m, rfl, _⟩ := h; rfl
  · obtain ⟨b, s, g, p, n, m, rfl, hx, hn, hm, hL, hp, k⟩ := h
    have nd := sc__law_through.nd
    refine ⟨_, (pss_cons (ps_set (i := 3) nd rfl (.inr rfl) (pe_op op_add pe_int (pe_y C__law_take hr (by decide) pass0 (by rfl) (pa_cons (pv 0) (pa_cons pe_int pa_nil)))))
      (pss_cons (ps_setLc (i := 4) (own := [("k", 11)]) rfl nd rfl rfl (sw_true rfl rfl rfl (by decide +kernel)) (pi_range1 (by rfl) B.range (pa_cons (pv 1) pa_nil)) (blkOk_by (by rfl)) (fun _ _ _ _ _ => (pg_name (i := 11) nd rfl (by first | exact .inl rfl | exact .inr rfl))) (fun _ _ _ _ _ => pts_nil) (fun _ _ _ _ _ => (pe_op op_sub (pe_y C__law_take hr (by decide) pass0 (by rfl) (pa_cons (pv 0) (pa_cons pe_int pa_nil))) pe_int)))
      (pss_cons (ps_set (i := 5) nd rfl (.inl rfl) (pe_lst pa_nil))
      (pss_cons (ps_for PassesOwn.never rfl (pi_list (pv 2)) (pg_tup (n := 3) (by rfl) (pgs_cons (pg_name (i := 6) nd rfl (.inl rfl)) (pgs_cons (pg_name (i := 7) nd rfl (.inl rfl)) (pgs_cons (pg_name (i := 8) nd rfl (.inl rfl)) pgs_nil))))
        (pss_cons (ps_set (i := 9) nd rfl (.inl rfl) (pe_y C__law_product hr (by decide) pass0 (by rfl) (pa_cons (pv 6) (pa_cons (pv 4) pa_nil))))
        (pss_cons (ps_set (i := 10) nd rfl (.inl rfl) (pe_y C__law_take hr (by decide) pass0 (by rfl) (pa_cons (pv 0) (pa_cons pe_int pa_nil))))
        (pss_one (ps_if (pt_cmpR op_eq (pv 7) pe_str (nomark _))
          (pss_one (ps_expr (pe_bm PySem.F.plainAttrs_list PySem.F.slot_list_append PySem.F.type_list_append mt_append (pv 5) (pa_cons (pe_tup (pa_cons (pe_callTy cr_tupOf (by rfl) B.tuple b_tuple (pa_cons (pe_lc (own := [("one", 12)]) rfl nd (pi_tup (pv 6)) (blkOk_by (by rfl)) (fun _ _ _ _ _ => (pg_name (i := 12) nd rfl (by first | exact .inl rfl | exact .inr rfl))) (fun _ _ _ _ _ => pts_nil) (fun _ _ _ _ _ => (pe_op op_mulB (pv 3) (pv 12)))) pa_nil)) (pa_cons (pv 7) (pa_cons (pv 9) pa_nil)))) pa_nil))))
          (pss_one (ps_expr (pe_bm PySem.F.plainAttrs_list PySem.F.slot_list_append PySem.F.type_list_append mt_append (pv 5) (pa_cons (pe_tup (pa_cons (pv 6) (pa_cons (pv 7) (pa_cons (pe_op op_sub (pv 10) (pe_op op_fdivS (pe_op op_sub pe_int (pv 9)) (pv 3))) pa_nil)))) pa_nil)))))))))
      (pss_one (ps_ret (pv 5))))))), ?_⟩
    walk_at "rd"
    refine ⟨b, s, g, 6, rfl, hx, by decide, by decide, fun d H1 d0 d1 X1 hx1 => ?_⟩
    walk_at "rd"
    refine rd_rg1 n rfl (by omega) (lc_eff wkR [b, g] (fun i acc H1 => Bx H1 b s g ∧ ∃ u : Nat → Int, acc = vl i u ∧ ∀ j, j < i → (u j).natAbs ≤ 7) hx1.bg (by omega) (fun _ _ _ _ _ _ => trivial) (fun i acc H1 H2 D hD hR e => ⟨hx1.new hR.1 hD e, hR.2⟩) ⟨hx1, fun _ => 0, rfl, fun j hj => by omega⟩ (fun i x acc H1 H2 hi hl e hR y Pp hP => ?_) fun D acc H2 nD hl X2 hR eD => ?_)
    · obtain ⟨rfl, ex⟩ := y
      obtain ⟨hx2, u, rfl, hu⟩ := hR
      walk_at "rd"
      refine ⟨rfl, ?_⟩
      walk_at "rd"
      refine ⟨b, s, g, 15, rfl, hx2, by omega, by omega, fun d H3 d0 d1 X3 hx3 => ?_⟩
      walk_at "rd"
      refine hP _ H3 X3 ⟨hx3, fun j => if j = i then d - 7 else u j, ?_, fun j hj => ?_⟩
      · show _ = tab (i + 1) _
        rw [← tab_snoc]
        dsimp only
        rw [if_pos rfl]
        exact congrArg (· ++ _) (tab_ext fun j hj => by rw [if_neg (by omega)])
      · dsimp only
        by_cases h : j = i
        · rw [if_pos h]; omega
        · rw [if_neg h]; exact hu j (by omega)
    · obtain ⟨hx2, v, rfl, hv⟩ := hR
      walk_at "rd"
      refine ⟨sz (show 0 ≤ 100000 by decide), fun F0 nF => ?_⟩
      have e3 : Ex H2 (upd H2 F0 (.lst [])) := ex_new nF
      have eF : upd H2 F0 (.lst []) F0 = some (.lst []) := upd_same
      generalize upd H2 F0 (HO.lst []) = H3 at e3 eF ⊢
      have hx3 := hx2.ex e3
      have X03 : Xt [b, g] H H3 := X1.trans (X2.trans (Ex.xt e3))
      have nFb : F0 ∉ [b, g] := hx2.nin nF
      have nFH : H F0 = none := fresh_of (X1.trans X2) nF nFb
      have nDb : D ∉ [b, g] := hx1.nin nD
      have DF : D ≠ F0 := fun z => by rw [z, nF] at eD; cases eD
      walk_at "rd"
      obtain ⟨fr, epr, hrw⟩ := id hL
      refine rd_itL (X03.at epr hp) (for_w (wkLt (n := m) (f := fr)) (fun i σ H4 => (Xt [b, g] H H4 ∧ Bx H4 b s g ∧ H4 D = some (.lst (vl n v)) ∧ LR H4 F0 n i BB) ∧ ∃ o6 o7 o8 o9 o10 o11 o12, σ = [some (.ref b), some (.int n), some (.ref p), some (.int (1 + d)), some (.ref D), some (.ref F0), o6, o7, o8, o9, o10, o11, o12])
        ⟨⟨X03, hx3, e3.at eD, fun _ => .non, eF, fun k hk => by omega⟩, _, _, _, _, _, _, _, rfl⟩ (fun i σ H4 _ hP => hP.1.1.at epr hp) (fun i x σ H4 H5 hi hP y => ?_) fun σ H4 hP => ?_)
      · obtain ⟨⟨X4, hx4, eD4, hLF⟩, o6, o7, o8, o9, o10, o11, o12, rfl⟩ := hP
        obtain ⟨rfl, rfl⟩ := y
        obtain ⟨T, a, u, q, c, exT, eT, ea, hc, hu⟩ := (hrw i hi).to X4 hx.nt
        rw [exT]
        refine rd_gtrip eT ?_
        walk_at "rd"
        have hu9 : ∀ j, j < n → (u j * v j).natAbs ≤ 7 * 10 ^ 9 := fun j hj => by
          rw [Int.natAbs_mul, Nat.mul_comm 7]
          exact Nat.mul_le_mul (hu j hj) (hv j hj)
        have tot : (dt n u v).natAbs ≤ 7 * (7 * 10 ^ 9) := Nat.le_trans (sm_abs hu9) (Nat.mul_le_mul_right _ hn)
        refine ⟨a, D, n, u, v, rfl, ea, eD4, by omega, fun j hj => mulok_r (by have := hv j hj; omega) (by have := hv j hj; omega), ?_⟩
        walk_at "rd"
        refine ⟨b, s, g, 3, rfl, hx4, by decide, by decide, fun d3 H6 d30 d31 X6 hx6 => ?_⟩
        walk_at "rd"
        have eT6 := X6.at eT (hx4.tin eT)
        have ea6 := X6.at ea (hx4.tin ea)
        have eD6 := X6.at eD4 nDb
        have hLF6 := hLF.to X6 hx4.nt nFb
        obtain ⟨ff, eF6, hff⟩ := hLF6
        have nxt : ∀ (x : V) (H7 H8 : Hp), Ex H6 H7 → Rw1 H7 x n BB → Xt [F0] H7 H8 → H8 F0 = some (.lst (tab i ff ++ [x])) → Xt [b, g] H H8 ∧ Bx H8 b s g ∧ H8 D = some (.lst (vl n v)) ∧ LR H8 F0 n (i + 1) BB := fun x H7 H8 e7 hx7 X8 e8 => by
          have nt8 : NoT [F0] H7 := nt_lst (e7.at eF6)
          refine ⟨Xt.fr (X4.trans (X6.trans (Ex.xt e7))) X8 nFH, hx.new (hx6.ex e7) nFH X8, X8.at (e7.at eD6) (by simpa using DF), fun k => if k = i then x else ff k, ?_, fun k hk => ?_⟩
          · rw [e8, ← tab_snoc]
            refine congrArg (fun z => some (HO.lst z)) (congr (congrArg _ (tab_ext fun j hj => by rw [if_neg (by omega)])) ?_)
            rw [if_pos rfl]
          · show Rw1 H8 (if k = i then x else ff k) n BB
            by_cases h : k = i
            · rw [if_pos h]; exact hx7.to X8 nt8
            · rw [if_neg h]; exact ((hff k (by omega)).to (Ex.xt e7) nt_ex).to X8 nt8
        refine rd_eq rfl ?_
        walk_at "rd"
        refine rd_dec (fun h1 => ?_) fun h1 => ?_
        · walk_at "rd"
          refine ⟨tyL eF6, ?_⟩
          walk_at "rd"
          refine rd_itT ea6 (lc_pure (wkTt (n := n) (f := fun j => .int (u j))) (fun j => .int ((1 + d) * u j)) (by omega) (fun H' e => e.at ea6) (fun j x H7 H8 hj e7 y Pp hP => ?_) fun D2 H7 nD2 e7 eD2 => ?_)
          · obtain ⟨rfl, rfl⟩ := y
            walk_at "rd"
            refine ⟨rfl, ?_⟩
            walk_at "rd"
            refine rd_I (mulok_l (by omega) (by omega)) ?_
            exact hP _ Ex.rfl'
          · walk_at "rd"
            refine rd_tupL eD2 fun a2 H8 na2 e8 ea2 => ?_
            walk_at "rd"
            refine ⟨sz (show 3 ≤ 100000 by decide), fun T2 nT2 => ?_⟩
            have e9 : Ex H8 (upd H8 T2 (.tup [.ref a2, .str (rel q), .int (dt n u v)])) := ex_new nT2
            have eT2 : upd H8 T2 (.tup [.ref a2, .str (rel q), .int (dt n u v)]) T2 = some (.tup [.ref a2, .str (rel q), .int (dt n u v)]) := upd_same
            generalize upd H8 T2 (HO.tup [.ref a2, .str (rel q), .int (dt n u v)]) = H9 at e9 eT2 ⊢
            have e69 : Ex H6 H9 := Xt.trans e7 (Xt.trans e8 e9)
            walk_at "rd"
            refine rd_append (e69.at eF6) (szl (by rw [tab_len]; omega)) fun H10 X10 e10 => ?_
            refine ⟨nxt _ H9 H10 e69 ⟨T2, a2, _, q, _, rfl, eT2, e9.at ea2, ?_, fun j hj => ?_⟩ X10 e10, _, _, _, _, _, _, _, rfl⟩
            · unfold BB; omega
            · rw [Int.natAbs_mul]
              have := Nat.mul_le_mul (show (1 + d).natAbs ≤ 6 by omega) (hu j hj)
              unfold BB; omega
        · walk_at "rd"
          refine ⟨tyL eF6, ?_⟩
          walk_at "rd"
          have hd1 : (1 + d).natAbs ≤ 6 := by omega
          refine rd_I ⟨by omega, Nat.lt_of_lt_of_le ((Nat.log2_lt (by omega)).mpr (show (1 + d).natAbs < 2 ^ 3 by omega)) (by decide)⟩ ?_
          walk_at "rd"
          refine ⟨sz (show 3 ≤ 100000 by decide), fun T2 nT2 => ?_⟩
          have e9 : Ex H6 (upd H6 T2 (.tup [.ref a, .str (rel q), .int (d3 - (0 - dt n u v).fdiv (1 + d))])) := ex_new nT2
          have eT2 : upd H6 T2 (.tup [.ref a, .str (rel q), .int (d3 - (0 - dt n u v).fdiv (1 + d))]) T2 = some (.tup [.ref a, .str (rel q), .int (d3 - (0 - dt n u v).fdiv (1 + d))]) := upd_same
          generalize upd H6 T2 (HO.tup [.ref a, .str (rel q), .int (d3 - (0 - dt n u v).fdiv (1 + d))]) = H9 at e9 eT2 ⊢
          walk_at "rd"
          refine rd_append (Ex.at e9 eF6) (szl (by rw [tab_len]; omega)) fun H10 X10 e10 => ?_
          refine ⟨nxt _ H9 H10 e9 ⟨T2, a, u, q, _, rfl, eT2, Ex.at e9 ea6, ?_, fun j hj => ?_⟩ X10 e10, _, _, _, _, _, _, _, rfl⟩
          · have := fdiv_le (a := 0 - dt n u v) (g := (1 + d).toNat) (by omega)
            rw [show (((1 + d).toNat : Nat) : Int) = 1 + d by omega] at this
            unfold BB; omega
          · have := hu j hj
            unfold BB; omega
      · obtain ⟨⟨X4, hx4, eD4, hLF⟩, o6, o7, o8, o9, o10, o11, o12, rfl⟩ := hP
        walk_at "rd"
        exact k F0 H4 X4 hx4 hLF nFb
end
end Sx
/-! drawn rows with a clash that is known -/
namespace Sx
open PySem PySem.Spec PyProof.Rows L2 Y
local macro_rules | `(tactic| walk_at "rd1") => `(tactic| first
  | with_reducible refine rd_var rfl ?_
  | with_reducible refine rd_op ?_
  | with_reducible refine rd_c ?_
  | with_reducible refine rd_I0 ?_
  | with_reducible refine rd_seq ?_
  | ((with_reducible refine rd_I ?_ ?_); focus (first | exact mulok_r (by decide) (by decide) | exact mulok_l (by decide) (by decide) | (show _ ≠ _; decide) | (show _ ∧ _; decide)))
  | with_reducible refine rd_asg ?_
  | with_reducible refine rd_name ?_
  | with_reducible refine rd_cb ?_
  | with_reducible refine rd_cons ?_
  | with_reducible refine rd_nil ?_
  | with_reducible refine rd_int ?_
  | with_reducible refine rd_eqI ?_
  | with_reducible refine rd_neI ?_
  | with_reducible refine rd_bl ?_
  | with_reducible refine rd_test ?_
  | with_reducible refine rd_tB ?_
  | with_reducible refine rd_ifS ?_
  | with_reducible refine rd_next ?_
  | with_reducible refine rd_T ?_
  | with_reducible refine rd_F ?_
  | with_reducible refine rd_nT ?_
  | with_reducible refine rd_nF ?_
  | with_reducible refine rd_blV ?_
  | with_reducible refine rd_ret ?_
  | with_reducible refine rd_call ?_
  | with_reducible refine rd_drop ?_
  | with_reducible refine rd_not ?_
  | with_reducible refine rd_and ?_
  | with_reducible refine rd_or ?_
  | with_reducible refine rd_un ?_
  | with_reducible refine rd_U ?_
  | with_reducible refine rd_tup ?_
  | with_reducible refine rd_lst ?_
  | with_reducible refine rd_if ?_
  | with_reducible refine rd_andV ?_
  | with_reducible refine rd_orV ?_
  | with_reducible refine rd_notV ?_
  | with_reducible refine rd_sl ?_
  | with_reducible refine rd_nopart ?_
  | with_reducible refine rd_part ?_
  | with_reducible refine rd_iv ?_
  | with_reducible refine rd_bm ?_
  | with_reducible refine rd_abs ?_
  | with_reducible refine rd_intb ?_
  | with_reducible refine rd_mx2 ?_
  | with_reducible refine rd_mn2 ?_
  | with_reducible refine rd_sub ?_
  | with_reducible refine rd_lc ?_
  | with_reducible refine rd_for ?_
  | with_reducible refine rd_iL ?_
  | with_reducible refine rd_iT ?_
  | with_reducible refine rd_r1 ?_
  | with_reducible refine rd_r2 ?_
  | with_reducible refine rd_iZ ?_
  | with_reducible refine rd_iZM ?_
  | with_reducible refine rd_while ?_
  | with_reducible refine rd_tru ?_
  | with_reducible refine rd_brk ?_
  | with_reducible refine rd_par ?_
  | with_reducible refine rd_par2 ?_
  | with_reducible refine rd_bits ?_
  | with_reducible refine rd_callS ?_)
local macro_rules | `(tactic| walk_at "rd") => `(tactic| repeat walk_at "rd1")

/-- an if with else whose branches both go on -/
theorem rd_ifB {p : Prop} [Decidable p] {tu tw : TS} {σ : L2.St} {H : Hp} {tz bk ct : L2.St → Hp → Prop} {dr : VK} (G : L2.St → Hp → Prop) (h1 : p → ∀ tz' : L2.St → Hp → Prop, (∀ σ' H', G σ' H' → tz' σ' H') → tu { nx := tz', rt := dr, bk := bk, ct := ct } σ H)
    (h2 : ¬ p → ∀ tz' : L2.St → Hp → Prop, (∀ σ' H', G σ' H' → tz' σ' H') → tw { nx := tz', rt := dr, bk := bk, ct := ct } σ H) (hk : ∀ σ' H', G σ' H' → tz σ' H') : if decide p = true then tu { nx := tz, rt := dr, bk := bk, ct := ct } σ H else tw { nx := tz, rt := dr, bk := bk, ct := ct } σ H := by
  by_cases hp : p
  · rw [decide_eq_true hp]; exact h1 hp tz hk
  · rw [decide_eq_false hp]; exact h2 hp tz hk
section
variable {P : Program} {w : World} {K : PySem.W.Frag} {mg : Str → Option Value} {base : Heap}
abbrev s__law_against : Stmt := topS 28
theorem sc__law_against : FnScope ["box", "many", "rows", "shares", "sums", "bound", "numbers", "relation", "most", "share", "at", "last", "k"] ["box", "many", "rows"] (defScope s__law_against) := ⟨rfl, rfl, rfl, by decide +kernel, rfl, by decide +kernel, by decide +kernel⟩
theorem rel_at {d : Int} (h0 : 0 ≤ d) (h1 : d < 3) : ∃ q, ([.str "atmost", .str "atmost", .str "equal"] : List V)[d.toNat]? = some (.str (rel q)) := by
  have : d = 0 ∨ d = 1 ∨ d = 2 := by omega
  rcases this with rfl | rfl | rfl
  · exact ⟨false, rfl⟩
  · exact ⟨false, rfl⟩
  · exact ⟨true, rfl⟩
def sp__law_against : Sp := fun vs H Q _ => ∃ (b s g p : Addr) (n m : Nat), vs = [.ref b, .int n, .ref p] ∧ Bx H b s g ∧ n ≤ 7 ∧ m ≤ 20 ∧ LR H p n m (10 ^ 9) ∧ p ∉ [b, g] ∧
  ∀ (T p' t : Addr) (y : Nat → Int) (H' : Hp), Xt [b, g] H H' → Bx H' b s g → H' T = some (.tup [.ref p', .ref t]) → LR H' p' n (m + 1) BB → p' ∉ [b, g] → H' t = some (.tup (vl (m + 1) y)) → (∀ j, j < m + 1 → (y j).natAbs ≤ 4) → Q (.ref T) H'
theorem ok__law_against {f : Addr} {fd : FuncData} (F : Fun K "_law_against" "_law_against" s__law_against f fd) (B : Bi mg) (C__law_take : Cl P w K mg base CX0 43 "_law_take" ["box", "size"] sp__law_take) : FnOk P w K mg base CX0 45 f fd ["box", "many", "rows"] sp__law_against := by
  refine F.ok sc__law_against (fun vs H Q E h => ?_) (fun cdv A outer s0 H vs Q E hr h => ?_)
  · obtain ⟨b, s, g, p, n, m, rfl, _⟩ := h; rfl
  · obtain ⟨b, s, g, p, n, m, rfl, hx, hn, hm, hL, hp, k⟩ := h
    have nd := sc__law_against.nd
    refine ⟨_, (pss_cons (ps_set (i := 3) nd rfl (.inl rfl) (pe_lst pa_nil))
      (pss_cons (ps_set (i := 4) nd rfl (.inr rfl) (pe_lc (own := [("k", 12)]) rfl nd (pi_range1 (by rfl) B.range (pa_cons (pv 1) pa_nil)) (blkOk_by (by rfl)) (fun _ _ _ _ _ => (pg_name (i := 12) nd rfl (by first | exact .inl rfl | exact .inr rfl))) (fun _ _ _ _ _ => pts_nil) (fun _ _ _ _ _ => pe_int)))
      (pss_cons (ps_set (i := 5) nd rfl (.inl rfl) (pe_op op_sub (pe_op op_sub pe_int pe_int) (pe_y C__law_take hr (by decide) pass0 (by rfl) (pa_cons (pv 0) (pa_cons pe_int pa_nil)))))
      (pss_cons (ps_for PassesOwn.never rfl (pi_list (pv 2)) (pg_tup (n := 3) (by rfl) (pgs_cons (pg_name (i := 6) nd rfl (.inr rfl)) (pgs_cons (pg_name (i := 7) nd rfl (.inl rfl)) (pgs_cons (pg_name (i := 8) nd rfl (.inl rfl)) pgs_nil))))
        (pss_cons (ps_set (i := 9) nd rfl (.inr rfl) (pe_y C__law_take hr (by decide) pass0 (by rfl) (pa_cons (pv 0) (pa_cons pe_int pa_nil))))
        (pss_cons (ps_if (pt_cmpR op_eq (pv 7) pe_str (nomark _))
          (pss_one (ps_set (i := 9) nd rfl (.inr rfl) (pe_op op_sub (pv 9) pe_int)))
          (pss_one (ps_if (pt_cmpR op_eq (pe_y C__law_take hr (by decide) pass0 (by rfl) (pa_cons (pv 0) (pa_cons pe_int pa_nil))) pe_int (nomark _))
            (pss_one (ps_set (i := 9) nd rfl (.inr rfl) (pe_op op_sub (pe_un un_neg pe_int) (pv 9))))
            pss_nil)))
        (pss_cons (ps_expr (pe_bm PySem.F.plainAttrs_list PySem.F.slot_list_append PySem.F.type_list_append mt_append (pv 3) (pa_cons (pv 9) pa_nil)))
        (pss_cons (ps_set (i := 4) nd rfl (.inr rfl) (pe_lc (own := [("k", 12)]) rfl nd (pi_range1 (by rfl) B.range (pa_cons (pv 1) pa_nil)) (blkOk_by (by rfl)) (fun _ _ _ _ _ => (pg_name (i := 12) nd rfl (by first | exact .inl rfl | exact .inr rfl))) (fun _ _ _ _ _ => pts_nil) (fun _ _ _ _ _ => (pe_op op_sub (pe_ix (ix_listK (K := K) rfl) (pv 4) (pv 12) (fun _ _ => rfl)) (pe_op op_mulB (pv 9) (pe_ix (ix_tupK (K := K) rfl) (pv 6) (pv 12) (fun _ _ => rfl)))))))
        (pss_one (ps_set (i := 5) nd rfl (.inl rfl) (pe_op op_sub (pv 5) (pe_op op_mulB (pv 9) (pv 8))))))))))
      (pss_cons (ps_set (i := 7) nd rfl (.inl rfl) (pe_ix ix_tup (pe_tup (pa_cons pe_str (pa_cons pe_str (pa_cons pe_str pa_nil)))) (pe_y C__law_take hr (by decide) pass0 (by rfl) (pa_cons (pv 0) (pa_cons pe_int pa_nil))) (fun _ _ => rfl)))
      (pss_cons (ps_set (i := 10) nd rfl (.inl rfl) (pe_y C__law_take hr (by decide) pass0 (by rfl) (pa_cons (pv 0) (pa_cons (pe_op op_add (pe_callB cr_len (by rfl) B.len b_len (pa_cons (pv 2) pa_nil)) pe_int) pa_nil))))
      (pss_cons (ps_set (i := 11) nd rfl (.inl rfl) (pe_tup (pa_cons (pe_callTy cr_tupOf (by rfl) B.tuple b_tuple (pa_cons (pv 4) pa_nil)) (pa_cons (pv 7) (pa_cons (pv 5) pa_nil)))))
      (pss_one (ps_ret (pe_tup (pa_cons (pe_op op_cat (pe_op op_cat (pe_slice sl_list (pv 2) po_none (po_some (pv 10))) (pe_lst (pa_cons (pv 11) pa_nil))) (pe_slice sl_list (pv 2) (po_some (pv 10)) po_none)) (pa_cons (pe_callTy cr_tupOf (by rfl) B.tuple b_tuple (pa_cons (pe_op op_cat (pe_op op_cat (pe_slice sl_list (pv 3) po_none (po_some (pv 10))) (pe_lst (pa_cons pe_int pa_nil))) (pe_slice sl_list (pv 3) (po_some (pv 10)) po_none)) pa_nil)) pa_nil)))))))))))), ?_⟩
    walk_at "rd"
    refine ⟨sz (show 0 ≤ 100000 by decide), fun S0 nS => ?_⟩
    have e1 : Ex H (upd H S0 (.lst [])) := ex_new nS
    have eS : upd H S0 (.lst []) S0 = some (.lst []) := upd_same
    generalize upd H S0 (HO.lst []) = H1 at e1 eS ⊢
    have nSb : S0 ∉ [b, g] := hx.nin nS
    have hx1 := hx.ex e1
    walk_at "rd"
    refine rd_rg1 n rfl (by omega) (lc_pure wkR (fun _ => .int 0) (by omega) (fun _ _ => trivial) (fun i x H2 H3 hi e2 y Pp hP => ?_) fun D H2 nD e2 eD => ?_)
    · obtain ⟨rfl, _⟩ := y
      walk_at "rd"
      refine ⟨rfl, ?_⟩
      walk_at "rd"
      exact hP _ Ex.rfl'
    · have hx2 := hx1.ex e2
      walk_at "rd"
      refine ⟨b, s, g, 2, rfl, hx2, by decide, by decide, fun d2 H3 d20 d21 X3 hx3 => ?_⟩
      walk_at "rd"
      obtain ⟨fr, epr, hrw⟩ := id hL
      have X03 : Xt [b, g] H H3 := (Ex.xt (Xt.trans e1 e2)).trans X3
      have DS : D ≠ S0 := fun z => by rw [z, eS] at nD; cases nD
      refine rd_itL (X03.at epr hp) (for_w (wkLt (n := m) (f := fr)) (fun i σ H4 => ∃ (D : Addr) (u y : Nat → Int) (c : Int), (Xt [b, g] H H4 ∧ Bx H4 b s g ∧ H4 S0 = some (.lst (vl i y)) ∧ H4 D = some (.lst (vl n u)) ∧ D ∉ [b, g] ∧ D ≠ S0 ∧ (∀ j, j < i → (y j).natAbs ≤ 4) ∧ (∀ j, j < n → (u j).natAbs ≤ i * (4 * 10 ^ 9)) ∧ c.natAbs ≤ 2 + i * (4 * 10 ^ 9)) ∧
          ∃ o6 o7 o8 o9 o10 o11 o12, σ = [some (.ref b), some (.int n), some (.ref p), some (.ref S0), some (.ref D), some (.int c), o6, o7, o8, o9, o10, o11, o12])
        ⟨D, fun _ => 0, fun _ => 0, _, ⟨X03, hx3, X3.at (e2.at eS) nSb, X3.at eD (hx1.nin nD), hx1.nin nD, DS, fun j hj => by omega, fun j hj => by simp, ?_⟩, _, _, _, _, _, _, _, rfl⟩ (fun i σ H4 _ hP => ?_) (fun i x σ H4 H5 hi hP y => ?_) fun σ H4 hP => ?_)
      · omega
      · obtain ⟨D, u, y, c, ⟨X4, _⟩, _⟩ := hP
        exact X4.at epr hp
      · obtain ⟨D, u, yy, c, ⟨X4, hx4, eS4, eD4, nDb, DS, hy, hu, hc⟩, o6, o7, o8, o9, o10, o11, o12, rfl⟩ := hP
        obtain ⟨rfl, rfl⟩ := y
        obtain ⟨T, a, v, q, e, exT, eT, ea, he, hv⟩ := (hrw i hi).to X4 hx.nt
        rw [exT]
        refine rd_gtrip eT ?_
        walk_at "rd"
        refine ⟨b, s, g, 4, rfl, hx4, by decide, by decide, fun d H6 d0 d1 X6 hx6 => ?_⟩
        walk_at "rd"
        refine rd_eq rfl ?_
        walk_at "rd"
        refine rd_ifB (fun σ' H7 => (Xt [b, g] H H7 ∧ Xt [b, g] H5 H7 ∧ Bx H7 b s g) ∧ ∃ sh : Int, sh.natAbs ≤ 4 ∧ ∃ o10 o11 o12, σ' = [some (.ref b), some (.int n), some (.ref p), some (.ref S0), some (.ref D), some (.int c), some (.ref a), some (.str (rel q)), some (.int e), some (.int sh), o10, o11, o12]) (fun _ tz hz => ?_) (fun _ tz hz => ?_) fun σ' H7 hz => ?_
        · walk_at "rd"
          exact hz _ _ ⟨⟨X4.trans X6, X6, hx6⟩, d - 2, by omega, _, _, _, rfl⟩
        · walk_at "rd"
          refine ⟨b, s, g, 6, rfl, hx6, by decide, by decide, fun d7 H7 d70 d71 X7 hx7 => ?_⟩
          walk_at "rd"
          refine rd_ifH (fun σ' H7 => (Xt [b, g] H H7 ∧ Xt [b, g] H5 H7 ∧ Bx H7 b s g) ∧ ∃ sh : Int, sh.natAbs ≤ 4 ∧ ∃ o10 o11 o12, σ' = [some (.ref b), some (.int n), some (.ref p), some (.ref S0), some (.ref D), some (.int c), some (.ref a), some (.str (rel q)), some (.int e), some (.int sh), o10, o11, o12]) (fun _ tz hz2 => ?_) (fun _ => ?_) fun σ' H8 hz2 => ?_
          · walk_at "rd"
            exact hz2 _ _ ⟨⟨X4.trans (X6.trans X7), X6.trans X7, hx7⟩, -1 - d, by omega, _, _, _, rfl⟩
          · exact ⟨⟨X4.trans (X6.trans X7), X6.trans X7, hx7⟩, d, by omega, _, _, _, rfl⟩
          · exact hz _ _ hz2
        · obtain ⟨⟨X07, X57, hx7⟩, sh, hsh, o10, o11, o12, rfl⟩ := hz
          walk_at "rd"
          have eS7 := X57.at eS4 nSb
          have eD7 := X57.at eD4 nDb
          have ea7 := X57.at ea (hx4.tin ea)
          refine ⟨tyL eS7, ?_⟩
          walk_at "rd"
          refine rd_append eS7 (szl (by rw [tab_len]; omega)) fun H8 X8 e8 => ?_
          walk_at "rd"
          have eD8 := X8.at eD7 (by simpa using DS)
          have ea8 := tup_to X8 (nt_lst eS7) ea7
          have X08 := Xt.fr X07 X8 nS
          have hx8 := hx.new hx7 nS X8
          have ab : ∀ z : Int, z.natAbs ≤ 10 ^ 9 → (sh * z).natAbs ≤ 4 * 10 ^ 9 := fun z hz => by rw [Int.natAbs_mul]; exact Nat.mul_le_mul hsh hz
          refine rd_rg1 n rfl (by omega) (lc_pure wkR (fun j => .int (u j - sh * v j)) (by omega) (fun _ _ => trivial) (fun j x H9 H10 hj e9 y Pp hP => ?_) fun D2 H9 nD2 e9 eD2 => ?_)
          · obtain ⟨rfl, ex⟩ := y
            obtain rfl : x = .int (j : Int) := by rw [ex]; exact congrArg V.int (by omega)
            walk_at "rd"
            refine ⟨rfl, ?_⟩
            walk_at "rd"
            refine rd_ixLt j (e9.at eD8) rfl hj ?_
            walk_at "rd"
            refine rd_ixTt j (e9.at ea8) rfl hj ?_
            refine rd_I (mulok_l (by omega) (by omega)) ?_
            walk_at "rd"
            exact hP _ Ex.rfl'
          · walk_at "rd"
            refine rd_I (mulok_l (by omega) (by omega)) ?_
            walk_at "rd"
            refine ⟨D2, fun j => u j - sh * v j, fun j => if j = i then sh else yy j, _, ⟨X08.trans (Ex.xt e9), hx8.ex e9, ?_, eD2, hx8.nin nD2, ?_, fun j hj => ?_, fun j hj => ?_, ?_⟩, _, _, _, _, _, _, _, rfl⟩
            · rw [e9.at e8]
              show _ = some (HO.lst (tab (i + 1) _))
              rw [← tab_snoc]
              refine congrArg (fun z => some (HO.lst z)) (congr (congrArg _ (tab_ext fun j hj => ?_)) ?_)
              · show _ = V.int (if j = i then _ else _)
                rw [if_neg (by omega)]
              · show _ = [V.int (if i = i then _ else _)]
                rw [if_pos rfl]
            · intro z
              rw [z, e8] at nD2
              cases nD2
            · show (if j = i then sh else yy j).natAbs ≤ 4
              by_cases h : j = i
              · rw [if_pos h]; exact hsh
              · rw [if_neg h]; exact hy j (by omega)
            · have := hu j hj
              have := ab (v j) (hv j hj)
              show (u j - sh * v j).natAbs ≤ _
              rw [Nat.add_mul]
              omega
            · have := ab e he
              rw [Nat.add_mul]
              omega
      · obtain ⟨D, u, y, c, ⟨X4, hx4, eS4, eD4, nDb, DS, hy, hu, hc⟩, o6, o7, o8, o9, o10, o11, o12, rfl⟩ := hP
        walk_at "rd"
        refine ⟨sz (show 3 ≤ 100000 by decide), fun T nT => ?_⟩
        have e5 : Ex H4 (upd H4 T (.tup [.str "atmost", .str "atmost", .str "equal"])) := ex_new nT
        have eT : upd H4 T (.tup [.str "atmost", .str "atmost", .str "equal"]) T = some (.tup [.str "atmost", .str "atmost", .str "equal"]) := upd_same
        generalize upd H4 T (HO.tup [.str "atmost", .str "atmost", .str "equal"]) = H5 at e5 eT ⊢
        have hx5 := hx4.ex e5
        walk_at "rd"
        refine ⟨b, s, g, 3, rfl, hx5, by decide, by decide, fun d6 H6 d60 d61 X6 hx6 => ?_⟩
        obtain ⟨q, hq⟩ := rel_at d60 d61
        refine rd_ixTn d6.toNat (X6.at eT (hx5.tin eT)) (by omega) hq ?_
        walk_at "rd"
        have X06 : Xt [b, g] H H6 := X4.trans ((Ex.xt e5).trans X6)
        refine rd_lenLt (X06.at epr hp) ?_
        walk_at "rd"
        refine ⟨b, s, g, _, rfl, hx6, by omega, by omega, fun d H7 d0 d1 X7 hx7 => ?_⟩
        obtain ⟨dn, rfl⟩ : ∃ dn : Nat, d = dn := ⟨d.toNat, by omega⟩
        have hdm : dn ≤ m := by omega
        walk_at "rd"
        have X47 : Xt [b, g] H4 H7 := (Ex.xt e5).trans (X6.trans X7)
        have eD7 := X47.at eD4 nDb
        refine rd_tupL eD7 fun a H8 na e8 ea => ?_
        walk_at "rd"
        refine ⟨sz (show 3 ≤ 100000 by decide), fun Tl nTl => ?_⟩
        have e9 : Ex H8 (upd H8 Tl (.tup [.ref a, .str (rel q), .int c])) := ex_new nTl
        have eTl : upd H8 Tl (.tup [.ref a, .str (rel q), .int c]) Tl = some (.tup [.ref a, .str (rel q), .int c]) := upd_same
        show gName _ _ _ (upd H8 Tl (.tup [.ref a, .str (rel q), .int c])) _
        generalize upd H8 Tl (HO.tup [.ref a, .str (rel q), .int c]) = H9 at e9 eTl ⊢
        walk_at "rd"
        have X09 : Xt [b, g] H H9 := X4.trans (X47.trans ((Ex.xt e8).trans (Ex.xt e9)))
        have epr9 := X09.at epr hp
        have eS9 := e9.at (e8.at (X47.at eS4 nSb))
        refine rd_slL epr9 fun l1 H10 nl1 e10 el1 => ?_
        walk_at "rd"
        refine ⟨sz (show 1 ≤ 100000 by decide), fun l2 nl2 => ?_⟩
        have e11 : Ex H10 (upd H10 l2 (.lst [.ref Tl])) := ex_new nl2
        have el2 : upd H10 l2 (.lst [.ref Tl]) l2 = some (.lst [.ref Tl]) := upd_same
        generalize upd H10 l2 (HO.lst [.ref Tl]) = H11 at e11 el2 ⊢
        rw [cut_lo (by rw [tab_len]; exact hdm)] at el1
        have lt : ((tab m fr).take dn).length ≤ 20 := by rw [List.length_take]; omega
        refine rd_cat (e11.at el1) el2 (sz (by show _ + 1 ≤ 100000; omega)) fun l3 H12 nl3 e12 el3 => ?_
        walk_at "rd"
        refine rd_slL (e12.at (e11.at (e10.at epr9))) fun l4 H13 nl4 e13 el4 => ?_
        rw [cut_hi (by rw [tab_len]; exact hdm)] at el4
        have ld : ((tab m fr).drop dn).length ≤ 20 := by rw [List.length_drop, tab_len]; omega
        refine rd_cat (e13.at el3) el4 (sz (by rw [List.length_append]; show _ + 1 + _ ≤ 100000; omega)) fun R H14 nR e14 eR => ?_
        rw [ins_tab hdm] at eR
        walk_at "rd"
        have e914 : Ex H9 H14 := Xt.trans e10 (Xt.trans e11 (Xt.trans e12 (Xt.trans e13 e14)))
        have eS14 := Ex.at e914 eS9
        refine rd_slL eS14 fun l5 H15 nl5 e15 el5 => ?_
        rw [cut_lo (by rw [tab_len]; exact hdm)] at el5
        walk_at "rd"
        refine ⟨sz (show 1 ≤ 100000 by decide), fun l6 nl6 => ?_⟩
        have e16 : Ex H15 (upd H15 l6 (.lst [.int 1])) := ex_new nl6
        have el6 : upd H15 l6 (.lst [.int 1]) l6 = some (.lst [.int 1]) := upd_same
        generalize upd H15 l6 (HO.lst [.int 1]) = H16 at e16 el6 ⊢
        have lt2 : ((vl m y).take dn).length ≤ 20 := by rw [List.length_take]; omega
        refine rd_cat (e16.at el5) el6 (sz (by show _ + 1 ≤ 100000; omega)) fun l7 H17 nl7 e17 el7 => ?_
        walk_at "rd"
        refine rd_slL (e17.at (e16.at (e15.at eS14))) fun l8 H18 nl8 e18 el8 => ?_
        rw [cut_hi (by rw [tab_len]; exact hdm)] at el8
        have ld2 : ((vl m y).drop dn).length ≤ 20 := by rw [List.length_drop, tab_len]; omega
        refine rd_cat (e18.at el7) el8 (sz (by rw [List.length_append]; show _ + 1 + _ ≤ 100000; omega)) fun l9 H19 nl9 e19 el9 => ?_
        rw [ins_tab hdm] at el9
        walk_at "rd"
        refine rd_tupL el9 fun t H20 nt e20 et => ?_
        walk_at "rd"
        have e1420 : Ex H14 H20 := Xt.trans e15 (Xt.trans e16 (Xt.trans e17 (Xt.trans e18 (Xt.trans e19 e20))))
        refine ⟨sz (show 2 ≤ 100000 by decide), fun TT nTT => ?_⟩
        have e21 : Ex H20 (upd H20 TT (.tup [.ref R, .ref t])) := ex_new nTT
        have eTT : upd H20 TT (.tup [.ref R, .ref t]) TT = some (.tup [.ref R, .ref t]) := upd_same
        show Q (.ref TT) (upd H20 TT (.tup [.ref R, .ref t]))
        generalize upd H20 TT (HO.tup [.ref R, .ref t]) = H21 at e21 eTT ⊢
        have e921 : Ex H9 H21 := Xt.trans e914 (Xt.trans e1420 e21)
        have hx9 : Bx H9 b s g := (hx7.ex e8).ex e9
        refine k TT R t (fun i => if i < dn then y i else if i = dn then 1 else y (i - 1)) H21 (X09.trans (Ex.xt e921)) (hx9.ex e921) eTT ⟨_, e21.at (Ex.at e1420 eR), fun i hi => ?_⟩ (hx9.ex (Xt.trans e10 (Xt.trans e11 (Xt.trans e12 e13))) |>.nin nR) ?_ fun i hi => ?_
        · have hup : (10 : Nat) ^ 9 ≤ BB := by unfold BB; decide
          have old : ∀ i, i < m → Rw1 H21 (fr i) n BB := fun i hi => (((hrw i hi).to X09 hx.nt).to (Ex.xt e921) nt_ex).up hup
          show Rw1 H21 (if i < dn then fr i else if i = dn then .ref Tl else fr (i - 1)) n BB
          by_cases h1 : i < dn
          · rw [if_pos h1]; exact old i (by omega)
          · rw [if_neg h1]
            by_cases h2 : i = dn
            · rw [if_pos h2]
              refine ⟨Tl, a, u, q, c, rfl, Ex.at e921 eTl, Ex.at e921 (e9.at ea), ?_, fun j hj => Nat.le_trans (hu j hj) ?_⟩
              · have := Nat.mul_le_mul_right (4 * 10 ^ 9) hm
                unfold BB; omega
              · have := Nat.mul_le_mul_right (4 * 10 ^ 9) hm
                unfold BB; omega
            · rw [if_neg h2]; exact old (i - 1) (by omega)
        · rw [e21.at et]
          refine congrArg (fun z => some (HO.tup z)) (tab_ext fun i hi => ?_)
          show (if i < dn then _ else if i = dn then _ else _) = V.int (if i < dn then _ else if i = dn then _ else _)
          split
          · rfl
          · split <;> rfl
        · show (if i < dn then y i else if i = dn then 1 else y (i - 1)).natAbs ≤ 4
          split
          · exact hy i (by omega)
          · split
            · decide
            · exact hy (i - 1) (by omega)
end
end Sx
/-! the law's own look at answers -/
namespace Sx
open PySem PySem.Spec PyProof.Rows L2 Y
local macro_rules | `(tactic| walk_at "rd1") => `(tactic| first
  | with_reducible refine rd_var rfl ?_
  | with_reducible refine rd_op ?_
  | with_reducible refine rd_c ?_
  | with_reducible refine rd_I0 ?_
  | with_reducible refine rd_seq ?_
  | ((with_reducible refine rd_I ?_ ?_); focus (first | exact mulok_r (by decide) (by decide) | exact mulok_l (by decide) (by decide) | (show _ ≠ _; decide) | (show _ ∧ _; decide)))
  | with_reducible refine rd_asg ?_
  | with_reducible refine rd_name ?_
  | with_reducible refine rd_cb ?_
  | with_reducible refine rd_cons ?_
  | with_reducible refine rd_nil ?_
  | with_reducible refine rd_int ?_
  | with_reducible refine rd_eqI ?_
  | with_reducible refine rd_neI ?_
  | with_reducible refine rd_bl ?_
  | with_reducible refine rd_test ?_
  | with_reducible refine rd_tB ?_
  | with_reducible refine rd_ifS ?_
  | with_reducible refine rd_next ?_
  | with_reducible refine rd_T ?_
  | with_reducible refine rd_F ?_
  | with_reducible refine rd_nT ?_
  | with_reducible refine rd_nF ?_
  | with_reducible refine rd_blV ?_
  | with_reducible refine rd_ret ?_
  | with_reducible refine rd_call ?_
  | with_reducible refine rd_drop ?_
  | with_reducible refine rd_not ?_
  | with_reducible refine rd_and ?_
  | with_reducible refine rd_or ?_
  | with_reducible refine rd_un ?_
  | with_reducible refine rd_U ?_
  | with_reducible refine rd_tup ?_
  | with_reducible refine rd_lst ?_
  | with_reducible refine rd_if ?_
  | with_reducible refine rd_andV ?_
  | with_reducible refine rd_orV ?_
  | with_reducible refine rd_notV ?_
  | with_reducible refine rd_sl ?_
  | with_reducible refine rd_nopart ?_
  | with_reducible refine rd_part ?_
  | with_reducible refine rd_iv ?_
  | with_reducible refine rd_bm ?_
  | with_reducible refine rd_abs ?_
  | with_reducible refine rd_intb ?_
  | with_reducible refine rd_mx2 ?_
  | with_reducible refine rd_mn2 ?_
  | with_reducible refine rd_sub ?_
  | with_reducible refine rd_lc ?_
  | with_reducible refine rd_for ?_
  | with_reducible refine rd_iL ?_
  | with_reducible refine rd_iT ?_
  | with_reducible refine rd_r1 ?_
  | with_reducible refine rd_r2 ?_
  | with_reducible refine rd_iZ ?_
  | with_reducible refine rd_iZM ?_
  | with_reducible refine rd_while ?_
  | with_reducible refine rd_tru ?_
  | with_reducible refine rd_brk ?_
  | with_reducible refine rd_par ?_
  | with_reducible refine rd_par2 ?_
  | with_reducible refine rd_bits ?_
  | with_reducible refine rd_callS ?_)
local macro_rules | `(tactic| walk_at "rd") => `(tactic| repeat walk_at "rd1")

/-- rows in a list -/
def LRow (H : Hp) (a : Addr) (W : Rws) : Prop := ∃ rp np : Nat → Addr, H a = some (.lst (tab W.m fun i => .ref (rp i))) ∧
  (∀ i, i < W.m → H (rp i) = some (.tup [.ref (np i), .str (rel (W.q i)), .int (W.C i)])) ∧ ∀ i, i < W.m → H (np i) = some (.tup (vl W.n (W.R i)))
theorem LRow.to {S : List Addr} {H H' : Hp} {p : Addr} {W : Rws} (h : LRow H p W) (e : Xt S H H') (nt : NoT S H) (np : p ∉ S) : LRow H' p W := by
  obtain ⟨f, g, h1, h2, h3⟩ := h
  exact ⟨f, g, e.at h1 np, fun k hk => tup_to e nt (h2 k hk), fun k hk => tup_to e nt (h3 k hk)⟩
theorem LRow.ex {H H' : Hp} {p : Addr} {W : Rws} (h : LRow H p W) (e : Ex H H') : LRow H' p W := h.to e nt_ex (by simp)
theorem LR.rows {H : Hp} {p : Addr} {n m B : Nat} (h : LR H p n m B) (hB : 1 ≤ B) : ∃ (R : Nat → Nat → Int) (C : Nat → Int) (q : Nat → Bool), LRow H p ⟨n, m, R, C, q⟩ ∧ Rws.le ⟨n, m, R, C, q⟩ B := by
  obtain ⟨f, h1, h2⟩ := h
  have h3 : ∀ k : Nat, ∃ (T a : Addr) (u : Nat → Int) (q : Bool) (c : Int), k < m → f k = .ref T ∧ H T = some (.tup [.ref a, .str (rel q), .int c]) ∧ H a = some (.tup (vl n u)) ∧ c.natAbs ≤ B ∧ ∀ j, j < n → (u j).natAbs ≤ B := fun k => by
    by_cases hk : k < m
    · obtain ⟨T, a, u, q, c, z⟩ := h2 k hk
      exact ⟨T, a, u, q, c, fun _ => z⟩
    · exact ⟨0, 0, fun _ => 0, false, 0, fun z => absurd z hk⟩
  have ⟨T, h4⟩ := Classical.axiomOfChoice h3
  have ⟨a, h5⟩ := Classical.axiomOfChoice h4
  have ⟨u, h6⟩ := Classical.axiomOfChoice h5
  have ⟨q, h7⟩ := Classical.axiomOfChoice h6
  have ⟨c, h8⟩ := Classical.axiomOfChoice h7
  refine ⟨u, c, q, ⟨T, a, ?_, fun i hi => (h8 i hi).2.1, fun i hi => (h8 i hi).2.2.1⟩, hB, fun i hi => (h8 i hi).2.2.2.1, fun i hi => (h8 i hi).2.2.2.2⟩
  rw [h1]
  exact congrArg (fun z => some (HO.lst z)) (tab_ext fun i hi => (h8 i hi).1)
theorem le_rsm {W : Rws} {B : Nat} (h : W.le B) (hB : B < 2 ^ 4000) : RSm W := fun i hi => ⟨by have := h.2.1 i hi; omega, fun j hj => by have := h.2.2 i hi j hj; omega⟩
section
variable {P : Program} {w : World} {K : PySem.W.Frag} {mg : Str → Option Value} {base : Heap}
/-! ### _law_lowest -/
abbrev s__law_lowest : Stmt := topS 30
theorem sc__law_lowest : FnScope ["top", "below", "left", "right", "k"] ["top", "below"] (defScope s__law_lowest) := ⟨rfl, rfl, rfl, by decide +kernel, rfl, by decide +kernel, by decide +kernel⟩
def sp__law_lowest : Sp := fun vs H Q _ => ∃ t d : Int, vs = [.int t, .int d] ∧ 0 < d ∧ d.natAbs < 2 ^ 400 ∧ Nat.gcd t.natAbs d.natAbs = 1 ∧ ∀ H', Ex H H' → Q (.bl true) H'
theorem ok__law_lowest {f : Addr} {fd : FuncData} (F : Fun K "_law_lowest" "_law_lowest" s__law_lowest f fd) (B : Bi mg) : FnOk P w K mg base CX0 41 f fd ["top", "below"] sp__law_lowest := by
  refine F.ok sc__law_lowest (fun vs H Q E h => ?_) (fun cdv A outer s0 H vs Q E hr h => ?_)
  · obtain ⟨t, d, rfl, _⟩ := h; rfl
  · obtain ⟨t, d, rfl, hd, hb, hg, k⟩ := h
    have nd := sc__law_lowest.nd
    refine ⟨_, (pss_cons (ps_set (i := 2) nd rfl (.inl rfl) (pe_callB cr_abs (by rfl) B.abs b_abs (pa_cons (pv 0) pa_nil)))
      (pss_cons (ps_set (i := 3) nd rfl (.inl rfl) (pv 1))
      (pss_cons (ps_for PassesOwn.never rfl (pi_range1 (by rfl) B.range (pa_cons (pe_op op_add (pe_op op_mulB pe_int (pe_bits (pv 1))) pe_int) pa_nil)) (pg_name (i := 4) nd rfl (.inl rfl))
        (pss_cons (ps_if (pt_cmpR op_eq (pv 3) pe_int (nomark _))
          (pss_one ps_break)
          pss_nil)
        (pss_one (ps_par (i := 2) (j := 3) rfl nd rfl rfl (by decide) rfl rfl (pa_cons (pv 3) (pa_cons (pe_op op_modN (pe_callTy cr_int (by rfl) B.int b_int (pa_cons (pv 2) pa_nil)) (pv 3)) pa_nil)) (by rfl)))))
      (pss_one (ps_ret (pe_cmpR op_eq (pv 2) pe_int (nomark _))))))), ?_⟩
    walk_at "rd"
    have bl : Builtin.Int.intBits d ≤ 400 := bits_lt hb
    have dl : d.natAbs < 2 ^ Builtin.Int.intBits d := by
      unfold Builtin.Int.intBits
      rw [if_neg (by simp; omega)]
      exact Nat.lt_log2_self
    walk_at "rd"
    have fin : ∀ i, (eu t.natAbs d.natAbs i).2 = 0 → (eu t.natAbs d.natAbs i).1 = 1 := fun i hi => by
      have q := eu_gcd t.natAbs d.natAbs i
      rw [hi, Nat.gcd_zero_right, hg] at q
      exact q
    have e0 : V.int (if t < 0 then -t else t) = V.int ((eu t.natAbs d.natAbs 0).1 : Nat) := congrArg V.int (show _ = ((t.natAbs : Nat) : Int) by split <;> omega)
    have e1 : V.int d = V.int ((eu t.natAbs d.natAbs 0).2 : Nat) := congrArg V.int (show _ = ((d.natAbs : Nat) : Int) by omega)
    refine rd_rg1 (2 * Builtin.Int.intBits d + 3) (by omega) (by omega) (for_w wkR (fun i σ H2 => Ex H H2 ∧ ∃ o, σ = [some (.int t), some (.int d), some (.int ((eu t.natAbs d.natAbs i).1 : Nat)), some (.int ((eu t.natAbs d.natAbs i).2 : Nat)), o]) ⟨Ex.rfl', none, by rw [← e0, ← e1]; rfl⟩ (fun i σ H2 _ hP => trivial) (fun i x σ H2 H3 hi hP y => ?_) fun σ H2 hP => ?_)
    · obtain ⟨ex, o, rfl⟩ := hP
      obtain ⟨rfl, exx⟩ := y
      walk_at "rd"
      refine rd_dec (fun h1 => ?_) fun h1 => ?_
      · walk_at "rd"
        rw [decide_eq_true (show (((eu t.natAbs d.natAbs i).1 : Nat) : Int) = 1 by rw [fin i (by omega)]; rfl)]
        exact k _ ex
      · walk_at "rd"
        walk_at "rd"
        refine rd_I h1 ?_
        walk_at "rd"
        have h2 : (eu t.natAbs d.natAbs i).2 ≠ 0 := by omega
        have es := eu_step h2
        have em : (((eu t.natAbs d.natAbs i).1 : Nat) : Int).fmod (((eu t.natAbs d.natAbs i).2 : Nat) : Int) = ((eu t.natAbs d.natAbs (i + 1)).2 : Nat) := by
          rw [es, Int.fmod_eq_emod_of_nonneg _ (by omega)]
          rfl
        have el : ((eu t.natAbs d.natAbs i).2 : Nat) = (eu t.natAbs d.natAbs (i + 1)).1 := by rw [es]
        rw [em, el]
        walk_at "rd"
        exact ⟨ex, _, rfl⟩
    · obtain ⟨ex, o, rfl⟩ := hP
      walk_at "rd"
      rw [decide_eq_true (show (((eu t.natAbs d.natAbs (2 * Builtin.Int.intBits d + 3)).1 : Nat) : Int) = 1 by rw [fin _ (eu_end dl)]; rfl)]
      exact k _ ex
end
end Sx
/-! the law's own look at answers, further -/
namespace Sx
open PySem PySem.Spec PyProof.Rows L2 Y
local macro_rules | `(tactic| walk_at "rd1") => `(tactic| first
  | with_reducible refine rd_var rfl ?_
  | with_reducible refine rd_op ?_
  | with_reducible refine rd_c ?_
  | with_reducible refine rd_I0 ?_
  | with_reducible refine rd_seq ?_
  | ((with_reducible refine rd_I ?_ ?_); focus (first | exact mulok_r (by decide) (by decide) | exact mulok_l (by decide) (by decide) | (show _ ≠ _; decide) | (show _ ∧ _; decide)))
  | with_reducible refine rd_asg ?_
  | with_reducible refine rd_name ?_
  | with_reducible refine rd_cb ?_
  | with_reducible refine rd_cons ?_
  | with_reducible refine rd_nil ?_
  | with_reducible refine rd_int ?_
  | with_reducible refine rd_eqI ?_
  | with_reducible refine rd_neI ?_
  | with_reducible refine rd_bl ?_
  | with_reducible refine rd_test ?_
  | with_reducible refine rd_tB ?_
  | with_reducible refine rd_ifS ?_
  | with_reducible refine rd_next ?_
  | with_reducible refine rd_T ?_
  | with_reducible refine rd_F ?_
  | with_reducible refine rd_nT ?_
  | with_reducible refine rd_nF ?_
  | with_reducible refine rd_blV ?_
  | with_reducible refine rd_ret ?_
  | with_reducible refine rd_call ?_
  | with_reducible refine rd_drop ?_
  | with_reducible refine rd_not ?_
  | with_reducible refine rd_and ?_
  | with_reducible refine rd_or ?_
  | with_reducible refine rd_un ?_
  | with_reducible refine rd_U ?_
  | with_reducible refine rd_tup ?_
  | with_reducible refine rd_lst ?_
  | with_reducible refine rd_if ?_
  | with_reducible refine rd_andV ?_
  | with_reducible refine rd_orV ?_
  | with_reducible refine rd_notV ?_
  | with_reducible refine rd_sl ?_
  | with_reducible refine rd_nopart ?_
  | with_reducible refine rd_part ?_
  | with_reducible refine rd_iv ?_
  | with_reducible refine rd_bm ?_
  | with_reducible refine rd_abs ?_
  | with_reducible refine rd_intb ?_
  | with_reducible refine rd_mx2 ?_
  | with_reducible refine rd_mn2 ?_
  | with_reducible refine rd_sub ?_
  | with_reducible refine rd_lc ?_
  | with_reducible refine rd_for ?_
  | with_reducible refine rd_iL ?_
  | with_reducible refine rd_iT ?_
  | with_reducible refine rd_r1 ?_
  | with_reducible refine rd_r2 ?_
  | with_reducible refine rd_iZ ?_
  | with_reducible refine rd_iZM ?_
  | with_reducible refine rd_while ?_
  | with_reducible refine rd_tru ?_
  | with_reducible refine rd_brk ?_
  | with_reducible refine rd_par ?_
  | with_reducible refine rd_par2 ?_
  | with_reducible refine rd_bits ?_
  | with_reducible refine rd_callS ?_)
local macro_rules | `(tactic| walk_at "rd") => `(tactic| repeat walk_at "rd1")

theorem rd_andX {p : Prop} [Decidable p] {A C : Prop} (X : Prop) (h1 : p → (X → C) → A) (h2 : ¬ p → X) (h : X → C) : if decide p = true then A else C := if_dec (fun q => h1 q h) fun q => h (h2 q)
theorem gcd_pos' {x d : Int} (h : 0 < d) : 0 < Nat.gcd x.natAbs d.natAbs := Nat.gcd_pos_of_pos_right _ (by omega)
theorem low_mul {x d : Int} (h : 0 < d) : lowN x d * (Nat.gcd x.natAbs d.natAbs : Nat) = x ∧ lowD x d * (Nat.gcd x.natAbs d.natAbs : Nat) = d := by
  have g := gcd_pos' (x := x) h
  unfold lowN lowD
  rw [Int.fdiv_eq_ediv_of_nonneg _ (by omega), Int.fdiv_eq_ediv_of_nonneg _ (by omega)]
  exact ⟨Int.ediv_mul_cancel (Int.ofNat_dvd_left.mpr (Nat.gcd_dvd_left _ _)), Int.ediv_mul_cancel (Int.ofNat_dvd_left.mpr (Nat.gcd_dvd_right _ _))⟩
theorem lowD_pos {x d : Int} (h : 0 < d) : 0 < lowD x d := by
  have g := gcd_pos' (x := x) h
  have e := (low_mul (x := x) h).2
  by_cases z : 0 < lowD x d
  · exact z
  · have := Int.mul_nonpos_of_nonpos_of_nonneg (show lowD x d ≤ 0 by omega) (show (0 : Int) ≤ (Nat.gcd x.natAbs d.natAbs : Nat) by omega)
    omega
theorem low_eq {x d : Int} (h : 0 < d) : lowN x d * d = x * lowD x d := by
  have e := low_mul (x := x) h
  generalize ((Nat.gcd x.natAbs d.natAbs : Nat) : Int) = g at e
  have e1 := e.1
  have e2 := e.2
  generalize lowN x d = a at *
  generalize lowD x d = b at *
  rw [← e1, ← e2]
  grind
theorem low_gcd {x d : Int} (h : 0 < d) : Nat.gcd (lowN x d).natAbs (lowD x d).natAbs = 1 := by
  have e := low_mul (x := x) h
  have g := gcd_pos' (x := x) h
  have a1 := congrArg Int.natAbs e.1
  have a2 := congrArg Int.natAbs e.2
  rw [Int.natAbs_mul, Int.natAbs_natCast] at a1 a2
  have q : Nat.gcd ((lowN x d).natAbs * Nat.gcd x.natAbs d.natAbs) ((lowD x d).natAbs * Nat.gcd x.natAbs d.natAbs) = Nat.gcd x.natAbs d.natAbs := by rw [a1, a2]
  rw [Nat.gcd_mul_right] at q
  generalize Nat.gcd x.natAbs d.natAbs = z at *
  generalize Nat.gcd (lowN x d).natAbs (lowD x d).natAbs = y at *
  have : y * z = 1 * z := by omega
  exact Nat.eq_of_mul_eq_mul_right g this
theorem lowN_le {x d : Int} (h : 0 < d) : (lowN x d).natAbs ≤ x.natAbs := fdiv_le (gcd_pos' h)
theorem lowD_le {x d : Int} (h : 0 < d) : (lowD x d).natAbs ≤ d.natAbs := fdiv_le (gcd_pos' h)
theorem big_room : 7 * (BB * (2 ^ 400) ^ 7) < 2 ^ 4000 := by decide +kernel
theorem pow_room {k : Nat} (h : k ≤ 7) : (2 ^ 400) ^ k ≤ (2 ^ 400) ^ 7 := Nat.pow_le_pow_right (Nat.pow_pos (by decide)) h
theorem blw_big {D : Nat → Int} {k : Nat} (h : k ≤ 7) (hD : ∀ j, j < k → (D j).natAbs ≤ 2 ^ 400) : (blw D k).natAbs < 2 ^ 4000 := by
  have b := blw_abs hD
  exact Nat.lt_of_le_of_lt (Nat.le_trans b (Nat.le_trans (pow_room h) (Nat.le_trans (Nat.le_mul_of_pos_left _ (show 0 < BB by decide)) (Nat.le_mul_of_pos_left _ (by decide))))) big_room
theorem tpw_big {N D u : Nat → Int} {k : Nat} (h : k ≤ 7) (hD : ∀ j, j < k → (D j).natAbs ≤ 2 ^ 400) (hN : ∀ j, j < k → (N j).natAbs ≤ 2 ^ 400) (hu : ∀ j, j < k → (u j).natAbs ≤ BB) : (tpw N D u k).natAbs < 2 ^ 4000 := by
  have b := tpw_abs hD hN hu
  exact Nat.lt_of_le_of_lt (Nat.le_trans b (Nat.mul_le_mul h (Nat.mul_le_mul (Nat.le_refl BB) (pow_room h)))) big_room
theorem un_big {a b : Int} (ha : a.natAbs ≤ BB) (hb : b.natAbs ≤ 2 ^ 400) : (a * b).natAbs < 2 ^ 4000 := by
  rw [Int.natAbs_mul]
  have q := Nat.mul_le_mul ha hb
  have r : BB * 2 ^ 400 < 2 ^ 4000 := by decide +kernel
  omega
theorem bb_big {a : Int} (h : a.natAbs ≤ BB) : a.natAbs < 2 ^ 4000 := Nat.lt_of_le_of_lt h (by decide +kernel)
theorem b4_big {a : Int} (h : a.natAbs ≤ 2 ^ 400) : a.natAbs < 2 ^ 4000 := Nat.lt_of_le_of_lt h (by decide +kernel)
section
variable {P : Program} {w : World} {K : PySem.W.Frag} {mg : Str → Option Value} {base : Heap}
theorem rd_isiLT {H : Hp} {Q : VK} {T a : Addr} {xs : List V} (e : H a = some (.tup xs)) (t : H T = some (.tup [.ty "list", .ty "tuple"])) (h : Q (.bl true) H) : rIsiT K [.ref a, .ref T] H Q :=
  ⟨.ref a, T, _, .type "tuple", [.type "list", .type "tuple"], true, rfl, t, .cons (.ty _) (.cons (.ty _) .nil), .base (.tup e),
    kitAny_cons (kit_ty (show kitB "tuple" "list" = some false by decide +kernel)) (fun _ => kitAny_cons (kit_ty (show kitB "tuple" "tuple" = some true by decide +kernel)) (fun z => (by cases z)) fun _ => rfl) (fun z => (by cases z)), h⟩
/-! ### _law_solves -/
abbrev s__law_solves : Stmt := topS 31
theorem sc__law_solves : FnScope ["rows", "many", "point", "pair", "numbers", "relation", "most", "top", "below", "k"] ["rows", "many", "point"] (defScope s__law_solves) := ⟨rfl, rfl, rfl, by decide +kernel, rfl, by decide +kernel, by decide +kernel⟩
def sp__law_solves : Sp := fun vs H Q _ => ∃ (p x : Addr) (W : Rws) (pp : Nat → Addr) (xx : Nat → Int) (d : Int), vs = [.ref p, .int W.n, .ref x] ∧ LRow H p W ∧ W.le BB ∧ W.n ≤ 7 ∧ W.m ≤ 1000 ∧ H x = some (.tup (tab W.n fun k => .ref (pp k))) ∧ (∀ k, k < W.n → H (pp k) = some (pr (xx k) d)) ∧ 0 < d ∧ d.natAbs < 2 ^ 400 ∧ (∀ k, k < W.n → (xx k).natAbs < 2 ^ 400) ∧
  (∀ i, i < W.m → (sm W.n fun k => W.R i k * xx k) ≤ W.C i * d ∧ (W.q i = true → (sm W.n fun k => W.R i k * xx k) = W.C i * d)) ∧ ∀ H', Ex H H' → Q (.bl true) H'
theorem ok__law_solves {f : Addr} {fd : FuncData} (F : Fun K "_law_solves" "_law_solves" s__law_solves f fd) (B : Bi mg) (C__law_integers : Cl P w K mg base CX0 43 "_law_integers" ["thing", "size"] sp__law_integers) (C__law_lowest : Cl P w K mg base CX0 41 "_law_lowest" ["top", "below"] sp__law_lowest) : FnOk P w K mg base CX0 45 f fd ["rows", "many", "point"] sp__law_solves := by
  refine F.ok sc__law_solves (fun vs H Q E h => ?_) (fun cdv A outer s0 H vs Q E hr h => ?_)
  · obtain ⟨p, x, W, pp, xx, d, rfl, _⟩ := h; rfl
  · obtain ⟨p, x, W, pp, xx, d, rfl, hL, hle, hn, hm, ex, epp, hd, hdb, hxb, hpt, k⟩ := h
    have nd := sc__law_solves.nd
    refine ⟨_, (pss_cons (ps_if (PW.pt (pw_or (pt_not (pt_val (pe_callB call_isiT (by rfl) B.isinstance b_isinstance (pa_cons (pv 2) (pa_cons (pe_tup (pa_cons (pe_bltn (v := .ty "list") (by rfl) B.list b_list rfl) (pa_cons (pe_bltn (v := .ty "tuple") (by rfl) B.tuple b_tuple rfl) pa_nil))) pa_nil))))) (pw_or1 (pt_cmpR op_ne (pe_callB cr_len (by rfl) B.len b_len (pa_cons (pv 2) pa_nil)) (pv 1) (nomark _)))))
        (pss_one (ps_ret pe_bl))
        pss_nil)
      (pss_cons (ps_for PassesOwn.never rfl (pi_tup (pv 2)) (pg_name (i := 3) nd rfl (.inl rfl))
        (pss_one (ps_if (PW.pt (pw_or (pt_not (pt_val (pe_y C__law_integers hr (by decide) pass0 (by rfl) (pa_cons (pv 3) (pa_cons pe_int pa_nil))))) (pw_or (pt_cmpR op_lt (pe_ix ix_tup (pv 3) pe_int (fun _ _ => rfl)) pe_int (nomark _)) (pw_or1 (pt_not (pt_val (pe_y C__law_lowest hr (by decide) pass0 (by rfl) (pa_cons (pe_ix ix_tup (pv 3) pe_int (fun _ _ => rfl)) (pa_cons (pe_ix ix_tup (pv 3) pe_int (fun _ _ => rfl)) pa_nil)))))))))
          (pss_one (ps_ret pe_bl))
          pss_nil)))
      (pss_cons (ps_for PassesOwn.never rfl (pi_list (pv 0)) (pg_tup (n := 3) (by rfl) (pgs_cons (pg_name (i := 4) nd rfl (.inl rfl)) (pgs_cons (pg_name (i := 5) nd rfl (.inl rfl)) (pgs_cons (pg_name (i := 6) nd rfl (.inl rfl)) pgs_nil))))
        (pss_cons (ps_set (i := 7) nd rfl (.inl rfl) pe_int)
        (pss_cons (ps_set (i := 8) nd rfl (.inl rfl) pe_int)
        (pss_cons (ps_for PassesOwn.never rfl (pi_range1 (by rfl) B.range (pa_cons (pv 1) pa_nil)) (pg_name (i := 9) nd rfl (.inl rfl))
          (pss_cons (ps_set (i := 7) nd rfl (.inl rfl) (pe_op op_add (pe_op op_mulB (pv 7) (pe_ix ix_tup (pe_ix ix_tup (pv 2) (pv 9) (fun _ _ => rfl)) pe_int (fun _ _ => rfl))) (pe_op op_mulB (pe_op op_mulB (pe_ix ix_tup (pv 4) (pv 9) (fun _ _ => rfl)) (pe_ix ix_tup (pe_ix ix_tup (pv 2) (pv 9) (fun _ _ => rfl)) pe_int (fun _ _ => rfl))) (pv 8))))
          (pss_one (ps_set (i := 8) nd rfl (.inl rfl) (pe_op op_mulB (pv 8) (pe_ix ix_tup (pe_ix ix_tup (pv 2) (pv 9) (fun _ _ => rfl)) pe_int (fun _ _ => rfl)))))))
        (pss_one (ps_if (PW.pt (pw_or (pt_cmpR op_gt (pv 7) (pe_op op_mulB (pv 6) (pv 8)) (nomark _)) (pw_or1 (PW.pt (pw_and (pt_cmpR op_eq (pv 5) pe_str (nomark _)) (pw_and1 (pt_cmpR op_ne (pv 7) (pe_op op_mulB (pv 6) (pv 8)) (nomark _))))))))
          (pss_one (ps_ret pe_bl))
          pss_nil))))))
      (pss_one (ps_ret pe_bl))))), ?_⟩
    have hD : ∀ j, j < W.n → 0 < lowD (xx j) d := fun j _ => lowD_pos hd
    have hDb : ∀ j, j < W.n → (lowD (xx j) d).natAbs ≤ 2 ^ 400 := fun j _ => by have := lowD_le (x := xx j) hd; omega
    have hNb : ∀ j, j < W.n → (lowN (xx j) d).natAbs ≤ 2 ^ 400 := fun j hj => by have := lowN_le (x := xx j) hd; have := hxb j hj; omega
    walk_at "rd"
    refine ⟨sz (show 2 ≤ 100000 by decide), fun T nT => ?_⟩
    have e1 : Ex H (upd H T (.tup [.ty "list", .ty "tuple"])) := ex_new nT
    have eT : upd H T (.tup [.ty "list", .ty "tuple"]) T = some (.tup [.ty "list", .ty "tuple"]) := upd_same
    generalize upd H T (HO.tup [.ty "list", .ty "tuple"]) = H1 at e1 eT ⊢
    walk_at "rd"
    refine rd_isiLT (e1.at ex) eT ?_
    walk_at "rd"
    refine rd_lenTt (e1.at ex) ?_
    walk_at "rd"
    refine rd_ndec (fun z => absurd rfl z) fun _ => ?_
    walk_at "rd"
    refine rd_itT (e1.at ex) (for_w (wkTt (n := W.n) (f := fun k => .ref (pp k))) (fun i σ H2 => Ex H H2 ∧ ∃ o3 o4 o5 o6 o7 o8 o9, σ = [some (.ref p), some (.int W.n), some (.ref x), o3, o4, o5, o6, o7, o8, o9]) ⟨e1, _, _, _, _, _, _, _, rfl⟩ (fun i σ H2 _ hP => Ex.at hP.1 ex) (fun i x1 σ H2 H3 hi hP y => ?_) fun σ H2 hP => ?_)
    · obtain ⟨e2, o3, o4, o5, o6, o7, o8, o9, rfl⟩ := hP
      obtain ⟨rfl, rfl⟩ := y
      have eq := e2.at (epp i hi)
      walk_at "rd"
      have ev : H3 (pp i) = some (.tup (vl 2 fun j => if j = 0 then lowN (xx i) d else lowD (xx i) d)) := eq
      refine ⟨.ref (pp i), 2, true, rfl, vec_good ev (by decide), fun H4 e4 => ?_⟩
      walk_at "rd"
      refine rd_ixTn 1 (e4.at eq) rfl rfl ?_
      walk_at "rd"
      refine rd_dec (fun z => absurd z (by have := hD i hi; omega)) fun _ => ?_
      walk_at "rd"
      refine rd_ixTn 0 (e4.at eq) rfl rfl ?_
      walk_at "rd"
      refine rd_ixTn 1 (e4.at eq) rfl rfl ?_
      walk_at "rd"
      refine ⟨_, _, rfl, hD i hi, by have := lowD_le (x := xx i) hd; omega, low_gcd hd, fun H5 e5 => ?_⟩
      walk_at "rd"
      exact ⟨Xt.trans e2 (Xt.trans e4 e5), _, _, _, _, _, _, _, rfl⟩
    · obtain ⟨e2, o3, o4, o5, o6, o7, o8, o9, rfl⟩ := hP
      obtain ⟨rp, np, r1, r2, r3⟩ := hL.ex e2
      walk_at "rd"
      refine rd_itL r1 (for_w (wkLt (n := W.m) (f := fun k => .ref (rp k))) (fun i σ H3 => Ex H2 H3 ∧ ∃ o3 o4 o5 o6 o7 o8 o9, σ = [some (.ref p), some (.int W.n), some (.ref x), o3, o4, o5, o6, o7, o8, o9]) ⟨Ex.rfl', _, _, _, _, _, _, _, rfl⟩ (fun i σ H2 _ hP => Ex.at hP.1 r1) (fun i x1 σ H3 H4 hi hP y => ?_) fun σ H3 hP => ?_)
      · obtain ⟨e3, o3, o4, o5, o6, o7, o8, o9, rfl⟩ := hP
        obtain ⟨rfl, rfl⟩ := y
        have hub : ∀ j, j < W.n → (W.R i j).natAbs ≤ BB := fun j hj => hle.2.2 i hi j hj
        refine rd_gtrip (e3.at (r2 i hi)) ?_
        walk_at "rd"
        refine rd_rg1 W.n rfl (by omega) (for_w wkR (fun j σ H5 => Ex H4 H5 ∧ ∃ o3 o9, σ = [some (.ref p), some (.int W.n), some (.ref x), o3, some (.ref (np i)), some (.str (rel (W.q i))), some (.int (W.C i)), some (.int (tpw (fun k => lowN (xx k) d) (fun k => lowD (xx k) d) (W.R i) j)), some (.int (blw (fun k => lowD (xx k) d) j)), o9]) ⟨Ex.rfl', _, _, rfl⟩ (fun i σ H2 _ hP => trivial) (fun j x1 σ H5 H6 hj hP y => ?_) fun σ H5 hP => ?_)
        · obtain ⟨e5, o3, o9, rfl⟩ := hP
          obtain ⟨rfl, exx⟩ := y
          obtain rfl : x1 = .int (j : Int) := by rw [exx]; exact congrArg V.int (by omega)
          have e06 : Ex H H6 := Xt.trans e2 (Xt.trans e3 e5)
          have eq := e06.at (epp j hj)
          have bb := blw_big (D := fun k => lowD (xx k) d) (k := j) (by omega) fun q hq => hDb q (by omega)
          have tb := tpw_big (N := fun k => lowN (xx k) d) (D := fun k => lowD (xx k) d) (u := W.R i) (k := j) (by omega) (fun q hq => hDb q (by omega)) (fun q hq => hNb q (by omega)) fun q hq => hub q (by omega)
          walk_at "rd"
          refine rd_ixTt j (e06.at ex) rfl hj ?_
          walk_at "rd"
          refine rd_ixTn 1 eq rfl rfl ?_
          refine rd_I (mulok_big tb (b4_big (hDb j hj))) ?_
          walk_at "rd"
          refine rd_ixTt j (e5.at (e3.at (r3 i hi))) rfl hj ?_
          walk_at "rd"
          refine rd_ixTt j (e06.at ex) rfl hj ?_
          walk_at "rd"
          refine rd_ixTn 0 eq rfl rfl ?_
          refine rd_I (mulok_big (bb_big (hub j hj)) (b4_big (hNb j hj))) ?_
          walk_at "rd"
          refine rd_I (mulok_big (un_big (hub j hj) (hNb j hj)) bb) ?_
          walk_at "rd"
          refine rd_ixTt j (e06.at ex) rfl hj ?_
          walk_at "rd"
          refine rd_ixTn 1 eq rfl rfl ?_
          refine rd_I (mulok_big bb (b4_big (hDb j hj))) ?_
          walk_at "rd"
          exact ⟨e5, _, _, rfl⟩
        · obtain ⟨e5, o3, o9, rfl⟩ := hP
          have bb := blw_big (D := fun k => lowD (xx k) d) (k := W.n) hn hDb
          have law := tpw_le (N := fun k => lowN (xx k) d) (D := fun k => lowD (xx k) d) (u := W.R i) (x := xx) (d := d) (c := W.C i) (n := W.n) hd hD fun j hj => low_eq hd
          walk_at "rd"
          refine rd_I (mulok_big (bb_big (hle.2.1 i hi)) bb) ?_
          walk_at "rd"
          refine rd_dec (fun z => absurd z (by have := law.1 (hpt i hi).1; omega)) fun _ => ?_
          walk_at "rd"
          refine rd_eq rfl ?_
          walk_at "rd"
          refine rd_dec (fun z => ?_) fun _ => ?_
          · walk_at "rd"
            refine rd_I (mulok_big (bb_big (hle.2.1 i hi)) bb) ?_
            walk_at "rd"
            refine rd_ndec (fun y => absurd (law.2 ((hpt i hi).2 (rel_eq.mp z))) y) fun _ => ?_
            walk_at "rd"
            exact ⟨Xt.trans e3 e5, _, _, _, _, _, _, _, rfl⟩
          · walk_at "rd"
            exact ⟨Xt.trans e3 e5, _, _, _, _, _, _, _, rfl⟩
      · obtain ⟨e3, o3, o4, o5, o6, o7, o8, o9, rfl⟩ := hP
        walk_at "rd"
        exact k H3 (Xt.trans e2 e3)
/-! ### _law_clashes -/
abbrev s__law_clashes : Stmt := topS 32
theorem sc__law_clashes : FnScope ["rows", "many", "shares", "sums", "bound", "k", "numbers", "relation", "most", "at"] ["rows", "many", "shares"] (defScope s__law_clashes) := ⟨rfl, rfl, rfl, by decide +kernel, rfl, by decide +kernel, by decide +kernel⟩
def sp__law_clashes : Sp := fun vs H Q _ => ∃ (p : Addr) (W : Rws) (x : V), vs = [.ref p, .int W.n, x] ∧ LRow H p W ∧ W.n ≤ 1000 ∧ W.m ≤ 1000 ∧ RSm W ∧ AddO H W x fun b => Q (.bl b)
theorem ok__law_clashes {f : Addr} {fd : FuncData} (F : Fun K "_law_clashes" "_law_clashes" s__law_clashes f fd) (B : Bi mg) (C__law_integers : Cl P w K mg base CX0 43 "_law_integers" ["thing", "size"] sp__law_integers) : FnOk P w K mg base CX0 45 f fd ["rows", "many", "shares"] sp__law_clashes := by
  refine F.ok sc__law_clashes (fun vs H Q E h => ?_) (fun cdv A outer s0 H vs Q E hr h => ?_)
  · obtain ⟨p, W, x, rfl, _⟩ := h; rfl
  · obtain ⟨p, W, x, rfl, hL, hn, hm, hS, h⟩ := h
    have nd := sc__law_clashes.nd
    refine ⟨_, (pss_cons (ps_if (pt_not (pt_val (pe_y C__law_integers hr (by decide) pass0 (by rfl) (pa_cons (pv 2) (pa_cons (pe_callB cr_len (by rfl) B.len b_len (pa_cons (pv 0) pa_nil)) pa_nil)))))
        (pss_one (ps_ret pe_bl))
        pss_nil)
      (pss_cons (ps_set (i := 3) nd rfl (.inr rfl) (pe_lc (own := [("k", 5)]) rfl nd (pi_range1 (by rfl) B.range (pa_cons (pv 1) pa_nil)) (blkOk_by (by rfl)) (fun _ _ _ _ _ => (pg_name (i := 5) nd rfl (by first | exact .inl rfl | exact .inr rfl))) (fun _ _ _ _ _ => pts_nil) (fun _ _ _ _ _ => pe_int)))
      (pss_cons (ps_set (i := 4) nd rfl (.inl rfl) pe_int)
      (pss_cons (ps_for PassesOwn.never rfl (pi_range1 (by rfl) B.range (pa_cons (pe_callB cr_len (by rfl) B.len b_len (pa_cons (pv 0) pa_nil)) pa_nil)) (pg_name (i := 5) nd rfl (.inr rfl))
        (pss_cons (ps_asg (pe_ix ix_list (pv 0) (pv 5) (fun _ _ => rfl)) (pg_tup (n := 3) (by rfl) (pgs_cons (pg_name (i := 6) nd rfl (.inr rfl)) (pgs_cons (pg_name (i := 7) nd rfl (.inl rfl)) (pgs_cons (pg_name (i := 8) nd rfl (.inl rfl)) pgs_nil)))))
        (pss_cons (ps_if (PW.pt (pw_and (pt_cmpR op_eq (pv 7) pe_str (nomark _)) (pw_and1 (pt_cmpR op_lt (pe_ix ix_tup (pv 2) (pv 5) (fun _ _ => rfl)) pe_int (nomark _)))))
          (pss_one (ps_ret pe_bl))
          pss_nil)
        (pss_cons (ps_set (i := 3) nd rfl (.inr rfl) (pe_lc (own := [("at", 9)]) rfl nd (pi_range1 (by rfl) B.range (pa_cons (pv 1) pa_nil)) (blkOk_by (by rfl)) (fun _ _ _ _ _ => (pg_name (i := 9) nd rfl (by first | exact .inl rfl | exact .inr rfl))) (fun _ _ _ _ _ => pts_nil) (fun _ _ _ _ _ => (pe_op op_add (pe_ix (ix_listK (K := K) rfl) (pv 3) (pv 9) (fun _ _ => rfl)) (pe_op op_mulB (pe_ix (ix_tupK (K := K) rfl) (pv 2) (pv 5) (fun _ _ => rfl)) (pe_ix (ix_tupK (K := K) rfl) (pv 6) (pv 9) (fun _ _ => rfl)))))))
        (pss_one (ps_set (i := 4) nd rfl (.inl rfl) (pe_op op_add (pv 4) (pe_op op_mulB (pe_ix ix_tup (pv 2) (pv 5) (fun _ _ => rfl)) (pv 8)))))))))
      (pss_one (ps_ret (pe_and (pe_cmpR (op_eqD hr.units) (pv 3) (pe_lc (own := [("k", 5)]) rfl nd (pi_range1 (by rfl) B.range (pa_cons (pv 1) pa_nil)) (blkOk_by (by rfl)) (fun _ _ _ _ _ => (pg_name (i := 5) nd rfl (by first | exact .inl rfl | exact .inr rfl))) (fun _ _ _ _ _ => pts_nil) (fun _ _ _ _ _ => pe_int)) (nomark _)) (pe_one (pe_cmpR op_le (pv 4) (pe_un un_neg pe_int) (nomark _)))))))))), ?_⟩
    obtain ⟨rp, np, e1, e2, e3⟩ := id hL
    walk_at "rd"
    refine rd_lenLt e1 ?_
    walk_at "rd"
    rcases h with ⟨hv, k⟩ | ⟨a, y, rfl, ea, hy, k⟩
    · refine ⟨x, W.m, false, rfl, hv, fun H1 ex1 => ?_⟩
      walk_at "rd"
      exact k H1 ex1
    · refine ⟨.ref a, W.m, true, rfl, vec_good ea hm, fun H1 ex1 => ?_⟩
      walk_at "rd"
      refine rd_rg1 W.n rfl (by omega) (lc_pure wkR (fun _ => .int 0) (by omega) (fun _ _ => trivial) (fun i x H2 H3 hi e2 y Pp hP => ?_) fun D0 H2 nD0 ex2 eD0 => ?_)
      · obtain ⟨rfl, _⟩ := y
        walk_at "rd"
        refine ⟨rfl, ?_⟩
        walk_at "rd"
        exact hP _ Ex.rfl'
      · walk_at "rd"
        refine rd_lenLt (ex2.at (ex1.at e1)) ?_
        walk_at "rd"
        refine rd_rg1 W.m rfl (by omega) (for_w wkR (fun i σ H3 => ∃ D, (Ex H H3 ∧ H3 D = some (.lst (vl W.n fun j => sm i fun k => y k * W.R k j)) ∧ ∀ j, j < i → W.q j = false → 0 ≤ y j) ∧ ∃ o5 o6 o7 o8 o9, σ = [some (.ref p), some (.int W.n), some (.ref a), some (.ref D), some (.int (sm i fun k => y k * W.C k)), o5, o6, o7, o8, o9]) ⟨D0, ⟨Xt.trans ex1 ex2, eD0, fun j hj => by omega⟩, _, _, _, _, _, rfl⟩ (fun i σ H2 _ hP => trivial) (fun i x σ H3 H4 hi hP yy => ?_) fun σ H3 hP => ?_)
        · obtain ⟨D, ⟨ex, eD, hq⟩, o5, o6, o7, o8, o9, rfl⟩ := hP
          obtain ⟨rfl, exx⟩ := yy
          obtain rfl : x = .int (i : Int) := by rw [exx]; exact congrArg V.int (by omega)
          walk_at "rd"
          refine rd_ixLt i (ex.at e1) rfl hi ?_
          refine rd_gtrip (ex.at (e2 i hi)) ?_
          walk_at "rd"
          refine rd_eq rfl ?_
          walk_at "rd"
          refine rd_andX (W.q i = false → 0 ≤ y i) (fun h1 hC => ?_) (fun h1 z => absurd (rel_ne.mpr z) h1) fun hX => ?_
          · walk_at "rd"
            refine rd_ixTt i (ex.at ea) rfl hi ?_
            walk_at "rd"
            refine rd_dec (fun h2 => ?_) fun h2 => ?_
            · walk_at "rd"
              exact k false _ ex ⟨fun z => (by cases z), fun z => absurd (z.1 i hi (rel_ne.mp h1)) (by omega)⟩
            · exact hC fun _ => by omega
          · walk_at "rd"
            refine rd_rg1 W.n rfl (by omega) (lc_pure wkR (fun j => .int ((sm i fun k => y k * W.R k j) + y i * W.R i j)) (by omega) (fun _ _ => trivial) (fun j x H5 H6 hj e5 yy Pp hP => ?_) fun D2 H5 nD2 e5 eD2 => ?_)
            · obtain ⟨rfl, exx⟩ := yy
              obtain rfl : x = .int (j : Int) := by rw [exx]; exact congrArg V.int (by omega)
              walk_at "rd"
              refine ⟨rfl, ?_⟩
              walk_at "rd"
              refine rd_ixLt j (e5.at eD) rfl hj ?_
              walk_at "rd"
              refine rd_ixTt i (e5.at (ex.at ea)) rfl hi ?_
              walk_at "rd"
              refine rd_ixTt j (e5.at (ex.at (e3 i hi))) rfl hj ?_
              refine rd_I (mulok_big (hy i hi) ((hS i hi).2 j hj)) ?_
              walk_at "rd"
              exact hP _ Ex.rfl'
            · walk_at "rd"
              refine rd_ixTt i (e5.at (ex.at ea)) rfl hi ?_
              walk_at "rd"
              refine rd_I (mulok_big (hy i hi) (hS i hi).1) ?_
              walk_at "rd"
              refine ⟨D2, ⟨Xt.trans ex e5, eD2, fun j hj hqj => ?_⟩, _, _, _, _, _, rfl⟩
              by_cases ji : j = i
              · rw [ji] at hqj ⊢; exact hX hqj
              · exact hq j (by omega) hqj
        · obtain ⟨D, ⟨ex, eD, hq⟩, o5, o6, o7, o8, o9, rfl⟩ := hP
          walk_at "rd"
          refine rd_rg1 W.n rfl (by omega) (lc_pure wkR (fun _ => .int 0) (by omega) (fun _ _ => trivial) (fun i x H4 H5 hi e4 y Pp hP => ?_) fun D2 H4 nD2 e4 eD2 => ?_)
          · obtain ⟨rfl, _⟩ := y
            walk_at "rd"
            refine ⟨rfl, ?_⟩
            walk_at "rd"
            exact hP _ Ex.rfl'
          · refine rd_eqL ((e4.at eD).trans (congrArg (fun z => some (HO.lst z)) vl_ints)) (eD2.trans (congrArg (fun z => some (HO.lst z)) (vl_ints (u := fun _ => 0)))) ?_
            have e04 : Ex H H4 := Xt.trans ex e4
            refine rd_blV ?_
            refine rd_dec (fun hz => ?_) fun hz => ?_
            · walk_at "rd"
              refine k _ H4 e04 ?_
              rw [decide_eq_true_iff]
              exact ⟨fun z => ⟨hq, range_eq.mp hz, z⟩, fun z => z.2.2⟩
            · exact k false H4 e04 ⟨fun z => (by cases z), fun z => absurd (range_eq.mpr z.2.1) hz⟩
/-! ### _law_answered -/
abbrev s__law_answered : Stmt := topS 33
theorem sc__law_answered : FnScope ["rows", "many", "answer"] ["rows", "many", "answer"] (defScope s__law_answered) := ⟨rfl, rfl, rfl, by decide +kernel, rfl, by decide +kernel, by decide +kernel⟩
def sp__law_answered : Sp := fun vs H Q _ => ∃ (p t : Addr) (W : Rws), vs = [.ref p, .int W.n, .ref t] ∧ LRow H p W ∧ W.le BB ∧ W.n ≤ 7 ∧ W.m ≤ 1000 ∧ Ans H t W ∧ ∀ H', Ex H H' → Q (.bl true) H'
theorem ok__law_answered {f : Addr} {fd : FuncData} (F : Fun K "_law_answered" "_law_answered" s__law_answered f fd) (B : Bi mg) (C__law_solves : Cl P w K mg base CX0 45 "_law_solves" ["rows", "many", "point"] sp__law_solves) (C__law_clashes : Cl P w K mg base CX0 45 "_law_clashes" ["rows", "many", "shares"] sp__law_clashes) :
    FnOk P w K mg base CX0 47 f fd ["rows", "many", "answer"] sp__law_answered := by
  refine F.ok sc__law_answered (fun vs H Q E h => ?_) (fun cdv A outer s0 H vs Q E hr h => ?_)
  · obtain ⟨p, t, W, rfl, _⟩ := h; rfl
  · obtain ⟨p, t, W, rfl, hL, hle, hn, hm, hA, k⟩ := h
    have nd := sc__law_answered.nd
    refine ⟨_, (pss_cons (ps_if (PW.pt (pw_or (pt_not (pt_val (pe_callB call_isi (by rfl) B.isinstance b_isinstance (pa_cons (pv 2) (pa_cons (pe_bltn (v := .ty "tuple") (by rfl) B.tuple b_tuple rfl) pa_nil))))) (pw_or1 (pt_cmpR op_ne (pe_callB cr_len (by rfl) B.len b_len (pa_cons (pv 2) pa_nil)) pe_int (nomark _)))))
        (pss_one (ps_ret pe_bl))
        pss_nil)
      (pss_cons (ps_if (pt_cmpR op_eq (pe_ix ix_tup (pv 2) pe_int (fun _ _ => rfl)) pe_str (nomark _))
        (pss_one (ps_ret (pe_y C__law_clashes hr (by decide) pass0 (by rfl) (pa_cons (pv 0) (pa_cons (pv 1) (pa_cons (pe_ix ix_tup (pv 2) pe_int (fun _ _ => rfl)) pa_nil))))))
        pss_nil)
      (pss_one (ps_ret (pe_and (pe_cmpR op_eq (pe_ix ix_tup (pv 2) pe_int (fun _ _ => rfl)) pe_str (nomark _)) (pe_one (pe_y C__law_solves hr (by decide) pass0 (by rfl) (pa_cons (pv 0) (pa_cons (pv 1) (pa_cons (pe_ix ix_tup (pv 2) pe_int (fun _ _ => rfl)) pa_nil)))))))))), ?_⟩
    walk_at "rd"
    rcases hA with ⟨x, pp, xx, d, et, ex, epp, hd, hdb, hxb, hpt⟩ | ⟨x, y, et, ex, hC, hyb⟩
    · refine rd_isTup (.inr (.inr (.inr ⟨t, _, rfl, et⟩))) ?_
      walk_at "rd"
      refine iteF ?_
      walk_at "rd"
      refine rd_lenT et ?_
      walk_at "rd"
      refine if_ndec (fun hn => absurd rfl hn) (fun _ => ?_)
      walk_at "rd"
      refine rd_ixTn 0 et rfl rfl ?_
      walk_at "rd"
      refine rd_eq rfl ?_
      walk_at "rd"
      refine rd_dec (fun z => absurd z (by decide)) fun _ => ?_
      walk_at "rd"
      refine rd_ixTn 0 et rfl rfl ?_
      walk_at "rd"
      refine rd_eq rfl ?_
      walk_at "rd"
      refine rd_dec (fun _ => ?_) fun z => absurd rfl z
      walk_at "rd"
      refine rd_ixTn 1 et rfl rfl ?_
      walk_at "rd"
      exact ⟨p, x, W, pp, xx, d, rfl, hL, hle, hn, hm, ex, epp, hd, hdb, hxb, hpt, k⟩
    · refine rd_isTup (.inr (.inr (.inr ⟨t, _, rfl, et⟩))) ?_
      walk_at "rd"
      refine iteF ?_
      walk_at "rd"
      refine rd_lenT et ?_
      walk_at "rd"
      refine if_ndec (fun hn => absurd rfl hn) (fun _ => ?_)
      walk_at "rd"
      refine rd_ixTn 0 et rfl rfl ?_
      walk_at "rd"
      refine rd_eq rfl ?_
      walk_at "rd"
      refine rd_dec (fun _ => ?_) fun z => absurd rfl z
      walk_at "rd"
      refine rd_ixTn 1 et rfl rfl ?_
      walk_at "rd"
      refine ⟨p, W, .ref x, rfl, hL, by omega, hm, le_rsm hle (by decide +kernel), .inr ⟨x, y, rfl, ex, fun i hi => Nat.lt_of_lt_of_le (hyb i hi) (Nat.pow_le_pow_right (by decide) (by decide)), fun b H1 e1 hb => ?_⟩⟩
      rw [hb.mpr hC]
      exact k H1 e1
end
end Sx
/-! changed shares, and how they are judged -/
namespace Sx
open PySem PySem.Spec PyProof.Rows L2 Y
local macro_rules | `(tactic| walk_at "rd1") => `(tactic| first
  | with_reducible refine rd_var rfl ?_
  | with_reducible refine rd_op ?_
  | with_reducible refine rd_c ?_
  | with_reducible refine rd_I0 ?_
  | with_reducible refine rd_seq ?_
  | ((with_reducible refine rd_I ?_ ?_); focus (first | exact mulok_r (by decide) (by decide) | exact mulok_l (by decide) (by decide) | (show _ ≠ _; decide) | (show _ ∧ _; decide)))
  | with_reducible refine rd_asg ?_
  | with_reducible refine rd_name ?_
  | with_reducible refine rd_cb ?_
  | with_reducible refine rd_cons ?_
  | with_reducible refine rd_nil ?_
  | with_reducible refine rd_int ?_
  | with_reducible refine rd_eqI ?_
  | with_reducible refine rd_neI ?_
  | with_reducible refine rd_bl ?_
  | with_reducible refine rd_test ?_
  | with_reducible refine rd_tB ?_
  | with_reducible refine rd_ifS ?_
  | with_reducible refine rd_next ?_
  | with_reducible refine rd_T ?_
  | with_reducible refine rd_F ?_
  | with_reducible refine rd_nT ?_
  | with_reducible refine rd_nF ?_
  | with_reducible refine rd_blV ?_
  | with_reducible refine rd_ret ?_
  | with_reducible refine rd_call ?_
  | with_reducible refine rd_drop ?_
  | with_reducible refine rd_not ?_
  | with_reducible refine rd_and ?_
  | with_reducible refine rd_or ?_
  | with_reducible refine rd_un ?_
  | with_reducible refine rd_U ?_
  | with_reducible refine rd_tup ?_
  | with_reducible refine rd_lst ?_
  | with_reducible refine rd_if ?_
  | with_reducible refine rd_andV ?_
  | with_reducible refine rd_orV ?_
  | with_reducible refine rd_notV ?_
  | with_reducible refine rd_sl ?_
  | with_reducible refine rd_nopart ?_
  | with_reducible refine rd_part ?_
  | with_reducible refine rd_iv ?_
  | with_reducible refine rd_bm ?_
  | with_reducible refine rd_abs ?_
  | with_reducible refine rd_intb ?_
  | with_reducible refine rd_mx2 ?_
  | with_reducible refine rd_mn2 ?_
  | with_reducible refine rd_sub ?_
  | with_reducible refine rd_lc ?_
  | with_reducible refine rd_for ?_
  | with_reducible refine rd_iL ?_
  | with_reducible refine rd_iT ?_
  | with_reducible refine rd_r1 ?_
  | with_reducible refine rd_r2 ?_
  | with_reducible refine rd_iZ ?_
  | with_reducible refine rd_iZM ?_
  | with_reducible refine rd_while ?_
  | with_reducible refine rd_tru ?_
  | with_reducible refine rd_brk ?_
  | with_reducible refine rd_par ?_
  | with_reducible refine rd_par2 ?_
  | with_reducible refine rd_bits ?_
  | with_reducible refine rd_callS ?_)
local macro_rules | `(tactic| walk_at "rd") => `(tactic| repeat walk_at "rd1")

section
variable {K : PySem.W.Frag} {H : Hp} {Q : VK} {p q : Addr} {xs ys : List V} {lo hi : Option Int}
theorem rd_slA (e : H p = some (.tup xs)) (h : ∀ l H', Ex H H' → H' l = some (.tup (cutV xs lo hi)) → Q (.ref l) H') : rSlA K (.ref p) lo hi H Q :=
  ⟨p, xs, rfl, SqT.of e, fun z => h p H Ex.rfl' (by
    rw [e]
    unfold cutV
    rw [z.1, z.2, List.drop_zero, Nat.sub_zero, List.take_length]), fun _ l hl => h l _ (ex_new hl) upd_same⟩
theorem rd_catA (e : H p = some (.tup xs)) (f : H q = some (.tup ys)) (hz : xs.length + ys.length ≤ 100000) (h : ∀ l H', Ex H H' → H' l = some (.tup (xs ++ ys)) → Q (.ref l) H') : rCatA K (.ref p) (.ref q) H Q :=
  ⟨p, q, xs, ys, rfl, rfl, SqT.of e, SqT.of f, sz hz, fun z => h q H Ex.rfl' (by rw [f, z]; rfl), fun _ z => h p H Ex.rfl' (by rw [e, z, List.append_nil]), fun _ _ l hl => h l _ (ex_new hl) upd_same⟩
theorem rd_truTp {n : Nat} {f : Nat → V} {R : Bool → Hp → Prop} (e : H p = some (.tup (tab n f))) (h : R (decide (0 < n)) H) : Tr K (.ref p) H R := ⟨_, .inr (.inl ⟨_, SqT.of e, rfl⟩), by
  have z : (!(tab n f).isEmpty) = decide (0 < n) := by
    cases n with
    | zero => rfl
    | succ n => show (!(List.map f (List.range (n + 1))).isEmpty) = _; rw [List.range_succ]; simp
  rw [z]; exact h⟩
end
/-- what is asked whether it is a clash of m rows -/
def ShV (H : Hp) (m : Nat) (x : V) : Prop := VecV H m x false ∨ ∃ a y, x = .ref a ∧ H a = some (.tup (vl m y)) ∧ ∀ i, i < m → (y i).natAbs < 2 ^ 4000
theorem Kd.to {S : List Addr} {H H' : Hp} {x : V} (k : Kd H x) (e : Xt S H H') (nt : NoT S H) : Kd H' x := by
  rcases k with h | h | h | ⟨a, xs, h1, h2⟩
  · exact .inl h
  · exact .inr (.inl h)
  · exact .inr (.inr (.inl h))
  · exact .inr (.inr (.inr ⟨a, xs, h1, tup_to e nt h2⟩))
theorem VecV.to {S : List Addr} {H H' : Hp} {n : Nat} {x : V} {g : Bool} (v : VecV H n x g) (e : Xt S H H') (nt : NoT S H) : VecV H' n x g := by
  rcases v with h | ⟨a, xs, h1, h2, h3, h4, h5⟩
  · exact .inl h
  · exact .inr ⟨a, xs, h1, tup_to e nt h2, h3, fun y hy => (h4 y hy).to e nt, h5⟩
theorem ShV.to {S : List Addr} {H H' : Hp} {m : Nat} {x : V} (v : ShV H m x) (e : Xt S H H') (nt : NoT S H) : ShV H' m x := by
  rcases v with h | ⟨a, y, h1, h2, h3⟩
  · exact .inl (h.to e nt)
  · exact .inr ⟨a, y, h1, tup_to e nt h2, h3⟩
theorem ShV.ex {H H' : Hp} {m : Nat} {x : V} (v : ShV H m x) (e : Ex H H') : ShV H' m x := v.to e nt_ex
/-- a list of k such things -/
def LS (H : Hp) (p : Addr) (k m : Nat) : Prop := ∃ f : Nat → V, H p = some (.lst (tab k f)) ∧ ∀ i, i < k → ShV H m (f i)
theorem LS.to {S : List Addr} {H H' : Hp} {p : Addr} {k m : Nat} (v : LS H p k m) (e : Xt S H H') (nt : NoT S H) (np : p ∉ S) : LS H' p k m := by
  obtain ⟨f, h1, h2⟩ := v
  exact ⟨f, e.at h1 np, fun i hi => (h2 i hi).to e nt⟩
theorem LS.ex {H H' : Hp} {p : Addr} {k m : Nat} (v : LS H p k m) (e : Ex H H') : LS H' p k m := v.to e nt_ex (by simp)
theorem ls_snoc {H H8 : Hp} {p : Addr} {k m : Nat} {f : Nat → V} {x : V} (eF : H p = some (.lst (tab k f))) (hf : ∀ i, i < k → ShV H m (f i)) (hx : ShV H m x) (X8 : Xt [p] H H8) (e8 : H8 p = some (.lst (tab k f ++ [x]))) : LS H8 p (k + 1) m := by
  have nt := nt_lst eF
  refine ⟨fun i => if i = k then x else f i, ?_, fun i hi => ?_⟩
  · rw [e8, ← tab_snoc]
    refine congrArg (fun z => some (HO.lst z)) (congr (congrArg _ (tab_ext fun j hj => by rw [if_neg (by omega)])) ?_)
    rw [if_pos rfl]
  · show ShV H8 m (if i = k then x else f i)
    by_cases h : i = k
    · rw [if_pos h]; exact hx.to X8 nt
    · rw [if_neg h]; exact (hf i (by omega)).to X8 nt
theorem shv_ok {H : Hp} {a : Addr} {m : Nat} {y : Nat → Int} (e : H a = some (.tup (vl m y))) (h : ∀ i, i < m → (y i).natAbs < 2 ^ 4000) : ShV H m (.ref a) := .inr ⟨a, y, rfl, e, h⟩
theorem shv_len {H : Hp} {a : Addr} {m : Nat} {xs : List V} (e : H a = some (.tup xs)) (hl : xs.length ≠ m) (hm : xs.length ≤ 1000) (hk : ∀ x ∈ xs, Kd H x) : ShV H m (.ref a) := .inl (.inr ⟨a, xs, rfl, e, hm, hk, by rw [decide_eq_false hl]; rfl⟩)
/-- another thing in one place -/
def OtV (H : Hp) (x : V) : Prop := (∃ i : Int, x = .int i ∧ i.natAbs < 2 ^ 4000) ∨ (isI x = false ∧ Kd H x)
theorem shv_rep {H : Hp} {a : Addr} {m d : Nat} {y : Nat → Int} {x : V} (e : H a = some (.tup (tab m fun j => if j = d then x else .int (y j)))) (hd : d < m) (hm : m ≤ 1000) (hx : OtV H x) (h : ∀ i, i < m → (y i).natAbs < 2 ^ 4000) : ShV H m (.ref a) := by
  rcases hx with ⟨i, rfl, hi⟩ | ⟨hi, hk⟩
  · refine shv_ok (y := fun j => if j = d then i else y j) (e.trans (congrArg (fun z => some (HO.tup z)) (tab_ext fun j hj => by
      show (if j = d then _ else _) = V.int (if j = d then _ else _)
      split <;> rfl))) fun j hj => ?_
    show (if j = d then i else y j).natAbs < _
    split
    · exact hi
    · exact h j hj
  · refine .inl (.inr ⟨a, _, rfl, e, by rw [tab_len]; exact hm, fun z hz => ?_, ?_⟩)
    · obtain ⟨j, _, rfl⟩ := List.mem_map.mp hz
      show Kd H (if j = d then x else .int (y j))
      split
      · exact hk
      · exact .inl ⟨_, rfl⟩
    · have : (tab m fun j => if j = d then x else V.int (y j)).all isI = false := by
        rw [List.all_eq_false]
        refine ⟨x, List.mem_map.mpr ⟨d, List.mem_range.mpr hd, if_pos rfl⟩, by rw [hi]; decide⟩
      rw [this, Bool.and_false]
theorem kd_vl {H : Hp} {m : Nat} {y : Nat → Int} : ∀ x ∈ vl m y, Kd H x := fun x hx => by
  obtain ⟨j, _, rfl⟩ := List.mem_map.mp hx
  exact .inl ⟨_, rfl⟩
section
variable {P : Program} {w : World} {K : PySem.W.Frag} {mg : Str → Option Value} {base : Heap}
/-! ### _law_changed -/
abbrev s__law_changed : Stmt := topS 34
theorem sc__law_changed : FnScope ["box", "shares", "found", "at", "one", "other"] ["box", "shares"] (defScope s__law_changed) := ⟨rfl, rfl, rfl, by decide +kernel, rfl, by decide +kernel, by decide +kernel⟩
theorem big4 {a : Int} (h : a.natAbs < 2 ^ 400) {b : Int} (hb : b.natAbs ≤ 2 * a.natAbs + 1) : b.natAbs < 2 ^ 4000 := by
  have q : 2 * 2 ^ 400 + 1 < 2 ^ 4000 := by decide +kernel
  generalize (2 : Nat) ^ 400 = M at *
  generalize (2 : Nat) ^ 4000 = M2 at *
  omega
def sp__law_changed : Sp := fun vs H Q _ => ∃ (b s g a : Addr) (m : Nat) (y : Nat → Int), vs = [.ref b, .ref a] ∧ Bx H b s g ∧ m ≤ 100 ∧ H a = some (.tup (vl m y)) ∧ (∀ i, i < m → (y i).natAbs < 2 ^ 400) ∧
  ∀ (p : Addr) (k : Nat) (H' : Hp), Xt [b, g] H H' → Bx H' b s g → LS H' p k m → k ≤ 100 → p ∉ [b, g] → Q (.ref p) H'
theorem ok__law_changed {f : Addr} {fd : FuncData} (F : Fun K "_law_changed" "_law_changed" s__law_changed f fd) (B : Bi mg) (C__law_take : Cl P w K mg base CX0 43 "_law_take" ["box", "size"] sp__law_take) : FnOk P w K mg base CX0 45 f fd ["box", "shares"] sp__law_changed := by
  refine F.ok sc__law_changed (fun vs H Q E h => ?_) (fun cdv A outer s0 H vs Q E hr h => ?_)
  · obtain ⟨b, s, g, a, m, y, rfl, _⟩ := h; rfl
  · obtain ⟨b, s, g, a, m, y, rfl, hx, hm, ea, hy, k⟩ := h
    have nd := sc__law_changed.nd
    refine ⟨_, (pss_cons (ps_set (i := 2) nd rfl (.inl rfl) (pe_lst (pa_cons (pv 1) (pa_cons (pe_op op_catA (pv 1) (pe_tup (pa_cons pe_int pa_nil))) (pa_cons (pe_op op_catA (pv 1) (pe_tup (pa_cons pe_int pa_nil))) pa_nil)))))
      (pss_cons (ps_expr (pe_bm PySem.F.plainAttrs_list PySem.F.slot_list_append PySem.F.type_list_append mt_append (pv 2) (pa_cons (pe_callTy cr_tupOf (by rfl) B.tuple b_tuple (pa_cons (pe_lc (own := [("one", 4)]) rfl nd (pi_tup (pv 1)) (blkOk_by (by rfl)) (fun _ _ _ _ _ => (pg_name (i := 4) nd rfl (by first | exact .inl rfl | exact .inr rfl))) (fun _ _ _ _ _ => pts_nil) (fun _ _ _ _ _ => (pe_op op_mulB pe_int (pv 4)))) pa_nil)) pa_nil)))
      (pss_cons (ps_expr (pe_bm PySem.F.plainAttrs_list PySem.F.slot_list_append PySem.F.type_list_append mt_append (pv 2) (pa_cons (pe_callTy cr_tupOf (by rfl) B.tuple b_tuple (pa_cons (pe_lc (own := [("one", 4)]) rfl nd (pi_tup (pv 1)) (blkOk_by (by rfl)) (fun _ _ _ _ _ => (pg_name (i := 4) nd rfl (by first | exact .inl rfl | exact .inr rfl))) (fun _ _ _ _ _ => pts_nil) (fun _ _ _ _ _ => (pe_op op_mulB pe_int (pv 4)))) pa_nil)) pa_nil)))
      (pss_cons (ps_expr (pe_bm PySem.F.plainAttrs_list PySem.F.slot_list_append PySem.F.type_list_append mt_append (pv 2) (pa_cons (pe_callTy cr_tupOf (by rfl) B.tuple b_tuple (pa_cons (pe_lc (own := [("one", 4)]) rfl nd (pi_tup (pv 1)) (blkOk_by (by rfl)) (fun _ _ _ _ _ => (pg_name (i := 4) nd rfl (by first | exact .inl rfl | exact .inr rfl))) (fun _ _ _ _ _ => pts_nil) (fun _ _ _ _ _ => (pe_op op_sub pe_int (pv 4)))) pa_nil)) pa_nil)))
      (pss_cons (ps_if (pt_tru (pv 1) (by intro _; rfl))
        (pss_cons (ps_set (i := 3) nd rfl (.inl rfl) (pe_y C__law_take hr (by decide) pass0 (by rfl) (pa_cons (pv 0) (pa_cons (pe_callB cr_len (by rfl) B.len b_len (pa_cons (pv 1) pa_nil)) pa_nil))))
        (pss_cons (ps_set (i := 4) nd rfl (.inl rfl) (pe_ix ix_tup (pv 1) (pv 3) (fun _ _ => rfl)))
        (pss_cons (ps_for PassesOwn.never rfl (pi_tup (pe_tup (pa_cons (pe_op op_add (pv 4) pe_int) (pa_cons (pe_op op_sub (pv 4) pe_int) (pa_cons (pe_op op_sub pe_int (pv 4)) (pa_cons pe_int (pa_cons pe_str (pa_cons pe_bl (pa_cons (pe_tup (pa_cons (pv 4) pa_nil)) pa_nil))))))))) (pg_name (i := 5) nd rfl (.inl rfl))
          (pss_one (ps_expr (pe_bm PySem.F.plainAttrs_list PySem.F.slot_list_append PySem.F.type_list_append mt_append (pv 2) (pa_cons (pe_op op_catA (pe_op op_catA (pe_slice sl_tupA (pv 1) po_none (po_some (pv 3))) (pe_tup (pa_cons (pv 5) pa_nil))) (pe_slice sl_tupA (pv 1) (po_some (pe_op op_add (pv 3) pe_int)) po_none)) pa_nil)))))
        (pss_one (ps_expr (pe_bm PySem.F.plainAttrs_list PySem.F.slot_list_append PySem.F.type_list_append mt_append (pv 2) (pa_cons (pe_op op_catA (pe_slice sl_tupA (pv 1) po_none (po_some (pv 3))) (pe_slice sl_tupA (pv 1) (po_some (pe_op op_add (pv 3) pe_int)) po_none)) pa_nil)))))))
        pss_nil)
      (pss_one (ps_ret (pv 2)))))))), ?_⟩
    have len1 : ∀ z : V, (vl m y ++ [z]).length = m + 1 := fun z => by rw [List.length_append, tab_len]; rfl
    have kd1 : ∀ {H : Hp} (i : Int), ∀ x ∈ vl m y ++ [V.int i], Kd H x := fun i x hx => by
      rcases List.mem_append.mp hx with h | h
      · exact kd_vl x h
      · rw [List.mem_singleton.mp h]; exact .inl ⟨_, rfl⟩
    walk_at "rd"
    refine ⟨sz (show 1 ≤ 100000 by decide), fun T1 nT1 => ?_⟩
    have e1 : Ex H (upd H T1 (.tup [.int 0])) := ex_new nT1
    have eT1 : upd H T1 (.tup [.int 0]) T1 = some (.tup [.int 0]) := upd_same
    generalize upd H T1 (HO.tup [.int 0]) = H1 at e1 eT1 ⊢
    refine rd_catA (e1.at ea) eT1 (by rw [tab_len]; show m + 1 ≤ 100000; omega) fun l1 H2 e2 el1 => ?_
    walk_at "rd"
    refine ⟨sz (show 1 ≤ 100000 by decide), fun T2 nT2 => ?_⟩
    have e3 : Ex H2 (upd H2 T2 (.tup [.int 1])) := ex_new nT2
    have eT2 : upd H2 T2 (.tup [.int 1]) T2 = some (.tup [.int 1]) := upd_same
    generalize upd H2 T2 (HO.tup [.int 1]) = H3 at e3 eT2 ⊢
    refine rd_catA (e3.at (e2.at (e1.at ea))) eT2 (by rw [tab_len]; show m + 1 ≤ 100000; omega) fun l2 H4 e4 el2 => ?_
    walk_at "rd"
    refine ⟨sz (show 3 ≤ 100000 by decide), fun F0 nF => ?_⟩
    have e5 : Ex H4 (upd H4 F0 (.lst [.ref a, .ref l1, .ref l2])) := ex_new nF
    have eF : upd H4 F0 (.lst [.ref a, .ref l1, .ref l2]) F0 = some (.lst [.ref a, .ref l1, .ref l2]) := upd_same
    generalize upd H4 F0 (HO.lst [.ref a, .ref l1, .ref l2]) = H5 at e5 eF ⊢
    have e05 : Ex H H5 := Xt.trans e1 (Xt.trans e2 (Xt.trans e3 (Xt.trans e4 e5)))
    have nFH : H F0 = none := Ex.back (Xt.trans e1 (Xt.trans e2 (Xt.trans e3 e4))) nF
    have nFb : F0 ∉ [b, g] := hx.nin nFH
    have L5 : LS H5 F0 3 m := ⟨fun i => if i = 0 then .ref a else if i = 1 then .ref l1 else .ref l2, eF, fun i hi => by
      have : i = 0 ∨ i = 1 ∨ i = 2 := by omega
      rcases this with rfl | rfl | rfl
      · exact shv_ok (e05.at ea) fun i hi => big4 (hy i hi) (by omega)
      · exact shv_len (e5.at (e4.at (e3.at el1))) (by rw [len1]; omega) (by rw [len1]; omega) (kd1 0)
      · exact shv_len (e5.at el2) (by rw [len1]; omega) (by rw [len1]; omega) (kd1 1)⟩
    walk_at "rd"
    refine ⟨tyL eF, ?_⟩
    walk_at "rd"
    refine rd_itT (e05.at ea) (lc_pure (wkTt (n := m) (f := fun j => .int (y j))) (fun j => .int (2 * y j)) (by omega) (fun H' e => e.at (e05.at ea)) (fun j x H7 H8 hj e7 y Pp hP => ?_) fun D1 H6 nD1 e6 eD1 => ?_)
    · obtain ⟨rfl, rfl⟩ := y
      walk_at "rd"
      refine ⟨rfl, ?_⟩
      walk_at "rd"
      exact hP _ Ex.rfl'
    · walk_at "rd"
      refine rd_tupL eD1 fun a1 H7 na1 e7 ea1 => ?_
      walk_at "rd"
      obtain ⟨f5, eF5, hf5⟩ := L5
      have e57 : Ex H5 H7 := Xt.trans e6 e7
      refine rd_append (Ex.at e57 eF5) (szl (by rw [tab_len]; omega)) fun H8 X8 e8 => ?_
      have L8 := ls_snoc (Ex.at e57 eF5) (fun i hi => (hf5 i hi).ex e57) (shv_ok ea1 fun i hi => big4 (hy i hi) (by show (2 * y i).natAbs ≤ _; rw [Int.natAbs_mul]; show 2 * _ ≤ _; omega)) X8 e8
      have e08 : Ex H H8 := Xt.fr (Xt.trans e05 e57) X8 nFH
      walk_at "rd"
      obtain ⟨f8, eF8, hf8⟩ := L8
      refine ⟨tyL eF8, ?_⟩
      walk_at "rd"
      refine rd_itT (e08.at ea) (lc_pure (wkTt (n := m) (f := fun j => .int (y j))) (fun j => .int (0 * y j)) (by omega) (fun H' e => e.at (e08.at ea)) (fun j x H7 H8 hj e7 y Pp hP => ?_) fun D2 H9 nD2 e9 eD2 => ?_)
      · obtain ⟨rfl, rfl⟩ := y
        walk_at "rd"
        refine ⟨rfl, ?_⟩
        walk_at "rd"
        exact hP _ Ex.rfl'
      · walk_at "rd"
        refine rd_tupL eD2 fun a2 H10 na2 e10 ea2 => ?_
        walk_at "rd"
        have e810 : Ex H8 H10 := Xt.trans e9 e10
        refine rd_append (Ex.at e810 eF8) (szl (by rw [tab_len]; omega)) fun H11 X11 e11 => ?_
        have L11 := ls_snoc (Ex.at e810 eF8) (fun i hi => (hf8 i hi).ex e810) (shv_ok ea2 fun i hi => big4 (hy i hi) (by show (0 * y i).natAbs ≤ _; rw [Int.zero_mul]; show 0 ≤ _; omega)) X11 e11
        have e011 : Ex H H11 := Xt.fr (Xt.trans e08 e810) X11 nFH
        walk_at "rd"
        obtain ⟨f11, eF11, hf11⟩ := L11
        refine ⟨tyL eF11, ?_⟩
        walk_at "rd"
        refine rd_itT (e011.at ea) (lc_pure (wkTt (n := m) (f := fun j => .int (y j))) (fun j => .int (0 - y j)) (by omega) (fun H' e => e.at (e011.at ea)) (fun j x H7 H8 hj e7 y Pp hP => ?_) fun D3 H12 nD3 e12 eD3 => ?_)
        · obtain ⟨rfl, rfl⟩ := y
          walk_at "rd"
          refine ⟨rfl, ?_⟩
          walk_at "rd"
          exact hP _ Ex.rfl'
        · walk_at "rd"
          refine rd_tupL eD3 fun a3 H13 na3 e13 ea3 => ?_
          walk_at "rd"
          have e1113 : Ex H11 H13 := Xt.trans e12 e13
          refine rd_append (Ex.at e1113 eF11) (szl (by rw [tab_len]; omega)) fun H14 X14 e14 => ?_
          have L14 := ls_snoc (Ex.at e1113 eF11) (fun i hi => (hf11 i hi).ex e1113) (shv_ok ea3 fun i hi => big4 (hy i hi) (by show (0 - y i).natAbs ≤ _; omega)) X14 e14
          have e014 : Ex H H14 := Xt.fr (Xt.trans e011 e1113) X14 nFH
          have hx14 := hx.ex e014
          walk_at "rd"
          refine rd_truTp (e014.at ea) ?_
          refine rd_ifH (fun σ' H' => (Xt [b, g] H H' ∧ Bx H' b s g ∧ ∃ k, k ≤ 100 ∧ LS H' F0 k m) ∧ ∃ o3 o4 o5, σ' = [some (.ref b), some (.ref a), some (.ref F0), o3, o4, o5]) (fun hm0 tz hz => ?_) (fun _ => ⟨⟨Ex.xt e014, hx14, 6, by omega, L14⟩, _, _, _, rfl⟩) fun σ' H' hz => ?_
          · walk_at "rd"
            refine rd_lenTt (e014.at ea) ?_
            walk_at "rd"
            refine ⟨b, s, g, _, rfl, hx14, by omega, by omega, fun d H15 d0 d1 X15 hx15 => ?_⟩
            obtain ⟨dn, rfl⟩ : ∃ dn : Nat, d = dn := ⟨d.toNat, by omega⟩
            have hdm : dn < m := by omega
            have X015 : Xt [b, g] H H15 := (Ex.xt e014).trans X15
            have L15 := L14.to X15 hx14.nt nFb
            have eaH : ∀ {H' : Hp}, Xt [b, g] H H' → H' a = some (.tup (vl m y)) := fun X => tup_to X hx.nt ea
            walk_at "rd"
            refine rd_ixTt dn (eaH X015) rfl hdm ?_
            walk_at "rd"
            refine ⟨sz (show 1 ≤ 100000 by decide), fun T3 nT3 => ?_⟩
            have e16 : Ex H15 (upd H15 T3 (.tup [.int (y dn)])) := ex_new nT3
            have eT3 : upd H15 T3 (.tup [.int (y dn)]) T3 = some (.tup [.int (y dn)]) := upd_same
            generalize upd H15 T3 (HO.tup [.int (y dn)]) = H16 at e16 eT3 ⊢
            walk_at "rd"
            refine ⟨sz (show 7 ≤ 100000 by decide), fun T4 nT4 => ?_⟩
            generalize hxs : ([V.int (y dn + 1), V.int (y dn - 1), V.int (0 - y dn), V.int 0, V.str "x", V.bl true, V.ref T3] : List V) = xs
            have e17 : Ex H16 (upd H16 T4 (.tup xs)) := ex_new nT4
            have eT4 : upd H16 T4 (.tup xs) T4 = some (.tup xs) := upd_same
            show ItT _ _ (upd H16 T4 (HO.tup xs)) _
            generalize upd H16 T4 (HO.tup xs) = H17 at e17 eT4 ⊢
            have xl : xs.length = 7 := by rw [← hxs]; rfl
            have X017 : Xt [b, g] H H17 := X015.trans (Ex.xt (Xt.trans e16 e17))
            have hx17 : Bx H17 b s g := (hx15.ex e16).ex e17
            have L17 := (L15.ex e16).ex e17
            have nt17 : NoT [F0] H17 := by
              obtain ⟨f17, q, _⟩ := L17
              exact nt_lst q
            refine rd_itT eT4 (for_w wkT (fun i σ H18 => (Xt [F0] H17 H18 ∧ LS H18 F0 (6 + i) m) ∧ ∃ o5, σ = [some (.ref b), some (.ref a), some (.ref F0), some (.int dn), some (.int (y dn)), o5]) ⟨⟨Xt.refl _, L17⟩, _, rfl⟩ (fun i σ H18 _ hP => tup_to hP.1.1 nt17 eT4) (fun i x σ H18 H19 hi hP yy => ?_) fun σ H18 hP => ?_)
            · obtain ⟨⟨e18, L18⟩, o5, rfl⟩ := hP
              obtain ⟨rfl, hxi⟩ := yy
              have hot : ∀ {H' : Hp}, Xt [F0] H17 H' → OtV H' x := fun {H'} e => by
                have mem := List.mem_of_getElem? hxi
                rw [← hxs] at mem
                simp only [List.mem_cons, List.not_mem_nil, or_false] at mem
                rcases mem with rfl | rfl | rfl | rfl | rfl | rfl | rfl
                · exact .inl ⟨_, rfl, big4 (hy dn hdm) (by omega)⟩
                · exact .inl ⟨_, rfl, big4 (hy dn hdm) (by omega)⟩
                · exact .inl ⟨_, rfl, big4 (hy dn hdm) (by omega)⟩
                · exact .inl ⟨_, rfl, by decide +kernel⟩
                · exact .inr ⟨rfl, .inr (.inr (.inl ⟨_, rfl⟩))⟩
                · exact .inr ⟨rfl, .inr (.inl ⟨_, rfl⟩)⟩
                · exact .inr ⟨rfl, .inr (.inr (.inr ⟨T3, _, rfl, tup_to e nt17 (e17.at eT3)⟩))⟩
              have ea18 := tup_to e18 nt17 (eaH X017)
              obtain ⟨f18, eF18, hf18⟩ := L18
              walk_at "rd"
              refine ⟨tyL eF18, ?_⟩
              walk_at "rd"
              refine rd_slA ea18 fun c1 H20 e20 ec1 => ?_
              rw [cut_lo (by rw [tab_len]; omega)] at ec1
              walk_at "rd"
              refine ⟨sz (show 1 ≤ 100000 by decide), fun T5 nT5 => ?_⟩
              have e21 : Ex H20 (upd H20 T5 (.tup [x])) := ex_new nT5
              have eT5 : upd H20 T5 (.tup [x]) T5 = some (.tup [x]) := upd_same
              generalize upd H20 T5 (HO.tup [x]) = H21 at e21 eT5 ⊢
              have lt : ((vl m y).take dn).length ≤ 100 := by rw [List.length_take]; omega
              refine rd_catA (e21.at ec1) eT5 (by show _ + 1 ≤ 100000; omega) fun c2 H22 e22 ec2 => ?_
              walk_at "rd"
              refine rd_slA (e22.at (e21.at (e20.at ea18))) fun c3 H23 e23 ec3 => ?_
              have edn : ((dn : Int) + 1) = ((dn + 1 : Nat) : Int) := rfl
              rw [edn, cut_hi (by rw [tab_len]; omega)] at ec3
              have ld : ((vl m y).drop (dn + 1)).length ≤ 100 := by rw [List.length_drop, tab_len]; omega
              refine rd_catA (e23.at ec2) ec3 (by rw [List.length_append]; show _ + 1 + _ ≤ 100000; omega) fun c4 H24 e24 ec4 => ?_
              rw [rep_tab hdm] at ec4
              have e1924 : Ex H19 H24 := Xt.trans e20 (Xt.trans e21 (Xt.trans e22 (Xt.trans e23 e24)))
              walk_at "rd"
              refine rd_append (Ex.at e1924 eF18) (szl (by rw [tab_len]; omega)) fun H25 X25 e25 => ?_
              have L25 := ls_snoc (Ex.at e1924 eF18) (fun i hi => (hf18 i hi).ex e1924) (shv_rep ec4 hdm (by omega) (hot (Xt.trans e18 (Ex.xt e1924))) fun i hi => big4 (hy i hi) (by omega)) X25 e25
              walk_at "rd"
              exact ⟨⟨Xt.trans e18 (Xt.trans (Ex.xt e1924) X25), L25⟩, _, rfl⟩
            · obtain ⟨⟨e18, L18⟩, o5, rfl⟩ := hP
              rw [xl] at L18
              have ea18 := tup_to e18 nt17 (eaH X017)
              obtain ⟨f18, eF18, hf18⟩ := L18
              walk_at "rd"
              refine ⟨tyL eF18, ?_⟩
              walk_at "rd"
              refine rd_slA ea18 fun c1 H20 e20 ec1 => ?_
              rw [cut_lo (by rw [tab_len]; omega)] at ec1
              walk_at "rd"
              refine rd_slA (e20.at ea18) fun c3 H23 e23 ec3 => ?_
              have edn : ((dn : Int) + 1) = ((dn + 1 : Nat) : Int) := rfl
              rw [edn, cut_hi (by rw [tab_len]; omega)] at ec3
              have lt : ((vl m y).take dn).length ≤ 100 := by rw [List.length_take]; omega
              have ld : ((vl m y).drop (dn + 1)).length ≤ 100 := by rw [List.length_drop, tab_len]; omega
              refine rd_catA (e23.at ec1) ec3 (by omega) fun c4 H24 e24 ec4 => ?_
              rw [del_tab hdm] at ec4
              have e1824 : Ex H18 H24 := Xt.trans e20 (Xt.trans e23 e24)
              walk_at "rd"
              refine rd_append (Ex.at e1824 eF18) (szl (by rw [tab_len]; omega)) fun H25 X25 e25 => ?_
              have L25 := ls_snoc (Ex.at e1824 eF18) (fun i hi => (hf18 i hi).ex e1824) (shv_len ec4 (by rw [tab_len]; omega) (by rw [tab_len]; omega) fun z hz => by
                obtain ⟨j, _, rfl⟩ := List.mem_map.mp hz
                show Kd _ (if j < dn then _ else _)
                split <;> exact .inl ⟨_, rfl⟩) X25 e25
              have X1725 : Xt [F0] H17 H25 := Xt.trans e18 (Xt.trans (Ex.xt e1824) X25)
              exact hz _ _ ⟨⟨Xt.fr X017 X1725 nFH, hx.new hx17 nFH X1725, 14, by omega, L25⟩, _, _, _, rfl⟩
          · obtain ⟨⟨X', hx', k', hk', L'⟩, o3, o4, o5, rfl⟩ := hz
            walk_at "rd"
            exact k F0 k' H' X' hx' L' hk' nFb
/-! ### _law_judged -/
abbrev s__law_judged : Stmt := topS 35
theorem sc__law_judged : FnScope ["rows", "many", "shares", "answer"] ["rows", "many", "shares"] (defScope s__law_judged) := ⟨rfl, rfl, rfl, by decide +kernel, rfl, by decide +kernel, by decide +kernel⟩
theorem LRow.rw {H : Hp} {p t : Addr} {W : Rws} (h : LRow H p W) (ht : ∀ xs, H p = some (.lst xs) → H t = some (.tup xs)) : RwAt H t W := by
  obtain ⟨rp, np, h1, h2, h3⟩ := h
  exact ⟨rp, np, ht _ h1, h2, h3⟩
def sp__law_judged : Sp := fun vs H Q _ => ∃ (p : Addr) (W : Rws) (x : V), vs = [.ref p, .int W.n, x] ∧ LRow H p W ∧ W.n ≤ 1000 ∧ W.m ≤ 1000 ∧ RSm W ∧ ShV H W.m x ∧ ∀ H', Ex H H' → Q (.bl true) H'
theorem ok__law_judged {f C0 : Addr} {fd : FuncData} (F : Fun K "_law_judged" "_law_judged" s__law_judged f fd) (B : Bi mg) (C_is_clash : Cl P w K mg base (L2.CX P w) 47 "is_clash" ["rows", "many", "multipliers"] (sp_is_clash C0)) (C__law_clashes : Cl P w K mg base CX0 45 "_law_clashes" ["rows", "many", "shares"] sp__law_clashes) :
    FnOk P w K mg base CX0 49 f fd ["rows", "many", "shares"] sp__law_judged := by
  refine F.ok sc__law_judged (fun vs H Q E h => ?_) (fun cdv A outer s0 H vs Q E hr h => ?_)
  · obtain ⟨p, W, x, rfl, _⟩ := h; rfl
  · obtain ⟨p, W, x, rfl, hL, hn, hm, hS, hx, k⟩ := h
    have nd := sc__law_judged.nd
    refine ⟨_, (pss_cons (ps_set (i := 3) nd rfl (.inl rfl) (pe_y C_is_clash hr (by decide) passL (by rfl) (pa_cons (pe_callTy cr_tupOf (by rfl) B.tuple b_tuple (pa_cons (pv 0) pa_nil)) (pa_cons (pv 1) (pa_cons (pv 2) pa_nil)))))
      (pss_cons (ps_if (pt_val (pe_y C__law_clashes hr (by decide) pass0 (by rfl) (pa_cons (pv 0) (pa_cons (pv 1) (pa_cons (pv 2) pa_nil)))))
        (pss_one (ps_ret (pe_cmpR op_isB (pv 3) pe_bl (nomark _))))
        pss_nil)
      (pss_one (ps_ret (pe_cmpR op_isB (pv 3) pe_bl (nomark _)))))), ?_⟩
    walk_at "rd"
    obtain ⟨rp, np, e1, e2, e3⟩ := id hL
    refine rd_tupL e1 fun t H1 nt ex1 et => ?_
    walk_at "rd"
    have hR : RwAt H1 t W := ⟨rp, np, et, fun i hi => ex1.at (e2 i hi), fun i hi => ex1.at (e3 i hi)⟩
    rcases hx with hv | ⟨a, y, rfl, ea, hy⟩
    · refine .inl ⟨t, W, x, rfl, hR, hn, hm, hS, .inl ⟨hv.ex ex1, fun H2 ex2 => ?_⟩⟩
      walk_at "rd"
      refine ⟨p, W, x, rfl, (hL.ex ex1).ex ex2, hn, hm, hS, .inl ⟨(hv.ex ex1).ex ex2, fun H3 ex3 => ?_⟩⟩
      walk_at "rd"
      refine rd_isB ?_
      exact k H3 (Xt.trans ex1 (Xt.trans ex2 ex3))
    · refine .inl ⟨t, W, .ref a, rfl, hR, hn, hm, hS, .inr ⟨a, y, rfl, ex1.at ea, hy, fun c H2 ex2 hc => ?_⟩⟩
      walk_at "rd"
      refine ⟨p, W, .ref a, rfl, (hL.ex ex1).ex ex2, hn, hm, hS, .inr ⟨a, y, rfl, ex2.at (ex1.at ea), hy, fun d H3 ex3 hd => ?_⟩⟩
      have e : c = d := Bool.eq_iff_iff.mpr (hc.trans hd.symm)
      subst e
      cases c with
      | true =>
        walk_at "rd"
        refine rd_isB ?_
        exact k H3 (Xt.trans ex1 (Xt.trans ex2 ex3))
      | false =>
        walk_at "rd"
        refine rd_isB ?_
        exact k H3 (Xt.trans ex1 (Xt.trans ex2 ex3))
end
end Sx
/-! what is no row -/
namespace Sx
open PySem PySem.Spec PyProof.Rows L2 Y
local macro_rules | `(tactic| walk_at "rd1") => `(tactic| first
  | with_reducible refine rd_var rfl ?_
  | with_reducible refine rd_op ?_
  | with_reducible refine rd_c ?_
  | with_reducible refine rd_I0 ?_
  | with_reducible refine rd_seq ?_
  | ((with_reducible refine rd_I ?_ ?_); focus (first | exact mulok_r (by decide) (by decide) | exact mulok_l (by decide) (by decide) | (show _ ≠ _; decide) | (show _ ∧ _; decide)))
  | with_reducible refine rd_asg ?_
  | with_reducible refine rd_name ?_
  | with_reducible refine rd_cb ?_
  | with_reducible refine rd_cons ?_
  | with_reducible refine rd_nil ?_
  | with_reducible refine rd_int ?_
  | with_reducible refine rd_eqI ?_
  | with_reducible refine rd_neI ?_
  | with_reducible refine rd_bl ?_
  | with_reducible refine rd_test ?_
  | with_reducible refine rd_tB ?_
  | with_reducible refine rd_ifS ?_
  | with_reducible refine rd_next ?_
  | with_reducible refine rd_T ?_
  | with_reducible refine rd_F ?_
  | with_reducible refine rd_nT ?_
  | with_reducible refine rd_nF ?_
  | with_reducible refine rd_blV ?_
  | with_reducible refine rd_ret ?_
  | with_reducible refine rd_call ?_
  | with_reducible refine rd_drop ?_
  | with_reducible refine rd_not ?_
  | with_reducible refine rd_and ?_
  | with_reducible refine rd_or ?_
  | with_reducible refine rd_un ?_
  | with_reducible refine rd_U ?_
  | with_reducible refine rd_tup ?_
  | with_reducible refine rd_lst ?_
  | with_reducible refine rd_if ?_
  | with_reducible refine rd_andV ?_
  | with_reducible refine rd_orV ?_
  | with_reducible refine rd_notV ?_
  | with_reducible refine rd_sl ?_
  | with_reducible refine rd_nopart ?_
  | with_reducible refine rd_part ?_
  | with_reducible refine rd_iv ?_
  | with_reducible refine rd_bm ?_
  | with_reducible refine rd_abs ?_
  | with_reducible refine rd_intb ?_
  | with_reducible refine rd_mx2 ?_
  | with_reducible refine rd_mn2 ?_
  | with_reducible refine rd_sub ?_
  | with_reducible refine rd_lc ?_
  | with_reducible refine rd_for ?_
  | with_reducible refine rd_iL ?_
  | with_reducible refine rd_iT ?_
  | with_reducible refine rd_r1 ?_
  | with_reducible refine rd_r2 ?_
  | with_reducible refine rd_iZ ?_
  | with_reducible refine rd_iZM ?_
  | with_reducible refine rd_while ?_
  | with_reducible refine rd_tru ?_
  | with_reducible refine rd_brk ?_
  | with_reducible refine rd_par ?_
  | with_reducible refine rd_par2 ?_
  | with_reducible refine rd_bits ?_
  | with_reducible refine rd_callS ?_)
local macro_rules | `(tactic| walk_at "rd") => `(tactic| repeat walk_at "rd1")

theorem cut_kd {H : Hp} {n : Nat} {u : Nat → Int} {lo hi : Option Int} : ∀ y ∈ cutV (vl n u) lo hi, Kd H y := fun y hy => by
  unfold cutV at hy
  exact kd_vl y (List.mem_of_mem_drop (List.mem_of_mem_take hy))
theorem cut_len {n : Nat} {u : Nat → Int} {lo hi : Option Int} : (cutV (vl n u) lo hi).length ≤ n := by
  have := cutV_length (vl n u) lo hi
  rw [tab_len] at this
  exact this
theorem vec_bad {H : Hp} {n : Nat} {a : Addr} {xs : List V} (e : H a = some (.tup xs)) (hl : xs.length ≤ 1000) (hk : ∀ y ∈ xs, Kd H y) (h : xs.length ≠ n ∨ ∃ y ∈ xs, isI y = false) : VecV H n (.ref a) false := by
  refine .inr ⟨a, xs, rfl, e, hl, hk, ?_⟩
  rcases h with h | ⟨y, hy, hi⟩
  · rw [decide_eq_false h]; rfl
  · have : xs.all isI = false := by
      rw [List.all_eq_false]
      exact ⟨y, hy, by rw [hi]; decide⟩
    rw [this, Bool.and_false]
theorem row_bad {H : Hp} {n : Nat} {T : Addr} {y0 y1 y2 : V} (e : H T = some (.tup [y0, y1, y2])) (h : VecV H n y0 false) : RowV H n (.ref T) false := .inr (.inr ⟨T, y0, y1, y2, rfl, e, .inl ⟨h, rfl⟩⟩)
section
variable {P : Program} {w : World} {K : PySem.W.Frag} {mg : Str → Option Value} {base : Heap}
abbrev s__law_wrong : Stmt := topS 29
theorem sc__law_wrong : FnScope ["box", "many", "numbers", "relation", "most", "at", "odd", "kind"] ["box", "many"] (defScope s__law_wrong) := ⟨rfl, rfl, rfl, by decide +kernel, rfl, by decide +kernel, by decide +kernel⟩
def sp__law_wrong : Sp := fun vs H Q _ => ∃ (b s g : Addr) (n : Nat), vs = [.ref b, .int n] ∧ Bx H b s g ∧ n ≤ 100 ∧ ∀ (x : V) (H' : Hp), Xt [b, g] H H' → Bx H' b s g → RowV H' n x false → Q x H'
theorem ok__law_wrong {f : Addr} {fd : FuncData} (F : Fun K "_law_wrong" "_law_wrong" s__law_wrong f fd) (B : Bi mg) (C__law_take : Cl P w K mg base CX0 43 "_law_take" ["box", "size"] sp__law_take) (C__law_triple : Cl P w K mg base CX0 45 "_law_triple" ["box", "many", "wide"] sp__law_triple) :
    FnOk P w K mg base CX0 47 f fd ["box", "many"] sp__law_wrong := by
  refine F.ok sc__law_wrong (fun vs H Q E h => ?_) (fun cdv A outer s0 H vs Q E hr h => ?_)
  · obtain ⟨b, s, g, n, rfl, _⟩ := h; rfl
  · obtain ⟨b, s, g, n, rfl, hx, hn, k⟩ := h
    have nd := sc__law_wrong.nd
    refine ⟨_, (pss_cons (ps_asg (pe_y C__law_triple hr (by decide) pass0 (by rfl) (pa_cons (pv 0) (pa_cons (pv 1) (pa_cons pe_int pa_nil)))) (pg_tup (n := 3) (by rfl) (pgs_cons (pg_name (i := 2) nd rfl (.inl rfl)) (pgs_cons (pg_name (i := 3) nd rfl (.inl rfl)) (pgs_cons (pg_name (i := 4) nd rfl (.inl rfl)) pgs_nil)))))
      (pss_cons (ps_set (i := 5) nd rfl (.inl rfl) (pe_y C__law_take hr (by decide) pass0 (by rfl) (pa_cons (pv 0) (pa_cons (pe_callB (cr_mx2 (by rfl)) (by rfl) B.max b_max (pa_cons pe_int (pa_cons (pv 1) pa_nil))) pa_nil))))
      (pss_cons (ps_set (i := 6) nd rfl (.inl rfl) (pe_ix ix_tup (pe_tup (pa_cons pe_str (pa_cons pe_bl (pa_cons (pe_tup (pa_cons pe_int pa_nil)) pa_nil)))) (pe_y C__law_take hr (by decide) pass0 (by rfl) (pa_cons (pv 0) (pa_cons pe_int pa_nil))) (fun _ _ => rfl)))
      (pss_cons (ps_set (i := 7) nd rfl (.inl rfl) (pe_y C__law_take hr (by decide) pass0 (by rfl) (pa_cons (pv 0) (pa_cons pe_int pa_nil))))
      (pss_cons (ps_if (pt_cmpR op_eq (pv 7) pe_int (nomark _))
        (pss_one (ps_ret (pe_tup (pa_cons (pe_op op_catA (pv 2) (pe_tup (pa_cons pe_int pa_nil))) (pa_cons (pv 3) (pa_cons (pv 4) pa_nil))))))
        pss_nil)
      (pss_cons (ps_if (PW.pt (pw_and (pt_cmpR op_eq (pv 7) pe_int (nomark _)) (pw_and1 (pt_cmpR op_gt (pv 1) pe_int (nomark _)))))
        (pss_one (ps_ret (pe_tup (pa_cons (pe_slice sl_tupA (pv 2) (po_some pe_int) po_none) (pa_cons (pv 3) (pa_cons (pv 4) pa_nil))))))
        pss_nil)
      (pss_cons (ps_if (pt_cmpR op_eq (pv 7) pe_int (nomark _))
        (pss_one (ps_ret (pe_tup (pa_cons (pe_tup (pa_cons pe_int (pa_cons pe_int pa_nil))) (pa_cons (pv 3) (pa_cons (pv 4) pa_nil))))))
        pss_nil)
      (pss_cons (ps_if (PW.pt (pw_or (pt_cmpR op_eq (pv 7) pe_int (nomark _)) (pw_or1 (pt_cmpR op_eq (pv 7) pe_int (nomark _)))))
        (pss_one (ps_ret (pe_tup (pa_cons (pe_op op_catA (pe_op op_catA (pe_slice sl_tupA (pv 2) po_none (po_some (pv 5))) (pe_tup (pa_cons (pv 6) pa_nil))) (pe_slice sl_tupA (pv 2) (po_some (pe_op op_add (pv 5) pe_int)) po_none)) (pa_cons (pv 3) (pa_cons (pv 4) pa_nil))))))
        pss_nil)
      (pss_cons (ps_if (pt_cmpR op_eq (pv 7) pe_int (nomark _))
        (pss_one (ps_ret (pe_tup (pa_cons (pv 2) (pa_cons (pv 3) (pa_cons (pv 6) pa_nil))))))
        pss_nil)
      (pss_cons (ps_if (pt_cmpR op_eq (pv 7) pe_int (nomark _))
        (pss_one (ps_ret (pe_tup (pa_cons (pv 2) (pa_cons pe_str (pa_cons (pv 4) pa_nil))))))
        pss_nil)
      (pss_cons (ps_if (pt_cmpR op_eq (pv 7) pe_int (nomark _))
        (pss_one (ps_ret (pe_tup (pa_cons (pv 2) (pa_cons (pv 3) pa_nil)))))
        pss_nil)
      (pss_cons (ps_if (pt_cmpR op_eq (pv 7) pe_int (nomark _))
        (pss_one (ps_ret (pe_tup (pa_cons (pv 2) (pa_cons (pv 3) (pa_cons (pv 4) (pa_cons pe_int pa_nil)))))))
        pss_nil)
      (pss_cons (ps_if (pt_cmpR op_eq (pv 7) pe_int (nomark _))
        (pss_one (ps_ret (pe_tup (pa_cons (pv 3) (pa_cons (pv 2) (pa_cons (pv 4) pa_nil))))))
        pss_nil)
      (pss_cons (ps_if (pt_cmpR op_eq (pv 7) pe_int (nomark _))
        (pss_one (ps_ret (pe_tup (pa_cons (pv 2) (pa_cons (pe_tup (pa_cons (pv 3) pa_nil)) (pa_cons (pv 4) pa_nil))))))
        pss_nil)
      (pss_cons (ps_if (pt_cmpR op_eq (pv 7) pe_int (nomark _))
        (pss_one (ps_ret (pe_tup (pa_cons (pe_tup (pa_cons (pv 2) (pa_cons (pv 3) (pa_cons (pv 4) pa_nil)))) pa_nil))))
        pss_nil)
      (pss_cons (ps_if (pt_cmpR op_eq (pv 7) pe_int (nomark _))
        (pss_one (ps_ret pe_str))
        pss_nil)
      (pss_one (ps_ret pe_int)))))))))))))))))), ?_⟩
    walk_at "rd"
    refine ⟨b, s, g, n, 4, rfl, hx, by omega, by decide, fun T u q c H1 X1 hx1 tr => ?_⟩
    obtain ⟨o, eT, eo, hu, hc⟩ := tr
    refine rd_gtrip eT ?_
    walk_at "rd"
    refine ⟨b, s, g, _, rfl, hx1, by split <;> omega, by split <;> omega, fun d H2 d0 d1 X2 hx2 => ?_⟩
    walk_at "rd"
    have eo2 := X2.at eo (hx1.tin eo)
    refine ⟨sz (show 1 ≤ 100000 by decide), fun T1 nT1 => ?_⟩
    have e3 : Ex H2 (upd H2 T1 (.tup [.int 1])) := ex_new nT1
    have eT1 : upd H2 T1 (.tup [.int 1]) T1 = some (.tup [.int 1]) := upd_same
    generalize upd H2 T1 (HO.tup [.int 1]) = H3 at e3 eT1 ⊢
    walk_at "rd"
    refine ⟨sz (show 3 ≤ 100000 by decide), fun T2 nT2 => ?_⟩
    have e4 : Ex H3 (upd H3 T2 (.tup [.str "x", .bl true, .ref T1])) := ex_new nT2
    have eT2 : upd H3 T2 (.tup [.str "x", .bl true, .ref T1]) T2 = some (.tup [.str "x", .bl true, .ref T1]) := upd_same
    generalize upd H3 T2 (HO.tup [.str "x", .bl true, .ref T1]) = H4 at e4 eT2 ⊢
    have hx4 := (hx2.ex e3).ex e4
    walk_at "rd"
    refine ⟨b, s, g, 3, rfl, hx4, by decide, by decide, fun d5 H5 d50 d51 X5 hx5 => ?_⟩
    have odd : ∃ y, ([.str "x", .bl true, .ref T1] : List V)[d5.toNat]? = some y ∧ isI y = false ∧ Kd H5 y := by
      have : d5 = 0 ∨ d5 = 1 ∨ d5 = 2 := by omega
      rcases this with rfl | rfl | rfl
      · exact ⟨_, rfl, rfl, .inr (.inr (.inl ⟨_, rfl⟩))⟩
      · exact ⟨_, rfl, rfl, .inr (.inl ⟨_, rfl⟩)⟩
      · exact ⟨_, rfl, rfl, .inr (.inr (.inr ⟨T1, _, rfl, X5.at (e4.at eT1) (hx4.tin (e4.at eT1))⟩))⟩
    obtain ⟨y, hy, yi, yk⟩ := odd
    refine rd_ixTn d5.toNat (X5.at eT2 (hx4.tin eT2)) (by omega) hy ?_
    walk_at "rd"
    have eo5 := X5.at (e4.at (e3.at eo2)) (hx4.tin (e4.at (e3.at eo2)))
    refine ⟨b, s, g, 13, rfl, hx5, by decide, by decide, fun z H6 z0 z1 X6 hx6 => ?_⟩
    walk_at "rd"
    have eo6 := X6.at eo5 (hx5.tin eo5)
    have yk6 : Kd H6 y := yk.to X6 hx5.nt
    have X06 : Xt [b, g] H H6 := X1.trans (X2.trans ((Ex.xt e3).trans ((Ex.xt e4).trans (X5.trans X6))))
    have done : ∀ x H', Ex H6 H' → RowV H' n x false → Q x H' := fun x H' e h => k x H' (X06.trans (Ex.xt e)) (hx6.ex e) h
    have t3 : ∀ {H' : Hp} {y0 : V}, Ex H6 H' → VecV H' n y0 false → ∀ p, H' p = none → Q (.ref p) (upd H' p (.tup [y0, .str (rel q), .int c])) := fun {H' y0} e hv p np => done _ _ (Xt.trans e (ex_new np)) (row_bad upd_same (hv.ex (ex_new np)))
    have dz : ∀ (j : Int), z ≠ j → decide (z = j) = false := fun j h => decide_eq_false h
    refine rd_dec (fun _ => ?_) fun h0 => ?_
    · walk_at "rd"
      refine ⟨sz (show 1 ≤ 100000 by decide), fun T3 nT3 => ?_⟩
      have e7 : Ex H6 (upd H6 T3 (.tup [.int 0])) := ex_new nT3
      refine rd_catA (e7.at eo6) upd_same (by rw [tab_len]; show n + 1 ≤ 100000; omega) fun l H8 e8 el => ?_
      walk_at "rd"
      refine ⟨sz (show 3 ≤ 100000 by decide), t3 (Xt.trans e7 e8) (vec_bad el (by rw [List.length_append, tab_len]; show n + 1 ≤ 1000; omega) (fun y hy => ?_) (.inl (by rw [List.length_append, tab_len]; show n + 1 ≠ n; omega)))⟩
      rcases List.mem_append.mp hy with hy | hy
      · exact kd_vl y hy
      · rw [List.mem_singleton.mp hy]; exact .inl ⟨_, rfl⟩
    · walk_at "rd"
      have k2 : ∀ (xx : V) (H' : Hp), True := fun _ _ => trivial
      refine rd_dec (fun h1 => ?_) fun h1 => ?_
      · walk_at "rd"
        refine rd_dec (fun hn0 => ?_) fun hn0 => ?_
        · walk_at "rd"
          refine rd_slA eo6 fun l H7 e7 el => ?_
          walk_at "rd"
          refine ⟨sz (show 3 ≤ 100000 by decide), t3 e7 (vec_bad el (Nat.le_trans cut_len (by omega)) (fun y hy => cut_kd y hy) (.inl ?_))⟩
          rw [show (1 : Int) = ((1 : Nat) : Int) from rfl, cut_hi (by rw [tab_len]; omega), List.length_drop, tab_len]
          omega
        · walk_at "rd"
          refine rd_dec (fun h2 => ?_) fun h2 => absurd h1 h2
          walk_at "rd"
          refine ⟨sz (show 2 ≤ 100000 by decide), fun T3 nT3 => ?_⟩
          have e7 : Ex H6 (upd H6 T3 (.tup [.int 0, .int 0])) := ex_new nT3
          walk_at "rd"
          refine ⟨sz (show 3 ≤ 100000 by decide), t3 e7 (vec_bad upd_same (by decide) (fun y hy => ?_) (.inl (by show 2 ≠ n; omega)))⟩
          obtain rfl : y = .int 0 := by simpa using hy
          exact .inl ⟨_, rfl⟩
      · walk_at "rd"
        refine rd_dec (fun h2 => absurd h2 h1) fun _ => ?_
        walk_at "rd"
        have mid : ∀ {H7 : Hp}, Ex H6 H7 → True := fun _ => trivial
        refine rd_dec (fun _ => ?_) fun _ => ?_
        · walk_at "rd"
          refine rd_slA eo6 fun l1 H7 e7 el1 => ?_
          walk_at "rd"
          refine ⟨sz (show 1 ≤ 100000 by decide), fun T3 nT3 => ?_⟩
          have e8 : Ex H7 (upd H7 T3 (.tup [y])) := ex_new nT3
          refine rd_catA (e8.at el1) upd_same (by have := cut_len (n := n) (u := u) (lo := none) (hi := some d); show _ + 1 ≤ 100000; omega) fun l2 H9 e9 el2 => ?_
          walk_at "rd"
          have e69 : Ex H6 H9 := Xt.trans e7 (Xt.trans e8 e9)
          refine rd_slA (Ex.at e69 eo6) fun l3 H10 e10 el3 => ?_
          have q1 := cut_len (n := n) (u := u) (lo := none) (hi := some d)
          have q2 := cut_len (n := n) (u := u) (lo := some (d + 1)) (hi := none)
          refine rd_catA (e10.at el2) el3 (by rw [List.length_append]; show _ + 1 + _ ≤ 100000; omega) fun l4 H11 e11 el4 => ?_
          have e611 : Ex H6 H11 := Xt.trans e69 (Xt.trans e10 e11)
          walk_at "rd"
          refine ⟨sz (show 3 ≤ 100000 by decide), t3 e611 (vec_bad el4 (by rw [List.length_append, List.length_append]; show _ + 1 + _ ≤ 1000; omega) (fun v hv => ?_) (.inr ⟨y, by simp, yi⟩))⟩
          rcases List.mem_append.mp hv with hv | hv
          · rcases List.mem_append.mp hv with hv | hv
            · exact cut_kd v hv
            · rw [List.mem_singleton.mp hv]; exact yk6.ex e611
          · exact cut_kd v hv
        · walk_at "rd"
          refine rd_dec (fun _ => ?_) fun _ => ?_
          · walk_at "rd"
            refine rd_slA eo6 fun l1 H7 e7 el1 => ?_
            walk_at "rd"
            refine ⟨sz (show 1 ≤ 100000 by decide), fun T3 nT3 => ?_⟩
            have e8 : Ex H7 (upd H7 T3 (.tup [y])) := ex_new nT3
            refine rd_catA (e8.at el1) upd_same (by have := cut_len (n := n) (u := u) (lo := none) (hi := some d); show _ + 1 ≤ 100000; omega) fun l2 H9 e9 el2 => ?_
            walk_at "rd"
            have e69 : Ex H6 H9 := Xt.trans e7 (Xt.trans e8 e9)
            refine rd_slA (Ex.at e69 eo6) fun l3 H10 e10 el3 => ?_
            have q1 := cut_len (n := n) (u := u) (lo := none) (hi := some d)
            have q2 := cut_len (n := n) (u := u) (lo := some (d + 1)) (hi := none)
            refine rd_catA (e10.at el2) el3 (by rw [List.length_append]; show _ + 1 + _ ≤ 100000; omega) fun l4 H11 e11 el4 => ?_
            have e611 : Ex H6 H11 := Xt.trans e69 (Xt.trans e10 e11)
            walk_at "rd"
            refine ⟨sz (show 3 ≤ 100000 by decide), t3 e611 (vec_bad el4 (by rw [List.length_append, List.length_append]; show _ + 1 + _ ≤ 1000; omega) (fun v hv => ?_) (.inr ⟨y, by simp, yi⟩))⟩
            rcases List.mem_append.mp hv with hv | hv
            · rcases List.mem_append.mp hv with hv | hv
              · exact cut_kd v hv
              · rw [List.mem_singleton.mp hv]; exact yk6.ex e611
            · exact cut_kd v hv
          · walk_at "rd"
            have good : ∀ {H' : Hp}, Ex H6 H' → VecV H' n (.ref o) true := fun e => vec_good (e.at eo6) (by omega)
            -- 4: odd in the last place
            refine rd_dec (fun _ => ?_) fun _ => ?_
            · walk_at "rd"
              refine ⟨sz (show 3 ≤ 100000 by decide), fun p np => done _ _ (ex_new np) (.inr (.inr ⟨p, _, _, _, rfl, upd_same, .inr ⟨true, good (ex_new np), .inl ⟨q, rfl, rfl⟩, yk6.ex (ex_new np), by rw [yi]; rfl⟩⟩))⟩
            · walk_at "rd"
              refine rd_dec (fun _ => ?_) fun _ => ?_
              · walk_at "rd"
                refine ⟨sz (show 3 ≤ 100000 by decide), fun p np => done _ _ (ex_new np) (.inr (.inr ⟨p, _, _, _, rfl, upd_same, .inr ⟨false, good (ex_new np), .inr (.inl ⟨rfl, rfl⟩), .inl ⟨_, rfl⟩, rfl⟩⟩))⟩
              · walk_at "rd"
                refine rd_dec (fun _ => ?_) fun _ => ?_
                · walk_at "rd"
                  refine ⟨sz (show 2 ≤ 100000 by decide), fun p np => done _ _ (ex_new np) (.inr (.inl ⟨p, _, rfl, upd_same, (show 2 ≠ 3 by decide), (show 2 ≤ 1000 by decide), rfl⟩))⟩
                · walk_at "rd"
                  refine rd_dec (fun _ => ?_) fun _ => ?_
                  · walk_at "rd"
                    refine ⟨sz (show 4 ≤ 100000 by decide), fun p np => done _ _ (ex_new np) (.inr (.inl ⟨p, _, rfl, upd_same, (show 4 ≠ 3 by decide), (show 4 ≤ 1000 by decide), rfl⟩))⟩
                  · walk_at "rd"
                    refine rd_dec (fun _ => ?_) fun _ => ?_
                    · walk_at "rd"
                      refine ⟨sz (show 3 ≤ 100000 by decide), fun p np => done _ _ (ex_new np) (row_bad upd_same (.inl ⟨.inr ⟨_, rfl⟩, rfl⟩))⟩
                    · walk_at "rd"
                      refine rd_dec (fun _ => ?_) fun _ => ?_
                      · walk_at "rd"
                        refine ⟨sz (show 1 ≤ 100000 by decide), fun T3 nT3 => ?_⟩
                        have e7 : Ex H6 (upd H6 T3 (.tup [.str (rel q)])) := ex_new nT3
                        have eT3 : upd H6 T3 (.tup [.str (rel q)]) T3 = some (.tup [.str (rel q)]) := upd_same
                        generalize upd H6 T3 (HO.tup [.str (rel q)]) = H7 at e7 eT3 ⊢
                        walk_at "rd"
                        refine ⟨sz (show 3 ≤ 100000 by decide), fun p np => done _ _ (Xt.trans e7 (ex_new np)) (.inr (.inr ⟨p, _, _, _, rfl, upd_same, .inr ⟨false, good (Xt.trans e7 (ex_new np)), .inr (.inr ⟨T3, q, rfl, (ex_new np).at eT3, rfl⟩), .inl ⟨_, rfl⟩, rfl⟩⟩))⟩
                      · walk_at "rd"
                        refine rd_dec (fun _ => ?_) fun _ => ?_
                        · walk_at "rd"
                          refine ⟨sz (show 3 ≤ 100000 by decide), fun T3 nT3 => ?_⟩
                          have e7 : Ex H6 (upd H6 T3 (.tup [.ref o, .str (rel q), .int c])) := ex_new nT3
                          walk_at "rd"
                          refine ⟨sz (show 1 ≤ 100000 by decide), fun p np => done _ _ (Xt.trans e7 (ex_new np)) (.inr (.inl ⟨p, _, rfl, upd_same, (show 1 ≠ 3 by decide), (show 1 ≤ 1000 by decide), rfl⟩))⟩
                        · walk_at "rd"
                          refine rd_dec (fun _ => ?_) fun _ => ?_
                          · walk_at "rd"
                            exact done _ H6 Ex.rfl' (.inl ⟨.inr ⟨_, rfl⟩, rfl⟩)
                          · walk_at "rd"
                            exact done _ H6 Ex.rfl' (.inl ⟨.inl ⟨_, rfl⟩, rfl⟩)
end
end Sx
/-! the refusal -/
namespace Sx
open PySem PySem.Spec PyProof.Rows L2 Y L2H
local macro_rules | `(tactic| walk_at "rd1") => `(tactic| first
  | with_reducible refine rd_var rfl ?_
  | with_reducible refine rd_op ?_
  | with_reducible refine rd_c ?_
  | with_reducible refine rd_I0 ?_
  | with_reducible refine rd_seq ?_
  | ((with_reducible refine rd_I ?_ ?_); focus (first | exact mulok_r (by decide) (by decide) | exact mulok_l (by decide) (by decide) | (show _ ≠ _; decide) | (show _ ∧ _; decide)))
  | with_reducible refine rd_asg ?_
  | with_reducible refine rd_name ?_
  | with_reducible refine rd_cb ?_
  | with_reducible refine rd_cons ?_
  | with_reducible refine rd_nil ?_
  | with_reducible refine rd_int ?_
  | with_reducible refine rd_eqI ?_
  | with_reducible refine rd_neI ?_
  | with_reducible refine rd_bl ?_
  | with_reducible refine rd_test ?_
  | with_reducible refine rd_tB ?_
  | with_reducible refine rd_ifS ?_
  | with_reducible refine rd_next ?_
  | with_reducible refine rd_T ?_
  | with_reducible refine rd_F ?_
  | with_reducible refine rd_nT ?_
  | with_reducible refine rd_nF ?_
  | with_reducible refine rd_blV ?_
  | with_reducible refine rd_ret ?_
  | with_reducible refine rd_call ?_
  | with_reducible refine rd_drop ?_
  | with_reducible refine rd_not ?_
  | with_reducible refine rd_and ?_
  | with_reducible refine rd_or ?_
  | with_reducible refine rd_un ?_
  | with_reducible refine rd_U ?_
  | with_reducible refine rd_tup ?_
  | with_reducible refine rd_lst ?_
  | with_reducible refine rd_if ?_
  | with_reducible refine rd_andV ?_
  | with_reducible refine rd_orV ?_
  | with_reducible refine rd_notV ?_
  | with_reducible refine rd_sl ?_
  | with_reducible refine rd_nopart ?_
  | with_reducible refine rd_part ?_
  | with_reducible refine rd_iv ?_
  | with_reducible refine rd_bm ?_
  | with_reducible refine rd_abs ?_
  | with_reducible refine rd_intb ?_
  | with_reducible refine rd_mx2 ?_
  | with_reducible refine rd_mn2 ?_
  | with_reducible refine rd_sub ?_
  | with_reducible refine rd_lc ?_
  | with_reducible refine rd_for ?_
  | with_reducible refine rd_iL ?_
  | with_reducible refine rd_iT ?_
  | with_reducible refine rd_r1 ?_
  | with_reducible refine rd_r2 ?_
  | with_reducible refine rd_iZ ?_
  | with_reducible refine rd_iZM ?_
  | with_reducible refine rd_while ?_
  | with_reducible refine rd_tru ?_
  | with_reducible refine rd_brk ?_
  | with_reducible refine rd_par ?_
  | with_reducible refine rd_par2 ?_
  | with_reducible refine rd_bits ?_
  | with_reducible refine rd_callS ?_)
local macro_rules | `(tactic| walk_at "rd") => `(tactic| repeat walk_at "rd1")

theorem RowV.to {S : List Addr} {H H' : Hp} {n : Nat} {x : V} {g : Bool} (v : RowV H n x g) (e : Xt S H H') (nt : NoT S H) : RowV H' n x g := by
  rcases v with h | ⟨a, xs, h1, h2, h3⟩ | ⟨a, y0, y1, y2, h1, h2, h3⟩
  · exact .inl h
  · exact .inr (.inl ⟨a, xs, h1, tup_to e nt h2, h3⟩)
  · refine .inr (.inr ⟨a, y0, y1, y2, h1, tup_to e nt h2, ?_⟩)
    rcases h3 with ⟨q1, q2⟩ | ⟨g1, q1, q2, q3, q4⟩
    · exact .inl ⟨q1.to e nt, q2⟩
    · refine .inr ⟨g1, q1.to e nt, ?_, q3.to e nt, q4⟩
      rcases q2 with q | q | ⟨a, q, z1, z2, z3⟩
      · exact .inl q
      · exact .inr (.inl q)
      · exact .inr (.inr ⟨a, q, z1, tup_to e nt z2, z3⟩)
theorem BadAt.to {S : List Addr} {H H' : Hp} {n : Nat} {xs : List V} {at_ : Nat} (b : BadAt H n xs at_) (e : Xt S H H') (nt : NoT S H) : BadAt H' n xs at_ :=
  ⟨let ⟨x, h1, h2⟩ := b.1; ⟨x, h1, h2.to e nt⟩, fun k hk => let ⟨y, h1, h2⟩ := b.2 k hk; ⟨y, h1, h2.to e nt⟩⟩
theorem Rw1.good {H : Hp} {x : V} {n B : Nat} (h : Rw1 H x n B) (hn : n ≤ 1000) : RowV H n x true := by
  obtain ⟨T, a, u, q, c, rfl, h2, h3, h4, h5⟩ := h
  exact .inr (.inr ⟨T, _, _, _, rfl, h2, .inr ⟨true, vec_good h3 hn, .inl ⟨q, rfl, rfl⟩, .inl ⟨_, rfl⟩, rfl⟩⟩)
section
variable {P : Program} {w : World} {K : PySem.W.Frag} {mg : Str → Option Value} {base : Heap}
theorem okP__law_is_integer {f : Addr} {fd : FuncData} (F : Fun K "_law_is_integer" "_law_is_integer" s__law_is_integer f fd) (B : Bi mg) : FnP P w K mg base CX0 41 f fd ["thing"] sp__law_is_integer := by
  refine Y.Fun.okP F sc__law_is_integer (fun vs H Q E h => ?_) (fun cdv A outer s H vs Q E p h => ?_)
  · obtain ⟨x, rfl, _⟩ := h; rfl
  · obtain ⟨x, rfl, kd, k⟩ := h
    have nd := sc__law_is_integer.nd
    refine ⟨_, (pss_one (ps_ret (pe_and (pe_callB call_isi (by rfl) B.isinstance b_isinstance (pa_cons (pv 0) (pa_cons (pe_bltn (v := .ty "int") (by rfl) B.int b_int rfl) pa_nil))) (pe_one (pe_not (pe_callB call_isi (by rfl) B.isinstance b_isinstance (pa_cons (pv 0) (pa_cons (pe_bltn (v := .ty "bool") (by rfl) B.bool b_bool rfl) pa_nil)))))))), ?_⟩
    walk_at "rd"
    refine rd_isInt kd (rd_blV ?_)
    rw [isI_eq] at k
    cases hx : isIB x with
    | false => rw [hx] at k; exact iteF k
    | true =>
      rw [hx] at k
      refine iteT ?_
      walk_at "rd"
      exact rd_isBool kd (rd_blV k)
/-- what is asked of the classes of errors -/
structure BX (P : Program) (w : World) (K : PySem.W.Frag) (mg : Str → Option Value) (base : Heap) (C0 M0 : Addr) : Prop where
  name : mg "BadRows" = some (.ref C0)
  mix : mg "MixError" = some (.ref M0)
  exc : ExcC K C0
  xf : XfC K C0
  noR : PySem.W.findIn K (.ref C0) "row" = some none
  exm : PySem.W.exmOne K (.ref C0) (.ref C0) = some true
  kit : PySem.W.kitOne K (.ref C0) (.ref M0) = some true
  int : ClP P w K mg base 41 "_law_is_integer" ["thing"] sp__law_is_integer
abbrev s__law_refused : Stmt := topS 36
theorem sc__law_refused : FnScope ["box", "many", "rows", "at", "bad", "door", "raised", "one"] ["box", "many", "rows"] (defScope s__law_refused) := ⟨rfl, rfl, rfl, by decide +kernel, rfl, by decide +kernel, by decide +kernel⟩
def sp__law_refused : Sp := fun vs H Q _ => ∃ (b s g p : Addr) (n m : Nat), vs = [.ref b, .int n, .ref p] ∧ Bx H b s g ∧ n ≤ 7 ∧ m ≤ 100 ∧ LR H p n m BB ∧ p ∉ [b, g] ∧ ∀ H', Q (.bl true) H'
theorem ok__law_refused {f C0 M0 : Addr} {fd : FuncData} (F : Fun K "_law_refused" "_law_refused" s__law_refused f fd) (B : Bi mg) (bX : BX P w K mg base C0 M0) (C__law_take : Cl P w K mg base CX0 43 "_law_take" ["box", "size"] sp__law_take) (C__law_wrong : Cl P w K mg base CX0 47 "_law_wrong" ["box", "many"] sp__law_wrong)
    (C_meet : Cl P w K mg base (L2.CX P w) 47 "meet" ["rows", "many"] (sp_meet C0)) (C_is_clash : Cl P w K mg base (L2.CX P w) 47 "is_clash" ["rows", "many", "multipliers"] (sp_is_clash C0)) : FnOk P w K mg base CX0 49 f fd ["box", "many", "rows"] sp__law_refused := by
  refine F.ok sc__law_refused (fun vs H Q E h => ?_) (fun cdv A outer s0 H vs Q E hr h => ?_)
  · obtain ⟨b, s, g, p, n, m, rfl, _⟩ := h; rfl
  · obtain ⟨b, s, g, p, n, m, rfl, hx, hn, hm, hL, hp, k⟩ := h
    have nd := sc__law_refused.nd
    refine ⟨_, (pss_cons (ps_set (i := 3) nd rfl (.inl rfl) (pe_y C__law_take hr (by decide) pass0 (by rfl) (pa_cons (pv 0) (pa_cons (pe_op op_add (pe_callB cr_len (by rfl) B.len b_len (pa_cons (pv 2) pa_nil)) pe_int) pa_nil))))
      (pss_cons (ps_set (i := 4) nd rfl (.inl rfl) (pe_op op_cat (pe_op op_cat (pe_slice sl_list (pv 2) po_none (po_some (pv 3))) (pe_lst (pa_cons (pe_y C__law_wrong hr (by decide) pass0 (by rfl) (pa_cons (pv 0) (pa_cons (pv 1) pa_nil))) pa_nil))) (pe_slice sl_list (pv 2) (po_some (pv 3)) po_none)))
      (pss_cons (ps_if (pt_cmpR op_eq (pe_y C__law_take hr (by decide) pass0 (by rfl) (pa_cons (pv 0) (pa_cons pe_int pa_nil))) pe_int (nomark _))
        (pss_one (ps_expr (pe_bm PySem.F.plainAttrs_list PySem.F.slot_list_append PySem.F.type_list_append mt_append (pv 4) (pa_cons (pe_y C__law_wrong hr (by decide) pass0 (by rfl) (pa_cons (pv 0) (pa_cons (pv 1) pa_nil))) pa_nil))))
        pss_nil)
      (pss_cons (ps_for PassesOwn.never rfl (pi_range1 (by rfl) B.range (pa_cons pe_int pa_nil)) (pg_name (i := 5) nd rfl (.inl rfl))
        (pss_one (ps_try_as rfl rfl nd (i := 6) rfl rfl (c := .ref C0) ⟨rfl, by decide, .inl bX.name⟩ takes0 (fun W pn xe tk po => (pss_cons (ps_if (pt_cmpR op_eq (pv 5) pe_int (nomark _))
            (pss_one (ps_expr (pe_yS C_meet hr (by decide) (fun σ => passAt tk σ) (by rfl) (pa_cons (pe_callTy (cr_tupOfK (K := K) rfl) (by rfl) B.tuple b_tuple (pa_cons (pv 4) pa_nil)) (pa_cons (pv 1) pa_nil)))))
            (pss_one (ps_if (pt_cmpR op_eq (pv 5) pe_int (nomark _))
              (pss_one (ps_expr (pe_yS C_is_clash hr (by decide) (fun σ => passAt tk σ) (by rfl) (pa_cons (pe_callTy (cr_tupOfK (K := K) rfl) (by rfl) B.tuple b_tuple (pa_cons (pv 4) pa_nil)) (pa_cons (pv 1) (pa_cons (pe_callTy (cr_tupOfK (K := K) rfl) (by rfl) B.tuple b_tuple (pa_cons (pe_lc (own := [("one", 7)]) rfl nd (pi_listK (K := K) rfl (pv 4)) (blkOk_by (by rfl)) (fun _ _ _ _ _ => (pg_name (i := 7) nd rfl (by first | exact .inl rfl | exact .inr rfl))) (fun _ _ _ _ _ => pts_nil) (fun _ _ _ _ _ => pe_int)) pa_nil)) pa_nil))))))
              (pss_one (ps_expr (pe_yS C_is_clash hr (by decide) (fun σ => passAt tk σ) (by rfl) (pa_cons (pe_callTy (cr_tupOfK (K := K) rfl) (by rfl) B.tuple b_tuple (pa_cons (pv 4) pa_nil)) (pa_cons (pv 1) (pa_cons (pe_tup (pa_cons pe_str pa_nil)) pa_nil)))))))))
          (pss_one (ps_ret pe_bl)))) (fun a oe cls d pn hz hf => (pss_one (ps_if (PW.pt (pw_or (pt_not (pt_val (pe_callB (call_isF bX.exc hz hf) (by rfl) B.isinstance b_isinstance (pa_cons (pv 6) (pa_cons (pe_glob (v := .ref M0) (by rfl) bX.mix rfl) pa_nil))))) (pw_or (pt_not (pt_val (pe_callP bX.int hr (by decide) (by rfl) (pa_cons (pe_xf bX.xf bX.noR hz hf (pv 6)) pa_nil)))) (pw_or1 (pt_cmpR op_ne (pe_xf bX.xf bX.noR hz hf (pv 6)) (pv 3) (nomark _)))))) (pss_one (ps_ret pe_bl)) pss_nil))))))
      (pss_one (ps_ret pe_bl)))))), ?_⟩
    walk_at "rd"
    obtain ⟨fr, ep, hW⟩ := id hL
    refine rd_lenLt ep ?_
    walk_at "rd"
    refine ⟨b, s, g, _, rfl, hx, by omega, by omega, fun d H1 d0 d1 X1 hx1 => ?_⟩
    obtain ⟨dn, rfl⟩ : ∃ dn : Nat, d = dn := ⟨d.toNat, by omega⟩
    have hdm : dn ≤ m := by omega
    walk_at "rd"
    have ep1 := X1.at ep hp
    refine rd_slL ep1 fun l1 H2 nl1 e2 el1 => ?_
    rw [cut_lo (by rw [tab_len]; exact hdm)] at el1
    walk_at "rd"
    have hx2 := hx1.ex e2
    have nl1b := hx1.nin nl1
    refine ⟨b, s, g, n, rfl, hx2, by omega, fun x H3 X3 hx3 hbad => ?_⟩
    walk_at "rd"
    have el3 := X3.at el1 nl1b
    refine ⟨sz (show 1 ≤ 100000 by decide), fun l2 nl2 => ?_⟩
    have e4 : Ex H3 (upd H3 l2 (.lst [x])) := ex_new nl2
    have el2 : upd H3 l2 (.lst [x]) l2 = some (.lst [x]) := upd_same
    generalize upd H3 l2 (HO.lst [x]) = H4 at e4 el2 ⊢
    have lt : ((tab m fr).take dn).length ≤ 100 := by rw [List.length_take]; omega
    refine rd_cat (e4.at el3) el2 (sz (by show _ + 1 ≤ 100000; omega)) fun l3 H5 nl3 e5 el5 => ?_
    walk_at "rd"
    have ep5 := e5.at (e4.at (X3.at (e2.at ep1) hp))
    refine rd_slL ep5 fun l4 H6 nl4 e6 el4 => ?_
    rw [cut_hi (by rw [tab_len]; exact hdm)] at el4
    have ld : ((tab m fr).drop dn).length ≤ 100 := by rw [List.length_drop, tab_len]; omega
    refine rd_cat (e6.at el5) el4 (sz (by rw [List.length_append]; show _ + 1 + _ ≤ 100000; omega)) fun D H7 nD e7 eD => ?_
    rw [ins_tab hdm] at eD
    walk_at "rd"
    have e37 : Ex H3 H7 := Xt.trans e4 (Xt.trans e5 (Xt.trans e6 e7))
    have hx7 := hx3.ex e37
    have nDb : D ∉ [b, g] := ((hx3.ex e4).ex e5).ex e6 |>.nin nD
    have X07 : Xt [b, g] H H7 := X1.trans ((Ex.xt e2).trans (X3.trans (Ex.xt e37)))
    have bad7 : BadAt H7 n (tab (m + 1) fun i => if i < dn then fr i else if i = dn then x else fr (i - 1)) dn := by
      refine ⟨⟨x, ?_, hbad.ex e37⟩, fun k hk => ⟨fr k, ?_, ((hW k (by omega)).to X07 hx.nt).good (by omega)⟩⟩
      · rw [tab_get (by omega), if_neg (by omega), if_pos rfl]
      · rw [tab_get (by omega), if_pos hk]
    refine ⟨b, s, g, 2, rfl, hx7, by decide, by decide, fun c H8 c0 c1 X8 hx8 => ?_⟩
    walk_at "rd"
    have eD8 := X8.at eD nDb
    have bad8 := bad7.to X8 hx7.nt
    refine rd_ifH (fun σ H' => σ = [some (.ref b), some (.int n), some (.ref p), some (.int dn), some (.ref D), none, none, none] ∧ ∃ xs : List V, H' D = some (.lst xs) ∧ xs.length ≤ 1000 ∧ BadAt H' n xs dn) (fun _ tz' hk => ?_) (fun _ => ?_) fun σ H9 hG => ?_
    · walk_at "rd"
      refine ⟨tyL eD8, ?_⟩
      walk_at "rd"
      refine ⟨b, s, g, n, rfl, hx8, by omega, fun x2 H9 X9 hx9 hbad2 => ?_⟩
      walk_at "rd"
      have eD9 := X9.at eD8 nDb
      have bad9 := bad8.to X9 hx8.nt
      refine rd_append eD9 (szl (by rw [tab_len]; omega)) fun H10 X10 E10 => ?_
      have bad10 := bad9.to X10 (nt_lst eD9)
      refine hk _ _ ⟨rfl, _, E10, by rw [List.length_append, tab_len]; show m + 1 + 1 ≤ 1000; omega, let ⟨y, h1, h2⟩ := bad10.1; ⟨y, ?_, h2⟩, fun k hk => let ⟨y, h1, h2⟩ := bad10.2 k hk; ⟨y, ?_, h2⟩⟩
      · rw [List.getElem?_append_left (List.getElem?_eq_some_iff.mp h1).1]; exact h1
      · rw [List.getElem?_append_left (List.getElem?_eq_some_iff.mp h1).1]; exact h1
    · exact ⟨rfl, _, eD8, by rw [tab_len]; omega, bad8⟩
    · obtain ⟨rfl, xs, exs, hxl, hxbad⟩ := hG
      walk_at "rd"
      refine rd_rg1 3 rfl (by omega) (for_w wkR (fun i σ H10 => Ex H9 H10 ∧ ∃ o5 o6 o7, σ = [some (.ref b), some (.int n), some (.ref p), some (.int dn), some (.ref D), o5, o6, o7]) ⟨Ex.rfl', _, _, _, rfl⟩ (fun i σ H2 _ hP => trivial) (fun i x1 σ H10 H10' hi hP yy => ?_) fun σ H10 hP => ?_)
      · obtain ⟨e10, o5, o6, o7, rfl⟩ := hP
        obtain ⟨rfl, exx⟩ := yy
        obtain rfl : x1 = .int (i : Int) := by rw [exx]; exact congrArg V.int (by omega)
        have exs10 := e10.at exs
        walk_at "rd"
        refine rd_dec (fun _ => ?_) fun _ => ?_
        · walk_at "rd"
          refine rd_tupL exs10 fun T H12 nT e12 eT => ?_
          walk_at "rd"
          refine .inr ⟨T, n, dn, xs, rfl, eT, hxl, hxbad.ex (Xt.trans e10 e12), fun dd H11 e11 ed => ?_⟩
          have e911 : Ex H9 H11 := Xt.trans e10 (Xt.trans e12 e11)
          show wAs _ _ _ _ _ _ (.ref C0) (some dd) _ H11
          refine ⟨true, bX.exm, fun _ ae nae => ?_, fun z => by cases z⟩
          walk_at "rd"
          refine ⟨.ref M0, .ref M0, true, dd, _, rfl, fun u r => r, bX.kit, rfl, rfl, ed, ?_⟩
          walk_at "rd"
          refine ⟨.ref ae, rfl, rfl, rfl, dd, _, .int dn, rfl, ed, rfl, ?_⟩
          walk_at "rd"
          refine ⟨_, rfl, .inl ⟨_, rfl⟩, ?_⟩
          show ∃ k, V.bl true = .bl k ∧ _
          walk_at "rd"
          refine ⟨.ref ae, rfl, rfl, rfl, dd, _, .int dn, rfl, ed, rfl, ?_⟩
          walk_at "rd"
          refine rd_ndec (fun z => absurd rfl z) fun _ => ?_
          walk_at "rd"
          exact ⟨e911, _, _, _, rfl⟩
        · walk_at "rd"
          refine rd_dec (fun _ => ?_) fun _ => ?_
          · walk_at "rd"
            refine rd_tupL exs10 fun T H12 nT e12 eT => ?_
            walk_at "rd"
            rw [tab_of xs] at exs10
            refine rd_itL (e12.at exs10) (lc_pure wkLt (fun _ => .int 0) (by omega) (fun H' e => e.at (e12.at exs10)) (fun j x H13 H14 hj e13 y Pp hP => ?_) fun D3 H13 nD3 e13 eD3 => ?_)
            · obtain ⟨rfl, rfl⟩ := y
              walk_at "rd"
              refine ⟨rfl, ?_⟩
              walk_at "rd"
              exact hP _ Ex.rfl'
            walk_at "rd"
            refine rd_tupL eD3 fun T3 H14 nT3 e14 eT3 => ?_
            walk_at "rd"
            refine .inr ⟨T, n, dn, xs, _, rfl, e14.at (e13.at eT), hxl, hxbad.ex (Xt.trans e10 (Xt.trans e12 (Xt.trans e13 e14))), fun dd H11 e11 ed => ?_⟩
            have e911 : Ex H9 H11 := Xt.trans e10 (Xt.trans e12 (Xt.trans e13 (Xt.trans e14 e11)))
            show wAs _ _ _ _ _ _ (.ref C0) (some dd) _ H11
            refine ⟨true, bX.exm, fun _ ae nae => ?_, fun z => by cases z⟩
            walk_at "rd"
            refine ⟨.ref M0, .ref M0, true, dd, _, rfl, fun u r => r, bX.kit, rfl, rfl, ed, ?_⟩
            walk_at "rd"
            refine ⟨.ref ae, rfl, rfl, rfl, dd, _, .int dn, rfl, ed, rfl, ?_⟩
            walk_at "rd"
            refine ⟨_, rfl, .inl ⟨_, rfl⟩, ?_⟩
            show ∃ k, V.bl true = .bl k ∧ _
            walk_at "rd"
            refine ⟨.ref ae, rfl, rfl, rfl, dd, _, .int dn, rfl, ed, rfl, ?_⟩
            walk_at "rd"
            refine rd_ndec (fun z => absurd rfl z) fun _ => ?_
            walk_at "rd"
            exact ⟨e911, _, _, _, rfl⟩
          · walk_at "rd"
            refine rd_tupL exs10 fun T H12 nT e12 eT => ?_
            walk_at "rd"
            refine ⟨sz (show 1 ≤ 100000 by decide), fun T3 nT3 => ?_⟩
            have e13 : Ex H12 (upd H12 T3 (.tup [.str "x"])) := ex_new nT3
            generalize upd H12 T3 (HO.tup [.str "x"]) = H13 at e13 ⊢
            walk_at "rd"
            refine .inr ⟨T, n, dn, xs, _, rfl, e13.at eT, hxl, hxbad.ex (Xt.trans e10 (Xt.trans e12 e13)), fun dd H11 e11 ed => ?_⟩
            have e911 : Ex H9 H11 := Xt.trans e10 (Xt.trans e12 (Xt.trans e13 e11))
            show wAs _ _ _ _ _ _ (.ref C0) (some dd) _ H11
            refine ⟨true, bX.exm, fun _ ae nae => ?_, fun z => by cases z⟩
            walk_at "rd"
            refine ⟨.ref M0, .ref M0, true, dd, _, rfl, fun u r => r, bX.kit, rfl, rfl, ed, ?_⟩
            walk_at "rd"
            refine ⟨.ref ae, rfl, rfl, rfl, dd, _, .int dn, rfl, ed, rfl, ?_⟩
            walk_at "rd"
            refine ⟨_, rfl, .inl ⟨_, rfl⟩, ?_⟩
            show ∃ k, V.bl true = .bl k ∧ _
            walk_at "rd"
            refine ⟨.ref ae, rfl, rfl, rfl, dd, _, .int dn, rfl, ed, rfl, ?_⟩
            walk_at "rd"
            refine rd_ndec (fun z => absurd rfl z) fun _ => ?_
            walk_at "rd"
            exact ⟨e911, _, _, _, rfl⟩
      · obtain ⟨e10, o5, o6, o7, rfl⟩ := hP
        walk_at "rd"
        exact k _
end
end Sx
/-! the law -/
namespace Sx
open PySem PySem.Spec PyProof.Rows L2 Y L2H
local macro_rules | `(tactic| walk_at "rd1") => `(tactic| first
  | with_reducible refine rd_var rfl ?_
  | with_reducible refine rd_op ?_
  | with_reducible refine rd_c ?_
  | with_reducible refine rd_I0 ?_
  | with_reducible refine rd_seq ?_
  | ((with_reducible refine rd_I ?_ ?_); focus (first | exact mulok_r (by decide) (by decide) | exact mulok_l (by decide) (by decide) | (show _ ≠ _; decide) | (show _ ∧ _; decide)))
  | with_reducible refine rd_asg ?_
  | with_reducible refine rd_name ?_
  | with_reducible refine rd_cb ?_
  | with_reducible refine rd_cons ?_
  | with_reducible refine rd_nil ?_
  | with_reducible refine rd_int ?_
  | with_reducible refine rd_eqI ?_
  | with_reducible refine rd_neI ?_
  | with_reducible refine rd_bl ?_
  | with_reducible refine rd_test ?_
  | with_reducible refine rd_tB ?_
  | with_reducible refine rd_ifS ?_
  | with_reducible refine rd_next ?_
  | with_reducible refine rd_T ?_
  | with_reducible refine rd_F ?_
  | with_reducible refine rd_nT ?_
  | with_reducible refine rd_nF ?_
  | with_reducible refine rd_blV ?_
  | with_reducible refine rd_ret ?_
  | with_reducible refine rd_call ?_
  | with_reducible refine rd_drop ?_
  | with_reducible refine rd_not ?_
  | with_reducible refine rd_and ?_
  | with_reducible refine rd_or ?_
  | with_reducible refine rd_un ?_
  | with_reducible refine rd_U ?_
  | with_reducible refine rd_tup ?_
  | with_reducible refine rd_lst ?_
  | with_reducible refine rd_if ?_
  | with_reducible refine rd_andV ?_
  | with_reducible refine rd_orV ?_
  | with_reducible refine rd_notV ?_
  | with_reducible refine rd_sl ?_
  | with_reducible refine rd_nopart ?_
  | with_reducible refine rd_part ?_
  | with_reducible refine rd_iv ?_
  | with_reducible refine rd_bm ?_
  | with_reducible refine rd_abs ?_
  | with_reducible refine rd_intb ?_
  | with_reducible refine rd_mx2 ?_
  | with_reducible refine rd_mn2 ?_
  | with_reducible refine rd_sub ?_
  | with_reducible refine rd_lc ?_
  | with_reducible refine rd_for ?_
  | with_reducible refine rd_iL ?_
  | with_reducible refine rd_iT ?_
  | with_reducible refine rd_r1 ?_
  | with_reducible refine rd_r2 ?_
  | with_reducible refine rd_iZ ?_
  | with_reducible refine rd_iZM ?_
  | with_reducible refine rd_while ?_
  | with_reducible refine rd_tru ?_
  | with_reducible refine rd_brk ?_
  | with_reducible refine rd_par ?_
  | with_reducible refine rd_par2 ?_
  | with_reducible refine rd_bits ?_
  | with_reducible refine rd_callS ?_)
local macro_rules | `(tactic| walk_at "rd") => `(tactic| repeat walk_at "rd1")

section
variable {K : PySem.W.Frag} {σ : L2.St} {H : Hp} {Q : VK} {g : TG} {te : TE} {J : It} {n : Nat} {Gd : Hp → Prop} {Yl : Nat → Hp → V → Hp → Prop} {vs : List Nat}
/-- a comprehension whose elements hold PV and change what S names; R0 keeps the books -/
theorem lc_efv (w : Walk J n Gd Yl) (S : List Addr) (R0 : Hp → Prop) (PV : Hp → V → Prop) (hPV : ∀ S H1 H2 x, PV H1 x → Xt S H1 H2 → NoT S H1 → PV H2 x) (hS : ∀ a ∈ S, H a ≠ none) (hn : n ≤ 100000) (hG : ∀ H', Xt S H H' → R0 H' → Gd H') (hT : ∀ H1, R0 H1 → NoT S H1)
    (hR : ∀ H1 H2 D, H D = none → R0 H1 → Xt [D] H1 H2 → R0 H2) (h0 : R0 H)
    (hs : ∀ i x H1 H2, i < n → Xt S H H1 → R0 H1 → Yl i H1 x H2 → ∀ P : VK, (∀ v H4, Xt S H1 H4 → R0 H4 → PV H4 v → P v H4) → g x (wipe σ vs) H2 fun σ2 H3 => wipe σ2 vs = wipe σ vs ∧ te σ2 H3 P)
    (hd : ∀ (D : Addr) (f : Nat → V) (H' : Hp), H D = none → Xt S H H' → R0 H' → H' D = some (.lst (tab n f)) → (∀ i, i < n → PV H' (f i)) → Q (.ref D) H') : LcB J g tYes te vs σ H Q := fun D hD => by
  have hDS : D ∉ S := fun z => hS D z hD
  refine lc_it w (fun i H' => ∃ f : Nat → V, Xt S H H' ∧ R0 H' ∧ H' D = some (.lst (tab i f)) ∧ ∀ k, k < i → PV H' (f k)) ⟨fun _ => .non, Ex.xt (ex_new hD), hR H _ D hD h0 (Ex.xt (ex_new hD)), upd_same, fun k hk => by omega⟩ (fun i H' hi h => ?_) (fun i x H1 H2 hi h yy => ?_) fun H' h => ?_
  · obtain ⟨_, e, r, _⟩ := h
    exact hG H' e r
  · obtain ⟨f, e, r, eD, hp⟩ := h
    refine hs i x H1 H2 hi e r yy _ fun v H4 e4 r4 pv => ?_
    have eD4 := e4.at eD hDS
    have xd : Xt [D] H4 (upd H4 D (.lst (tab i f ++ [v]))) := xt_upd (by simp)
    refine ⟨_, eD4, szl (by rw [tab_len]; omega), fun k => if k = i then v else f k, ?_, hR _ _ D hD r4 xd, ?_, fun k hk => ?_⟩
    · refine fun a o na ha => ?_
      have nd : a ≠ D := fun z => by rw [z, hD] at ha; cases ha
      rw [upd_ne nd]
      exact e4 a o na (e a o na ha)
    · rw [upd_same]
      refine congrArg (fun z => some (HO.lst z)) ?_
      rw [← tab_snoc]
      refine congr (congrArg _ (tab_ext fun k hk => by rw [if_neg (by omega)])) ?_
      rw [if_pos rfl]
    · show PV _ (if k = i then v else f k)
      by_cases hki : k = i
      · rw [if_pos hki]; exact hPV _ _ _ _ pv xd (nt_lst eD4)
      · rw [if_neg hki]; exact hPV _ _ _ _ (hPV _ _ _ _ (hp k (by omega)) e4 (hT _ r)) xd (nt_lst eD4)
  · obtain ⟨f, e, r, eD, hp⟩ := h
    exact hd D f H' hD e r eD hp
end
theorem many_at {d : Int} (h0 : 0 ≤ d) (h1 : d < 7) : ∃ n : Nat, ([.int 0, .int 1, .int 1, .int 2, .int 2, .int 3, .int 4] : List V)[d.toNat]? = some (.int n) ∧ n ≤ 4 := by
  have : d = 0 ∨ d = 1 ∨ d = 2 ∨ d = 3 ∨ d = 4 ∨ d = 5 ∨ d = 6 := by omega
  rcases this with rfl | rfl | rfl | rfl | rfl | rfl | rfl
  · exact ⟨0, rfl, by decide⟩
  · exact ⟨1, rfl, by decide⟩
  · exact ⟨1, rfl, by decide⟩
  · exact ⟨2, rfl, by decide⟩
  · exact ⟨2, rfl, by decide⟩
  · exact ⟨3, rfl, by decide⟩
  · exact ⟨4, rfl, by decide⟩
theorem wide_at {d : Int} (h0 : 0 ≤ d) (h1 : d < 6) : ∃ wd : Nat, ([.int 4, .int 4, .int 4, .int 4, .int 1, .int ((10 : Int) ^ (9 : Int).toNat)] : List V)[d.toNat]? = some (.int wd) ∧ wd ≤ 10 ^ 9 := by
  have : d = 0 ∨ d = 1 ∨ d = 2 ∨ d = 3 ∨ d = 4 ∨ d = 5 := by omega
  rcases this with rfl | rfl | rfl | rfl | rfl | rfl
  · exact ⟨4, rfl, by decide⟩
  · exact ⟨4, rfl, by decide⟩
  · exact ⟨4, rfl, by decide⟩
  · exact ⟨4, rfl, by decide⟩
  · exact ⟨1, rfl, by decide⟩
  · exact ⟨10 ^ 9, rfl, by decide⟩
theorem bdd_ok {n : Nat} (h : n ≤ 7) : bdd (n + 1) BB < 2 ^ 400 := by
  have : n = 0 ∨ n = 1 ∨ n = 2 ∨ n = 3 ∨ n = 4 ∨ n = 5 ∨ n = 6 ∨ n = 7 := by omega
  rcases this with rfl | rfl | rfl | rfl | rfl | rfl | rfl | rfl <;> decide +kernel
section
variable {P : Program} {w : World} {K : PySem.W.Frag} {mg : Str → Option Value} {base : Heap}
abbrev s_law : Stmt := topS 37
theorem sc_law : FnScope ["script", "box", "many", "wide", "style", "size", "rows", "drawn", "more", "answer", "known", "shares", "other", "at", "numbers", "relation", "most", "loose", "k", "one"] ["script"] (defScope s_law) := ⟨rfl, rfl, rfl, by decide +kernel, rfl, by decide +kernel, by decide +kernel⟩
def sp_law : Sp := fun vs H Q _ => ∃ (a : Addr) (ns : List Int), vs = [.ref a] ∧ SqL K H a (ns.map V.int) ∧ ∀ H', Q (.bl true) H'
theorem ok_law {f C0 : Addr} {fd : FuncData} (F : Fun K "law" "law" s_law f fd) (B : Bi mg) (C__law_box : Cl P w K mg base CX0 41 "_law_box" ["script"] (sp__law_box (K := K))) (C__law_take : Cl P w K mg base CX0 43 "_law_take" ["box", "size"] sp__law_take)
    (C__law_triple : Cl P w K mg base CX0 45 "_law_triple" ["box", "many", "wide"] sp__law_triple) (C__law_through : Cl P w K mg base CX0 45 "_law_through" ["box", "many", "rows"] sp__law_through) (C__law_against : Cl P w K mg base CX0 45 "_law_against" ["box", "many", "rows"] sp__law_against)
    (C_meet : Cl P w K mg base (L2.CX P w) 47 "meet" ["rows", "many"] (sp_meet C0)) (C__law_answered : Cl P w K mg base CX0 47 "_law_answered" ["rows", "many", "answer"] sp__law_answered) (C__law_changed : Cl P w K mg base CX0 45 "_law_changed" ["box", "shares"] sp__law_changed)
    (C__law_judged : Cl P w K mg base CX0 49 "_law_judged" ["rows", "many", "shares"] sp__law_judged) (C__law_refused : Cl P w K mg base CX0 49 "_law_refused" ["box", "many", "rows"] sp__law_refused) : FnOk P w K mg base CX0 51 f fd ["script"] (sp_law (K := K)) := by
  refine F.ok sc_law (fun vs H Q E h => ?_) (fun cdv A outer s0 H vs Q E hr h => ?_)
  · obtain ⟨a, ns, rfl, _⟩ := h; rfl
  · obtain ⟨a, ns, rfl, ha, k⟩ := h
    have nd := sc_law.nd
    refine ⟨_, (pss_cons (ps_set (i := 1) nd rfl (.inr rfl) (pe_y C__law_box hr (by decide) pass0 (by rfl) (pa_cons (pv 0) pa_nil)))
      (pss_cons (ps_set (i := 2) nd rfl (.inr rfl) (pe_ix ix_tup (pe_tup (pa_cons pe_int (pa_cons pe_int (pa_cons pe_int (pa_cons pe_int (pa_cons pe_int (pa_cons pe_int (pa_cons pe_int pa_nil)))))))) (pe_y C__law_take hr (by decide) pass0 (by rfl) (pa_cons (pv 1) (pa_cons pe_int pa_nil))) (fun _ _ => rfl)))
      (pss_cons (ps_set (i := 3) nd rfl (.inr rfl) (pe_ix ix_tup (pe_tup (pa_cons pe_int (pa_cons pe_int (pa_cons pe_int (pa_cons pe_int (pa_cons pe_int (pa_cons (pe_op op_pow pe_int pe_int) pa_nil))))))) (pe_y C__law_take hr (by decide) pass0 (by rfl) (pa_cons (pv 1) (pa_cons pe_int pa_nil))) (fun _ _ => rfl)))
      (pss_cons (ps_set (i := 4) nd rfl (.inl rfl) (pe_y C__law_take hr (by decide) pass0 (by rfl) (pa_cons (pv 1) (pa_cons pe_int pa_nil))))
      (pss_cons (ps_set (i := 5) nd rfl (.inl rfl) (pe_y C__law_take hr (by decide) pass0 (by rfl) (pa_cons (pv 1) (pa_cons pe_int pa_nil))))
      (pss_cons (ps_if (pt_cmpR op_eq (pe_y C__law_take hr (by decide) pass0 (by rfl) (pa_cons (pv 1) (pa_cons pe_int pa_nil))) pe_int (nomark _))
        (pss_cons (ps_set (i := 2) nd rfl (.inr rfl) (pe_op op_add pe_int (pe_y C__law_take hr (by decide) pass0 (by rfl) (pa_cons (pv 1) (pa_cons pe_int pa_nil)))))
        (pss_one (ps_set (i := 5) nd rfl (.inl rfl) (pe_op op_add pe_int (pe_y C__law_take hr (by decide) pass0 (by rfl) (pa_cons (pv 1) (pa_cons pe_int pa_nil)))))))
        pss_nil)
      (pss_cons (ps_setLc (i := 6) (own := [("k", 18)]) rfl nd rfl rfl (sw_true rfl rfl rfl (by decide +kernel)) (pi_range1 (by rfl) B.range (pa_cons (pv 5) pa_nil)) (blkOk_by (by rfl)) (fun _ _ _ _ _ => (pg_name (i := 18) nd rfl (by first | exact .inl rfl | exact .inr rfl))) (fun _ _ _ _ _ => pts_nil) (fun _ _ _ _ _ => (pe_y C__law_triple hr (by decide) pass0 (by rfl) (pa_cons (pv 1) (pa_cons (pv 2) (pa_cons (pv 3) pa_nil))))))
      (pss_cons (ps_set (i := 7) nd rfl (.inl rfl) (pe_callTy cr_tupOf (by rfl) B.tuple b_tuple (pa_cons (pe_lc (own := [("one", 19)]) rfl nd (pi_list (pv 6)) (blkOk_by (by rfl)) (fun _ _ _ _ _ => (pg_name (i := 19) nd rfl (by first | exact .inl rfl | exact .inr rfl))) (fun _ _ _ _ _ => pts_nil) (fun _ _ _ _ _ => (pe_op op_sub (pe_y C__law_take hr (by decide) pass0 (by rfl) (pa_cons (pv 1) (pa_cons pe_int pa_nil))) pe_int))) pa_nil)))
      (pss_cons (ps_if (pt_cmpR op_eq (pv 4) pe_int (nomark _))
        (pss_one (ps_set (i := 6) nd rfl (.inl rfl) (pe_y C__law_through hr (by decide) pass0 (by rfl) (pa_cons (pv 1) (pa_cons (pv 2) (pa_cons (pv 6) pa_nil))))))
        pss_nil)
      (pss_cons (ps_if (pt_cmpR op_eq (pv 4) pe_int (nomark _))
        (pss_one (ps_asg (pe_y C__law_against hr (by decide) pass0 (by rfl) (pa_cons (pv 1) (pa_cons (pv 2) (pa_cons (pv 6) pa_nil)))) (pg_tup (n := 2) (by rfl) (pgs_cons (pg_name (i := 6) nd rfl (.inl rfl)) (pgs_cons (pg_name (i := 7) nd rfl (.inl rfl)) pgs_nil)))))
        pss_nil)
      (pss_cons (ps_set (i := 8) nd rfl (.inl rfl) (pe_op op_cat (pv 6) (pe_lst (pa_cons (pe_y C__law_triple hr (by decide) pass0 (by rfl) (pa_cons (pv 1) (pa_cons (pv 2) (pa_cons pe_int pa_nil)))) pa_nil))))
      (pss_cons (ps_if (pt_not (pt_val (pe_y C__law_answered hr (by decide) pass0 (by rfl) (pa_cons (pv 8) (pa_cons (pv 2) (pa_cons (pe_y C_meet hr (by decide) passL (by rfl) (pa_cons (pe_callTy cr_tupOf (by rfl) B.tuple b_tuple (pa_cons (pv 8) pa_nil)) (pa_cons (pv 2) pa_nil))) pa_nil))))))
        (pss_one (ps_ret pe_bl))
        pss_nil)
      (pss_cons (ps_set (i := 9) nd rfl (.inl rfl) (pe_y C_meet hr (by decide) passL (by rfl) (pa_cons (pe_callTy cr_tupOf (by rfl) B.tuple b_tuple (pa_cons (pv 6) pa_nil)) (pa_cons (pv 2) pa_nil))))
      (pss_cons (ps_if (pt_not (pt_val (pe_y C__law_answered hr (by decide) pass0 (by rfl) (pa_cons (pv 6) (pa_cons (pv 2) (pa_cons (pv 9) pa_nil))))))
        (pss_one (ps_ret pe_bl))
        pss_nil)
      (pss_cons (ps_set (i := 10) nd rfl (.inl rfl) (pe_lst (pa_cons (pv 7) pa_nil)))
      (pss_cons (ps_if (pt_cmpR op_eq (pe_ix ix_tup (pv 9) pe_int (fun _ _ => rfl)) pe_str (nomark _))
        (pss_one (ps_expr (pe_bm PySem.F.plainAttrs_list PySem.F.slot_list_append PySem.F.type_list_append mt_append (pv 10) (pa_cons (pe_ix ix_tup (pv 9) pe_int (fun _ _ => rfl)) pa_nil))))
        pss_nil)
      (pss_cons (ps_for PassesOwn.never rfl (pi_list (pv 10)) (pg_name (i := 11) nd rfl (.inl rfl))
        (pss_cons (ps_for PassesOwn.never rfl (pi_list (pe_y C__law_changed hr (by decide) pass0 (by rfl) (pa_cons (pv 1) (pa_cons (pv 11) pa_nil)))) (pg_name (i := 12) nd rfl (.inl rfl))
          (pss_one (ps_if (pt_not (pt_val (pe_y C__law_judged hr (by decide) pass0 (by rfl) (pa_cons (pv 6) (pa_cons (pv 2) (pa_cons (pv 12) pa_nil))))))
            (pss_one (ps_ret pe_bl))
            pss_nil)))
        (pss_one (ps_if (pt_tru (pv 6) (by intro _; rfl))
          (pss_cons (ps_set (i := 13) nd rfl (.inl rfl) (pe_y C__law_take hr (by decide) pass0 (by rfl) (pa_cons (pv 1) (pa_cons (pe_callB cr_len (by rfl) B.len b_len (pa_cons (pv 6) pa_nil)) pa_nil))))
          (pss_cons (ps_asg (pe_ix ix_list (pv 6) (pv 13) (fun _ _ => rfl)) (pg_tup (n := 3) (by rfl) (pgs_cons (pg_name (i := 14) nd rfl (.inl rfl)) (pgs_cons (pg_name (i := 15) nd rfl (.inl rfl)) (pgs_cons (pg_name (i := 16) nd rfl (.inl rfl)) pgs_nil)))))
          (pss_cons (ps_set (i := 17) nd rfl (.inl rfl) (pe_op op_cat (pe_op op_cat (pe_slice sl_list (pv 6) po_none (po_some (pv 13))) (pe_lst (pa_cons (pe_tup (pa_cons (pv 14) (pa_cons (pv 15) (pa_cons (pe_op op_add (pv 16) pe_int) pa_nil)))) pa_nil))) (pe_slice sl_list (pv 6) (po_some (pe_op op_add (pv 13) pe_int)) po_none)))
          (pss_one (ps_if (pt_not (pt_val (pe_y C__law_judged hr (by decide) pass0 (by rfl) (pa_cons (pv 17) (pa_cons (pv 2) (pa_cons (pv 11) pa_nil))))))
            (pss_one (ps_ret pe_bl))
            pss_nil)))))
          pss_nil))))
      (pss_one (ps_ret (pe_y C__law_refused hr (by decide) pass0 (by rfl) (pa_cons (pv 1) (pa_cons (pv 2) (pa_cons (pv 6) pa_nil))))))))))))))))))))))), ?_⟩
    walk_at "rd"
    refine ⟨a, ns, rfl, ha, fun b s g H1 nb ng e1 hx1 => ?_⟩
    walk_at "rd"
    refine ⟨sz (show 7 ≤ 100000 by decide), fun T nT => ?_⟩
    have e2 : Ex H1 (upd H1 T (.tup [.int 0, .int 1, .int 1, .int 2, .int 2, .int 3, .int 4])) := ex_new nT
    have eT : upd H1 T (.tup [.int 0, .int 1, .int 1, .int 2, .int 2, .int 3, .int 4]) T = some (.tup [.int 0, .int 1, .int 1, .int 2, .int 2, .int 3, .int 4]) := upd_same
    generalize upd H1 T (HO.tup [.int 0, .int 1, .int 1, .int 2, .int 2, .int 3, .int 4]) = H2 at e2 eT ⊢
    have hx2 := hx1.ex e2
    walk_at "rd"
    refine ⟨b, s, g, 7, rfl, hx2, by decide, by decide, fun d H3 d0 d1 X3 hx3 => ?_⟩
    obtain ⟨n0, hn0, hn4⟩ := many_at d0 d1
    refine rd_ixTn d.toNat (X3.at eT (hx2.tin eT)) (by omega) hn0 ?_
    walk_at "rd"
    refine ⟨sz (show 6 ≤ 100000 by decide), fun T2 nT2 => ?_⟩
    have e4 : Ex H3 (upd H3 T2 (.tup [.int 4, .int 4, .int 4, .int 4, .int 1, .int ((10 : Int) ^ (9 : Int).toNat)])) := ex_new nT2
    have eT2 : upd H3 T2 (.tup [.int 4, .int 4, .int 4, .int 4, .int 1, .int ((10 : Int) ^ (9 : Int).toNat)]) T2 = some (.tup [.int 4, .int 4, .int 4, .int 4, .int 1, .int ((10 : Int) ^ (9 : Int).toNat)]) := upd_same
    generalize upd H3 T2 (HO.tup [.int 4, .int 4, .int 4, .int 4, .int 1, .int ((10 : Int) ^ (9 : Int).toNat)]) = H4 at e4 eT2 ⊢
    have hx4 := hx3.ex e4
    walk_at "rd"
    refine ⟨b, s, g, 6, rfl, hx4, by decide, by decide, fun d5 H5 d50 d51 X5 hx5 => ?_⟩
    obtain ⟨wd, hwd, hwd9⟩ := wide_at d50 d51
    refine rd_ixTn d5.toNat (X5.at eT2 (hx4.tin eT2)) (by omega) hwd ?_
    walk_at "rd"
    refine ⟨b, s, g, 3, rfl, hx5, by decide, by decide, fun st H6 st0 st1 X6 hx6 => ?_⟩
    walk_at "rd"
    refine ⟨b, s, g, 6, rfl, hx6, by decide, by decide, fun z H7 z0 z1 X7 hx7 => ?_⟩
    walk_at "rd"
    refine ⟨b, s, g, 16, rfl, hx7, by decide, by decide, fun c H8 c0 c1 X8 hx8 => ?_⟩
    walk_at "rd"
    refine rd_ifH (fun σ H' => Bx H' b s g ∧ ∃ n size : Nat, n ≤ 7 ∧ size ≤ 10 ∧ σ = [some (.ref a), some (.ref b), some (.int n), some (.int wd), some (.int st), some (.int size), none, none, none, none, none, none, none, none, none, none, none, none, none, none]) (fun _ tz' hk => ?_) (fun _ => ⟨hx8, n0, z.toNat, by omega, by omega, by rw [show (z.toNat : Int) = z by omega]; rfl⟩) fun σ H9 hG => ?_
    · walk_at "rd"
      refine ⟨b, s, g, 3, rfl, hx8, by decide, by decide, fun c2 H9 c20 c21 X9 hx9 => ?_⟩
      walk_at "rd"
      refine ⟨b, s, g, 5, rfl, hx9, by decide, by decide, fun c3 H10 c30 c31 X10 hx10 => ?_⟩
      walk_at "rd"
      refine hk _ _ ⟨hx10, (5 + c2).toNat, (6 + c3).toNat, by omega, by omega, ?_⟩
      rw [show (((5 + c2).toNat : Nat) : Int) = 5 + c2 by omega, show (((6 + c3).toNat : Nat) : Int) = 6 + c3 by omega]
      rfl
    · obtain ⟨hx9, n, size, hn, hsz, rfl⟩ := hG
      walk_at "rd"
      refine rd_rg1 size rfl (by omega) (lc_efv wkR [b, g] (fun H' => Bx H' b s g) (fun H' v => Rw1 H' v n (10 ^ 9)) (fun S H1 H2 x h e nt => h.to e nt) hx9.bg (by omega) (fun _ _ _ => trivial) (fun H1 x => x.nt) (fun H1 H2 D hD r e => hx9.new r hD e) hx9 (fun i x H10 H11 hi X10 hx10 y Pp hP => ?_) fun p fr H10 np X10 hx10 ep hrw => ?_)
      · obtain ⟨rfl, _⟩ := y
        walk_at "rd"
        refine ⟨rfl, ?_⟩
        walk_at "rd"
        exact ⟨b, s, g, n, wd, rfl, hx10, by omega, hwd9, fun T u q c H12 X12 hx12 tr => hP _ H12 X12 hx12 (tr.rw hwd9 (by decide))⟩
      · have L10 : LR H10 p n size (10 ^ 9) := ⟨fr, ep, hrw⟩
        have npb : p ∉ [b, g] := hx9.nin np
        walk_at "rd"
        refine rd_itL ep (lc_eff (wkLt (n := size) (f := fr)) [b, g] (fun i acc H1 => Bx H1 b s g ∧ ∃ u : Nat → Int, acc = vl i u ∧ ∀ j, j < i → (u j).natAbs ≤ 4) hx10.bg (by omega) (fun i acc H' _ e _ => e.at ep npb) (fun i acc H1 H2 D hD hR e => ⟨hx10.new hR.1 hD e, hR.2⟩) ⟨hx10, fun _ => 0, rfl, fun j hj => by omega⟩ (fun i x acc H1 H2 hi hl e hR y Pp hP => ?_) fun D acc H11 nD hl X11 hR eD => ?_)
        · obtain ⟨rfl, _⟩ := y
          obtain ⟨hx2, u, rfl, hu⟩ := hR
          walk_at "rd"
          refine ⟨rfl, ?_⟩
          walk_at "rd"
          refine ⟨b, s, g, 7, rfl, hx2, by decide, by decide, fun d H3 d0 d1 X3 hx3 => ?_⟩
          walk_at "rd"
          refine hP _ H3 X3 ⟨hx3, fun j => if j = i then d - 3 else u j, ?_, fun j hj => ?_⟩
          · show _ = tab (i + 1) _
            rw [← tab_snoc]
            dsimp only
            rw [if_pos rfl]
            exact congrArg (· ++ _) (tab_ext fun j hj => by rw [if_neg (by omega)])
          · dsimp only
            by_cases h : j = i
            · rw [if_pos h]; omega
            · rw [if_neg h]; exact hu j (by omega)
        · obtain ⟨hx11, u, rfl, hu⟩ := hR
          walk_at "rd"
          refine rd_tupL eD fun t H12 nt e12 et => ?_
          have L12 := (L10.to X11 hx10.nt npb).ex e12
          have hx12 := hx11.ex e12
          walk_at "rd"
          refine rd_ifH (fun σ H' => Bx H' b s g ∧ H' t = some (.tup (vl size u)) ∧ ∃ p : Addr, (p ∉ [b, g] ∧ LR H' p n size BB ∧ (st ≠ 1 → LR H' p n size (10 ^ 9))) ∧ σ = [some (.ref a), some (.ref b), some (.int n), some (.int wd), some (.int st), some (.int size), some (.ref p), some (.ref t), none, none, none, none, none, none, none, none, none, none, none, none]) (fun h1 tz' hk => ?_) (fun h1 => ⟨hx12, et, p, ⟨npb, L12.up (by decide), fun _ => L12⟩, rfl⟩) fun σ H13 hG => ?_
          · walk_at "rd"
            refine ⟨b, s, g, p, n, size, rfl, hx12, hn, by omega, L12, npb, fun p' H13 X13 hx13 L13 npb' => ?_⟩
            walk_at "rd"
            exact hk _ _ ⟨hx13, X13.at et (hx12.tin et), p', ⟨npb', L13, fun z => absurd h1 z⟩, rfl⟩
          · obtain ⟨hx13, et13, p, ⟨npb, L13, L13'⟩, rfl⟩ := hG
            walk_at "rd"
            refine rd_ifH (fun σ H' => Bx H' b s g ∧ ∃ (p t : Addr) (m : Nat) (y : Nat → Int), (m ≤ 11 ∧ p ∉ [b, g] ∧ LR H' p n m BB ∧ H' t = some (.tup (vl m y)) ∧ ∀ j, j < m → (y j).natAbs ≤ 4) ∧ σ = [some (.ref a), some (.ref b), some (.int n), some (.int wd), some (.int st), some (.int size), some (.ref p), some (.ref t), none, none, none, none, none, none, none, none, none, none, none, none]) (fun h1 tz' hk => ?_) (fun h1 => ⟨hx13, p, t, size, u, ⟨by omega, npb, L13, et13, hu⟩, rfl⟩) fun σ H14 hG => ?_
            · walk_at "rd"
              refine ⟨b, s, g, p, n, size, rfl, hx13, hn, by omega, L13' (by omega), npb, fun TT p' t' y H14 X14 hx14 eTT L14 npb' et' hy => ?_⟩
              refine rd_gpair eTT ?_
              walk_at "rd"
              exact hk _ _ ⟨hx14, p', t', size + 1, y, ⟨by omega, npb', L14, et', hy⟩, rfl⟩
            · obtain ⟨hx14, p, t, m, y, ⟨hm, npb, L14, et14, hy⟩, rfl⟩ := hG
              walk_at "rd"
              refine ⟨b, s, g, n, 4, rfl, hx14, by omega, by decide, fun T3 u3 q3 c3 H15 X15 hx15 tr => ?_⟩
              walk_at "rd"
              have L15 := L14.to X15 hx14.nt npb
              have et15 := tup_to X15 hx14.nt et14
              have rT3 : Rw1 H15 (.ref T3) n BB := tr.rw (by decide) (by decide)
              refine ⟨sz (show 1 ≤ 100000 by decide), fun l2 nl2 => ?_⟩
              have e16 : Ex H15 (upd H15 l2 (.lst [.ref T3])) := ex_new nl2
              have el2 : upd H15 l2 (.lst [.ref T3]) l2 = some (.lst [.ref T3]) := upd_same
              generalize upd H15 l2 (HO.lst [.ref T3]) = H16 at e16 el2 ⊢
              obtain ⟨fr, ep15, hrw⟩ := id L15
              refine rd_cat (e16.at ep15) el2 (sz (by rw [tab_len]; show m + 1 ≤ 100000; omega)) fun mo H17 nmo e17 emo => ?_
              have e1517 : Ex H15 H17 := Xt.trans e16 e17
              have LM : LR H17 mo n (m + 1) BB := by
                refine ⟨fun i => if i = m then .ref T3 else fr i, ?_, fun i hi => ?_⟩
                · rw [emo, ← tab_snoc]
                  refine congrArg (fun z => some (HO.lst z)) (congr (congrArg _ (tab_ext fun j hj => by rw [if_neg (by omega)])) ?_)
                  rw [if_pos rfl]
                · show Rw1 _ (if i = m then .ref T3 else fr i) n BB
                  by_cases h : i = m
                  · rw [if_pos h]; exact rT3.to (Ex.xt e1517) nt_ex
                  · rw [if_neg h]; exact (hrw i (by omega)).to (Ex.xt e1517) nt_ex
              obtain ⟨R1, C1, q1, LM1, le1⟩ := LM.rows (by decide)
              obtain ⟨R2, C2, q2, LP, le2⟩ := (L15.ex e1517).rows (by decide)
              have et17 := Ex.at e1517 et15
              have hx17 := hx15.ex e1517
              have LP' : LR H17 p n m BB := L15.ex e1517
              walk_at "rd"
              obtain ⟨rp1, np1, em1, em2, em3⟩ := id LM1
              refine rd_tupL em1 fun tm H18 ntm e18 etm => ?_
              walk_at "rd"
              refine .inl ⟨tm, ⟨n, m + 1, R1, C1, q1⟩, BB, rfl, ⟨rp1, np1, etm, fun i hi => e18.at (em2 i hi), fun i hi => e18.at (em3 i hi)⟩, le1, bdd_ok hn, (show n ≤ 1000 by omega), (show m + 1 ≤ 1000 by omega), fun q H19 e19 hA => ?_⟩
              walk_at "rd"
              refine ⟨mo, q, ⟨n, m + 1, R1, C1, q1⟩, rfl, (LM1.ex e18).ex e19, le1, hn, (show m + 1 ≤ 1000 by omega), hA, fun H20 e20 => ?_⟩
              walk_at "rd"
              have e1720 : Ex H17 H20 := Xt.trans e18 (Xt.trans e19 e20)
              have LP20 := LP.ex e1720
              obtain ⟨rp2, np2, ep1, ep2, ep3⟩ := id LP20
              refine rd_tupL ep1 fun tp H21 ntp e21 etp => ?_
              walk_at "rd"
              refine .inl ⟨tp, ⟨n, m, R2, C2, q2⟩, BB, rfl, ⟨rp2, np2, etp, fun i hi => e21.at (ep2 i hi), fun i hi => e21.at (ep3 i hi)⟩, le2, bdd_ok hn, (show n ≤ 1000 by omega), (show m ≤ 1000 by omega), fun q H22 e22 hA2 => ?_⟩
              walk_at "rd"
              have LP22 := (LP20.ex e21).ex e22
              refine ⟨p, q, ⟨n, m, R2, C2, q2⟩, rfl, LP22, le2, hn, (show m ≤ 1000 by omega), hA2, fun H23 e23 => ?_⟩
              walk_at "rd"
              refine ⟨sz (show 1 ≤ 100000 by decide), fun kn nkn => ?_⟩
              have e24 : Ex H23 (upd H23 kn (.lst [.ref t])) := ex_new nkn
              have ekn : upd H23 kn (.lst [.ref t]) kn = some (.lst [.ref t]) := upd_same
              generalize upd H23 kn (HO.lst [.ref t]) = H24 at e24 ekn ⊢
              walk_at "rd"
              have e2224 : Ex H22 H24 := Xt.trans e23 e24
              have e1724 : Ex H17 H24 := Xt.trans e1720 (Xt.trans e21 (Xt.trans e22 e2224))
              have nknb : kn ∉ [b, g] := (hx17.ex (Xt.trans e1720 (Xt.trans e21 (Xt.trans e22 e23)))).nin nkn
              have hx24 := hx17.ex e1724
              have et24 := Ex.at e1724 et17
              have LP24 := LP22.ex e2224
              have LR24 := LP'.ex e1724
              have LR24' := LR24
              have y4 : ∀ j, j < m → (y j).natAbs < 2 ^ 400 := fun j hj => Nat.lt_of_le_of_lt (hy j hj) (by decide +kernel)
              have hq : ∃ (wo : Str) (x : Addr), H22 q = some (.tup [.str wo, .ref x]) ∧ (V.str wo = V.str "clash" → ∃ y, H22 x = some (.tup (vl m y)) ∧ ∀ j, j < m → (y j).natAbs < 2 ^ 400) := by
                rcases hA2 with ⟨x, pp, xx, d, z1, _⟩ | ⟨x, y, z1, z2, z3, z4⟩
                · exact ⟨_, x, z1, fun z => absurd z (by decide)⟩
                · exact ⟨_, x, z1, fun _ => ⟨y, z2, z4⟩⟩
              obtain ⟨wo, x, eq, hcl⟩ := hq
              have eq24 := Ex.at e2224 eq
              refine rd_ixTn 0 eq24 rfl rfl ?_
              walk_at "rd"
              refine rd_eq rfl ?_
              walk_at "rd"
              refine rd_ifH (fun σ H25 => (Xt [kn] H24 H25 ∧ ∃ (kk : Nat) (ka : Nat → Addr), H25 kn = some (.lst (tab kk fun i => .ref (ka i))) ∧ kk ≤ 2 ∧ ∀ i, i < kk → ∃ y, H25 (ka i) = some (.tup (vl m y)) ∧ ∀ j, j < m → (y j).natAbs < 2 ^ 400) ∧ σ = [some (.ref a), some (.ref b), some (.int n), some (.int wd), some (.int st), some (.int size), some (.ref p), some (.ref t), some (.ref mo), some (.ref q), some (.ref kn), none, none, none, none, none, none, none, none, none])
                (fun h1 tz' hk => ?_) (fun h1 => ⟨⟨Xt.refl _, 1, fun _ => t, ekn, by decide, fun i hi => ⟨y, et24, y4⟩⟩, rfl⟩) fun σ H25 hG => ?_
              · obtain ⟨y', ey', hy'⟩ := hcl h1
                walk_at "rd"
                refine ⟨tyL ekn, ?_⟩
                walk_at "rd"
                refine rd_ixTn 1 eq24 rfl rfl ?_
                walk_at "rd"
                refine rd_append ekn (szl (by show 1 < 100000; decide)) fun H25 X25 e25 => ?_
                refine hk _ _ ⟨⟨X25, 2, fun i => if i = 0 then t else x, e25, by decide, fun i hi => ?_⟩, rfl⟩
                have : i = 0 ∨ i = 1 := by omega
                rcases this with rfl | rfl
                · exact ⟨y, tup_to X25 (nt_lst ekn) et24, y4⟩
                · exact ⟨y', tup_to X25 (nt_lst ekn) (Ex.at e2224 ey'), hy'⟩
              · obtain ⟨⟨X25, kk, ka, ekn25, hkk, hka⟩, rfl⟩ := hG
                have ntk := nt_lst ekn
                have pkn : p ≠ kn := fun z => by
                  obtain ⟨_, _, z1, _⟩ := LP22.ex e23
                  rw [z, nkn] at z1; cases z1
                have pkN : p ∉ [kn] := by simpa using pkn
                have hx25 : Bx H25 b s g := hx24.keep X25 (fun z => nknb (by rw [List.mem_singleton.mp z] at *; simp)) (fun z => by
                    have l := (hx17.ex (Xt.trans e1720 (Xt.trans e21 (Xt.trans e22 e23)))).live.2.1
                    rw [List.mem_singleton.mp z] at l; exact l nkn) (fun z => nknb (by rw [List.mem_singleton.mp z] at *; simp))
                have LP25 := LP24.to X25 ntk pkN
                have LR25 := LR24.to X25 ntk pkN
                walk_at "rd"
                refine rd_itL ekn25 (for_w (wkLt (n := kk) (f := fun i => .ref (ka i))) (fun i σ H26 => (Xt [b, g] H25 H26 ∧ Bx H26 b s g) ∧ ∃ o11 o12 o13 o14 o15 o16 o17 o18 o19, σ = [some (.ref a), some (.ref b), some (.int n), some (.int wd), some (.int st), some (.int size), some (.ref p), some (.ref t), some (.ref mo), some (.ref q), some (.ref kn), o11, o12, o13, o14, o15, o16, o17, o18, o19])
                  ⟨⟨Xt.refl _, hx25⟩, _, _, _, _, _, _, _, _, _, rfl⟩ (fun i σ H26 _ hP => hP.1.1.at ekn25 nknb) (fun i x1 σ H26 H27 hi hP yy => ?_) fun σ H26 hP => ?_)
                · obtain ⟨⟨X26, hx26⟩, o11, o12, o13, o14, o15, o16, o17, o18, o19, rfl⟩ := hP
                  obtain ⟨rfl, rfl⟩ := yy
                  obtain ⟨yk, eyk, hyk⟩ := hka i hi
                  have eyk26 := tup_to X26 hx25.nt eyk
                  have LP26 := LP25.to X26 hx25.nt npb
                  have LR26 := LR25.to X26 hx25.nt npb
                  walk_at "rd"
                  refine ⟨b, s, g, ka i, m, yk, rfl, hx26, by omega, eyk26, hyk, fun lc kc H28 X28 hx28 LS28 hkc nlc => ?_⟩
                  obtain ⟨fc, elc, hfc⟩ := LS28
                  have LP28 := LP26.to X28 hx26.nt npb
                  have LR28 := LR26.to X28 hx26.nt npb
                  have eyk28 := tup_to X28 hx26.nt eyk26
                  have rsm2 : RSm ⟨n, m, R2, C2, q2⟩ := le_rsm le2 (by decide +kernel)
                  refine rd_itL elc (for_w (wkLt (n := kc) (f := fc)) (fun j σ H29 => Ex H28 H29 ∧ ∃ o12 o13 o14 o15 o16 o17 o18 o19, σ = [some (.ref a), some (.ref b), some (.int n), some (.int wd), some (.int st), some (.int size), some (.ref p), some (.ref t), some (.ref mo), some (.ref q), some (.ref kn), some (.ref (ka i)), o12, o13, o14, o15, o16, o17, o18, o19])
                    ⟨Ex.rfl', _, _, _, _, _, _, _, _, rfl⟩ (fun j σ H29 _ hP => Ex.at hP.1 elc) (fun j x1 σ H29 H30 hj hP yy => ?_) fun σ H29 hP => ?_)
                  · obtain ⟨e29, o12, o13, o14, o15, o16, o17, o18, o19, rfl⟩ := hP
                    obtain ⟨rfl, rfl⟩ := yy
                    walk_at "rd"
                    refine ⟨p, ⟨n, m, R2, C2, q2⟩, fc j, rfl, LP28.ex e29, (show n ≤ 1000 by omega), (show m ≤ 1000 by omega), rsm2, (hfc j hj).ex e29, fun H31 e31 => ?_⟩
                    walk_at "rd"
                    exact ⟨Xt.trans e29 e31, _, _, _, _, _, _, _, _, rfl⟩
                  · obtain ⟨e29, o12, o13, o14, o15, o16, o17, o18, o19, rfl⟩ := hP
                    have LR29 := LR28.ex e29
                    have hx29 := hx28.ex e29
                    obtain ⟨fr29, ep29, hrw29⟩ := id LR29
                    walk_at "rd"
                    refine rd_truL ep29 ?_
                    have ebb : (!(tab m fr29).isEmpty) = decide (0 < m) := by
                      cases m with
                      | zero => rfl
                      | succ n => show (!(List.map fr29 (List.range (n + 1))).isEmpty) = _; rw [List.range_succ]; simp
                    rw [ebb]
                    refine rd_dec (fun hm0 => ?_) fun _ => ?_
                    · walk_at "rd"
                      refine rd_lenLt ep29 ?_
                      walk_at "rd"
                      refine ⟨b, s, g, _, rfl, hx29, by omega, by omega, fun d H31 d0 d1 X31 hx31 => ?_⟩
                      obtain ⟨dn, rfl⟩ : ∃ dn : Nat, d = dn := ⟨d.toNat, by omega⟩
                      have hdm : dn < m := by omega
                      have ep31 := X31.at ep29 npb
                      walk_at "rd"
                      refine rd_ixLt dn ep31 rfl hdm ?_
                      obtain ⟨T9, a9, u9, q9, c9, exT, eT9, ea9, hc9, hu9⟩ := (hrw29 dn hdm).to X31 hx29.nt
                      rw [exT]
                      refine rd_gtrip eT9 ?_
                      walk_at "rd"
                      refine rd_slL ep31 fun l1 H32 nl1 e32 el1 => ?_
                      rw [cut_lo (by rw [tab_len]; omega)] at el1
                      walk_at "rd"
                      refine ⟨sz (show 3 ≤ 100000 by decide), fun T8 nT8 => ?_⟩
                      have e33 : Ex H32 (upd H32 T8 (.tup [.ref a9, .str (rel q9), .int (c9 + 1)])) := ex_new nT8
                      have eT8 : upd H32 T8 (.tup [.ref a9, .str (rel q9), .int (c9 + 1)]) T8 = some (.tup [.ref a9, .str (rel q9), .int (c9 + 1)]) := upd_same
                      generalize upd H32 T8 (HO.tup [.ref a9, .str (rel q9), .int (c9 + 1)]) = H33 at e33 eT8 ⊢
                      walk_at "rd"
                      refine ⟨sz (show 1 ≤ 100000 by decide), fun l2 nl2 => ?_⟩
                      have e34 : Ex H33 (upd H33 l2 (.lst [.ref T8])) := ex_new nl2
                      have el2 : upd H33 l2 (.lst [.ref T8]) l2 = some (.lst [.ref T8]) := upd_same
                      generalize upd H33 l2 (HO.lst [.ref T8]) = H34 at e34 el2 ⊢
                      have lt : ((tab m fr29).take dn).length ≤ 100 := by rw [List.length_take]; omega
                      refine rd_cat (e34.at (e33.at el1)) el2 (sz (by show _ + 1 ≤ 100000; omega)) fun l3 H35 nl3 e35 el3 => ?_
                      walk_at "rd"
                      refine rd_slL (e35.at (e34.at (e33.at (e32.at ep31)))) fun l4 H36 nl4 e36 el4 => ?_
                      have edn : ((dn : Int) + 1) = ((dn + 1 : Nat) : Int) := rfl
                      rw [edn, cut_hi (by rw [tab_len]; omega)] at el4
                      have ld : ((tab m fr29).drop (dn + 1)).length ≤ 100 := by rw [List.length_drop, tab_len]; omega
                      refine rd_cat (e36.at el3) el4 (sz (by rw [List.length_append]; show _ + 1 + _ ≤ 100000; omega)) fun lo H37 nlo e37 elo => ?_
                      rw [rep_tab hdm] at elo
                      walk_at "rd"
                      have e3137 : Ex H31 H37 := Xt.trans e32 (Xt.trans e33 (Xt.trans e34 (Xt.trans e35 (Xt.trans e36 e37))))
                      have e3337 : Ex H33 H37 := Xt.trans e34 (Xt.trans e35 (Xt.trans e36 e37))
                      have LL : LR H37 lo n m (BB + 1) := by
                        refine ⟨_, elo, fun i hi => ?_⟩
                        show Rw1 H37 (if i = dn then .ref T8 else fr29 i) n (BB + 1)
                        by_cases h : i = dn
                        · rw [if_pos h]
                          exact ⟨T8, a9, u9, q9, _, rfl, Ex.at e3337 eT8, Ex.at e3137 ea9, by omega, fun j hj => by have := hu9 j hj; omega⟩
                        · rw [if_neg h]
                          exact (((hrw29 i hi).to X31 hx29.nt).to (Ex.xt e3137) nt_ex).up (by omega)
                      obtain ⟨R3, C3, q3, LL3, le3⟩ := LL.rows (by omega)
                      have eyk37 := Ex.at e3137 (tup_to X31 hx29.nt (e29.at eyk28))
                      refine ⟨lo, ⟨n, m, R3, C3, q3⟩, .ref (ka i), rfl, LL3, (show n ≤ 1000 by omega), (show m ≤ 1000 by omega), le_rsm le3 (by decide +kernel), shv_ok eyk37 fun j hj => Nat.lt_of_lt_of_le (hyk j hj) (Nat.pow_le_pow_right (by decide) (by decide)), fun H38 e38 => ?_⟩
                      walk_at "rd"
                      exact ⟨⟨X26.trans (X28.trans ((Ex.xt e29).trans (X31.trans (Ex.xt (Xt.trans e3137 e38))))), (hx31.ex e3137).ex e38⟩, _, _, _, _, _, _, _, _, _, rfl⟩
                    · walk_at "rd"
                      exact ⟨⟨X26.trans (X28.trans (Ex.xt e29)), hx29⟩, _, _, _, _, _, _, _, _, _, rfl⟩
                · obtain ⟨⟨X26, hx26⟩, o11, o12, o13, o14, o15, o16, o17, o18, o19, rfl⟩ := hP
                  walk_at "rd"
                  exact ⟨b, s, g, p, n, m, rfl, hx26, hn, by omega, LR25.to X26 hx25.nt npb, npb, k⟩
end
end Sx
/-! the head, with what is told of the modules that no one looks at -/
namespace Y
open PySem PySem.Spec PyProof.Rows L2
/-- the law called at the heap behind the top: its promise may lean on the base that no one watches -/
theorem law_callS {P : Program} {w : World} {K : PySem.W.Frag} {mg mb : Str → Option Value} {CX : CXT} {k : Nat} {fa a : Addr} {fd : FuncData} {x : Str} {sp : Sp} {t : Shared} {vs : List Value} {ns : List Int}
    (KX : K.In t.heap) (gl : t.heap.Ns mainGlobals mg) (bl : t.heap.Ns builtinsNs mb) (bb : ∀ y : Str, y ≠ "__name__" → mb y = bootBuiltins y) (nl : t.heap.NoLimit) (se : t.heap.NoSeer) (ge : t.gens = #[])
    (ha : t.heap.get? a = some { cls := .type "list", data := .seq vs.toArray }) (hi : IntsAre vs ns) (hl : ns.length ≤ sizeLine) (hr : Room k callerA)
    (F : ∀ base : Heap, K.In base → base.Ns mainGlobals mg → base.NoSeer → FnOk P w K mg base CX k fa fd [x] sp) (bd : ∀ (s : Shared) (u : Value), BindsTo s fd ⟨[u], []⟩ [(x, u)])
    (hsp : ∀ H : Hp, Only H → SqL K H a (ns.map V.int) → sp [.ref a] H (fun v _ => v = .bl true) fun _ _ _ => False)
    (hCX : ∀ H e s', CX [] H t (fun _ _ _ => False) e s' → False) :
    codeAny (model P w) callerA (.call (.ref fa) ⟨[.ref a], []⟩) (fun r s' => r = .ok (.ret (.bool true)) ∧ OldK t.heap s'.heap ∧ s'.os = t.os ∧ AllBare s'.gens) t := by
  have rv := vals_ints hi
  have lv := hi.length
  have core : ∀ H : Hp, Only H → SqL K H a (ns.map V.int) → HOk P w H t.heap → (∀ b, H b ≠ none → b = a) → (H a ≠ none → K.lookup a = none) →
      codeAny (model P w) callerA (.call (.ref fa) ⟨[.ref a], []⟩) (fun r s' => r = .ok (.ret (.bool true)) ∧ OldK t.heap s'.heap ∧ s'.os = t.os ∧ AllBare s'.gens) t := by
    intro H only seq ok own alone
    have free : ∀ {b : Addr} {o : Obj}, t.heap.get? b = some o → o.cls ≠ .type "list" → H b = none := fun {b o} e d => by
      cases q : H b with
      | none => rfl
      | some u =>
        obtain rfl : b = a := own b (by rw [q]; simp)
        rw [ha] at e
        cases e
        exact absurd rfl d
    have freeD : ∀ {b : Addr} {o : Obj} {es : Array DictEntry} {ep : Nat}, t.heap.get? b = some o → o.data = .dict es ep → H b = none := fun {b o es ep} e d => by
      cases q : H b with
      | none => rfl
      | some u =>
        obtain rfl : b = a := own b (by rw [q]; simp)
        rw [ha] at e
        cases e
        have d' : Data.seq vs.toArray _ = Data.dict es ep := d
        cases d'
    have nsB : ∀ {b : Addr} {m : Str → Option Value}, t.heap.Ns b m → (hidT t.heap H).Ns b m := fun {b m} z => let ⟨o, es, ep, e, d, r⟩ := z; ⟨o, es, ep, hidT_get e (freeD e d), d, r⟩
    have kin : K.In (hidT t.heap H) := fun b o e => hidT_get (KX b o e) (by
      cases q : H b with
      | none => rfl
      | some u =>
        obtain rfl : b = a := own b (by rw [q]; simp)
        rw [alone (by rw [q]; simp)] at e
        cases e)
    have seB : (hidT t.heap H).NoSeer := by
      refine ⟨?_, ?_, ?_, ?_⟩
      · obtain ⟨mc, h1, h2⟩ := se.statics; exact ⟨mc, nsB h1, h2⟩
      · obtain ⟨mc, h1, h2⟩ := se.mods; exact ⟨mc, nsB h1, h2⟩
      · obtain ⟨mc, h1, h2⟩ := se.imp; exact ⟨mc, nsB h1, h2⟩
      · obtain ⟨m, bm, ob, h1, h2, h3, h4, h5⟩ := se.main
        exact ⟨m, bm, ob, nsB h1, h2, hidT_get h3 (free h3 (by rw [h4]; decide)), h4, h5⟩
    have md : Mod K mg (hidT t.heap H) := ⟨kin, nsB gl, ⟨mb, nsB bl, bb⟩, let ⟨mc, h1, h2⟩ := nl; ⟨mc, nsB h1, h2⟩⟩
    have env : Env0 P w K mg (hidT t.heap H) callerA [] t H := ⟨rfl, md, fun b o e => of_hidT e, Nat.le_of_eq (hidT_size _ _), trivial, fun b z => absurd (show b ∈ ([] : List Addr) from z) (by simp), ok, .of_eq ge⟩
    refine codeAny_mono ((F _ kin (nsB gl) seB).run callerA [] t H ⟨[.ref a], []⟩ [.ref a] [.ref a] _ _ hr env (bd t (.ref a)) (.cons rfl .nil) (hsp H only seq)) fun r s' h => ?_
    cases r with
    | error e => exact (hCX H e s' h).elim
    | ok fl =>
      cases fl with
      | ret u =>
        obtain ⟨v, H', os, bare, un, ok', r', q⟩ := h
        obtain rfl : v = .bl true := q
        obtain rfl : u = Value.bool true := r'
        refine ⟨rfl, OldK.of_keep fun b o e => ?_, os, bare⟩
        cases q : H b with
        | none => exact un.keep b o e q (fun z => absurd (show b ∈ ([] : List Addr) from z) (by simp)) (by simp)
        | some u =>
          rcases only b with z | ⟨ob, xs, z⟩
          · rw [q] at z; cases z
          · obtain ⟨e1, _⟩ := ok b _ z
            obtain ⟨e2, _⟩ := ok' b _ (un.frzs b ob _ z)
            rw [e] at e1
            cases e1
            exact e2
      | next => exact False.elim h
      | brk => exact False.elim h
      | cont => exact False.elim h
  cases hk : K.lookup a with
  | some o =>
    have e := KX a o hk
    rw [ha] at e
    cases e
    exact core (fun _ => none) (fun _ => .inl rfl) (.inr ⟨_, vs.toArray, _, hk, rfl, rfl, rfl, by rw [List.size_toArray, lv]; exact hl, by simpa using rv⟩) (fun b u z => by
      have z' : (none : Option HO) = some u := z
      cases z') (fun b z => absurd rfl z) fun z => absurd rfl z
  | none =>
    refine core (fun b => if b = a then some (.frz { cls := .type "list", data := .seq vs.toArray } (.lst (ns.map V.int))) else none) (fun b => ?_) (.inl (.inr ⟨{ cls := .type "list", data := .seq vs.toArray }, if_pos rfl⟩)) (fun b u z => ?_) (fun b z => ?_) fun _ => hk
    · by_cases h : b = a
      · exact .inr ⟨_, _, if_pos h⟩
      · exact .inl (if_neg h)
    · by_cases h : b = a
      · have z' := (if_pos h).symm.trans z
        cases z'
        subst h
        exact ⟨ha, by rw [List.length_map]; exact hl, vs, _, rv, ha⟩
      · have z' := (if_neg h).symm.trans z
        cases z'
    · by_cases h : b = a
      · exact h
      · exact absurd (if_neg h) z
theorem walk_ofS {l : PySem.W.OpenLaw} {n k : Nat} {q : Program} {loose : List Str} {XP : (Str → Option Value) → Heap → Prop} {YP : World → Heap → Prop} {d : DefRec} {K : Params → PySem.W.Frag} {CX : World → CXT} {sp : World → Sp} {x : Str}
    (hn : l.most = some n) (hn2 : n ≤ sizeLine) (hdf : d.params.defaults = []) (hr : Room k callerA) (hI : importsNone q = true)
    (hY : ∀ (w : World) (h : Heap), YP w h → (K w.params).In h)
    (F : ∀ (w : World) (mg : Str → Option Value) (fa : Addr) (h : Heap), (K w.params).In h → h.Ns mainGlobals mg → mg d.name = some (.ref fa) →
      ∃ fd : FuncData, (∀ (s : Shared) (u : Value), BindsTo s fd ⟨[u], []⟩ [(x, u)]) ∧ ∀ base : Heap, (K w.params).In base → base.Ns mainGlobals mg → base.NoSeer → FnOk l.prog w (K w.params) mg base (CX w) k fa fd [x] (sp w))
    (hsp : ∀ (w : World) (H : Hp) (a : Addr) (ns : List Int), ns.length ≤ n → Only H → SqL (K w.params) H a (ns.map V.int) → sp w [.ref a] H (fun v _ => v = .bl true) fun _ _ _ => False)
    (hCX : ∀ (w : World) (H : Hp) (s : Shared) (e : Value) (s' : Shared), CX w [] H s (fun _ _ _ => False) e s' → False) :
    PySem.W.WalkO q loose XP YP l.row.toRowW d [] (fun f vs => PySem.call f vs) := by
  refine Att.attach_call hn hdf fun w s₀ t mg mb fa o pm cd doc a vs ns G Y ho hd hcd hmg hobj hints hlen hg => ?_
  have KX := hY w _ Y
  obtain ⟨fd, hb, hF⟩ := F w mg fa _ KX G.T.g hmg
  exact law_callS KX G.T.g G.T.b G.T.builtins G.T.nolimit (G.T.seer hI) hg hobj hints (Nat.le_trans hlen hn2) hr hF hb (fun H hO hS => hsp w H a ns hlen hO hS) fun H e s' => hCX w H t e s'
end Y
/-! the end -/
namespace Sx
open PySem PySem.Spec PyProof.Rows L2 Y L2H NdefX
/-- what super() finds, from what the base finds -/
theorem sup_in {K : PySem.W.Frag} {C M N NM : Addr} {nm q nmM qM : Str} {bs bm bsM bmM : List Value} {sn snM : List Str} {sub subM : List Value} {hd hdM ab abM : Bool} {col colM : Option Bool} {dd ddM : Option Addr} {m0 m1 m2 m3 m5 n0 n1 n2 n3 n5 : Option Value} {i j : String} {x : Str} {r : Option (Option Value)}
    (xL : K.lookup C = some (excClassObj nm q C N bs bm hd sn sub ab col dd m0 m1 m2 m3 m5 i)) (xM : K.lookup M = some (excClassObj nmM qM M NM bsM bmM hdM snM subM abM colM ddM n0 n1 n2 n3 n5 j)) (hb : bm = .ref M :: bmM) (h : PySem.W.findIn K (.ref M) x = r) : PySem.W.ks_superIn K C C x = r := by
  rw [← h]
  have e1 : PySem.W.findIn K (.ref M) x = PySem.W.alongIn K x (.ref M :: bmM) := by
    unfold PySem.W.findIn
    dsimp only
    rw [xM]
  rw [e1, ← hb]
  unfold PySem.W.ks_superIn PySem.W.clsIn
  rw [xL]
  show PySem.W.alongIn K x (((Value.ref C :: bm).dropWhile (· != .ref C)).drop 1) = _
  rw [List.dropWhile_cons, if_neg (by simp)]
  rfl
theorem kit_ref {K : PySem.W.Frag} {M NM : Addr} {t : Value} {nmM qM : Str} {bsM bmM : List Value} {snM : List Str} {subM : List Value} {hdM abM : Bool} {colM : Option Bool} {ddM : Option Addr} {n0 n1 n2 n3 n5 : Option Value} {j : String}
    (xM : K.lookup M = some (excClassObj nmM qM M NM bsM bmM hdM snM subM abM colM ddM n0 n1 n2 n3 n5 j)) (h1 : PySem.W.typeIn K (.ref M) = some (.type "type")) (h2 : PySem.W.subIn K t (.ref M) = some true) : PySem.W.kitOne K t (.ref M) = some true := by
  unfold PySem.W.kitOne
  split
  · rfl
  · show (if ((PySem.W.clsIn K M).isSome && PySem.W.typeIn K (.ref M) == some (.type "type")) = true then PySem.W.subIn K t (.ref M) else none) = some true
    have e1 : (PySem.W.clsIn K M).isSome = true := by unfold PySem.W.clsIn; rw [xM] <;> rfl
    rw [e1, h1, h2]
    rfl
theorem all_mk {l : PySem.W.OpenLaw} {w : World} {K : PySem.W.Frag} {h : Heap} {mg : Str → Option Value} {fa : Addr} (X : K.In h) (G : h.Ns mainGlobals mg) (hfa : mg "law" = some (.ref fa)) (hpt : l.prog.given.tree = none)
    {f_v0 : Addr} {od_v0 an_v0 : Option Addr} {sl_v0 : Array (Option Value)} {oc_v0 kV_v0 dc_v0 pm_v0 cd_v0 ct_v0 : Value}
    {f_v1 : Addr} {od_v1 an_v1 : Option Addr} {sl_v1 : Array (Option Value)} {oc_v1 kV_v1 dc_v1 pm_v1 cd_v1 ct_v1 : Value}
    {f_v2 : Addr} {od_v2 an_v2 : Option Addr} {sl_v2 : Array (Option Value)} {oc_v2 kV_v2 dc_v2 pm_v2 cd_v2 ct_v2 : Value}
    {f_v3 : Addr} {od_v3 an_v3 : Option Addr} {sl_v3 : Array (Option Value)} {oc_v3 kV_v3 dc_v3 pm_v3 cd_v3 ct_v3 : Value}
    {f_v4 : Addr} {od_v4 an_v4 : Option Addr} {sl_v4 : Array (Option Value)} {oc_v4 kV_v4 dc_v4 pm_v4 cd_v4 ct_v4 : Value}
    {f_v5 : Addr} {od_v5 an_v5 : Option Addr} {sl_v5 : Array (Option Value)} {oc_v5 kV_v5 dc_v5 pm_v5 cd_v5 ct_v5 : Value}
    {f_v6 : Addr} {od_v6 an_v6 : Option Addr} {sl_v6 : Array (Option Value)} {oc_v6 kV_v6 dc_v6 pm_v6 cd_v6 ct_v6 : Value}
    {f_v7 : Addr} {od_v7 an_v7 : Option Addr} {sl_v7 : Array (Option Value)} {oc_v7 kV_v7 dc_v7 pm_v7 cd_v7 ct_v7 : Value}
    {f_v8 : Addr} {od_v8 an_v8 : Option Addr} {sl_v8 : Array (Option Value)} {oc_v8 kV_v8 dc_v8 pm_v8 cd_v8 ct_v8 : Value}
    {f_v9 : Addr} {od_v9 an_v9 : Option Addr} {sl_v9 : Array (Option Value)} {oc_v9 kV_v9 dc_v9 pm_v9 cd_v9 ct_v9 : Value}
    {f_v10 : Addr} {od_v10 an_v10 : Option Addr} {sl_v10 : Array (Option Value)} {oc_v10 kV_v10 dc_v10 pm_v10 cd_v10 ct_v10 : Value}
    {f_v11 : Addr} {od_v11 an_v11 : Option Addr} {sl_v11 : Array (Option Value)} {oc_v11 kV_v11 dc_v11 pm_v11 cd_v11 ct_v11 : Value}
    {f_v12 : Addr} {od_v12 an_v12 : Option Addr} {sl_v12 : Array (Option Value)} {oc_v12 kV_v12 dc_v12 pm_v12 cd_v12 ct_v12 : Value}
    {f_v13 : Addr} {od_v13 an_v13 : Option Addr} {sl_v13 : Array (Option Value)} {oc_v13 kV_v13 dc_v13 pm_v13 cd_v13 ct_v13 : Value}
    {f_v14 : Addr} {od_v14 an_v14 : Option Addr} {sl_v14 : Array (Option Value)} {oc_v14 kV_v14 dc_v14 pm_v14 cd_v14 ct_v14 : Value}
    {f_v15 : Addr} {od_v15 an_v15 : Option Addr} {sl_v15 : Array (Option Value)} {oc_v15 kV_v15 dc_v15 pm_v15 cd_v15 ct_v15 : Value}
    {f_v16 : Addr} {od_v16 an_v16 : Option Addr} {sl_v16 : Array (Option Value)} {oc_v16 kV_v16 dc_v16 pm_v16 cd_v16 ct_v16 : Value}
    {f_v17 : Addr} {od_v17 an_v17 : Option Addr} {sl_v17 : Array (Option Value)} {oc_v17 kV_v17 dc_v17 pm_v17 cd_v17 ct_v17 : Value}
    {f_v18 : Addr} {od_v18 an_v18 : Option Addr} {sl_v18 : Array (Option Value)} {oc_v18 kV_v18 dc_v18 pm_v18 cd_v18 ct_v18 : Value}
    {f_v19 : Addr} {od_v19 an_v19 : Option Addr} {sl_v19 : Array (Option Value)} {oc_v19 kV_v19 dc_v19 pm_v19 cd_v19 ct_v19 : Value}
    {f_v20 : Addr} {od_v20 an_v20 : Option Addr} {sl_v20 : Array (Option Value)} {oc_v20 kV_v20 dc_v20 pm_v20 cd_v20 ct_v20 : Value}
    {f_v21 : Addr} {od_v21 an_v21 : Option Addr} {sl_v21 : Array (Option Value)} {oc_v21 kV_v21 dc_v21 pm_v21 cd_v21 ct_v21 : Value}
    {f_v22 : Addr} {od_v22 an_v22 : Option Addr} {sl_v22 : Array (Option Value)} {oc_v22 kV_v22 dc_v22 pm_v22 cd_v22 ct_v22 : Value}
    {f_v23 : Addr} {od_v23 an_v23 : Option Addr} {sl_v23 : Array (Option Value)} {oc_v23 kV_v23 dc_v23 pm_v23 cd_v23 ct_v23 : Value}
    {f_v24 : Addr} {od_v24 an_v24 : Option Addr} {sl_v24 : Array (Option Value)} {oc_v24 kV_v24 dc_v24 pm_v24 cd_v24 ct_v24 : Value}
    {f_v25 : Addr} {od_v25 an_v25 : Option Addr} {sl_v25 : Array (Option Value)} {oc_v25 kV_v25 dc_v25 pm_v25 cd_v25 ct_v25 : Value}
    {f_v26 : Addr} {od_v26 an_v26 : Option Addr} {sl_v26 : Array (Option Value)} {oc_v26 kV_v26 dc_v26 pm_v26 cd_v26 ct_v26 : Value}
    {f_v27 : Addr} {od_v27 an_v27 : Option Addr} {sl_v27 : Array (Option Value)} {oc_v27 kV_v27 dc_v27 pm_v27 cd_v27 ct_v27 : Value}
    {f_v28 : Addr} {od_v28 an_v28 : Option Addr} {sl_v28 : Array (Option Value)} {oc_v28 kV_v28 dc_v28 pm_v28 cd_v28 ct_v28 : Value}
    {f_v29 : Addr} {od_v29 an_v29 : Option Addr} {sl_v29 : Array (Option Value)} {oc_v29 kV_v29 dc_v29 pm_v29 cd_v29 ct_v29 : Value}
    {f_v30 : Addr} {od_v30 an_v30 : Option Addr} {sl_v30 : Array (Option Value)} {oc_v30 kV_v30 dc_v30 pm_v30 cd_v30 ct_v30 : Value}
    {f_v31 : Addr} {od_v31 an_v31 : Option Addr} {sl_v31 : Array (Option Value)} {oc_v31 kV_v31 dc_v31 pm_v31 cd_v31 ct_v31 : Value}
    {C M f1 cc cda N NM : Addr} {nm q nmM qM : Str} {bs bm bsM bmM : List Value} {sn snM : List Str} {sub subM : List Value} {ab abM hdM : Bool} {colM : Option Bool} {ddM : Option Addr} {n0 n1 n2 n3 n5 : Option Value} {col : Option Bool} {dd od1 an1 dc2 dk : Option Addr} {m0 m1 m2 m3 m5 : Option Value} {sl1 sl2 sl3 : Array (Option Value)} {oc1 kV1 dc1 pm1 ct1 oc2 oc3 : Value} {vs1 : Array Value} {fl : Str} {tf : Tok}
    (a_v0 : PySem.W.nsIn K mainGlobals "is_whole" = some (some (.ref f_v0)))
    (l_v0 : K.lookup f_v0 = some ⟨oc_v0, od_v0, .func (PySem.W.fnOf "is_whole" "is_whole" (defArgs s_is_whole) (defBody s_is_whole) (defScope s_is_whole) .none kV_v0 dc_v0 pm_v0 an_v0 cd_v0 ct_v0), sl_v0⟩)
    (c_v0 : PySem.W.codeIn K cd_v0 "is_whole" = true)
    (k_v0 : PySem.W.keepIn K (.ref f_v0) = true)
    (a_v1 : PySem.W.nsIn K mainGlobals "is_vector" = some (some (.ref f_v1)))
    (l_v1 : K.lookup f_v1 = some ⟨oc_v1, od_v1, .func (PySem.W.fnOf "is_vector" "is_vector" (defArgs s_is_vector) (defBody s_is_vector) (defScope s_is_vector) .none kV_v1 dc_v1 pm_v1 an_v1 cd_v1 ct_v1), sl_v1⟩)
    (c_v1 : PySem.W.codeIn K cd_v1 "is_vector" = true)
    (k_v1 : PySem.W.keepIn K (.ref f_v1) = true)
    (a_v2 : PySem.W.nsIn K mainGlobals "_is_row" = some (some (.ref f_v2)))
    (l_v2 : K.lookup f_v2 = some ⟨oc_v2, od_v2, .func (PySem.W.fnOf "_is_row" "_is_row" (defArgs s__is_row) (defBody s__is_row) (defScope s__is_row) .none kV_v2 dc_v2 pm_v2 an_v2 cd_v2 ct_v2), sl_v2⟩)
    (c_v2 : PySem.W.codeIn K cd_v2 "_is_row" = true)
    (k_v2 : PySem.W.keepIn K (.ref f_v2) = true)
    (a_v3 : PySem.W.nsIn K mainGlobals "ask_rows" = some (some (.ref f_v3)))
    (l_v3 : K.lookup f_v3 = some ⟨oc_v3, od_v3, .func (PySem.W.fnOf "ask_rows" "ask_rows" (defArgs s_ask_rows) (defBody s_ask_rows) (defScope s_ask_rows) .none kV_v3 dc_v3 pm_v3 an_v3 cd_v3 ct_v3), sl_v3⟩)
    (c_v3 : PySem.W.codeIn K cd_v3 "ask_rows" = true)
    (k_v3 : PySem.W.keepIn K (.ref f_v3) = true)
    (a_v4 : PySem.W.nsIn K mainGlobals "dot" = some (some (.ref f_v4)))
    (l_v4 : K.lookup f_v4 = some ⟨oc_v4, od_v4, .func (PySem.W.fnOf "dot" "dot" (defArgs s_dot) (defBody s_dot) (defScope s_dot) .none kV_v4 dc_v4 pm_v4 an_v4 cd_v4 ct_v4), sl_v4⟩)
    (c_v4 : PySem.W.codeIn K cd_v4 "dot" = true)
    (k_v4 : PySem.W.keepIn K (.ref f_v4) = true)
    (a_v5 : PySem.W.nsIn K mainGlobals "adds_up" = some (some (.ref f_v5)))
    (l_v5 : K.lookup f_v5 = some ⟨oc_v5, od_v5, .func (PySem.W.fnOf "adds_up" "adds_up" (defArgs s_adds_up) (defBody s_adds_up) (defScope s_adds_up) .none kV_v5 dc_v5 pm_v5 an_v5 cd_v5 ct_v5), sl_v5⟩)
    (c_v5 : PySem.W.codeIn K cd_v5 "adds_up" = true)
    (k_v5 : PySem.W.keepIn K (.ref f_v5) = true)
    (a_v6 : PySem.W.nsIn K mainGlobals "_violated" = some (some (.ref f_v6)))
    (l_v6 : K.lookup f_v6 = some ⟨oc_v6, od_v6, .func (PySem.W.fnOf "_violated" "_violated" (defArgs s__violated) (defBody s__violated) (defScope s__violated) .none kV_v6 dc_v6 pm_v6 an_v6 cd_v6 ct_v6), sl_v6⟩)
    (c_v6 : PySem.W.codeIn K cd_v6 "_violated" = true)
    (k_v6 : PySem.W.keepIn K (.ref f_v6) = true)
    (a_v7 : PySem.W.nsIn K mainGlobals "_entering" = some (some (.ref f_v7)))
    (l_v7 : K.lookup f_v7 = some ⟨oc_v7, od_v7, .func (PySem.W.fnOf "_entering" "_entering" (defArgs s__entering) (defBody s__entering) (defScope s__entering) .none kV_v7 dc_v7 pm_v7 an_v7 cd_v7 ct_v7), sl_v7⟩)
    (c_v7 : PySem.W.codeIn K cd_v7 "_entering" = true)
    (k_v7 : PySem.W.keepIn K (.ref f_v7) = true)
    (a_v8 : PySem.W.nsIn K mainGlobals "_exchanged" = some (some (.ref f_v8)))
    (l_v8 : K.lookup f_v8 = some ⟨oc_v8, od_v8, .func (PySem.W.fnOf "_exchanged" "_exchanged" (defArgs s__exchanged) (defBody s__exchanged) (defScope s__exchanged) .none kV_v8 dc_v8 pm_v8 an_v8 cd_v8 ct_v8), sl_v8⟩)
    (c_v8 : PySem.W.codeIn K cd_v8 "_exchanged" = true)
    (k_v8 : PySem.W.keepIn K (.ref f_v8) = true)
    (a_v9 : PySem.W.nsIn K mainGlobals "_point" = some (some (.ref f_v9)))
    (l_v9 : K.lookup f_v9 = some ⟨oc_v9, od_v9, .func (PySem.W.fnOf "_point" "_point" (defArgs s__point) (defBody s__point) (defScope s__point) .none kV_v9 dc_v9 pm_v9 an_v9 cd_v9 ct_v9), sl_v9⟩)
    (c_v9 : PySem.W.codeIn K cd_v9 "_point" = true)
    (k_v9 : PySem.W.keepIn K (.ref f_v9) = true)
    (a_v10 : PySem.W.nsIn K mainGlobals "_multipliers" = some (some (.ref f_v10)))
    (l_v10 : K.lookup f_v10 = some ⟨oc_v10, od_v10, .func (PySem.W.fnOf "_multipliers" "_multipliers" (defArgs s__multipliers) (defBody s__multipliers) (defScope s__multipliers) .none kV_v10 dc_v10 pm_v10 an_v10 cd_v10 ct_v10), sl_v10⟩)
    (c_v10 : PySem.W.codeIn K cd_v10 "_multipliers" = true)
    (k_v10 : PySem.W.keepIn K (.ref f_v10) = true)
    (a_v11 : PySem.W.nsIn K mainGlobals "solved" = some (some (.ref f_v11)))
    (l_v11 : K.lookup f_v11 = some ⟨oc_v11, od_v11, .func (PySem.W.fnOf "solved" "solved" (defArgs s_solved) (defBody s_solved) (defScope s_solved) .none kV_v11 dc_v11 pm_v11 an_v11 cd_v11 ct_v11), sl_v11⟩)
    (c_v11 : PySem.W.codeIn K cd_v11 "solved" = true)
    (k_v11 : PySem.W.keepIn K (.ref f_v11) = true)
    (a_v12 : PySem.W.nsIn K mainGlobals "meet" = some (some (.ref f_v12)))
    (l_v12 : K.lookup f_v12 = some ⟨oc_v12, od_v12, .func (PySem.W.fnOf "meet" "meet" (defArgs s_meet) (defBody s_meet) (defScope s_meet) .none kV_v12 dc_v12 pm_v12 an_v12 cd_v12 ct_v12), sl_v12⟩)
    (c_v12 : PySem.W.codeIn K cd_v12 "meet" = true)
    (k_v12 : PySem.W.keepIn K (.ref f_v12) = true)
    (a_v13 : PySem.W.nsIn K mainGlobals "is_clash" = some (some (.ref f_v13)))
    (l_v13 : K.lookup f_v13 = some ⟨oc_v13, od_v13, .func (PySem.W.fnOf "is_clash" "is_clash" (defArgs s_is_clash) (defBody s_is_clash) (defScope s_is_clash) .none kV_v13 dc_v13 pm_v13 an_v13 cd_v13 ct_v13), sl_v13⟩)
    (c_v13 : PySem.W.codeIn K cd_v13 "is_clash" = true)
    (k_v13 : PySem.W.keepIn K (.ref f_v13) = true)
    (a_v14 : PySem.W.nsIn K mainGlobals "_law_mixed" = some (some (.ref f_v14)))
    (l_v14 : K.lookup f_v14 = some ⟨oc_v14, od_v14, .func (PySem.W.fnOf "_law_mixed" "_law_mixed" (defArgs s__law_mixed) (defBody s__law_mixed) (defScope s__law_mixed) .none kV_v14 dc_v14 pm_v14 an_v14 cd_v14 ct_v14), sl_v14⟩)
    (c_v14 : PySem.W.codeIn K cd_v14 "_law_mixed" = true)
    (k_v14 : PySem.W.keepIn K (.ref f_v14) = true)
    (a_v15 : PySem.W.nsIn K mainGlobals "_law_box" = some (some (.ref f_v15)))
    (l_v15 : K.lookup f_v15 = some ⟨oc_v15, od_v15, .func (PySem.W.fnOf "_law_box" "_law_box" (defArgs s__law_box) (defBody s__law_box) (defScope s__law_box) .none kV_v15 dc_v15 pm_v15 an_v15 cd_v15 ct_v15), sl_v15⟩)
    (c_v15 : PySem.W.codeIn K cd_v15 "_law_box" = true)
    (k_v15 : PySem.W.keepIn K (.ref f_v15) = true)
    (a_v16 : PySem.W.nsIn K mainGlobals "_law_take" = some (some (.ref f_v16)))
    (l_v16 : K.lookup f_v16 = some ⟨oc_v16, od_v16, .func (PySem.W.fnOf "_law_take" "_law_take" (defArgs s__law_take) (defBody s__law_take) (defScope s__law_take) .none kV_v16 dc_v16 pm_v16 an_v16 cd_v16 ct_v16), sl_v16⟩)
    (c_v16 : PySem.W.codeIn K cd_v16 "_law_take" = true)
    (k_v16 : PySem.W.keepIn K (.ref f_v16) = true)
    (a_v17 : PySem.W.nsIn K mainGlobals "_law_is_integer" = some (some (.ref f_v17)))
    (l_v17 : K.lookup f_v17 = some ⟨oc_v17, od_v17, .func (PySem.W.fnOf "_law_is_integer" "_law_is_integer" (defArgs s__law_is_integer) (defBody s__law_is_integer) (defScope s__law_is_integer) .none kV_v17 dc_v17 pm_v17 an_v17 cd_v17 ct_v17), sl_v17⟩)
    (c_v17 : PySem.W.codeIn K cd_v17 "_law_is_integer" = true)
    (k_v17 : PySem.W.keepIn K (.ref f_v17) = true)
    (a_v18 : PySem.W.nsIn K mainGlobals "_law_integers" = some (some (.ref f_v18)))
    (l_v18 : K.lookup f_v18 = some ⟨oc_v18, od_v18, .func (PySem.W.fnOf "_law_integers" "_law_integers" (defArgs s__law_integers) (defBody s__law_integers) (defScope s__law_integers) .none kV_v18 dc_v18 pm_v18 an_v18 cd_v18 ct_v18), sl_v18⟩)
    (c_v18 : PySem.W.codeIn K cd_v18 "_law_integers" = true)
    (k_v18 : PySem.W.keepIn K (.ref f_v18) = true)
    (a_v19 : PySem.W.nsIn K mainGlobals "_law_product" = some (some (.ref f_v19)))
    (l_v19 : K.lookup f_v19 = some ⟨oc_v19, od_v19, .func (PySem.W.fnOf "_law_product" "_law_product" (defArgs s__law_product) (defBody s__law_product) (defScope s__law_product) .none kV_v19 dc_v19 pm_v19 an_v19 cd_v19 ct_v19), sl_v19⟩)
    (c_v19 : PySem.W.codeIn K cd_v19 "_law_product" = true)
    (k_v19 : PySem.W.keepIn K (.ref f_v19) = true)
    (a_v20 : PySem.W.nsIn K mainGlobals "_law_triple" = some (some (.ref f_v20)))
    (l_v20 : K.lookup f_v20 = some ⟨oc_v20, od_v20, .func (PySem.W.fnOf "_law_triple" "_law_triple" (defArgs s__law_triple) (defBody s__law_triple) (defScope s__law_triple) .none kV_v20 dc_v20 pm_v20 an_v20 cd_v20 ct_v20), sl_v20⟩)
    (c_v20 : PySem.W.codeIn K cd_v20 "_law_triple" = true)
    (k_v20 : PySem.W.keepIn K (.ref f_v20) = true)
    (a_v21 : PySem.W.nsIn K mainGlobals "_law_through" = some (some (.ref f_v21)))
    (l_v21 : K.lookup f_v21 = some ⟨oc_v21, od_v21, .func (PySem.W.fnOf "_law_through" "_law_through" (defArgs s__law_through) (defBody s__law_through) (defScope s__law_through) .none kV_v21 dc_v21 pm_v21 an_v21 cd_v21 ct_v21), sl_v21⟩)
    (c_v21 : PySem.W.codeIn K cd_v21 "_law_through" = true)
    (k_v21 : PySem.W.keepIn K (.ref f_v21) = true)
    (a_v22 : PySem.W.nsIn K mainGlobals "_law_against" = some (some (.ref f_v22)))
    (l_v22 : K.lookup f_v22 = some ⟨oc_v22, od_v22, .func (PySem.W.fnOf "_law_against" "_law_against" (defArgs s__law_against) (defBody s__law_against) (defScope s__law_against) .none kV_v22 dc_v22 pm_v22 an_v22 cd_v22 ct_v22), sl_v22⟩)
    (c_v22 : PySem.W.codeIn K cd_v22 "_law_against" = true)
    (k_v22 : PySem.W.keepIn K (.ref f_v22) = true)
    (a_v23 : PySem.W.nsIn K mainGlobals "_law_wrong" = some (some (.ref f_v23)))
    (l_v23 : K.lookup f_v23 = some ⟨oc_v23, od_v23, .func (PySem.W.fnOf "_law_wrong" "_law_wrong" (defArgs s__law_wrong) (defBody s__law_wrong) (defScope s__law_wrong) .none kV_v23 dc_v23 pm_v23 an_v23 cd_v23 ct_v23), sl_v23⟩)
    (c_v23 : PySem.W.codeIn K cd_v23 "_law_wrong" = true)
    (k_v23 : PySem.W.keepIn K (.ref f_v23) = true)
    (a_v24 : PySem.W.nsIn K mainGlobals "_law_lowest" = some (some (.ref f_v24)))
    (l_v24 : K.lookup f_v24 = some ⟨oc_v24, od_v24, .func (PySem.W.fnOf "_law_lowest" "_law_lowest" (defArgs s__law_lowest) (defBody s__law_lowest) (defScope s__law_lowest) .none kV_v24 dc_v24 pm_v24 an_v24 cd_v24 ct_v24), sl_v24⟩)
    (c_v24 : PySem.W.codeIn K cd_v24 "_law_lowest" = true)
    (k_v24 : PySem.W.keepIn K (.ref f_v24) = true)
    (a_v25 : PySem.W.nsIn K mainGlobals "_law_solves" = some (some (.ref f_v25)))
    (l_v25 : K.lookup f_v25 = some ⟨oc_v25, od_v25, .func (PySem.W.fnOf "_law_solves" "_law_solves" (defArgs s__law_solves) (defBody s__law_solves) (defScope s__law_solves) .none kV_v25 dc_v25 pm_v25 an_v25 cd_v25 ct_v25), sl_v25⟩)
    (c_v25 : PySem.W.codeIn K cd_v25 "_law_solves" = true)
    (k_v25 : PySem.W.keepIn K (.ref f_v25) = true)
    (a_v26 : PySem.W.nsIn K mainGlobals "_law_clashes" = some (some (.ref f_v26)))
    (l_v26 : K.lookup f_v26 = some ⟨oc_v26, od_v26, .func (PySem.W.fnOf "_law_clashes" "_law_clashes" (defArgs s__law_clashes) (defBody s__law_clashes) (defScope s__law_clashes) .none kV_v26 dc_v26 pm_v26 an_v26 cd_v26 ct_v26), sl_v26⟩)
    (c_v26 : PySem.W.codeIn K cd_v26 "_law_clashes" = true)
    (k_v26 : PySem.W.keepIn K (.ref f_v26) = true)
    (a_v27 : PySem.W.nsIn K mainGlobals "_law_answered" = some (some (.ref f_v27)))
    (l_v27 : K.lookup f_v27 = some ⟨oc_v27, od_v27, .func (PySem.W.fnOf "_law_answered" "_law_answered" (defArgs s__law_answered) (defBody s__law_answered) (defScope s__law_answered) .none kV_v27 dc_v27 pm_v27 an_v27 cd_v27 ct_v27), sl_v27⟩)
    (c_v27 : PySem.W.codeIn K cd_v27 "_law_answered" = true)
    (k_v27 : PySem.W.keepIn K (.ref f_v27) = true)
    (a_v28 : PySem.W.nsIn K mainGlobals "_law_changed" = some (some (.ref f_v28)))
    (l_v28 : K.lookup f_v28 = some ⟨oc_v28, od_v28, .func (PySem.W.fnOf "_law_changed" "_law_changed" (defArgs s__law_changed) (defBody s__law_changed) (defScope s__law_changed) .none kV_v28 dc_v28 pm_v28 an_v28 cd_v28 ct_v28), sl_v28⟩)
    (c_v28 : PySem.W.codeIn K cd_v28 "_law_changed" = true)
    (k_v28 : PySem.W.keepIn K (.ref f_v28) = true)
    (a_v29 : PySem.W.nsIn K mainGlobals "_law_judged" = some (some (.ref f_v29)))
    (l_v29 : K.lookup f_v29 = some ⟨oc_v29, od_v29, .func (PySem.W.fnOf "_law_judged" "_law_judged" (defArgs s__law_judged) (defBody s__law_judged) (defScope s__law_judged) .none kV_v29 dc_v29 pm_v29 an_v29 cd_v29 ct_v29), sl_v29⟩)
    (c_v29 : PySem.W.codeIn K cd_v29 "_law_judged" = true)
    (k_v29 : PySem.W.keepIn K (.ref f_v29) = true)
    (a_v30 : PySem.W.nsIn K mainGlobals "_law_refused" = some (some (.ref f_v30)))
    (l_v30 : K.lookup f_v30 = some ⟨oc_v30, od_v30, .func (PySem.W.fnOf "_law_refused" "_law_refused" (defArgs s__law_refused) (defBody s__law_refused) (defScope s__law_refused) .none kV_v30 dc_v30 pm_v30 an_v30 cd_v30 ct_v30), sl_v30⟩)
    (c_v30 : PySem.W.codeIn K cd_v30 "_law_refused" = true)
    (k_v30 : PySem.W.keepIn K (.ref f_v30) = true)
    (a_v31 : PySem.W.nsIn K mainGlobals "law" = some (some (.ref f_v31)))
    (l_v31 : K.lookup f_v31 = some ⟨oc_v31, od_v31, .func (PySem.W.fnOf "law" "law" (defArgs s_law) (defBody s_law) (defScope s_law) .none kV_v31 dc_v31 pm_v31 an_v31 cd_v31 ct_v31), sl_v31⟩)
    (c_v31 : PySem.W.codeIn K cd_v31 "law" = true)
    (k_v31 : PySem.W.keepIn K (.ref f_v31) = true)
    (b_int : PySem.W.nsIn K mainGlobals "int" = some none)
    (b_len : PySem.W.nsIn K mainGlobals "len" = some none)
    (b_range : PySem.W.nsIn K mainGlobals "range" = some none)
    (b_isinstance : PySem.W.nsIn K mainGlobals "isinstance" = some none)
    (b_abs : PySem.W.nsIn K mainGlobals "abs" = some none)
    (b_zip : PySem.W.nsIn K mainGlobals "zip" = some none)
    (b_sum : PySem.W.nsIn K mainGlobals "sum" = some none)
    (b_all : PySem.W.nsIn K mainGlobals "all" = some none)
    (b_tuple : PySem.W.nsIn K mainGlobals "tuple" = some none)
    (b_list : PySem.W.nsIn K mainGlobals "list" = some none)
    (b_bool : PySem.W.nsIn K mainGlobals "bool" = some none)
    (b_max : PySem.W.nsIn K mainGlobals "max" = some none)
    (b_gcd : PySem.W.nsIn K mainGlobals "gcd" = some (some (.builtin "math.gcd")))
    (bsup : PySem.W.nsIn K mainGlobals "super" = some none)
    (aC : PySem.W.nsIn K mainGlobals "BadRows" = some (some (.ref C)))
    (aM : PySem.W.nsIn K mainGlobals "MixError" = some (some (.ref M)))
    (xL : K.lookup C = some (excClassObj nm q C N bs bm true sn sub ab col dd m0 m1 m2 m3 m5 "ValueError.__new__"))
    (xR : PySem.HandSPX.refsVE bm = true)
    (sa : PySem.W.findIn K (.ref C) "__setattr__" = some (some (.builtin "object.__setattr__")))
    (ga : PySem.W.findIn K (.ref C) "__getattribute__" = some (some (.builtin "BaseException.__getattribute__")))
    (gg : PySem.W.findIn K (.ref C) "__getattr__" = some none)
    (gc : PySem.W.findIn K (.ref C) "__class__" = some (some (.builtin "object.__class__")))
    (gr : PySem.W.findIn K (.ref C) "row" = some none)
    (sn : PySem.W.specialIn K (.builtin "object.__class__") "__get__" = some (some (.builtin "getset_descriptor.__get__")))
    (tk : PySem.W.takesIn K (.builtin "object.__class__") = some true)
    (eC : PySem.W.subIn K (.ref C) (.type "BaseException") = some true)
    (eV : PySem.W.subIn K (.ref C) (.type "ValueError") = some true)
    (eS : PySem.W.subIn K (.ref C) (.ref C) = some true)
    (tC : PySem.W.typeIn K (.ref C) = some (.type "type"))
    (hC : PySem.W.hasDictIn K C = true)
    (kC : PySem.W.keepIn K (.ref C) = true)
    (mO : PySem.W.mroIn K C (.type "object") = some true)
    (mC : PySem.W.mroIn K C (.ref C) = some true)
    (eM : PySem.W.subIn K (.ref C) (.ref M) = some true)
    (tM : PySem.W.typeIn K (.ref M) = some (.type "type"))
    (xM : K.lookup M = some (excClassObj nmM qM M NM bsM bmM hdM snM subM abM colM ddM n0 n1 n2 n3 n5 "ValueError.__new__"))
    (bM : bm = .ref M :: bmM)
    (iM : PySem.W.findIn K (.ref M) "__init__" = some (some (.builtin "ValueError.__init__")))
    (iC : PySem.W.findIn K (.ref C) "__init__" = some (some (.ref f1)))
    (t1 : PySem.W.typeIn K (.ref f1) = some (.type "function"))
    (l1 : K.lookup f1 = some ⟨oc1, od1, .func (PySem.W.fnX "__init__" "BadRows.__init__" (defArgs s_init) (defBody s_init) (defScope s_init) (cl1 cc) .none kV1 dc1 pm1 an1 (.ref cda) ct1), sl1⟩)
    (c1 : PySem.W.codeIn K (.ref cda) "BadRows.__init__" = true)
    (l2 : K.lookup cda = some ⟨oc2, dc2, .fields vs1, sl2⟩)
    (l3 : K.lookup cc = some ⟨oc3, dk, .cell (some (.ref C)), sl3⟩)
    (v2 : vs1[2]? = some (.str fl tf))
    (pf : ((l.prog.main.file : Str) == fl) = true)
    (pt : (l.prog.main.scope.names.lookup ("super" : Str)).isSome = false)
    (so : PySem.W.nsIn K cStatics "thirdparty.any" = some none) :
    ∃ fd : FuncData, (∀ (s : Shared) (v : Value), BindsTo s fd ⟨[v], []⟩ [("script", v)]) ∧ ∀ base : Heap, K.In base → base.Ns mainGlobals mg → base.NoSeer → FnOk l.prog w K mg base CX0 51 fa fd ["script"] (sp_law (K := K)) := by
  have e := hfa.symm.trans (PySem.W.mg_of X G a_v31)
  cases e
  have B : Bi mg := ⟨PySem.W.mg_none_of X G b_int, PySem.W.mg_none_of X G b_len, PySem.W.mg_none_of X G b_range, PySem.W.mg_none_of X G b_isinstance, PySem.W.mg_none_of X G b_abs, PySem.W.mg_none_of X G b_zip, PySem.W.mg_none_of X G b_sum, PySem.W.mg_none_of X G b_all, PySem.W.mg_none_of X G b_tuple, PySem.W.mg_none_of X G b_list, PySem.W.mg_none_of X G b_bool, PySem.W.mg_none_of X G b_max, PySem.W.mg_of X G b_gcd⟩
  have F_v0 := fun_mk (st := s_is_whole) l_v0 c_v0 k_v0
  have B_v0 := F_v0.binds (ps := ["worth"]) fun _ _ _ _ _ _ us hl => match us, hl with | [_], _ => rfl
  have F_v1 := fun_mk (st := s_is_vector) l_v1 c_v1 k_v1
  have B_v1 := F_v1.binds (ps := ["worth", "many"]) fun _ _ _ _ _ _ us hl => match us, hl with | [_, _], _ => rfl
  have F_v2 := fun_mk (st := s__is_row) l_v2 c_v2 k_v2
  have B_v2 := F_v2.binds (ps := ["worth", "many"]) fun _ _ _ _ _ _ us hl => match us, hl with | [_, _], _ => rfl
  have F_v3 := fun_mk (st := s_ask_rows) l_v3 c_v3 k_v3
  have B_v3 := F_v3.binds (ps := ["rows", "many"]) fun _ _ _ _ _ _ us hl => match us, hl with | [_, _], _ => rfl
  have F_v4 := fun_mk (st := s_dot) l_v4 c_v4 k_v4
  have B_v4 := F_v4.binds (ps := ["left", "right"]) fun _ _ _ _ _ _ us hl => match us, hl with | [_, _], _ => rfl
  have F_v5 := fun_mk (st := s_adds_up) l_v5 c_v5 k_v5
  have B_v5 := F_v5.binds (ps := ["rows", "many", "multipliers"]) fun _ _ _ _ _ _ us hl => match us, hl with | [_, _, _], _ => rfl
  have F_v6 := fun_mk (st := s__violated) l_v6 c_v6 k_v6
  have B_v6 := F_v6.binds (ps := ["rows", "many", "table", "basic"]) fun _ _ _ _ _ _ us hl => match us, hl with | [_, _, _, _], _ => rfl
  have F_v7 := fun_mk (st := s__entering) l_v7 c_v7 k_v7
  have B_v7 := F_v7.binds (ps := ["rows", "many", "numbers", "free"]) fun _ _ _ _ _ _ us hl => match us, hl with | [_, _, _, _], _ => rfl
  have F_v8 := fun_mk (st := s__exchanged) l_v8 c_v8 k_v8
  have B_v8 := F_v8.binds (ps := ["table", "scale", "line", "column"]) fun _ _ _ _ _ _ us hl => match us, hl with | [_, _, _, _], _ => rfl
  have F_v9 := fun_mk (st := s__point) l_v9 c_v9 k_v9
  have B_v9 := F_v9.binds (ps := ["many", "table", "basic", "scale"]) fun _ _ _ _ _ _ us hl => match us, hl with | [_, _, _, _], _ => rfl
  have F_v10 := fun_mk (st := s__multipliers) l_v10 c_v10 k_v10
  have B_v10 := F_v10.binds (ps := ["rows", "many", "numbers", "scale", "variable", "free"]) fun _ _ _ _ _ _ us hl => match us, hl with | [_, _, _, _, _, _], _ => rfl
  have F_v11 := fun_mk (st := s_solved) l_v11 c_v11 k_v11
  have B_v11 := F_v11.binds (ps := ["rows", "many"]) fun _ _ _ _ _ _ us hl => match us, hl with | [_, _], _ => rfl
  have F_v12 := fun_mk (st := s_meet) l_v12 c_v12 k_v12
  have B_v12 := F_v12.binds (ps := ["rows", "many"]) fun _ _ _ _ _ _ us hl => match us, hl with | [_, _], _ => rfl
  have F_v13 := fun_mk (st := s_is_clash) l_v13 c_v13 k_v13
  have B_v13 := F_v13.binds (ps := ["rows", "many", "multipliers"]) fun _ _ _ _ _ _ us hl => match us, hl with | [_, _, _], _ => rfl
  have F_v14 := fun_mk (st := s__law_mixed) l_v14 c_v14 k_v14
  have B_v14 := F_v14.binds (ps := ["seed", "turn"]) fun _ _ _ _ _ _ us hl => match us, hl with | [_, _], _ => rfl
  have F_v15 := fun_mk (st := s__law_box) l_v15 c_v15 k_v15
  have B_v15 := F_v15.binds (ps := ["script"]) fun _ _ _ _ _ _ us hl => match us, hl with | [_], _ => rfl
  have F_v16 := fun_mk (st := s__law_take) l_v16 c_v16 k_v16
  have B_v16 := F_v16.binds (ps := ["box", "size"]) fun _ _ _ _ _ _ us hl => match us, hl with | [_, _], _ => rfl
  have F_v17 := fun_mk (st := s__law_is_integer) l_v17 c_v17 k_v17
  have B_v17 := F_v17.binds (ps := ["thing"]) fun _ _ _ _ _ _ us hl => match us, hl with | [_], _ => rfl
  have F_v18 := fun_mk (st := s__law_integers) l_v18 c_v18 k_v18
  have B_v18 := F_v18.binds (ps := ["thing", "size"]) fun _ _ _ _ _ _ us hl => match us, hl with | [_, _], _ => rfl
  have F_v19 := fun_mk (st := s__law_product) l_v19 c_v19 k_v19
  have B_v19 := F_v19.binds (ps := ["left", "right"]) fun _ _ _ _ _ _ us hl => match us, hl with | [_, _], _ => rfl
  have F_v20 := fun_mk (st := s__law_triple) l_v20 c_v20 k_v20
  have B_v20 := F_v20.binds (ps := ["box", "many", "wide"]) fun _ _ _ _ _ _ us hl => match us, hl with | [_, _, _], _ => rfl
  have F_v21 := fun_mk (st := s__law_through) l_v21 c_v21 k_v21
  have B_v21 := F_v21.binds (ps := ["box", "many", "rows"]) fun _ _ _ _ _ _ us hl => match us, hl with | [_, _, _], _ => rfl
  have F_v22 := fun_mk (st := s__law_against) l_v22 c_v22 k_v22
  have B_v22 := F_v22.binds (ps := ["box", "many", "rows"]) fun _ _ _ _ _ _ us hl => match us, hl with | [_, _, _], _ => rfl
  have F_v23 := fun_mk (st := s__law_wrong) l_v23 c_v23 k_v23
  have B_v23 := F_v23.binds (ps := ["box", "many"]) fun _ _ _ _ _ _ us hl => match us, hl with | [_, _], _ => rfl
  have F_v24 := fun_mk (st := s__law_lowest) l_v24 c_v24 k_v24
  have B_v24 := F_v24.binds (ps := ["top", "below"]) fun _ _ _ _ _ _ us hl => match us, hl with | [_, _], _ => rfl
  have F_v25 := fun_mk (st := s__law_solves) l_v25 c_v25 k_v25
  have B_v25 := F_v25.binds (ps := ["rows", "many", "point"]) fun _ _ _ _ _ _ us hl => match us, hl with | [_, _, _], _ => rfl
  have F_v26 := fun_mk (st := s__law_clashes) l_v26 c_v26 k_v26
  have B_v26 := F_v26.binds (ps := ["rows", "many", "shares"]) fun _ _ _ _ _ _ us hl => match us, hl with | [_, _, _], _ => rfl
  have F_v27 := fun_mk (st := s__law_answered) l_v27 c_v27 k_v27
  have B_v27 := F_v27.binds (ps := ["rows", "many", "answer"]) fun _ _ _ _ _ _ us hl => match us, hl with | [_, _, _], _ => rfl
  have F_v28 := fun_mk (st := s__law_changed) l_v28 c_v28 k_v28
  have B_v28 := F_v28.binds (ps := ["box", "shares"]) fun _ _ _ _ _ _ us hl => match us, hl with | [_, _], _ => rfl
  have F_v29 := fun_mk (st := s__law_judged) l_v29 c_v29 k_v29
  have B_v29 := F_v29.binds (ps := ["rows", "many", "shares"]) fun _ _ _ _ _ _ us hl => match us, hl with | [_, _, _], _ => rfl
  have F_v30 := fun_mk (st := s__law_refused) l_v30 c_v30 k_v30
  have B_v30 := F_v30.binds (ps := ["box", "many", "rows"]) fun _ _ _ _ _ _ us hl => match us, hl with | [_, _, _], _ => rfl
  have F_v31 := fun_mk (st := s_law) l_v31 c_v31 k_v31
  have xo : OexC K C := ⟨⟨_, _, _, _, _, _, _, _, _, _, _, _, _, _, _, xL, xR⟩, sa, eC, tC, kC⟩
  have xc : ExcC K C := ⟨ga, gg, eC, hC, gc, sn, tk, mO⟩
  have xf : XfC K C := ⟨ga, gg, eC, hC⟩
  have sk : SupK l.prog K mg C f1 cc cda "self" (cellF "__init__" "BadRows.__init__" (defArgs s_init) (defBody s_init) (defScope s_init) cc cda) _ :=
    ⟨⟨_, _, _, _, _, _, _, _, _, rfl, l1⟩, c1, ⟨_, _, _, _, _, _, l2, v2, pf⟩, ⟨_, _, _, l3⟩, (by obtain ⟨cd, hc, _⟩ := PySem.W.any_some hC; exact ⟨cd, hc⟩), mC, so, sup_in xL xM bM iM, eV, xo, PySem.W.mg_none_of X G bsup, pt, ⟨_, rfl, rfl⟩, (show (defScope s_init).names.lookup ("super" : Str) = some .globalImplicit by decide +kernel), (show (defScope s_init).names.lookup ("__class__" : Str) = some .free by decide +kernel)⟩
  have gC := PySem.W.mg_of X G aC
  have gM := PySem.W.mg_of X G aM
  refine ⟨PySem.W.fnOf "law" "law" (defArgs s_law) (defBody s_law) (defScope s_law) .none kV_v31 dc_v31 pm_v31 an_v31 cd_v31 ct_v31, fun s v => .of_eq rfl, fun base _ _ hs => ?_⟩
  have bI : Binds K _ ["self", "row"] [] := .all (fd := PySem.W.fnX "__init__" "BadRows.__init__" (defArgs s_init) (defBody s_init) (defScope s_init) (cl1 cc) .none kV1 dc1 pm1 an1 (.ref cda) ct1) fun us hl => match us, hl with | [_, _], _ => rfl
  have bR : BR l.prog w K mg base C := ⟨f1, _, xo, iC, t1, ok_init sk gr, bI, gC⟩
  have C__violated := Cl.mk (P := l.prog) (w := w) (mg := mg) (base := base) ⟨f_v6, _, ok__violated F_v6 B, PySem.W.mg_of X G a_v6, k_v6, B_v6⟩
  have C__entering := Cl.mk (P := l.prog) (w := w) (mg := mg) (base := base) ⟨f_v7, _, ok__entering F_v7 B, PySem.W.mg_of X G a_v7, k_v7, B_v7⟩
  have C__exchanged := Cl.mk (P := l.prog) (w := w) (mg := mg) (base := base) ⟨f_v8, _, ok__exchanged F_v8 B, PySem.W.mg_of X G a_v8, k_v8, B_v8⟩
  have C__point := Cl.mk (P := l.prog) (w := w) (mg := mg) (base := base) ⟨f_v9, _, ok__point F_v9 B, PySem.W.mg_of X G a_v9, k_v9, B_v9⟩
  have C__multipliers := Cl.mk (P := l.prog) (w := w) (mg := mg) (base := base) ⟨f_v10, _, ok__multipliers F_v10 B, PySem.W.mg_of X G a_v10, k_v10, B_v10⟩
  have C_solved := Cl.mk (P := l.prog) (w := w) (mg := mg) (base := base) ⟨f_v11, _, ok_solved F_v11 B C__violated C__entering C__exchanged C__point C__multipliers, PySem.W.mg_of X G a_v11, k_v11, B_v11⟩
  have C_is_whole := Cl.mk (P := l.prog) (w := w) (mg := mg) (base := base) ⟨f_v0, _, ok_is_whole F_v0 B, PySem.W.mg_of X G a_v0, k_v0, B_v0⟩
  have C_is_vector := Cl.mk (P := l.prog) (w := w) (mg := mg) (base := base) ⟨f_v1, _, ok_is_vector F_v1 B C_is_whole, PySem.W.mg_of X G a_v1, k_v1, B_v1⟩
  have C__is_row := Cl.mk (P := l.prog) (w := w) (mg := mg) (base := base) ⟨f_v2, _, ok__is_row F_v2 B C_is_whole C_is_vector, PySem.W.mg_of X G a_v2, k_v2, B_v2⟩
  have C_ask_rows := Cl.mk (P := l.prog) (w := w) (mg := mg) (base := base) ⟨f_v3, _, ok_ask_rows F_v3 B bR C__is_row, PySem.W.mg_of X G a_v3, k_v3, B_v3⟩
  have C_dot := Cl.mk (P := l.prog) (w := w) (mg := mg) (base := base) ⟨f_v4, _, ok_dot F_v4 B, PySem.W.mg_of X G a_v4, k_v4, B_v4⟩
  have C_adds_up := Cl.mk (P := l.prog) (w := w) (mg := mg) (base := base) ⟨f_v5, _, ok_adds_up F_v5 B C_is_vector C_dot, PySem.W.mg_of X G a_v5, k_v5, B_v5⟩
  have C_is_clash := Cl.mk (P := l.prog) (w := w) (mg := mg) (base := base) ⟨f_v13, _, ok_is_clash F_v13 B C_ask_rows C_adds_up, PySem.W.mg_of X G a_v13, k_v13, B_v13⟩
  have C_meet := Cl.mk (P := l.prog) (w := w) (mg := mg) (base := base) ⟨f_v12, _, ok_meet F_v12 B C_ask_rows C_solved, PySem.W.mg_of X G a_v12, k_v12, B_v12⟩
  have C__law_mixed := Cl.mk (P := l.prog) (w := w) (mg := mg) (base := base) ⟨f_v14, _, ok__law_mixed F_v14 B, PySem.W.mg_of X G a_v14, k_v14, B_v14⟩
  have C__law_box := Cl.mk (P := l.prog) (w := w) (mg := mg) (base := base) ⟨f_v15, _, ok__law_box F_v15 B, PySem.W.mg_of X G a_v15, k_v15, B_v15⟩
  have C__law_take := Cl.mk (P := l.prog) (w := w) (mg := mg) (base := base) ⟨f_v16, _, ok__law_take F_v16 B C__law_mixed, PySem.W.mg_of X G a_v16, k_v16, B_v16⟩
  have C__law_is_integer := Cl.mk (P := l.prog) (w := w) (mg := mg) (base := base) ⟨f_v17, _, ok__law_is_integer F_v17 B, PySem.W.mg_of X G a_v17, k_v17, B_v17⟩
  have C__law_integers := Cl.mk (P := l.prog) (w := w) (mg := mg) (base := base) ⟨f_v18, _, ok__law_integers F_v18 B C__law_is_integer, PySem.W.mg_of X G a_v18, k_v18, B_v18⟩
  have C__law_product := Cl.mk (P := l.prog) (w := w) (mg := mg) (base := base) ⟨f_v19, _, ok__law_product F_v19 B, PySem.W.mg_of X G a_v19, k_v19, B_v19⟩
  have C__law_triple := Cl.mk (P := l.prog) (w := w) (mg := mg) (base := base) ⟨f_v20, _, ok__law_triple F_v20 B C__law_take, PySem.W.mg_of X G a_v20, k_v20, B_v20⟩
  have C__law_through := Cl.mk (P := l.prog) (w := w) (mg := mg) (base := base) ⟨f_v21, _, ok__law_through F_v21 B C__law_take C__law_product, PySem.W.mg_of X G a_v21, k_v21, B_v21⟩
  have C__law_against := Cl.mk (P := l.prog) (w := w) (mg := mg) (base := base) ⟨f_v22, _, ok__law_against F_v22 B C__law_take, PySem.W.mg_of X G a_v22, k_v22, B_v22⟩
  have C__law_lowest := Cl.mk (P := l.prog) (w := w) (mg := mg) (base := base) ⟨f_v24, _, ok__law_lowest F_v24 B, PySem.W.mg_of X G a_v24, k_v24, B_v24⟩
  have C__law_solves := Cl.mk (P := l.prog) (w := w) (mg := mg) (base := base) ⟨f_v25, _, ok__law_solves F_v25 B C__law_integers C__law_lowest, PySem.W.mg_of X G a_v25, k_v25, B_v25⟩
  have C__law_clashes := Cl.mk (P := l.prog) (w := w) (mg := mg) (base := base) ⟨f_v26, _, ok__law_clashes F_v26 B C__law_integers, PySem.W.mg_of X G a_v26, k_v26, B_v26⟩
  have C__law_answered := Cl.mk (P := l.prog) (w := w) (mg := mg) (base := base) ⟨f_v27, _, ok__law_answered F_v27 B C__law_solves C__law_clashes, PySem.W.mg_of X G a_v27, k_v27, B_v27⟩
  have C__law_changed := Cl.mk (P := l.prog) (w := w) (mg := mg) (base := base) ⟨f_v28, _, ok__law_changed F_v28 B C__law_take, PySem.W.mg_of X G a_v28, k_v28, B_v28⟩
  have C__law_judged := Cl.mk (P := l.prog) (w := w) (mg := mg) (base := base) ⟨f_v29, _, ok__law_judged F_v29 B C_is_clash C__law_clashes, PySem.W.mg_of X G a_v29, k_v29, B_v29⟩
  have C__law_wrong := Cl.mk (P := l.prog) (w := w) (mg := mg) (base := base) ⟨f_v23, _, ok__law_wrong F_v23 B C__law_take C__law_triple, PySem.W.mg_of X G a_v23, k_v23, B_v23⟩
  have bX : BX l.prog w K mg base C M := ⟨gC, gM, xc, xf, gr, PySem.W.exm_ref eC hC tC eS, kit_ref xM tM eM, ⟨f_v17, _, okP__law_is_integer F_v17 B, PySem.W.mg_of X G a_v17, k_v17, B_v17⟩⟩
  have C__law_refused := Cl.mk (P := l.prog) (w := w) (mg := mg) (base := base) ⟨f_v30, _, ok__law_refused F_v30 B bX C__law_take C__law_wrong C_meet C_is_clash, PySem.W.mg_of X G a_v30, k_v30, B_v30⟩
  exact ok_law F_v31 B C__law_box C__law_take C__law_triple C__law_through C__law_against C_meet C__law_answered C__law_changed C__law_judged C__law_refused
end Sx
open PySem PySem.W PyProof.Rows
set_option maxRecDepth 100000 in
set_option maxHeartbeats 0 in
theorem PySem.Challenge.cw_mixproof_k22_meet_points_or_clashes_holds : PySem.Challenge.rw_mixproof_k22_meet_points_or_clashes.Holds := by
  w_on; o_law; k_head; (case hw => w_witness2)
  k_fill
  refine Y.walk_ofS (l := PySem.Challenge.rw_mixproof_k22_meet_points_or_clashes) (n := 63) (k := 51) (x := "script") (CX := fun _ => L2.CX0) (sp := fun w => Sx.sp_law) rfl (by decide) rfl ⟨rfl, by decide, by decide⟩ (by decide +kernel) (fun w h Y => PySem.W.kIn_of Y) ?F (fun _ _ a ns hl _ hS => ⟨a, ns, rfl, hS, fun _ => rfl⟩) fun _ _ _ _ _ z => z
  case F =>
    intro w mg fa h KX G hmg
    refine' Sx.all_mk KX G hmg rfl ?a_v0 ?l_v0 ?c_v0 ?k_v0 ?a_v1 ?l_v1 ?c_v1 ?k_v1 ?a_v2 ?l_v2 ?c_v2 ?k_v2 ?a_v3 ?l_v3 ?c_v3 ?k_v3 ?a_v4 ?l_v4 ?c_v4 ?k_v4 ?a_v5 ?l_v5 ?c_v5 ?k_v5 ?a_v6 ?l_v6 ?c_v6 ?k_v6 ?a_v7 ?l_v7 ?c_v7 ?k_v7 ?a_v8 ?l_v8 ?c_v8 ?k_v8 ?a_v9 ?l_v9 ?c_v9 ?k_v9 ?a_v10 ?l_v10 ?c_v10 ?k_v10 ?a_v11 ?l_v11 ?c_v11 ?k_v11 ?a_v12 ?l_v12 ?c_v12 ?k_v12 ?a_v13 ?l_v13 ?c_v13 ?k_v13 ?a_v14 ?l_v14 ?c_v14 ?k_v14 ?a_v15 ?l_v15 ?c_v15 ?k_v15 ?a_v16 ?l_v16 ?c_v16 ?k_v16 ?a_v17 ?l_v17 ?c_v17 ?k_v17 ?a_v18 ?l_v18 ?c_v18 ?k_v18 ?a_v19 ?l_v19 ?c_v19 ?k_v19 ?a_v20 ?l_v20 ?c_v20 ?k_v20 ?a_v21 ?l_v21 ?c_v21 ?k_v21 ?a_v22 ?l_v22 ?c_v22 ?k_v22 ?a_v23 ?l_v23 ?c_v23 ?k_v23 ?a_v24 ?l_v24 ?c_v24 ?k_v24 ?a_v25 ?l_v25 ?c_v25 ?k_v25 ?a_v26 ?l_v26 ?c_v26 ?k_v26 ?a_v27 ?l_v27 ?c_v27 ?k_v27 ?a_v28 ?l_v28 ?c_v28 ?k_v28 ?a_v29 ?l_v29 ?c_v29 ?k_v29 ?a_v30 ?l_v30 ?c_v30 ?k_v30 ?a_v31 ?l_v31 ?c_v31 ?k_v31 ?b_int ?b_len ?b_range ?b_isinstance ?b_abs ?b_zip ?b_sum ?b_all ?b_tuple ?b_list ?b_bool ?b_max ?b_gcd ?bsup ?aC ?aM ?xL ?xR ?sa ?ga ?gg ?gc ?gr ?sn ?tk ?eC ?eV ?eS ?tC ?hC ?kC ?mO ?mC ?eM ?tM ?xM ?bM ?iM ?iC ?t1 ?l1 ?c1 ?l2 ?l3 ?v2 ?pf ?pt ?so
    (case a_v0 => k_is)
    (case l_v0 => k_is)
    (case c_v0 => k_is)
    (case k_v0 => k_is)
    (case a_v1 => k_is)
    (case l_v1 => k_is)
    (case c_v1 => k_is)
    (case k_v1 => k_is)
    (case a_v2 => k_is)
    (case l_v2 => k_is)
    (case c_v2 => k_is)
    (case k_v2 => k_is)
    (case a_v3 => k_is)
    (case l_v3 => k_is)
    (case c_v3 => k_is)
    (case k_v3 => k_is)
    (case a_v4 => k_is)
    (case l_v4 => k_is)
    (case c_v4 => k_is)
    (case k_v4 => k_is)
    (case a_v5 => k_is)
    (case l_v5 => k_is)
    (case c_v5 => k_is)
    (case k_v5 => k_is)
    (case a_v6 => k_is)
    (case l_v6 => k_is)
    (case c_v6 => k_is)
    (case k_v6 => k_is)
    (case a_v7 => k_is)
    (case l_v7 => k_is)
    (case c_v7 => k_is)
    (case k_v7 => k_is)
    (case a_v8 => k_is)
    (case l_v8 => k_is)
    (case c_v8 => k_is)
    (case k_v8 => k_is)
    (case a_v9 => k_is)
    (case l_v9 => k_is)
    (case c_v9 => k_is)
    (case k_v9 => k_is)
    (case a_v10 => k_is)
    (case l_v10 => k_is)
    (case c_v10 => k_is)
    (case k_v10 => k_is)
    (case a_v11 => k_is)
    (case l_v11 => k_is)
    (case c_v11 => k_is)
    (case k_v11 => k_is)
    (case a_v12 => k_is)
    (case l_v12 => k_is)
    (case c_v12 => k_is)
    (case k_v12 => k_is)
    (case a_v13 => k_is)
    (case l_v13 => k_is)
    (case c_v13 => k_is)
    (case k_v13 => k_is)
    (case a_v14 => k_is)
    (case l_v14 => k_is)
    (case c_v14 => k_is)
    (case k_v14 => k_is)
    (case a_v15 => k_is)
    (case l_v15 => k_is)
    (case c_v15 => k_is)
    (case k_v15 => k_is)
    (case a_v16 => k_is)
    (case l_v16 => k_is)
    (case c_v16 => k_is)
    (case k_v16 => k_is)
    (case a_v17 => k_is)
    (case l_v17 => k_is)
    (case c_v17 => k_is)
    (case k_v17 => k_is)
    (case a_v18 => k_is)
    (case l_v18 => k_is)
    (case c_v18 => k_is)
    (case k_v18 => k_is)
    (case a_v19 => k_is)
    (case l_v19 => k_is)
    (case c_v19 => k_is)
    (case k_v19 => k_is)
    (case a_v20 => k_is)
    (case l_v20 => k_is)
    (case c_v20 => k_is)
    (case k_v20 => k_is)
    (case a_v21 => k_is)
    (case l_v21 => k_is)
    (case c_v21 => k_is)
    (case k_v21 => k_is)
    (case a_v22 => k_is)
    (case l_v22 => k_is)
    (case c_v22 => k_is)
    (case k_v22 => k_is)
    (case a_v23 => k_is)
    (case l_v23 => k_is)
    (case c_v23 => k_is)
    (case k_v23 => k_is)
    (case a_v24 => k_is)
    (case l_v24 => k_is)
    (case c_v24 => k_is)
    (case k_v24 => k_is)
    (case a_v25 => k_is)
    (case l_v25 => k_is)
    (case c_v25 => k_is)
    (case k_v25 => k_is)
    (case a_v26 => k_is)
    (case l_v26 => k_is)
    (case c_v26 => k_is)
    (case k_v26 => k_is)
    (case a_v27 => k_is)
    (case l_v27 => k_is)
    (case c_v27 => k_is)
    (case k_v27 => k_is)
    (case a_v28 => k_is)
    (case l_v28 => k_is)
    (case c_v28 => k_is)
    (case k_v28 => k_is)
    (case a_v29 => k_is)
    (case l_v29 => k_is)
    (case c_v29 => k_is)
    (case k_v29 => k_is)
    (case a_v30 => k_is)
    (case l_v30 => k_is)
    (case c_v30 => k_is)
    (case k_v30 => k_is)
    (case a_v31 => k_is)
    (case l_v31 => k_is)
    (case c_v31 => k_is)
    (case k_v31 => k_is)
    (case b_int => k_is)
    (case b_len => k_is)
    (case b_range => k_is)
    (case b_isinstance => k_is)
    (case b_abs => k_is)
    (case b_zip => k_is)
    (case b_sum => k_is)
    (case b_all => k_is)
    (case b_tuple => k_is)
    (case b_list => k_is)
    (case b_bool => k_is)
    (case b_max => k_is)
    (case b_gcd => k_is)
    (case bsup => k_is)
    (case aC => k_is)
    (case aM => k_is)
    (case xL => k_is)
    (case xR => first | rfl | decide +kernel | k_is)
    (case sa => k_is)
    (case ga => k_is)
    (case gg => k_is)
    (case gc => k_is)
    (case gr => k_is)
    (case sn => k_is)
    (case tk => k_is)
    (case eC => k_is)
    (case eV => k_is)
    (case eS => first | rfl | k_is)
    (case tC => k_is)
    (case hC => k_is)
    (case kC => k_is)
    (case mO => k_is)
    (case mC => k_is)
    (case eM => k_is)
    (case tM => k_is)
    (case xM => k_is)
    (case bM => rfl)
    (case iM => k_is)
    (case iC => k_is)
    (case t1 => k_is)
    (case l1 => k_is)
    (case c1 => k_is)
    (case l2 => k_is)
    (case l3 => k_is)
    (case v2 => first | rfl | decide +kernel | k_is)
    (case pf => first | rfl | decide +kernel | k_is)
    (case pt => first | rfl | decide +kernel | k_is)
    (case so => k_is)
